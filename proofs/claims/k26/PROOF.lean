import PyProof.Rows.All
import Wide.All
import OpenK.AllK
import Wide.FinOn
import HandS.ForMost
import HandS.Wide
import HandS.Deep
import HandS.IsInst
import HandS.Exc
import HandS.ExcOwn
import HandS.CallSlots
import HandS.HeadHook1
import HandS.Flow
import HandS.SetFor
import HandS.Strs
import HandS.Defaults
import HandS.HeadHook2
import HandS.HeadEnd
import KE.KStateDown
import HandS.WordsExc
import HandS.Head0
import HandS.Head1
import HandS.Head2
import HandS.EndBits
import PySem.Challenge.RW_strangemill_k26_whole_marks
set_option Elab.async false
set_option linter.all false
set_option maxRecDepth 100000
set_option maxHeartbeats 1000000
/-! M1: plain data, the small language with slots, and what it means. -/
namespace Mi
open PySem L2

/-- a value that is never changed -/
inductive D where
  | non | bl (b : Bool) | int (i : Int) | str (x : Str)
  | tup (ds : List D) | lst (ds : List D) | dct (kvs : List (Key × D)) | ins (C : Str) (fs : List (Str × D)) | fn (x : Str) | ty (n : String)
/-- a value: plain data, or a place of the store -/
inductive Cell where
  | d (x : D) | r (n : Nat)
/-- what stands at a place of the store -/
inductive Ob where
  | lst (cs : List Cell) | dct (kvs : List (Key × Cell)) | ins (C : Str) (fs : List (Str × Cell)) | frz (x : D)
abbrev Stg := List Ob
abbrev Rho := List (Option Cell)
/-- an exception: its class, its fields -/
structure Exn where
  cls : Str
  fs : List (Str × D)
inductive Res (α : Type) where
  | ok (a : α) (S : Stg) | exc (x : Exn) (S : Stg) | bad
def Res.bind {α β : Type} : Res α → (α → Stg → Res β) → Res β
  | .ok a S, f => f a S
  | .exc x S, _ => .exc x S
  | .bad, _ => .bad
@[simp] theorem Res.bind_ok {α β : Type} (a : α) (S : Stg) (f : α → Stg → Res β) : (Res.ok a S).bind f = f a S := rfl
@[simp] theorem Res.bind_exc {α β : Type} (x : Exn) (S : Stg) (f : α → Stg → Res β) : (Res.exc x S).bind f = .exc x S := rfl
@[simp] theorem Res.bind_bad {α β : Type} (f : α → Stg → Res β) : (Res.bad : Res α).bind f = .bad := rfl
def Res.of {α : Type} (o : Option α) (S : Stg) : Res α := match o with
  | some a => .ok a S
  | none => .bad
@[simp] theorem Res.of_some {α : Type} (a : α) (S : Stg) : Res.of (some a) S = .ok a S := rfl
@[simp] theorem Res.of_none {α : Type} (S : Stg) : Res.of (none : Option α) S = .bad := rfl

/-! ### looks at values -/
def allD : List Cell → Option (List D)
  | [] => some []
  | .d x :: r => (allD r).map (x :: ·)
  | .r _ :: _ => none
/-- a list's items -/
def viewO : Option Ob → Option (List Cell)
  | some (.lst cs) => some cs
  | some (.frz (.lst ds)) => some (ds.map .d)
  | _ => none
def viewL (S : Stg) : Cell → Option (List Cell)
  | .d (.lst ds) => some (ds.map .d)
  | .r n => viewO S[n]?
  | _ => none
theorem viewL_r (S : Stg) (n : Nat) : viewL S (.r n) = viewO S[n]? := rfl
theorem viewL_d (S S' : Stg) (x : D) : viewL S (.d x) = viewL S' (.d x) := by cases x <;> rfl
/-- a tuple's items -/
def viewT : Cell → Option (List D)
  | .d (.tup ds) => some ds
  | _ => none
/-- a list's or a tuple's items -/
def viewS (S : Stg) (c : Cell) : Option (List Cell) := match viewT c with
  | some ds => some (ds.map .d)
  | none => viewL S c
/-- the value as it is now -/
def snap (S : Stg) : Cell → Option D
  | .d x => some x
  | .r n => match S[n]? with
    | some (.lst cs) => (allD cs).map .lst
    | some (.frz x) => some x
    | _ => none
mutual
def toP : D → Option PyData
  | .non => some .none
  | .bl b => some (.bool b)
  | .int i => some (.int i)
  | .str x => some (.str x)
  | .tup ds => (toPs ds).map .tuple
  | .lst ds => (toPs ds).map .list
  | .dct _ | .ins _ _ | .fn _ | .ty _ => none
def toPs : List D → Option (List PyData)
  | [] => some []
  | x :: r => match toP x, toPs r with
    | some p, some ps => some (p :: ps)
    | _, _ => none
end
/-- == of plain data -/
def eqD (a b : D) : Option Bool := match a, b with
  | .int i, .int j => some (decide (i = j))
  | .str x, .str y => some (decide (x = y))
  | .bl x, .bl y => some (decide (x = y))
  | a, b => match toP a, toP b with
    | some p, some q => if SeqAt.shaped p && SeqAt.shaped q then some (PyData.eqv p q) else none
    | _, _ => none
/-- truth -/
def truth (S : Stg) (c : Cell) : Option Bool := match c with
  | .d (.bl b) => some b
  | .d .non => some false
  | .d (.int i) => some (i != 0)
  | .d (.str x) => if x.length ≤ sizeLine then some (x.length != 0) else none
  | c => (viewS S c).map fun cs => !cs.isEmpty

/-! ### the language -/
inductive Ty where
  | non | bl | int | str | tup | lst | dct
  deriving DecidableEq
def Ty.name : Ty → String
  | .non => "NoneType" | .bl => "bool" | .int => "int" | .str => "str" | .tup => "tuple" | .lst => "list" | .dct => "dict"
def Ty.le : Ty → Ty → Bool
  | .bl, .int => true
  | a, b => decide (a = b)
inductive Prim where
  | bin (op : Operator) | cmp (op : CmpOp) | neg | not
  | item | tup | lst
  | len | int_ | tuple_ | list_ | all_ | any_ | isinst (t : Ty) | sortedSet
  | popAt
/-- a target -/
inductive Tg where
  | slot (i : Nat) | tup (ts : List Tg)
/-- what a loop walks -/
inductive Itk where
  | plain | range1 | range2
inductive CE where
  | var (i : Nat) | cst (x : D) | prim (p : Prim) (as : List CE)
  | and (a b : CE) | or (a b : CE) | ite (t a b : CE)
  | call (f : Nat) (as : List CE)
  | meth (t : Ty) (p : Prim) (o : CE) (as : List CE)
  | comp (tg : Tg) (k : Itk) (as : List CE) (ifs : List CE) (e : CE)
/-- what is laid anew in the store -/
inductive AE where
  | e (a : CE) | own (a : CE) | lst (as : List AE)
inductive CS where
  | expr (e : CE) | asg (tg : Tg) (e : CE) | own (i : Nat) (e : AE)
  | setIx (v a i : CE)
  | ite (t : CE) (a b : List CS) | forS (tg : Tg) (k : Itk) (as : List CE) (body : List CS)
  | ret (e : CE) | pass | brk | cnt
inductive Out where
  | next (ρ : Rho) | ret (c : Cell) | brk (ρ : Rho) | cnt (ρ : Rho) | thr (e : Exn) (ρ : Rho)
/-- an expression's value for a statement -/
def Res.st {α : Type} (r : Res α) (ρ : Rho) (k : α → Stg → Res Out) : Res Out := match r with
  | .ok a S => k a S
  | .exc e S => .ok (.thr e ρ) S
  | .bad => .bad
@[simp] theorem Res.st_ok {α : Type} (a : α) (S : Stg) (ρ : Rho) (k : α → Stg → Res Out) : (Res.ok a S).st ρ k = k a S := rfl
@[simp] theorem Res.st_exc {α : Type} (x : Exn) (S : Stg) (ρ : Rho) (k : α → Stg → Res Out) : (Res.exc x S : Res α).st ρ k = .ok (.thr x ρ) S := rfl
@[simp] theorem Res.st_bad {α : Type} (ρ : Rho) (k : α → Stg → Res Out) : (Res.bad : Res α).st ρ k = .bad := rfl
/-- a raw value: a value, a new list -/
inductive PV where
  | v (c : Cell) | l (cs : List Cell)
def freeze (S : Stg) : PV → Res Cell
  | .v c => .ok c S
  | .l cs => match allD cs with
    | some ds => .ok (.d (.lst ds)) S
    | none => .bad
def lay (S : Stg) : PV → Res Cell
  | .v c => .ok c S
  | .l cs => .ok (.r S.length) (S ++ [.lst cs])
def asD (S : Stg) : Cell → Res D
  | .d x => .ok x S
  | .r _ => .bad

/-- what may not be written: below lo no place of the store, below ro nothing -/
structure Lim where
  lo : Nat
  ro : Nat

/-! ### the operations -/
def ovB (o : Option Bool) : Option PV := o.map fun b => .v (.d (.bl b))
def okI (i : Int) : Option PV := some (.v (.d (.int i)))
def okB (b : Bool) : Option PV := some (.v (.d (.bl b)))
def smallI (i : Int) : Bool := decide (-(2 ^ 64) < i ∧ i < 2 ^ 64)
def binSem : Operator → Cell → Cell → Option PV
  | .Add, .d (.int i), .d (.int j) => okI (i + j)
  | .Sub, .d (.int i), .d (.int j) => okI (i - j)
  | .Mult, .d (.int i), .d (.int j) => if smallI i || smallI j then okI (i * j) else none
  | .Mod, .d (.int i), .d (.int j) => if 0 < j then okI (i % j) else none
  | .FloorDiv, .d (.int i), .d (.int j) => if 0 < j && decide (j < 2 ^ 64) then okI (i / j) else none
  | .Pow, .d (.int i), .d (.int j) => if 0 ≤ j && decide (j ≤ 1000000) && decide (i.natAbs < 2 ^ 64) then okI (i ^ j.toNat) else none
  | .Add, .d (.str x), .d (.str y) => if x.length + y.length ≤ sizeLine then some (.v (.d (.str (x ++ y)))) else none
  | _, _, _ => none
/-- a flat value -/
def flatC : Cell → Option V
  | .d .non => some .non
  | .d (.bl b) => some (.bl b)
  | .d (.int i) => some (.int i)
  | .d (.str x) => some (.str x)
  | _ => none
def flats : List Cell → Option (List V)
  | [] => some []
  | c :: r => match flatC c, flats r with
    | some v, some vs => some (v :: vs)
    | _, _ => none
def inDeep (x : D) (ds : List D) : Option Bool := match toP x, toPs ds with
  | some p, some ps => if SeqAt.shaped p && SeqAt.shaped (.list ps) then some (ps.any fun z => PyData.eqv z p) else none
  | _, _ => none
def inSem (S : Stg) (a b : Cell) : Option Bool := match a, b with
  | .d (.str z), .d (.str y) => match z.cps.toList with
    | [c] => some (decide (c ∈ y.cps.toList))
    | _ => none
  | a, b => match viewS S b with
    | none => none
    | some cs => match flatC a, flats cs with
      | some v, some vs => some (inV v vs)
      | _, _ => match a, viewL S b with
        | .d x, some cs => (allD cs).bind fun ds => inDeep x ds
        | _, _ => none
def eqSem (S : Stg) (a b : Cell) : Option Bool := match snap S a, snap S b with
  | some x, some y => eqD x y
  | _, _ => none
def ordSem (op : CmpOp) (i j : Int) : Option Bool := match op with
  | .Lt => some (decide (i < j))
  | .LtE => some (decide (i ≤ j))
  | .Gt => some (decide (j < i))
  | .GtE => some (decide (j ≤ i))
  | _ => none
def cmpSem (S : Stg) (op : CmpOp) (a b : Cell) : Option Bool := match op with
  | .Eq => eqSem S a b
  | .NotEq => (eqSem S a b).map not
  | .In => inSem S a b
  | .NotIn => (inSem S a b).map not
  | .Is | .IsNot => none
  | op => match a, b with
    | .d (.int i), .d (.int j) => ordSem op i j
    | _, _ => none
def itemSem (S : Stg) (a i : Cell) : Option PV := match a, i with
  | .d (.str x), .d (.int k) => if x.length ≤ sizeLine then (match atI x.cps.toList k with
    | some c => some (.v (.d (.str ⟨#[c]⟩)))
    | none => none) else none
  | a, .d (.int k) => match viewS S a with
    | some cs => (atI cs k).map .v
    | none => none
  | _, _ => none
def lenSem (S : Stg) : Cell → Option PV
  | .d (.str x) => if x.length ≤ sizeLine then okI x.length else none
  | c => match viewS S c with
    | some cs => okI cs.length
    | none => none
/-- a built-in class -/
def tyC (S : Stg) : Cell → Option Ty
  | .d .non => some .non
  | .d (.bl _) => some .bl
  | .d (.int _) => some .int
  | .d (.str _) => some .str
  | .d (.tup _) => some .tup
  | .d (.lst _) => some .lst
  | .d (.dct _) => some .dct
  | .r n => match S[n]? with
    | some (.lst _) => some .lst
    | some (.frz (.lst _)) => some .lst
    | _ => none
  | _ => none
def boolsOf : List Cell → Option (List Bool)
  | [] => some []
  | .d (.bl b) :: r => (boolsOf r).map (b :: ·)
  | _ :: _ => none
def strsOf : List Cell → Option (List Str)
  | [] => some []
  | .d (.str b) :: r => (strsOf r).map (b :: ·)
  | _ :: _ => none
def strLe (a b : Str) : Bool := decide (¬ b.cps.toList < a.cps.toList)
/-- sorted(set(xs)) of texts -/
def sortSet (xs : List Str) : List Str := (xs.eraseDups).mergeSort strLe
def intSem : Cell → Option PV
  | .d (.bl b) => okI (if b then 1 else 0)
  | .d (.int i) => okI i
  | _ => none
def negSem : Cell → Option PV
  | .d (.int i) => okI (-i)
  | _ => none
def tupSem (cs : List Cell) : Option PV := if cs.length ≤ sizeLine then (allD cs).map fun ds => .v (.d (.tup ds)) else none
def tupleSem (S : Stg) (a : Cell) : Option PV := match viewT a with
  | some ds => some (.v (.d (.tup ds)))
  | none => (viewL S a).bind fun cs => (allD cs).map fun ds => .v (.d (.tup ds))
def boolsSem (f : List Bool → Bool) (S : Stg) (a : Cell) : Option PV := (viewL S a).bind fun cs => (boolsOf cs).map fun bs => .v (.d (.bl (f bs)))
def isiSem (S : Stg) (t : Ty) (a b : Cell) : Option PV := match b with
  | .d (.ty n) => if n = t.name then (tyC S a).map fun z => .v (.d (.bl (z.le t))) else none
  | _ => none
def sortedSetSem (S : Stg) (a : Cell) : Option PV := (viewL S a).bind fun cs => (strsOf cs).bind fun xs => if xs.length < 64 then some (.l ((sortSet xs).map fun x => .d (.str x))) else none
def popSem (lo : Lim) (S : Stg) (a i : Cell) : Option (PV × Stg) := match a, i with
  | .r n, .d (.int k) => match S[n]? with
    | some (.lst cs) => if lo.ro ≤ n then (match ixN cs.length k with
      | some j => (match cs[j]? with
        | some c => some (.v c, S.set n (.lst (cs.eraseIdx j)))
        | none => none)
      | none => none) else none
    | _ => none
  | _, _ => none
def primSem (lo : Lim) : Prim → List Cell → Stg → Option (PV × Stg)
  | .bin op, [a, b], S => (binSem op a b).map fun p => (p, S)
  | .cmp op, [a, b], S => (ovB (cmpSem S op a b)).map fun p => (p, S)
  | .neg, [a], S => (negSem a).map fun p => (p, S)
  | .not, [a], S => (ovB ((truth S a).map not)).map fun p => (p, S)
  | .item, [a, i], S => (itemSem S a i).map fun p => (p, S)
  | .tup, cs, S => (tupSem cs).map fun p => (p, S)
  | .lst, cs, S => (if cs.length ≤ sizeLine then some (PV.l cs) else none).map fun p => (p, S)
  | .len, [a], S => (lenSem S a).map fun p => (p, S)
  | .int_, [a], S => (intSem a).map fun p => (p, S)
  | .tuple_, [a], S => (tupleSem S a).map fun p => (p, S)
  | .list_, [a], S => ((viewS S a).map PV.l).map fun p => (p, S)
  | .all_, [a], S => (boolsSem (fun bs => bs.all id) S a).map fun p => (p, S)
  | .any_, [a], S => (boolsSem (fun bs => bs.any id) S a).map fun p => (p, S)
  | .isinst t, [a, b], S => (isiSem S t a b).map fun p => (p, S)
  | .sortedSet, [a], S => (sortedSetSem S a).map fun p => (p, S)
  | .popAt, [a, i], S => popSem lo S a i
  | _, _, _ => none
def primR (lo : Lim) (p : Prim) (cs : List Cell) (S : Stg) : Res PV := match primSem lo p cs S with
  | some (v, S') => .ok v S'
  | none => .bad
/-- what a loop comes to -/
def rng1 : Cell → Option (List Cell)
  | .d (.int n) => if decide (-(2 ^ 62) ≤ n) && decide (n < 2 ^ 62) then some ((List.range n.toNat).map fun (i : Nat) => .d (.int i)) else none
  | _ => none
def rng2 : Cell → Cell → Option (List Cell)
  | .d (.int a), .d (.int b) => if decide (-(2 ^ 62) ≤ a) && decide (a < 2 ^ 62) && decide (-(2 ^ 62) ≤ b) && decide (b < 2 ^ 62) then some ((List.range (b - a).toNat).map fun (i : Nat) => .d (.int (a + i))) else none
  | _, _ => none
def items (S : Stg) : Itk → List Cell → Option (List Cell)
  | .plain, [a] => viewS S a
  | .range1, [a] => rng1 a
  | .range2, [a, b] => rng2 a b
  | _, _ => none
mutual
def setTg : Tg → Cell → Rho → Option Rho
  | .slot i, c, ρ => if i < ρ.length then some (ρ.set i (some c)) else none
  | .tup ts, c, ρ => match viewT c with
    | some ds => setTgs ts (ds.map .d) ρ
    | none => none
def setTgs : List Tg → List Cell → Rho → Option Rho
  | [], [], ρ => some ρ
  | t :: ts, c :: cs, ρ => (setTg t c ρ).bind fun ρ1 => setTgs ts cs ρ1
  | _, _, _ => none
end

mutual
def slotsOf : Tg → List Nat
  | .slot i => [i]
  | .tup ts => slotsOfs ts
def slotsOfs : List Tg → List Nat
  | [] => []
  | t :: ts => slotsOf t ++ slotsOfs ts
end
/-- the slots of a comprehension's own names forgotten -/
def wipeR (ρ : Rho) : List Nat → Rho
  | [] => ρ
  | v :: vs => (wipeR ρ vs).set v none

/-! ### expressions -/
/-- the defs: by number, what the frame may not write below, arguments -/
abbrev FT := Nat → Lim → List Cell → Stg → Res Cell
def anyR : List Cell → Bool
  | [] => false
  | .r _ :: _ => true
  | .d _ :: r => anyR r
/-- where a list of the store is walked nothing of the store may be written -/
def limC (lo : Lim) (cs : List Cell) (n : Nat) : Lim := if anyR cs then ⟨lo.lo, max lo.ro n⟩ else lo
def Res.noX {α : Type} : Res α → Res α
  | .ok a S => .ok a S
  | _ => .bad
/-- a list of the store that a for walks is frozen -/
def frzIt : List Cell → Lim → Stg → Option Stg
  | [], _, S => some S
  | .d _ :: r, lo, S => frzIt r lo S
  | .r n :: r, lo, S => match S[n]? with
    | some (.lst cs) => if lo.ro ≤ n then (allD cs).bind fun ds => frzIt r lo (S.set n (.frz (.lst ds))) else none
    | some (.frz _) => frzIt r lo S
    | _ => none
/-- the turns of a comprehension: tests, then the element -/
def turnsC (tg : Tg) (test : Rho → Stg → Res Bool) (elt : Rho → Stg → Res Cell) (ρ : Rho) : List Cell → List Cell → Stg → Res (List Cell)
  | [], acc, S => .ok acc S
  | c :: cs, acc, S => match setTg tg c ρ with
    | none => .bad
    | some ρ1 => (test ρ1 S).bind fun b S1 => match b with
      | false => turnsC tg test elt ρ cs acc S1
      | true => (elt ρ1 S1).bind fun x S2 => turnsC tg test elt ρ cs (acc ++ [x]) S2
mutual
def evV (Φ : FT) (lo : Lim) : CE → Rho → Stg → Res PV
  | .var i, ρ, S => match ρ[i]? with
    | some (some c) => .ok (.v c) S
    | _ => .bad
  | .cst x, _, S => .ok (.v (.d x)) S
  | .prim p as, ρ, S => (evs Φ lo as ρ S).bind fun cs S1 => primR lo p cs S1
  | .and a b, ρ, S => ((evV Φ lo a ρ S).bind fun p S1 => freeze S1 p).bind fun c S1 => match truth S1 c with
    | some true => evV Φ lo b ρ S1
    | some false => .ok (.v c) S1
    | none => .bad
  | .or a b, ρ, S => ((evV Φ lo a ρ S).bind fun p S1 => freeze S1 p).bind fun c S1 => match truth S1 c with
    | some true => .ok (.v c) S1
    | some false => evV Φ lo b ρ S1
    | none => .bad
  | .ite t a b, ρ, S => ((evV Φ lo t ρ S).bind fun p S1 => freeze S1 p).bind fun c S1 => match truth S1 c with
    | some true => evV Φ lo a ρ S1
    | some false => evV Φ lo b ρ S1
    | none => .bad
  | .call f as, ρ, S => (evs Φ lo as ρ S).bind fun cs S1 => (Φ f lo cs S1).bind fun c S2 => .ok (.v c) S2
  | .meth t p o as, ρ, S => ((evV Φ lo o ρ S).bind fun q S1 => freeze S1 q).bind fun c S1 => if tyC S1 c = some t then (evs Φ lo as ρ S1).bind fun cs S2 => primR lo p (c :: cs) S2 else .bad
  | .comp tg k as ifs e, ρ, S => (evs Φ lo as ρ S).bind fun cs S1 => (Res.of (items S1 k cs) S1).bind fun its S1 => if sizeLine < its.length then .bad else (turnsC tg (fun ρ1 S2 => (evT Φ (limC lo cs S1.length) ifs ρ1 S2).noX) (fun ρ1 S2 => ((evV Φ (limC lo cs S1.length) e ρ1 S2).bind fun p S3 => freeze S3 p).noX) (wipeR ρ (slotsOf tg)) its [] S1).bind fun xs S2 => .ok (.l xs) S2
def evs (Φ : FT) (lo : Lim) : List CE → Rho → Stg → Res (List Cell)
  | [], _, S => .ok [] S
  | a :: as, ρ, S => ((evV Φ lo a ρ S).bind fun p S1 => freeze S1 p).bind fun c S1 => (evs Φ lo as ρ S1).bind fun cs S2 => .ok (c :: cs) S2
/-- all tests hold -/
def evT (Φ : FT) (lo : Lim) : List CE → Rho → Stg → Res Bool
  | [], _, S => .ok true S
  | a :: as, ρ, S => ((evV Φ lo a ρ S).bind fun p S1 => freeze S1 p).bind fun c S1 => match truth S1 c with
    | some true => evT Φ lo as ρ S1
    | some false => .ok false S1
    | none => .bad
end
def ev (Φ : FT) (lo : Lim) (e : CE) (ρ : Rho) (S : Stg) : Res Cell := (evV Φ lo e ρ S).bind fun p S1 => freeze S1 p
mutual
def evA (Φ : FT) (lo : Lim) : AE → Rho → Stg → Res Cell
  | .e a, ρ, S => ev Φ lo a ρ S
  | .own a, ρ, S => (evV Φ lo a ρ S).bind fun p S1 => lay S1 p
  | .lst as, ρ, S => (evAs Φ lo as ρ S).bind fun cs S1 => if cs.length ≤ sizeLine then .ok (.r S1.length) (S1 ++ [.lst cs]) else .bad
def evAs (Φ : FT) (lo : Lim) : List AE → Rho → Stg → Res (List Cell)
  | [], _, S => .ok [] S
  | a :: as, ρ, S => (evA Φ lo a ρ S).bind fun c S1 => (evAs Φ lo as ρ S1).bind fun cs S2 => .ok (c :: cs) S2
end

/-! ### statements -/
def plainC (lo : Lim) (n : Nat) : Cell → Bool
  | .d _ => true
  | .r _ => decide (lo.lo ≤ n)
def setItem (lo : Lim) (S : Stg) (a i v : Cell) : Option Stg := match a, i with
  | .r n, .d (.int k) => match S[n]? with
    | some (.lst cs) => if plainC lo n v && decide (lo.ro ≤ n) then (ixN cs.length k).map fun j => S.set n (.lst (cs.set j v)) else none
    | _ => none
  | _, _ => none
/-- what a for comes to -/
def itemsF (lo : Lim) (k : Itk) (cs : List Cell) (S : Stg) : Res (List Cell) := match frzIt cs lo S with
  | some S2 => Res.of (items S2 k cs) S2
  | none => .bad
/-- the turns of a for -/
def turnsS (tg : Tg) (body : Rho → Stg → Res Out) : List Cell → Rho → Stg → Res Out
  | [], ρ, S => .ok (.next ρ) S
  | c :: cs, ρ, S => match setTg tg c ρ with
    | none => .bad
    | some ρ1 => (body ρ1 S).bind fun o S1 => match o with
      | .next ρ2 => turnsS tg body cs ρ2 S1
      | .cnt ρ2 => turnsS tg body cs ρ2 S1
      | .brk ρ2 => .ok (.next ρ2) S1
      | .ret c => .ok (.ret c) S1
      | .thr e ρ2 => .ok (.thr e ρ2) S1
def bTest (S : Stg) (c : Cell) (a b : Res Out) : Res Out := match truth S c with
  | some true => a
  | some false => b
  | none => .bad
def nextIf (o : Option Rho) (S : Stg) : Res Out := match o with
  | some ρ => .ok (.next ρ) S
  | none => .bad
mutual
def ex (Φ : FT) (lo : Lim) : CS → Rho → Stg → Res Out
  | .expr e, ρ, S => (ev Φ lo e ρ S).st ρ fun _ S1 => .ok (.next ρ) S1
  | .asg tg e, ρ, S => (ev Φ lo e ρ S).st ρ fun c S1 => nextIf (setTg tg c ρ) S1
  | .own i e, ρ, S => (evA Φ lo e ρ S).st ρ fun c S1 => nextIf (setTg (.slot i) c ρ) S1
  | .setIx v a i, ρ, S => (ev Φ lo v ρ S).st ρ fun cv S1 => (ev Φ lo a ρ S1).st ρ fun ca S2 => (ev Φ lo i ρ S2).st ρ fun ci S3 => match setItem lo S3 ca ci cv with
    | some S4 => .ok (.next ρ) S4
    | none => .bad
  | .ite t a b, ρ, S => (ev Φ lo t ρ S).st ρ fun c S1 => bTest S1 c (exs Φ lo a ρ S1) (exs Φ lo b ρ S1)
  | .forS tg k as body, ρ, S => (evs Φ lo as ρ S).st ρ fun cs S1 => (itemsF lo k cs S1).bind fun its S2 => turnsS tg (fun ρ1 S3 => exs Φ lo body ρ1 S3) its ρ S2
  | .ret e, ρ, S => (ev Φ lo e ρ S).st ρ fun c S1 => .ok (.ret c) S1
  | .pass, ρ, S => .ok (.next ρ) S
  | .brk, ρ, S => .ok (.brk ρ) S
  | .cnt, ρ, S => .ok (.cnt ρ) S
def exs (Φ : FT) (lo : Lim) : List CS → Rho → Stg → Res Out
  | [], ρ, S => .ok (.next ρ) S
  | s :: ss, ρ, S => (ex Φ lo s ρ S).bind fun o S1 => match o with
    | .next ρ1 => exs Φ lo ss ρ1 S1
    | o => .ok o S1
end

/-! ### defs -/
structure Fd where
  np : Nat
  nn : Nat
  body : List CS
def finish (n : Nat) (S : Stg) (c : Cell) : Res Cell := match c with
  | .d x => .ok (.d x) (S.take n)
  | .r j => if j < n then .ok (.r j) (S.take n) else match snap S (.r j) with
    | some x => .ok (.d x) (S.take n)
    | none => .bad
def start0 (fd : Fd) (cs : List Cell) : Rho := cs.map some ++ List.replicate (fd.nn - cs.length) none
def runF (Φ : FT) (fd : Fd) (ro : Nat) (cs : List Cell) (S : Stg) : Res Cell :=
  if cs.length = fd.np ∧ fd.np ≤ fd.nn then
    match exs Φ ⟨S.length, ro⟩ fd.body (start0 fd cs) S with
    | .ok (.ret c) S' => finish S.length S' c
    | .ok (.next _) S' => .ok (.d .non) (S'.take S.length)
    | .ok (.thr e _) S' => .exc e (S'.take S.length)
    | _ => .bad
  else .bad
def callF (T : List Fd) : Nat → FT
  | 0 => fun _ _ _ _ => .bad
  | k + 1 => fun f lo cs S => match T[f]? with
    | some fd => runF (callF T k) fd lo.ro cs S
    | none => .bad
end Mi
/-! M2: how plain data and the store stand in the abstract heap. -/
namespace Mi
open PySem PySem.Spec PyProof.Rows L2
abbrev Kf := PySem.W.Frag

/-! ### data -/
inductive Nd where
  | one (x : D) (v : V) | all (ds : List D) (vs : List V) | kvs (ds : List (Key × D)) (vs : List (Key × V)) | fls (ds : List (Str × D)) (vs : List (Str × V))
inductive Rp (K : Kf) (F : Hp) : Nd → Prop
  | non : Rp K F (.one .non .non)
  | bl (b : Bool) : Rp K F (.one (.bl b) (.bl b))
  | int (i : Int) : Rp K F (.one (.int i) (.int i))
  | str (x : Str) : Rp K F (.one (.str x) (.str x))
  | ty (n : String) : Rp K F (.one (.ty n) (.ty n))
  | fn (x : Str) : Rp K F (.one (.fn x) (.ref (He.ga K x)))
  | tup {a : Addr} {vs : List V} {ds : List D} : SqT K F a vs → Rp K F (.all ds vs) → Rp K F (.one (.tup ds) (.ref a))
  | lst {a : Addr} {vs : List V} {ds : List D} : SqL K F a vs → Rp K F (.all ds vs) → Rp K F (.one (.lst ds) (.ref a))
  | dct {a : Addr} {vs : List (Key × V)} {ds : List (Key × D)} : Rd F a (.dK vs) → Rp K F (.kvs ds vs) → Rp K F (.one (.dct ds) (.ref a))
  | ins {a dx : Addr} {C : Str} {vs : List (Str × V)} {ds : List (Str × D)} : F a = some (.ins (He.ga K C) dx vs) → Rp K F (.fls ds vs) → Rp K F (.one (.ins C ds) (.ref a))
  | nil : Rp K F (.all [] [])
  | cons {x : D} {v : V} {ds : List D} {vs : List V} : Rp K F (.one x v) → Rp K F (.all ds vs) → Rp K F (.all (x :: ds) (v :: vs))
  | knil : Rp K F (.kvs [] [])
  | kcons {k : Key} {x : D} {v : V} {ds : List (Key × D)} {vs : List (Key × V)} : Rp K F (.one x v) → Rp K F (.kvs ds vs) → Rp K F (.kvs ((k, x) :: ds) ((k, v) :: vs))
  | fnil : Rp K F (.fls [] [])
  | fcons {k : Str} {x : D} {v : V} {ds : List (Str × D)} {vs : List (Str × V)} : Rp K F (.one x v) → Rp K F (.fls ds vs) → Rp K F (.fls ((k, x) :: ds) ((k, v) :: vs))
/-- what may be read stays readable -/
structure Le (F F' : Hp) : Prop where
  rd : ∀ a u, Rd F a u → Rd F' a u
  ins : ∀ a C dx fs, F a = some (.ins C dx fs) → F' a = some (.ins C dx fs)
theorem Le.refl (F : Hp) : Le F F := ⟨fun _ _ h => h, fun _ _ _ _ h => h⟩
theorem Le.trans {F G H : Hp} (a : Le F G) (b : Le G H) : Le F H := ⟨fun x u h => b.rd x u (a.rd x u h), fun x C dx fs h => b.ins x C dx fs (a.ins x C dx fs h)⟩
theorem Le.of {F F' : Hp} (h : ∀ a o, F a = some o → F' a = some o) : Le F F' := ⟨fun a u r => by
  rcases r with r | ⟨o, r⟩
  · exact .inl (h a _ r)
  · exact .inr ⟨o, h a _ r⟩, fun a C dx fs r => h a _ r⟩
theorem Le.some {F F' : Hp} (l : Le F F') {a : Addr} (h : F a ≠ none) : F' a ≠ none := by
  cases e : F a with
  | none => exact absurd e h
  | some o =>
    rcases l.rd a o (.inl e) with q | ⟨ob, q⟩ <;> (rw [q]; exact fun z => nomatch z)
theorem Le.anew {F : Hp} {p : Addr} {o : HO} (h : F p = none) : Le F (upd F p o) := Le.of fun a u e => by rw [upd_ne (ne_of_none e h)]; exact e
theorem sqT_mono {K : Kf} {F F' : Hp} {a : Addr} {vs : List V} (l : Le F F') (h : SqT K F a vs) : SqT K F' a vs := by
  rcases h with h | h
  · exact .inl (l.rd _ _ h)
  · exact .inr h
theorem sqL_mono {K : Kf} {F F' : Hp} {a : Addr} {vs : List V} (l : Le F F') (h : SqL K F a vs) : SqL K F' a vs := by
  rcases h with h | h
  · exact .inl (l.rd _ _ h)
  · exact .inr h
theorem Rp.mono {K : Kf} {F F' : Hp} (l : Le F F') {n : Nd} (h : Rp K F n) : Rp K F' n := by
  induction h with
  | non => exact .non
  | bl b => exact .bl b
  | int i => exact .int i
  | str x => exact .str x
  | ty n => exact .ty n
  | fn x => exact .fn x
  | tup s _ ih => exact .tup (sqT_mono l s) ih
  | lst s _ ih => exact .lst (sqL_mono l s) ih
  | dct s _ ih => exact .dct (l.rd _ _ s) ih
  | ins s _ ih => exact .ins (l.ins _ _ _ _ s) ih
  | nil => exact .nil
  | cons _ _ h1 h2 => exact .cons h1 h2
  | knil => exact .knil
  | kcons _ _ h1 h2 => exact .kcons h1 h2
  | fnil => exact .fnil
  | fcons _ _ h1 h2 => exact .fcons h1 h2
theorem Rp.len {K : Kf} {F : Hp} : ∀ {ds : List D} {vs : List V}, Rp K F (.all ds vs) → ds.length = vs.length
  | _, _, .nil => rfl
  | _, _, .cons _ t => by rw [List.length_cons, List.length_cons, Rp.len t]
/-- as the layer's data -/
theorem Rp.dp {K : Kf} {F : Hp} : ∀ {n : Nd}, Rp K F n → (match n with
    | .one x v => ∀ p, toP x = some p → Dp K F v p
    | .all ds vs => ∀ ps, toPs ds = some ps → DpAll K F vs ps
    | _ => True) := by
  intro n h
  induction h with
  | non => intro p e; cases e; exact .non
  | bl b => intro p e; cases e; exact .bl b
  | int i => intro p e; cases e; exact .int i
  | str x => intro p e; cases e; exact .str x
  | ty n => intro p e; cases e
  | fn x => intro p e; cases e
  | tup s _ ih =>
    intro p e
    simp only [toP, Option.map_eq_some_iff] at e
    obtain ⟨ps, e1, rfl⟩ := e
    exact .tup s (ih ps e1)
  | lst s _ ih =>
    intro p e
    simp only [toP, Option.map_eq_some_iff] at e
    obtain ⟨ps, e1, rfl⟩ := e
    exact .lst s (ih ps e1)
  | dct s _ ih => intro p e; cases e
  | ins s _ ih => intro p e; cases e
  | nil => intro ps e; cases e; exact .nil
  | cons _ _ h1 h2 =>
    intro ps e
    simp only [toPs] at e
    split at e
    · rename_i p qs e1 e2
      cases e
      exact .cons (h1 p e1) (h2 qs e2)
    · cases e
  | knil => trivial
  | kcons _ _ h1 h2 => trivial
  | fnil => trivial
  | fcons _ _ h1 h2 => trivial

/-! ### cells, the store -/
inductive RpC (K : Kf) (F : Hp) (io : List Addr) : Cell → V → Prop
  | d {x : D} {v : V} : Rp K F (.one x v) → RpC K F io (.d x) v
  | r {n : Nat} {a : Addr} : io[n]? = some a → RpC K F io (.r n) (.ref a)
theorem RpC.mono {K : Kf} {F F' : Hp} {io io' : List Addr} (l : Le F F') (p : ∀ (n : Nat) (a : Addr), io[n]? = some a → io'[n]? = some a) {c : Cell} {v : V} (h : RpC K F io c v) : RpC K F' io' c v := by
  cases h with
  | d h => exact .d (h.mono l)
  | r h => exact .r (p _ _ h)
inductive ObR (K : Kf) (F : Hp) (io : List Addr) (H : Hp) : Ob → Addr → Prop
  | lst {a : Addr} {cs : List Cell} {vs : List V} : H a = some (.lst vs) → Paired (RpC K F io) cs vs → ObR K F io H (.lst cs) a
  | dct {a : Addr} {cs : List (Key × Cell)} {vs : List (Key × V)} : H a = some (.dK vs) → Paired (fun (p : Key × Cell) (q : Key × V) => p.1 = q.1 ∧ RpC K F io p.2 q.2) cs vs → ObR K F io H (.dct cs) a
  | ins {a dx : Addr} {C : Str} {cs : List (Str × Cell)} {vs : List (Str × V)} : H a = some (.ins (He.ga K C) dx vs) → Paired (fun (p : Str × Cell) (q : Str × V) => p.1 = q.1 ∧ RpC K F io p.2 q.2) cs vs → ObR K F io H (.ins C cs) a
  | frz {a : Addr} {x : D} : Rp K F (.one x (.ref a)) → ObR K F io H (.frz x) a
def refsC : Cell → List Nat
  | .d _ => []
  | .r n => [n]
def refs : Ob → List Nat
  | .lst cs => cs.flatMap refsC
  | .dct kvs => kvs.flatMap fun q => refsC q.2
  | .ins _ fs => fs.flatMap fun q => refsC q.2
  | .frz _ => []
/-- a state: what is frozen, where the store's places stand, the store, the heap -/
structure Sta where
  F : Hp
  io : List Addr
  S : Stg
  H : Hp
structure RS (K : Kf) (x : Sta) : Prop where
  fh : Le x.F x.H
  len : x.io.length = x.S.length
  nd : x.io.Nodup
  nf : ∀ (n : Nat) (a : Addr) (o : Ob), x.io[n]? = some a → x.S[n]? = some o → (∀ z, o ≠ Ob.frz z) → x.F a = none
  ob : ∀ (n : Nat) (o : Ob), x.S[n]? = some o → ∃ a, x.io[n]? = some a ∧ ObR K x.F x.io x.H o a
  th : ∀ a ∈ x.io, x.H a ≠ none
structure RE (K : Kf) (x : Sta) (ρ : Rho) (σ : L2.St) : Prop where
  len : ρ.length = σ.length
  at_ : ∀ (i : Nat) (c : Cell), ρ[i]? = some (some c) → ∃ v, σ[i]? = some (some v) ∧ RpC K x.F x.io c v
structure Stp (lo : Lim) (x y : Sta) : Prop where
  ff : Le x.F y.F
  pre : ∀ (n : Nat) (a : Addr), x.io[n]? = some a → y.io[n]? = some a
  keep : ∀ a o, x.H a = some o → a ∉ x.io → y.H a = some o
  newF : ∀ a, y.F a ≠ none → x.F a ≠ none ∨ x.H a = none ∨ a ∈ x.io
  newI : ∀ a ∈ y.io, a ∈ x.io ∨ x.H a = none
  ro : ∀ n, n < lo.ro → y.S[n]? = x.S[n]?
  cl : ∀ n, n < lo.lo → ∀ o', y.S[n]? = some o' → ∃ o, x.S[n]? = some o ∧ ∀ j ∈ refs o', j ∈ refs o
theorem Stp.refl (lo : Lim) (x : Sta) : Stp lo x x := ⟨Le.refl _, fun _ _ h => h, fun _ _ h _ => h, fun _ h => .inl h, fun _ h => .inl h, fun _ _ => rfl, fun _ _ o h => ⟨o, h, fun _ h => h⟩⟩
theorem Stp.trans {lo : Lim} {x y z : Sta} (a : Stp lo x y) (b : Stp lo y z) : Stp lo x z where
  ff := a.ff.trans b.ff
  pre := fun n q h => b.pre n q (a.pre n q h)
  keep := fun p o h n => b.keep p o (a.keep p o h n) fun hm => (a.newI p hm).elim n fun z => by rw [h] at z; cases z
  newF := fun p h => by
    have back : ∀ q, y.H q = none → x.H q = none ∨ q ∈ x.io := fun q hq => by
      by_cases hm : q ∈ x.io
      · exact .inr hm
      · cases e : x.H q with
        | none => exact .inl rfl
        | some o =>
          rw [a.keep q o e hm] at hq
          cases hq
    rcases b.newF p h with q | q | q
    · exact a.newF p q
    · exact .inr (back p q)
    · exact .inr ((a.newI p q).symm)
  newI := fun p h => by
    rcases b.newI p h with q | q
    · exact a.newI p q
    · by_cases hm : p ∈ x.io
      · exact .inl hm
      · cases e : x.H p with
        | none => exact .inr rfl
        | some o =>
          rw [a.keep p o e hm] at q
          cases q
  ro := fun n hn => (b.ro n hn).trans (a.ro n hn)
  cl := fun n hn o' h => by
    obtain ⟨o1, h1, k1⟩ := b.cl n hn o' h
    obtain ⟨o2, h2, k2⟩ := a.cl n hn o1 h1
    exact ⟨o2, h2, fun j hj => k2 j (k1 j hj)⟩
theorem Stp.lo_mono {lo lo' : Lim} (h : lo.lo ≤ lo'.lo) (h2 : lo.ro ≤ lo'.ro) {x y : Sta} (a : Stp lo' x y) : Stp lo x y := ⟨a.ff, a.pre, a.keep, a.newF, a.newI, fun n hn => a.ro n (Nat.lt_of_lt_of_le hn h2), fun n hn => a.cl n (Nat.lt_of_lt_of_le hn h)⟩
theorem RpC.stp {K : Kf} {lo : Lim} {x y : Sta} (s : Stp lo x y) {c : Cell} {v : V} (h : RpC K x.F x.io c v) : RpC K y.F y.io c v := h.mono s.ff s.pre
theorem pairs_stp {K : Kf} {lo : Lim} {x y : Sta} (s : Stp lo x y) {cs : List Cell} {vs : List V} (h : Paired (RpC K x.F x.io) cs vs) : Paired (RpC K y.F y.io) cs vs := Paired.mapP h fun _ _ q => q.stp s
theorem RE.stp {K : Kf} {lo : Lim} {x y : Sta} {ρ : Rho} {σ : L2.St} (s : Stp lo x y) (h : RE K x ρ σ) : RE K y ρ σ := ⟨h.len, fun i c e => let ⟨v, q, r⟩ := h.at_ i c e; ⟨v, q, r.stp s⟩⟩
theorem RE.set {K : Kf} {x : Sta} {ρ : Rho} {σ : L2.St} (h : RE K x ρ σ) (i : Nat) {c : Cell} {v : V} (r : RpC K x.F x.io c v) : RE K x (ρ.set i (some c)) (σ.set i (some v)) := by
  refine ⟨by rw [List.length_set, List.length_set, h.len], fun j c' e => ?_⟩
  by_cases hj : i = j
  · subst hj
    by_cases hl : i < ρ.length
    · rw [List.getElem?_set_self hl] at e
      cases e
      exact ⟨v, List.getElem?_set_self (by rw [← h.len]; exact hl), r⟩
    · rw [List.getElem?_eq_none (by rw [List.length_set]; omega)] at e
      cases e
  · rw [List.getElem?_set_ne hj] at e ⊢
    exact h.at_ j c' e

/-! ### new objects -/
section
variable {K : Kf} {x : Sta} {p : Addr} {o : HO}
theorem RS.ni (r : RS K x) (h : x.H p = none) : p ∉ x.io := fun hm => r.th p hm h
theorem upd_some {H : Hp} {a : Addr} (h : H a ≠ none) : upd H p o a ≠ none := by
  by_cases e : a = p
  · subst e; rw [upd_same]; exact fun z => nomatch z
  · rw [L2.upd_ne e]; exact h
theorem RS.nof (r : RS K x) (h : x.H p = none) : x.F p = none := by
  cases e : x.F p with
  | none => rfl
  | some u => exact absurd h (r.fh.some (by rw [e]; exact fun z => nomatch z))
theorem ObR.upd_ne {F : Hp} {io : List Addr} {H : Hp} {ob : Ob} {a : Addr} (h : ObR K F io H ob a) (ne : a ≠ p) : ObR K F io (upd H p o) ob a := by
  cases h with
  | lst h1 h2 => exact .lst (by rw [L2.upd_ne ne]; exact h1) h2
  | dct h1 h2 => exact .dct (by rw [L2.upd_ne ne]; exact h1) h2
  | ins h1 h2 => exact .ins (by rw [L2.upd_ne ne]; exact h1) h2
  | frz h1 => exact .frz h1
theorem ObR.mono {F F' : Hp} {io io' : List Addr} {H : Hp} {ob : Ob} {a : Addr} (l : Le F F') (pr : ∀ (n : Nat) (a : Addr), io[n]? = some a → io'[n]? = some a) (h : ObR K F io H ob a) : ObR K F' io' H ob a := by
  cases h with
  | lst h1 h2 => exact .lst h1 (Paired.mapP h2 fun _ _ q => q.mono l pr)
  | dct h1 h2 => exact .dct h1 (Paired.mapP h2 fun _ _ q => ⟨q.1, q.2.mono l pr⟩)
  | ins h1 h2 => exact .ins h1 (Paired.mapP h2 fun _ _ q => ⟨q.1, q.2.mono l pr⟩)
  | frz h1 => exact .frz (h1.mono l)
theorem ObR.free {F : Hp} {io : List Addr} {H : Hp} {ob : Ob} {a : Addr} (h : ObR K F io H ob a) (hn : H p = none) (hf : ∀ z, ob ≠ Ob.frz z) : a ≠ p := by
  cases h with
  | lst h1 _ => exact ne_of_none h1 hn
  | dct h1 _ => exact ne_of_none h1 hn
  | ins h1 _ => exact ne_of_none h1 hn
  | frz h1 => exact absurd rfl (hf _)
/-- a new object that nobody keeps -/
theorem RS.new (r : RS K x) (h : x.H p = none) : RS K ⟨x.F, x.io, x.S, upd x.H p o⟩ := by
  refine ⟨r.fh.trans (Le.anew h), r.len, r.nd, r.nf, fun n ob e => ?_, fun a ha => upd_some (r.th a ha)⟩
  obtain ⟨a, ea, q⟩ := r.ob n ob e
  refine ⟨a, ea, ?_⟩
  cases ob with
  | frz z =>
    cases q with
    | frz h1 => exact .frz h1
  | lst cs => exact q.upd_ne (q.free h fun z => by intro w; cases w)
  | dct cs => exact q.upd_ne (q.free h fun z => by intro w; cases w)
  | ins C cs => exact q.upd_ne (q.free h fun z => by intro w; cases w)
theorem Stp.new {lo : Lim} (r : RS K x) (h : x.H p = none) : Stp lo x ⟨x.F, x.io, x.S, upd x.H p o⟩ :=
  ⟨Le.refl _, fun _ _ q => q, fun a u e _ => by show upd x.H p o a = some u; rw [L2.upd_ne (ne_of_none e h)]; exact e, fun _ q => .inl q, fun _ q => .inl q, fun _ _ => rfl, fun _ _ ob q => ⟨ob, q, fun _ z => z⟩⟩
/-- a new object, frozen -/
theorem le_both {F H : Hp} (l : Le F H) : Le (upd F p o) (upd H p o) := by
  refine ⟨fun a u q => ?_, fun a C dx fs q => ?_⟩
  · by_cases hp : a = p
    · subst hp
      unfold Rd at q ⊢
      rw [upd_same] at q ⊢
      exact q
    · unfold Rd at q ⊢
      rw [L2.upd_ne hp] at q ⊢
      exact l.rd a u q
  · by_cases hp : a = p
    · subst hp
      rw [upd_same] at q ⊢
      exact q
    · rw [L2.upd_ne hp] at q ⊢
      exact l.ins a C dx fs q
theorem RS.newF (r : RS K x) (h : x.H p = none) : RS K ⟨upd x.F p o, x.io, x.S, upd x.H p o⟩ := by
  have hf := r.nof h
  have l : Le x.F (upd x.F p o) := Le.anew hf
  have r1 : RS K ⟨x.F, x.io, x.S, upd x.H p o⟩ := r.new h
  refine ⟨le_both r.fh, r.len, r.nd, fun n a ob e1 e2 e3 => ?_, fun n ob e => ?_, fun a ha => upd_some (r.th a ha)⟩
  · have ne : a ≠ p := by
      obtain ⟨b, eb, q⟩ := r.ob n ob e2
      rw [e1] at eb
      cases eb
      exact q.free h e3
    show upd x.F p o a = none
    rw [L2.upd_ne ne]
    exact r.nf n a ob e1 e2 e3
  · obtain ⟨a, ea, q⟩ := r1.ob n ob e
    exact ⟨a, ea, q.mono l fun _ _ z => z⟩
theorem Stp.newF' {lo : Lim} (r : RS K x) (h : x.H p = none) : Stp lo x ⟨upd x.F p o, x.io, x.S, upd x.H p o⟩ :=
  ⟨Le.anew (r.nof h), fun _ _ q => q, fun a u e _ => by show upd x.H p o a = some u; rw [L2.upd_ne (ne_of_none e h)]; exact e, fun a q => by
    by_cases hp : a = p
    · exact .inr (.inl (by rw [hp]; exact h))
    · exact .inl (by intro z; exact q (by show upd x.F p o a = none; rw [L2.upd_ne hp]; exact z)), fun _ q => .inl q, fun _ _ => rfl, fun _ _ ob q => ⟨ob, q, fun _ z => z⟩⟩
end
end Mi
/-! M3: what is wanted of a run; the operations keep it. -/
namespace Mi
open PySem PySem.Spec L2
abbrev SSt := L2.St

/-- an exception of the program -/
def ExR (K : Kf) (y : Sta) (e : Exn) (cls : Value) (d : Option Addr) : Prop :=
  cls = .ref (He.ga K e.cls) ∧ ((e.fs = [] ∧ d = none) ∨ ∃ dd vs, d = some dd ∧ y.H dd = some (.xd vs) ∧ Rp K y.F (.fls e.fs vs))
/-- what is wanted of a run from x -/
def Wp {α : Type} (K : Kf) (lo : Lim) (W : WX) (σ : SSt) (x : Sta) (r : Res α) (Q : Sta → α → Prop) : Prop := match r with
  | .ok a S' => ∀ F' io' H', Stp lo x ⟨F', io', S', H'⟩ → RS K ⟨F', io', S', H'⟩ → Q ⟨F', io', S', H'⟩ a
  | .exc e S' => ∀ cls d F' io' H', Stp lo x ⟨F', io', S', H'⟩ → RS K ⟨F', io', S', H'⟩ → ExR K ⟨F', io', S', H'⟩ e cls d → W cls d σ H'
  | .bad => False
section
variable {K : Kf} {lo : Lim} {W : WX} {σ : SSt} {x y : Sta} {α β : Type}
theorem Wp.mono {r : Res α} {Q Q' : Sta → α → Prop} (w : Wp K lo W σ x r Q) (h : ∀ y a, Stp lo x y → RS K y → Q y a → Q' y a) : Wp K lo W σ x r Q' := by
  cases r with
  | ok a S => exact fun F' io' H' s r => h _ a s r (w F' io' H' s r)
  | exc e S => exact w
  | bad => exact w
theorem Wp.shift {r : Res α} {Q : Sta → α → Prop} (w : Wp K lo W σ x r Q) (s : Stp lo x y) : Wp K lo W σ y r Q := by
  cases r with
  | ok a S => exact fun F' io' H' s' r => w F' io' H' (s.trans s') r
  | exc e S => exact fun cls d F' io' H' s' r q => w cls d F' io' H' (s.trans s') r q
  | bad => exact w
theorem Wp.bind {r : Res α} {g : α → Stg → Res β} {Q : Sta → β → Prop} (w : Wp K lo W σ x (r.bind g) Q) : Wp K lo W σ x r fun y a => Wp K lo W σ y (g a y.S) Q := by
  cases r with
  | ok a S =>
    intro F' io' H' s r
    exact Wp.shift (show Wp K lo W σ x (g a S) Q from w) s
  | exc e S => exact w
  | bad => exact w
theorem Wp.ok {a : α} {Q : Sta → α → Prop} (w : Wp K lo W σ x (.ok a x.S) Q) (r : RS K x) : Q x a := w _ _ _ (Stp.refl lo x) r
/-- to a later state with this store -/
theorem Wp.to {a : α} {Q : Sta → α → Prop} (w : Wp K lo W σ x (.ok a y.S) Q) (s : Stp lo x y) (r : RS K y) : Q y a := w _ _ _ s r
end
/-- a raw value stands -/
def QV (K : Kf) (Q : VK) (y : Sta) : PV → Prop
  | .v c => ∀ v, RpC K y.F y.io c v → Q v y.H
  | .l cs => ∀ p vs, y.H p = none → Paired (RpC K y.F y.io) cs vs → vs.length ≤ sizeLine → Q (.ref p) (upd y.H p (.lst vs))
def QC (K : Kf) (Q : VK) (y : Sta) (c : Cell) : Prop := ∀ v, RpC K y.F y.io c v → Q v y.H
/-- where a run stands -/
structure Go (K : Kf) (lo : Lim) (x : Sta) (ρ : Rho) (σ : SSt) (H : Hp) : Prop where
  h : x.H = H
  rs : RS K x
  re : RE K x ρ σ
  hlo : lo.lo ≤ x.S.length
  hro : lo.ro ≤ x.S.length
theorem Stp.len {K : Kf} {lo : Lim} {x y : Sta} (s : Stp lo x y) (rx : RS K x) (ry : RS K y) : x.S.length ≤ y.S.length := by
  rw [← rx.len, ← ry.len]
  cases h : x.io.length with
  | zero => exact Nat.zero_le _
  | succ n =>
    have hn : n < x.io.length := by omega
    have e := s.pre n _ (List.getElem?_eq_getElem hn)
    have := (List.getElem?_eq_some_iff.mp e).1
    omega
theorem Go.stp {K : Kf} {lo : Lim} {x y : Sta} {ρ : Rho} {σ : SSt} {H : Hp} (g : Go K lo x ρ σ H) (s : Stp lo x y) (ry : RS K y) : Go K lo y ρ σ y.H := ⟨rfl, ry, g.re.stp s, Nat.le_trans g.hlo (s.len g.rs ry), Nat.le_trans g.hro (s.len g.rs ry)⟩
def TV (K : Kf) (lo : Lim) (W : WX) (f : Rho → Stg → Res PV) : TE := fun σ H Q => ∃ (x : Sta) (ρ : Rho), Go K lo x ρ σ H ∧ Wp K lo W σ x (f ρ x.S) (QV K Q)
def TC (K : Kf) (lo : Lim) (W : WX) (f : Rho → Stg → Res Cell) : TE := fun σ H Q => ∃ (x : Sta) (ρ : Rho), Go K lo x ρ σ H ∧ Wp K lo W σ x (f ρ x.S) (QC K Q)
def QA (K : Kf) (Q : List V → Hp → Prop) (y : Sta) (cs : List Cell) : Prop := ∀ vs, Paired (RpC K y.F y.io) cs vs → Q vs y.H
def TAr (K : Kf) (lo : Lim) (W : WX) (f : Rho → Stg → Res (List Cell)) : TA := fun σ H Q => ∃ (x : Sta) (ρ : Rho), Go K lo x ρ σ H ∧ Wp K lo W σ x (f ρ x.S) (QA K Q)
def TB (K : Kf) (lo : Lim) (W : WX) (f : Rho → Stg → Res Bool) : TT := fun σ H Q => ∃ (x : Sta) (ρ : Rho), Go K lo x ρ σ H ∧ Wp K lo W σ x (f ρ x.S) fun y b => Q b y.H
theorem PE.imp {X : Cx} {e : Expr} {t t' : TE} (h : PE X e t) (f : ∀ σ H Q, t' σ H Q → t σ H Q) : PE X e t' := ⟨fun pins s σ H Q I q => h.run pins s σ H Q I (f σ H Q q)⟩
theorem PT.imp {X : Cx} {e : Expr} {t t' : TT} (h : PT X e t) (f : ∀ σ H Q, t' σ H Q → t σ H Q) : PT X e t' := ⟨fun pins s σ H Q I q => h.run pins s σ H Q I (f σ H Q q)⟩
theorem PA.imp {X : Cx} {e : List Expr} {t t' : TA} (h : PA X e t) (f : ∀ σ H Q, t' σ H Q → t σ H Q) : PA X e t' := ⟨fun pos pins s σ H Q I q => h.run pos pins s σ H Q I (f σ H Q q)⟩
theorem PS.imp {X : Cx} {e : Stmt} {t t' : TS} (h : PS X e t) (f : ∀ D σ H, t' D σ H → t D σ H) : PS X e t' := ⟨fun pins s σ H D I q => h.run pins s σ H D I (f D σ H q)⟩
theorem PSs.imp {X : Cx} {e : List Stmt} {t t' : TS} (h : PSs X e t) (f : ∀ D σ H, t' D σ H → t D σ H) : PSs X e t' := ⟨fun pins s σ H D I q => h.run pins s σ H D I (f D σ H q)⟩

/-! ### cells and values -/
section
variable {K : Kf} {F : Hp} {io : List Addr}
theorem rp_int {i : Int} {v : V} (h : Rp K F (.one (.int i) v)) : v = .int i := by cases h; rfl
theorem rp_str {i : Str} {v : V} (h : Rp K F (.one (.str i) v)) : v = .str i := by cases h; rfl
theorem rp_bl {i : Bool} {v : V} (h : Rp K F (.one (.bl i) v)) : v = .bl i := by cases h; rfl
theorem rp_non {v : V} (h : Rp K F (.one .non v)) : v = .non := by cases h; rfl
theorem rc_int {i : Int} {v : V} (h : RpC K F io (.d (.int i)) v) : v = .int i := by cases h with | d h => exact rp_int h
theorem rc_str {i : Str} {v : V} (h : RpC K F io (.d (.str i)) v) : v = .str i := by cases h with | d h => exact rp_str h
theorem rc_bl {i : Bool} {v : V} (h : RpC K F io (.d (.bl i)) v) : v = .bl i := by cases h with | d h => exact rp_bl h
theorem flat_ok {c : Cell} {v u : V} (h : flatC c = some u) (r : RpC K F io c v) : v = u ∧ flatV u = true := by
  unfold flatC at h
  split at h <;> cases h
  · cases r with | d r => exact ⟨rp_non r, rfl⟩
  · exact ⟨rc_bl r, rfl⟩
  · exact ⟨rc_int r, rfl⟩
  · exact ⟨rc_str r, rfl⟩
theorem flats_ok : ∀ {cs : List Cell} {us vs : List V}, flats cs = some us → Paired (RpC K F io) cs vs → vs = us ∧ us.all flatV = true
  | [], _, _, h, .nil => by cases h; exact ⟨rfl, rfl⟩
  | c :: cs, us, _, h, .cons r t => by
    unfold flats at h
    split at h
    · rename_i v vs e1 e2
      cases h
      obtain ⟨h1, h2⟩ := flat_ok e1 r
      obtain ⟨h3, h4⟩ := flats_ok e2 t
      exact ⟨by rw [h1, h3], by rw [List.all_cons, h2, h4]; rfl⟩
    · cases h
theorem all_paired {ds : List D} {vs : List V} (h : Rp K F (.all ds vs)) : Paired (RpC K F io) (ds.map .d) vs := by
  induction ds generalizing vs with
  | nil => cases h; exact .nil
  | cons x ds ih => cases h with | cons h1 h2 => exact .cons (.d h1) (ih h2)
theorem allD_ok : ∀ {cs : List Cell} {ds : List D} {vs : List V}, allD cs = some ds → Paired (RpC K F io) cs vs → Rp K F (.all ds vs)
  | [], _, _, h, .nil => by cases h; exact .nil
  | .d x :: cs, ds, _, h, .cons r t => by
    simp only [allD, Option.map_eq_some_iff] at h
    obtain ⟨es, e1, rfl⟩ := h
    cases r with | d r => exact .cons r (allD_ok e1 t)
  | .r n :: cs, ds, _, h, _ => by cases h
theorem allD_len : ∀ {cs : List Cell} {ds : List D}, allD cs = some ds → ds.length = cs.length
  | [], _, h => by cases h; rfl
  | .d x :: cs, ds, h => by
    simp only [allD, Option.map_eq_some_iff] at h
    obtain ⟨es, e1, rfl⟩ := h
    rw [List.length_cons, List.length_cons, allD_len e1]
  | .r n :: cs, ds, h => by cases h
theorem bools_ok : ∀ {cs : List Cell} {bs : List Bool} {vs : List V}, boolsOf cs = some bs → Paired (RpC K F io) cs vs → vs = bs.map V.bl
  | [], _, _, h, .nil => by cases h; rfl
  | c :: cs, bs, _, h, .cons r t => by
    unfold boolsOf at h
    split at h
    · rename_i e; cases e
    · rename_i b q e
      cases e
      simp only [Option.map_eq_some_iff] at h
      obtain ⟨es, e1, rfl⟩ := h
      rw [List.map_cons, ← bools_ok e1 t, rc_bl r]
    · cases h
theorem strs_ok : ∀ {cs : List Cell} {bs : List Str} {vs : List V}, strsOf cs = some bs → Paired (RpC K F io) cs vs → vs = bs.map V.str
  | [], _, _, h, .nil => by cases h; rfl
  | c :: cs, bs, _, h, .cons r t => by
    unfold strsOf at h
    split at h
    · rename_i e; cases e
    · rename_i b q e
      cases e
      simp only [Option.map_eq_some_iff] at h
      obtain ⟨es, e1, rfl⟩ := h
      rw [List.map_cons, ← strs_ok e1 t, rc_str r]
    · cases h
end
section
variable {K : Kf} {x : Sta}
theorem viewL_ok (rs : RS K x) {c : Cell} {cs : List Cell} {v : V} (h : viewL x.S c = some cs) (r : RpC K x.F x.io c v) : ∃ a vs, v = .ref a ∧ SqL K x.H a vs ∧ Paired (RpC K x.F x.io) cs vs := by
  unfold viewL at h
  split at h
  · rename_i ds
    cases h
    cases r with
    | d r => cases r with
      | lst s t => exact ⟨_, _, rfl, sqL_mono rs.fh s, all_paired t⟩
  · rename_i n
    cases r with
    | r e =>
      unfold viewO at h
      split at h
      · rename_i cs' e2
        cases h
        obtain ⟨a, ea, q⟩ := rs.ob n _ e2
        rw [e] at ea
        cases ea
        cases q with
        | lst h1 h2 => exact ⟨_, _, rfl, SqL.of h1, h2⟩
      · rename_i ds e2
        cases h
        obtain ⟨a, ea, q⟩ := rs.ob n _ e2
        rw [e] at ea
        cases ea
        cases q with
        | frz h1 => cases h1 with
          | lst s t => exact ⟨_, _, rfl, sqL_mono rs.fh s, all_paired t⟩
      · cases h
  · cases h
theorem viewT_ok (rs : RS K x) {c : Cell} {ds : List D} {v : V} (h : viewT c = some ds) (r : RpC K x.F x.io c v) : ∃ a vs, v = .ref a ∧ SqT K x.H a vs ∧ Rp K x.F (.all ds vs) := by
  unfold viewT at h
  split at h
  · cases h
    cases r with
    | d r => cases r with
      | tup s t => exact ⟨_, _, rfl, sqT_mono rs.fh s, t⟩
  · cases h
theorem viewS_ok (rs : RS K x) {c : Cell} {cs : List Cell} {v : V} (h : viewS x.S c = some cs) (r : RpC K x.F x.io c v) : ∃ a vs, v = .ref a ∧ (SqL K x.H a vs ∨ SqT K x.H a vs) ∧ Paired (RpC K x.F x.io) cs vs := by
  unfold viewS at h
  split at h
  · rename_i ds e
    cases h
    obtain ⟨a, vs, h1, h2, h3⟩ := viewT_ok rs e r
    exact ⟨a, vs, h1, .inr h2, all_paired h3⟩
  · obtain ⟨a, vs, h1, h2, h3⟩ := viewL_ok rs h r
    exact ⟨a, vs, h1, .inl h2, h3⟩
theorem snap_ok (rs : RS K x) {c : Cell} {d : D} {v : V} (h : snap x.S c = some d) (r : RpC K x.F x.io c v) : Rp K x.H (.one d v) := by
  unfold snap at h
  split at h
  · cases h
    cases r with | d r => exact r.mono rs.fh
  · rename_i n
    cases r with
    | r e =>
      split at h
      · rename_i cs e2
        simp only [Option.map_eq_some_iff] at h
        obtain ⟨ds, e3, rfl⟩ := h
        obtain ⟨a, ea, q⟩ := rs.ob n _ e2
        rw [e] at ea
        cases ea
        cases q with
        | lst h1 h2 => exact .lst (SqL.of h1) ((allD_ok e3 h2).mono rs.fh)
      · rename_i z e2
        cases h
        obtain ⟨a, ea, q⟩ := rs.ob n _ e2
        rw [e] at ea
        cases ea
        cases q with
        | frz h1 => exact h1.mono rs.fh
      · cases h
theorem truth_ok (rs : RS K x) {c : Cell} {b : Bool} {v : V} (h : truth x.S c = some b) (r : RpC K x.F x.io c v) : TruV K v x.H b := by
  unfold truth at h
  split at h
  · cases h
    rw [rc_bl r]
    rfl
  · cases h
    cases r with | d r => rw [rp_non r]; rfl
  · cases h
    rw [rc_int r]
    rfl
  · split at h
    · rename_i hl
      cases h
      rw [rc_str r]
      refine ⟨hl, ?_⟩
      rename_i z
      show (z.length != 0) = ((z.length : Int) != 0)
      cases e : z.length with
      | zero => rfl
      | succ n => simp <;> omega
    · cases h
  · simp only [Option.map_eq_some_iff] at h
    obtain ⟨cs, e, rfl⟩ := h
    obtain ⟨a, vs, rfl, h2, h3⟩ := viewS_ok rs e r
    have hl : (!cs.isEmpty) = !vs.isEmpty := by cases h3 <;> rfl
    rcases h2 with h2 | h2
    · exact .inl ⟨vs, h2, hl⟩
    · exact .inr (.inl ⟨vs, h2, hl⟩)
end
end Mi
/-! M4: each operation, as the layer has it. -/
namespace Mi
open PySem PySem.Spec L2

/-! ### the weakest readings -/
def OpW (X : Cx) (f : Value → Value → Sem Value) : R2 := fun a b H Q => ∀ pins s σ v u, Inv X pins σ H s → RelV a v → RelV b u → wpAny (model X.prog X.w) X.A (f v u) (EP X pins σ Q) X.xe s
theorem opW {X : Cx} {f : Value → Value → Sem Value} : OpR X f (OpW X f) := fun pins s σ H x y v u Q I rx ry h => h pins s σ v u I rx ry
theorem OpW.by {X : Cx} {f : Value → Value → Sem Value} {r : R2} (h : OpR X f r) {a b : V} {H : Hp} {Q : VK} (q : r a b H Q) : OpW X f a b H Q := fun pins s σ v u I ra rb => h pins s σ H a b v u Q I ra rb q
def CallW (X : Cx) (f : Value) : List V → Hp → VK → Prop := fun xs H Q => ∀ pins s σ us, Inv X pins σ H s → Vals xs us → wpAny (model X.prog X.w) X.A (call f us) (EP X pins σ Q) X.xe s
theorem callW {X : Cx} {f : Value} : CallR X f (CallW X f) := fun pins s σ H xs us Q I r h => h pins s σ us I r
theorem CallW.by {X : Cx} {f : Value} {r : List V → Hp → VK → Prop} (h : CallR X f r) {xs : List V} {H : Hp} {Q : VK} (q : r xs H Q) : CallW X f xs H Q := fun pins s σ us I ra => h pins s σ H xs us Q I ra q
def IxW (X : Cx) : R2 := fun a b H Q => ∀ (value slice : Expr) pins s σ v u, Inv X pins σ H s → RelV a v → RelV b u → subscripted slice false v u = operate [v, u] (getItem v u) → wpAny (model X.prog X.w) X.A (PyProof.Rows.subscriptTail value slice v u) (EP X pins σ Q) X.xe s
theorem ixW {X : Cx} : IxR X (IxW X) := fun value slice pins s σ H x y v u Q I rx ry h hs => h value slice pins s σ v u I rx ry hs
theorem IxW.by {X : Cx} {r : R2} (h : IxR X r) {a b : V} {H : Hp} {Q : VK} (q : r a b H Q) : IxW X a b H Q := fun value slice pins s σ v u I ra rb hs => h value slice pins s σ H a b v u Q I ra rb q hs

section
variable {X : Cx} {K : Kf} {lo : Lim} {W : WX} {σ : SSt} {x : Sta} {Q : VK}
theorem prim_inv {p : Prim} {cs : List Cell} {P : Sta → PV → Prop} (w : Wp K lo W σ x (primR lo p cs x.S) P) : ∃ v S', primSem lo p cs x.S = some (v, S') ∧ Wp K lo W σ x (.ok v S') P := by
  unfold primR at w
  cases h : primSem lo p cs x.S with
  | none => rw [h] at w; exact w.elim
  | some q => rw [h] at w; exact ⟨q.1, q.2, rfl, w⟩
/-- an operation that changes nothing -/
theorem prim_map {p : Prim} {cs : List Cell} {o : Option PV} (rs : RS K x) (e : primSem lo p cs x.S = o.map fun v => (v, x.S)) (w : Wp K lo W σ x (primR lo p cs x.S) (QV K Q)) : ∃ v, o = some v ∧ QV K Q x v := by
  obtain ⟨v, S', h, w⟩ := prim_inv w
  rw [e] at h
  cases o with
  | none => cases h
  | some u =>
    obtain ⟨rfl, rfl⟩ := Prod.mk.inj (show (u, x.S) = (v, S') from Option.some.inj h)
    exact ⟨_, rfl, Wp.ok w rs⟩
theorem qv_d {d : D} {v : V} (h : QV K Q x (.v (.d d))) (r : Rp K x.F (.one d v)) : Q v x.H := h v (.d r)

theorem bin_ok (rs : RS K x) {op : Operator} {a b : Cell} {v u : V} (ra : RpC K x.F x.io a v) (rb : RpC K x.F x.io b u) (w : Wp K lo W σ x (primR lo (.bin op) [a, b] x.S) (QV K Q)) : OpW X (binaryOp op) v u x.H Q := by
  obtain ⟨p, e, q⟩ := prim_map rs rfl w
  unfold binSem at e
  split at e
  · cases e; rw [rc_int ra, rc_int rb]; exact OpW.by op_add ⟨_, _, rfl, rfl, qv_d q (.int _)⟩
  · cases e; rw [rc_int ra, rc_int rb]; exact OpW.by op_sub ⟨_, _, rfl, rfl, qv_d q (.int _)⟩
  · split at e
    · rename_i hc
      cases e; rw [rc_int ra, rc_int rb]
      refine OpW.by op_mul ⟨_, _, rfl, rfl, ?_, qv_d q (.int _)⟩
      rcases Bool.or_eq_true_iff.mp hc with z | z
      · exact .inl (of_decide_eq_true z)
      · exact .inr (of_decide_eq_true z)
    · cases e
  · split at e
    · rename_i hc
      cases e; rw [rc_int ra, rc_int rb]
      exact OpW.by op_mod ⟨_, _, rfl, rfl, hc, qv_d q (.int _)⟩
    · cases e
  · split at e
    · rename_i hc
      cases e; rw [rc_int ra, rc_int rb]
      obtain ⟨h1, h2⟩ := Bool.and_eq_true_iff.mp hc
      have h1 := of_decide_eq_true h1
      have h2 := of_decide_eq_true h2
      exact OpW.by op_fdivW ⟨_, _, rfl, rfl, wide_div (b := 64) h1 (by omega) (by decide) (by decide), qv_d q (.int _)⟩
    · cases e
  · split at e
    · rename_i hc
      cases e; rw [rc_int ra, rc_int rb]
      obtain ⟨h1, h3⟩ := Bool.and_eq_true_iff.mp hc
      obtain ⟨h1, h2⟩ := Bool.and_eq_true_iff.mp h1
      exact OpW.by op_pow ⟨_, _, rfl, rfl, ⟨of_decide_eq_true h1, of_decide_eq_true h2, of_decide_eq_true h3⟩, qv_d q (.int _)⟩
    · cases e
  · split at e
    · rename_i hc
      cases e; rw [rc_str ra, rc_str rb]
      exact OpW.by op_add_str ⟨_, _, rfl, rfl, hc, qv_d q (.str _)⟩
    · cases e
  · cases e

theorem eqD_ok (hu : X.A.units + 64 < cLine) (hK : X.K = K) {H : Hp} {a b : D} {v u : V} {r : Bool} (e : eqD a b = some r) (ra : Rp K H (.one a v)) (rb : Rp K H (.one b u)) :
    (Q (.bl r) H → OpW X (compareOp .Eq) v u H Q) ∧ (Q (.bl (!r)) H → OpW X (compareOp .NotEq) v u H Q) := by
  unfold eqD at e
  split at e
  · cases e; rw [rp_int ra, rp_int rb]
    constructor
    · intro q; exact OpW.by op_eq ⟨rfl, by simpa using q⟩
    · intro q; exact OpW.by op_ne ⟨rfl, by simpa using q⟩
  · cases e; rw [rp_str ra, rp_str rb]
    constructor
    · intro q; exact OpW.by op_eq ⟨rfl, by simpa using q⟩
    · intro q; exact OpW.by op_ne ⟨rfl, by simpa using q⟩
  · cases e; rw [rp_bl ra, rp_bl rb]
    constructor
    · intro q; exact OpW.by op_eq ⟨rfl, by simpa using q⟩
    · intro q; exact OpW.by op_ne ⟨rfl, by simpa using q⟩
  · split at e
    · rename_i p q e1 e2
      split at e
      · rename_i hs
        cases e
        obtain ⟨h1, h2⟩ := Bool.and_eq_true_iff.mp hs
        have d1 : Dp K H v p := Rp.dp ra p e1
        have d2 : Dp K H u q := Rp.dp rb q e2
        subst hK
        exact ⟨fun z => OpW.by (op_eqD hu) ⟨p, q, d1, d2, h1, h2, z⟩, fun z => OpW.by (op_neD hu) ⟨p, q, d1, d2, h1, h2, z⟩⟩
      · cases e
    · cases e
theorem str_one {z : Str} {c : Nat} (h : z.cps.toList = [c]) : z = ⟨#[c]⟩ := by
  obtain ⟨a⟩ := z
  have : a = #[c] := by
    apply Array.ext'
    simpa using h
  rw [this]
theorem in_ok (hu : X.A.units + 65 < cLine) (hK : X.K = K) (rs : RS K x) {a b : Cell} {v u : V} {r : Bool} (e : inSem x.S a b = some r) (ra : RpC K x.F x.io a v) (rb : RpC K x.F x.io b u) :
    (Q (.bl r) x.H → OpW X (compareOp .In) v u x.H Q) ∧ (Q (.bl (!r)) x.H → OpW X (compareOp .NotIn) v u x.H Q) := by
  subst hK
  unfold inSem at e
  split at e
  · split at e
    · rename_i c hc
      cases e; rw [rc_str ra, rc_str rb, str_one hc]
      exact ⟨fun q => OpW.by op_in_sign ⟨c, _, rfl, rfl, q⟩, fun q => OpW.by op_notIn_sign ⟨c, _, rfl, rfl, q⟩⟩
    · cases e
  · split at e
    · cases e
    · rename_i cs hv
      obtain ⟨p, vs, rfl, hq, hp⟩ := viewS_ok rs hv rb
      split at e
      · rename_i fv fvs e1 e2
        cases e
        obtain ⟨rfl, f1⟩ := flat_ok e1 ra
        obtain ⟨rfl, f2⟩ := flats_ok e2 hp
        exact ⟨fun q => OpW.by op_in_seq ⟨p, _, rfl, hq, f1, f2, q⟩, fun q => OpW.by op_notIn_seq ⟨p, _, rfl, hq, f1, f2, q⟩⟩
      · split at e
        · rename_i d cs' _ _
          simp only [Option.bind_eq_some_iff] at e
          obtain ⟨ds, e3, e4⟩ := e
          unfold inDeep at e4
          split at e4
          · rename_i pd ps e5 e6
            split at e4
            · rename_i hs
              cases e4
              obtain ⟨h1, h2⟩ := Bool.and_eq_true_iff.mp hs
              obtain ⟨p2, vs2, e7, hq2, hp2⟩ := viewL_ok rs (by assumption) rb
              cases e7
              cases ra with
              | d ra =>
                have d1 : Dp X.K x.H v pd := Rp.dp (ra.mono rs.fh) pd e5
                have d2 : Dp X.K x.H (.ref p) (.list ps) := .lst hq2 (Rp.dp ((allD_ok e3 hp2).mono rs.fh) ps e6)
                exact ⟨fun q => OpW.by (op_inD hu) ⟨pd, ps, d1, d2, h1, h2, q⟩, fun q => OpW.by (op_notInD hu) ⟨pd, ps, d1, d2, h1, h2, q⟩⟩
            · cases e4
          · cases e4
        · cases e
theorem ord_ok {op : CmpOp} {r : Bool} {i j : Int} (e : ordSem op i j = some r) (q : Q (.bl r) x.H) : OpW X (compareOp op) (.int i) (.int j) x.H Q := by
  unfold ordSem at e
  split at e <;> cases e
  · exact OpW.by op_lt ⟨_, _, rfl, rfl, q⟩
  · exact OpW.by op_le ⟨_, _, rfl, rfl, q⟩
  · exact OpW.by op_gt ⟨_, _, rfl, rfl, q⟩
  · exact OpW.by op_ge ⟨_, _, rfl, rfl, q⟩
theorem cmp_ok (hu : X.A.units + 65 < cLine) (hK : X.K = K) (rs : RS K x) {op : CmpOp} {a b : Cell} {v u : V} (ra : RpC K x.F x.io a v) (rb : RpC K x.F x.io b u) (w : Wp K lo W σ x (primR lo (.cmp op) [a, b] x.S) (QV K Q)) : OpW X (compareOp op) v u x.H Q := by
  obtain ⟨p, e, q⟩ := prim_map rs rfl w
  unfold ovB at e
  simp only [Option.map_eq_some_iff] at e
  obtain ⟨r, e, rfl⟩ := e
  have q : Q (.bl r) x.H := qv_d q (.bl r)
  unfold cmpSem at e
  split at e
  · unfold eqSem at e
    split at e
    · rename_i d1 d2 e1 e2
      exact (eqD_ok (by omega) hK e (snap_ok rs e1 ra) (snap_ok rs e2 rb)).1 q
    · cases e
  · simp only [Option.map_eq_some_iff] at e
    obtain ⟨r', e, rfl⟩ := e
    unfold eqSem at e
    split at e
    · rename_i d1 d2 e1 e2
      exact (eqD_ok (by omega) hK e (snap_ok rs e1 ra) (snap_ok rs e2 rb)).2 q
    · cases e
  · exact (in_ok hu hK rs e ra rb).1 q
  · simp only [Option.map_eq_some_iff] at e
    obtain ⟨r', e, rfl⟩ := e
    exact (in_ok hu hK rs e ra rb).2 q
  · cases e
  · cases e
  · split at e
    · rw [rc_int ra, rc_int rb]
      exact ord_ok e q
    · cases e
theorem paired_at {R : Cell → V → Prop} : ∀ {cs : List Cell} {vs : List V} {j : Nat} {c : Cell}, Paired R cs vs → cs[j]? = some c → ∃ v, vs[j]? = some v ∧ R c v
  | _, _, 0, _, .cons r _, h => by simp at h; subst h; exact ⟨_, rfl, r⟩
  | _, _, j + 1, c, .cons _ t, h => by
    obtain ⟨v, h1, h2⟩ := paired_at (j := j) t (by simpa using h)
    exact ⟨v, by simpa using h1, h2⟩
  | _, _, _, _, .nil, h => by simp at h
theorem paired_atI {R : Cell → V → Prop} {cs : List Cell} {vs : List V} {k : Int} {c : Cell} (p : Paired R cs vs) (h : atI cs k = some c) : ∃ v, atI vs k = some v ∧ R c v := by
  unfold atI at h ⊢
  simp only [Option.bind_eq_some_iff] at h ⊢
  obtain ⟨j, e1, e2⟩ := h
  obtain ⟨v, h1, h2⟩ := paired_at p e2
  exact ⟨v, ⟨j, by rw [← p.length]; exact e1, h1⟩, h2⟩
theorem item_ok (hK : X.K = K) (rs : RS K x) {a b : Cell} {v u : V} (ra : RpC K x.F x.io a v) (rb : RpC K x.F x.io b u) (w : Wp K lo W σ x (primR lo .item [a, b] x.S) (QV K Q)) : IxW X v u x.H Q := by
  subst hK
  obtain ⟨p, e, q⟩ := prim_map rs rfl w
  unfold itemSem at e
  split at e
  · split at e
    · rename_i hl
      split at e
      · rename_i c hc
        cases e
        rw [rc_str ra, rc_int rb]
        exact IxW.by ix_str ⟨_, _, c, rfl, rfl, hl, hc, qv_d q (.str _)⟩
      · cases e
    · cases e
  · split at e
    · rename_i cs hv
      simp only [Option.map_eq_some_iff] at e
      obtain ⟨c, e1, rfl⟩ := e
      obtain ⟨a', vs, rfl, hq, hp⟩ := viewS_ok rs hv ra
      obtain ⟨z, h1, h2⟩ := paired_atI hp e1
      rw [rc_int rb]
      rcases hq with hq | hq
      · exact IxW.by ix_list ⟨_, _, _, _, rfl, rfl, hq, h1, q z h2⟩
      · exact IxW.by ix_tup ⟨_, _, _, _, rfl, rfl, hq, h1, q z h2⟩
    · cases e
  · cases e
theorem len_ok (hK : X.K = K) (rs : RS K x) {a : Cell} {v : V} (ra : RpC K x.F x.io a v) (w : Wp K lo W σ x (primR lo .len [a] x.S) (QV K Q)) : CallW X (.builtin "len") [v] x.H Q := by
  subst hK
  obtain ⟨p, e, q⟩ := prim_map rs rfl w
  unfold lenSem at e
  split at e
  · split at e
    · rename_i hl
      cases e
      rw [rc_str ra]
      exact CallW.by call_len ⟨_, _, rfl, ⟨hl, rfl⟩, qv_d q (.int _)⟩
    · cases e
  · split at e
    · rename_i cs hv
      cases e
      obtain ⟨a', vs, rfl, hq, hp⟩ := viewS_ok rs hv ra
      have hl := hp.length
      rcases hq with hq | hq
      · exact CallW.by call_len ⟨_, cs.length, rfl, .inl ⟨_, hq, hl⟩, qv_d q (.int _)⟩
      · exact CallW.by call_len ⟨_, cs.length, rfl, .inr ⟨_, hq, hl⟩, qv_d q (.int _)⟩
    · cases e
theorem int_ok (rs : RS K x) {a : Cell} {v : V} (ra : RpC K x.F x.io a v) (w : Wp K lo W σ x (primR lo .int_ [a] x.S) (QV K Q)) : CallW X (.type "int") [v] x.H Q := by
  obtain ⟨p, e, q⟩ := prim_map rs rfl w
  unfold intSem at e
  split at e
  · cases e; rw [rc_bl ra]; exact CallW.by call_int1 (.inr ⟨_, rfl, qv_d q (.int _)⟩)
  · cases e; rw [rc_int ra]; exact CallW.by call_int1 (.inl ⟨_, rfl, qv_d q (.int _)⟩)
  · cases e
theorem neg_ok (rs : RS K x) {a : Cell} {v : V} (ra : RpC K x.F x.io a v) (w : Wp K lo W σ x (primR lo .neg [a] x.S) (QV K Q)) : ∃ i, v = .int i ∧ Q (.int (-i)) x.H := by
  obtain ⟨p, e, q⟩ := prim_map rs rfl w
  unfold negSem at e
  split at e
  · cases e; exact ⟨_, rc_int ra, qv_d q (.int _)⟩
  · cases e
theorem not_ok (rs : RS K x) {a : Cell} {v : V} (ra : RpC K x.F x.io a v) (w : Wp K lo W σ x (primR lo .not [a] x.S) (QV K Q)) : ∃ k, TruV K v x.H k ∧ Q (.bl (!k)) x.H := by
  obtain ⟨p, e, q⟩ := prim_map rs rfl w
  unfold ovB at e
  simp only [Option.map_eq_some_iff] at e
  obtain ⟨r, ⟨k, e, rfl⟩, rfl⟩ := e
  exact ⟨k, truth_ok rs e ra, qv_d q (.bl _)⟩
/-- a new tuple -/
theorem newTup (rs : RS K x) {ds : List D} {vs : List V} (r : Rp K x.F (.all ds vs)) {P : Sta → PV → Prop} (w : Wp K lo W σ x (.ok (.v (.d (.tup ds))) x.S) (QV K Q)) (p : Addr) (hp : x.H p = none) : Q (.ref p) (upd x.H p (.tup vs)) := by
  have rs' : RS K ⟨upd x.F p (.tup vs), x.io, x.S, upd x.H p (.tup vs)⟩ := rs.newF hp
  have st : Stp lo x ⟨upd x.F p (.tup vs), x.io, x.S, upd x.H p (.tup vs)⟩ := Stp.newF' rs hp
  exact (Wp.to (y := ⟨upd x.F p (.tup vs), x.io, x.S, upd x.H p (.tup vs)⟩) w st rs') (.ref p) (.d (.tup (SqT.of upd_same) (r.mono st.ff)))
theorem prim_map' {p : Prim} {cs : List Cell} {o : Option PV} (e : primSem lo p cs x.S = o.map fun v => (v, x.S)) (w : Wp K lo W σ x (primR lo p cs x.S) (QV K Q)) : ∃ v, o = some v ∧ Wp K lo W σ x (.ok v x.S) (QV K Q) := by
  obtain ⟨v, S', h, w⟩ := prim_inv w
  rw [e] at h
  cases o with
  | none => cases h
  | some u =>
    obtain ⟨rfl, rfl⟩ := Prod.mk.inj (show (u, x.S) = (v, S') from Option.some.inj h)
    exact ⟨_, rfl, w⟩
theorem tup_ok (rs : RS K x) {cs : List Cell} {vs : List V} (ra : Paired (RpC K x.F x.io) cs vs) (w : Wp K lo W σ x (primR lo .tup cs x.S) (QV K Q)) : vs.length ≤ sizeLine ∧ ∀ p, x.H p = none → Q (.ref p) (upd x.H p (.tup vs)) := by
  obtain ⟨p, e, w⟩ := prim_map' rfl w
  unfold tupSem at e
  split at e
  · rename_i hl
    simp only [Option.map_eq_some_iff] at e
    obtain ⟨ds, e1, rfl⟩ := e
    exact ⟨by rw [← ra.length]; exact hl, fun p hp => newTup (P := fun _ _ => True) rs (allD_ok e1 ra) w p hp⟩
  · cases e
theorem lst_ok (rs : RS K x) {cs : List Cell} {vs : List V} (ra : Paired (RpC K x.F x.io) cs vs) (w : Wp K lo W σ x (primR lo .lst cs x.S) (QV K Q)) : vs.length ≤ sizeLine ∧ ∀ p, x.H p = none → Q (.ref p) (upd x.H p (.lst vs)) := by
  obtain ⟨p, e, w⟩ := prim_map' rfl w
  split at e
  · rename_i hl
    cases e
    have hl' : vs.length ≤ sizeLine := by rw [← ra.length]; exact hl
    exact ⟨hl', fun p hp => Wp.ok w rs p vs hp ra hl'⟩
  · cases e
theorem list_ok (hK : X.K = K) (rs : RS K x) {a : Cell} {v : V} (ra : RpC K x.F x.io a v) (w : Wp K lo W σ x (primR lo .list_ [a] x.S) (QV K Q)) : CallW X (.type "list") [v] x.H Q := by
  subst hK
  obtain ⟨p, e, w⟩ := prim_map' rfl w
  simp only [Option.map_eq_some_iff] at e
  obtain ⟨cs, e1, rfl⟩ := e
  obtain ⟨a', vs, rfl, hq, hp⟩ := viewS_ok rs e1 ra
  intro pins s σ us I ru
  have hl : vs.length ≤ sizeLine := by
    rcases hq with hq | hq
    · obtain ⟨_, _, _, z⟩ := I.list hq; exact z
    · obtain ⟨_, _, _, z⟩ := I.tuple hq; exact z
  exact CallW.by call_list_of ⟨_, _, rfl, hq, fun p hn => Wp.ok w rs p vs hn hp hl⟩ pins s σ us I ru
theorem tuple_ok (hK : X.K = K) (rs : RS K x) {a : Cell} {v : V} (ra : RpC K x.F x.io a v) (w : Wp K lo W σ x (primR lo .tuple_ [a] x.S) (QV K Q)) : CallW X (.type "tuple") [v] x.H Q := by
  subst hK
  obtain ⟨p, e, w⟩ := prim_map' rfl w
  unfold tupleSem at e
  split at e
  · rename_i ds e1
    cases e
    obtain ⟨a', vs, rfl, hq, hp⟩ := viewT_ok rs e1 ra
    refine CallW.by call_tuple_of ⟨_, _, rfl, .inr ⟨hq, Wp.ok w rs _ ?_⟩⟩
    unfold viewT at e1
    split at e1 <;> cases e1
    exact ra
  · simp only [Option.bind_eq_some_iff, Option.map_eq_some_iff] at e
    obtain ⟨cs, e1, ds, e2, rfl⟩ := e
    obtain ⟨a', vs, rfl, hq, hp⟩ := viewL_ok rs e1 ra
    exact CallW.by call_tuple_of ⟨_, _, rfl, .inl ⟨hq, fun p hn => newTup (P := fun _ _ => True) rs (allD_ok e2 hp) w p hn⟩⟩
theorem all_ok (hc : X.calm = true) (hK : X.K = K) (rs : RS K x) {a : Cell} {v : V} (ra : RpC K x.F x.io a v) (w : Wp K lo W σ x (primR lo .all_ [a] x.S) (QV K Q)) : CallW X (.builtin "all") [v] x.H Q := by
  subst hK
  obtain ⟨p, e, q⟩ := prim_map rs rfl w
  unfold boolsSem at e
  simp only [Option.bind_eq_some_iff, Option.map_eq_some_iff] at e
  obtain ⟨cs, e1, bs, e2, rfl⟩ := e
  obtain ⟨a', vs, rfl, hq, hp⟩ := viewL_ok rs e1 ra
  rw [bools_ok e2 hp] at hq
  exact CallW.by (cr_all hc) ⟨_, bs, rfl, hq, qv_d q (.bl _)⟩
theorem any_ok (hc : X.calm = true) (hK : X.K = K) (rs : RS K x) {a : Cell} {v : V} (ra : RpC K x.F x.io a v) (w : Wp K lo W σ x (primR lo .any_ [a] x.S) (QV K Q)) : CallW X (.builtin "any") [v] x.H Q := by
  subst hK
  obtain ⟨p, e, q⟩ := prim_map rs rfl w
  unfold boolsSem at e
  simp only [Option.bind_eq_some_iff, Option.map_eq_some_iff] at e
  obtain ⟨cs, e1, bs, e2, rfl⟩ := e
  obtain ⟨a', vs, rfl, hq, hp⟩ := viewL_ok rs e1 ra
  rw [bools_ok e2 hp] at hq
  exact CallW.by (cr_any hc) ⟨_, bs, rfl, hq, qv_d q (.bl _)⟩
theorem kit_le : ∀ a b : Ty, b ≠ .non → kitB a.name b.name = some (a.le b) := by
  intro a b h
  cases a <;> cases b <;> first | exact absurd rfl h | decide +kernel
theorem tyx_sqL {H : Hp} {a : Addr} {vs : List V} (h : SqL K H a vs) : TyX K H (.ref a) (.type "list") := by
  rcases h with (h | ⟨o, h⟩) | ⟨o, its, n, h1, h2, _⟩
  · exact .base (.lst h)
  · exact .base (.frz h)
  · exact .kList h1 h2
theorem tyx_sqT {H : Hp} {a : Addr} {vs : List V} (h : SqT K H a vs) : TyX K H (.ref a) (.type "tuple") := by
  rcases h with (h | ⟨o, h⟩) | ⟨o, its, n, h1, h2, _⟩
  · exact .base (.tup h)
  · exact .fTuple h
  · exact .kTuple h1 h2
theorem ty_ok (rs : RS K x) {a : Cell} {v : V} {t : Ty} (h : tyC x.S a = some t) (ra : RpC K x.F x.io a v) : TyX K x.H v (.type t.name) := by
  unfold tyC at h
  split at h
  · cases h; cases ra with | d ra => rw [rp_non ra]; exact .base .non
  · cases h; rw [rc_bl ra]; exact .base (.bl _)
  · cases h; rw [rc_int ra]; exact .base (.int _)
  · cases h; rw [rc_str ra]; exact .base (.str _)
  · cases h; cases ra with | d ra => cases ra with | tup s t => exact tyx_sqT (sqT_mono rs.fh s)
  · cases h; cases ra with | d ra => cases ra with | lst s t => exact tyx_sqL (sqL_mono rs.fh s)
  · cases h; cases ra with | d ra => cases ra with
    | dct s t =>
      rcases rs.fh.rd _ _ s with s | ⟨o, s⟩
      · exact .base (.dK s)
      · exact .fDict s
  · rename_i n
    split at h
    · rename_i cs e2
      cases h
      cases ra with
      | r e =>
        obtain ⟨a, ea, q⟩ := rs.ob n _ e2
        rw [e] at ea
        cases ea
        cases q with | lst h1 h2 => exact tyx_sqL (SqL.of h1)
    · rename_i cs e2
      cases h
      cases ra with
      | r e =>
        obtain ⟨a, ea, q⟩ := rs.ob n _ e2
        rw [e] at ea
        cases ea
        cases q with | frz h1 => cases h1 with | lst s t => exact tyx_sqL (sqL_mono rs.fh s)
    · cases h
  · cases h
theorem isi_ok (hK : X.K = K) (rs : RS K x) {t : Ty} (ht : t ≠ .non) {a b : Cell} {v u : V} (ra : RpC K x.F x.io a v) (rb : RpC K x.F x.io b u) (w : Wp K lo W σ x (primR lo (.isinst t) [a, b] x.S) (QV K Q)) : CallW X (.builtin "isinstance") [v, u] x.H Q := by
  subst hK
  obtain ⟨p, e, q⟩ := prim_map rs rfl w
  unfold isiSem at e
  split at e
  · rename_i n
    split at e
    · rename_i hn
      simp only [Option.map_eq_some_iff] at e
      obtain ⟨z, e1, rfl⟩ := e
      have hu : u = .ty t.name := by
        cases rb with
        | d rb => cases rb; rw [hn]
      subst hu
      exact CallW.by call_isi ⟨v, _, _, _, z.le t, rfl, .ty _, ty_ok rs e1 ra, kit_ty (kit_le z t ht), qv_d q (.bl _)⟩
    · cases e
  · cases e
end
end Mi
/-! M5: what changes the store; frozen and laid values; argument lists. -/
namespace Mi
open PySem PySem.Spec L2
def MtW (X : Cx) (id : String) : V → List V → Hp → VK → Prop := fun a xs H Q => ∀ pins s σ v us, Inv X pins σ H s → RelV a v → Vals xs us → wpAny (model X.prog X.w) X.A (call (.builtin id) (v :: us)) (EP X pins σ Q) X.xe s
theorem mtW {X : Cx} {id : String} : MtR X id (MtW X id) := fun pins s σ H x xs v us Q I rx r h => h pins s σ v us I rx r
theorem MtW.by {X : Cx} {id : String} {r : V → List V → Hp → VK → Prop} (h : MtR X id r) {a : V} {xs : List V} {H : Hp} {Q : VK} (q : r a xs H Q) : MtW X id a xs H Q := fun pins s σ v us I ra rb => h pins s σ H a xs v us Q I ra rb q

section
variable {X : Cx} {K : Kf} {lo : Lim} {W : WX} {σ : SSt} {x : Sta} {Q : VK}
theorem at_inj {io : List Addr} (nd : io.Nodup) {n m : Nat} {a : Addr} (h1 : io[n]? = some a) (h2 : io[m]? = some a) : n = m := by
  obtain ⟨l1, e1⟩ := List.getElem?_eq_some_iff.mp h1
  obtain ⟨l2, e2⟩ := List.getElem?_eq_some_iff.mp h2
  exact (List.getElem_inj nd).mp (e1.trans e2.symm)
/-- the object of a place is changed -/
theorem RS.put (rs : RS K x) {n : Nat} {a : Addr} {o o' : Ob} {u : HO} (hn : x.S[n]? = some o) (ha : x.io[n]? = some a) (nf : ∀ z, o ≠ Ob.frz z) (r : ObR K x.F x.io (upd x.H a u) o' a) :
    RS K ⟨x.F, x.io, x.S.set n o', upd x.H a u⟩ := by
  have hf : x.F a = none := rs.nf n a o ha hn nf
  have hl : n < x.S.length := (List.getElem?_eq_some_iff.mp hn).1
  have le : Le x.F (upd x.H a u) := by
    refine ⟨fun b w q => ?_, fun b C dx fs q => ?_⟩
    · have ne : b ≠ a := by
        rintro rfl
        rcases q with q | ⟨_, q⟩ <;> (rw [hf] at q; cases q)
      have q2 := rs.fh.rd b w q
      unfold Rd at q2 ⊢
      rw [L2.upd_ne ne]
      exact q2
    · have ne : b ≠ a := by
        rintro rfl
        rw [hf] at q; cases q
      rw [L2.upd_ne ne]
      exact rs.fh.ins b C dx fs q
  refine ⟨le, by show x.io.length = (x.S.set n o').length; rw [List.length_set]; exact rs.len, rs.nd, fun m b ob e1 e2 e3 => ?_, fun m ob e => ?_, fun b hb => upd_some (rs.th b hb)⟩
  · by_cases hm : n = m
    · subst hm
      have e1' : x.io[n]? = some b := e1
      rw [ha] at e1'
      cases e1'
      exact hf
    · have e2' : (x.S.set n o')[m]? = some ob := e2
      rw [List.getElem?_set_ne hm] at e2'
      exact rs.nf m b ob e1 e2' e3
  · by_cases hm : n = m
    · subst hm
      have e' : (x.S.set n o')[n]? = some ob := e
      rw [List.getElem?_set_self hl] at e'
      cases e'
      exact ⟨a, ha, r⟩
    · have e' : (x.S.set n o')[m]? = some ob := e
      rw [List.getElem?_set_ne hm] at e'
      obtain ⟨b, eb, q⟩ := rs.ob m ob e'
      refine ⟨b, eb, ?_⟩
      have ne : b ≠ a := fun z => hm (at_inj rs.nd (z ▸ ha) eb)
      exact q.upd_ne ne
theorem Stp.put (rs : RS K x) {n : Nat} {a : Addr} {o o' : Ob} {u : HO} (hn : x.S[n]? = some o) (ha : x.io[n]? = some a) (hr : n < lo.lo → ∀ j ∈ refs o', j ∈ refs o) (hro : lo.ro ≤ n) :
    Stp lo x ⟨x.F, x.io, x.S.set n o', upd x.H a u⟩ := by
  have hl : n < x.S.length := (List.getElem?_eq_some_iff.mp hn).1
  refine ⟨Le.refl _, fun _ _ q => q, fun b w e nm => ?_, fun _ q => .inl q, fun _ q => .inl q, fun m hm => ?_, fun m hm ob e => ?_⟩
  · have ne : b ≠ a := fun z => nm (z ▸ List.mem_of_getElem? ha)
    show upd x.H a u b = some w
    rw [L2.upd_ne ne]
    exact e
  · show (x.S.set n o')[m]? = x.S[m]?
    rw [List.getElem?_set_ne (by omega)]
  · by_cases h : n = m
    · subst h
      have e' : (x.S.set n o')[n]? = some ob := e
      rw [List.getElem?_set_self hl] at e'
      cases e'
      exact ⟨o, hn, hr hm⟩
    · have e' : (x.S.set n o')[m]? = some ob := e
      rw [List.getElem?_set_ne h] at e'
      exact ⟨ob, e', fun _ z => z⟩
theorem obR_lst {F : Hp} {io : List Addr} {H : Hp} {a : Addr} {cs : List Cell} (h : ObR K F io H (.lst cs) a) : ∃ vs, H a = some (.lst vs) ∧ Paired (RpC K F io) cs vs := by
  cases h with | lst h1 h2 => exact ⟨_, h1, h2⟩
theorem paired_erase {R : Cell → V → Prop} : ∀ {cs : List Cell} {vs : List V} (j : Nat), Paired R cs vs → Paired R (cs.eraseIdx j) (vs.eraseIdx j)
  | _, _, _, .nil => .nil
  | _, _, 0, .cons _ t => t
  | _, _, j + 1, .cons r t => .cons r (paired_erase j t)
theorem paired_set {R : Cell → V → Prop} {c : Cell} {v : V} (r : R c v) : ∀ {cs : List Cell} {vs : List V} (j : Nat), Paired R cs vs → Paired R (cs.set j c) (vs.set j v)
  | _, _, _, .nil => .nil
  | _, _, 0, .cons _ t => .cons r t
  | _, _, j + 1, .cons q t => .cons q (paired_set r j t)
theorem paired_app {R : Cell → V → Prop} : ∀ {cs ds : List Cell} {vs us : List V}, Paired R cs vs → Paired R ds us → Paired R (cs ++ ds) (vs ++ us)
  | _, _, _, _, .nil, s => s
  | _, _, _, _, .cons r t, s => .cons r (paired_app t s)
theorem mem_erase {α : Type} {a : α} {l : List α} {i : Nat} (h : a ∈ l.eraseIdx i) : a ∈ l := List.mem_of_mem_eraseIdx h
/-- a list of the store at hand -/
theorem RS.lstAt (rs : RS K x) {n : Nat} {cs : List Cell} {v : V} (hn : x.S[n]? = some (.lst cs)) (r : RpC K x.F x.io (.r n) v) : ∃ a vs, v = .ref a ∧ x.io[n]? = some a ∧ x.H a = some (.lst vs) ∧ Paired (RpC K x.F x.io) cs vs := by
  cases r with
  | r e =>
    obtain ⟨b, eb, q⟩ := rs.ob n _ hn
    rw [e] at eb
    cases eb
    obtain ⟨vs, h1, h2⟩ := obR_lst q
    exact ⟨_, vs, rfl, e, h1, h2⟩
/-- a list of the store is changed to other items -/
theorem lst_put (rs : RS K x) {n : Nat} {cs cs' : List Cell} {a : Addr} {vs vs' : List V} (hn : x.S[n]? = some (.lst cs)) (ha : x.io[n]? = some a) (hp : Paired (RpC K x.F x.io) cs' vs') (hr : n < lo.lo → ∀ j ∈ refs (.lst cs'), j ∈ refs (.lst cs)) (hro : lo.ro ≤ n) :
    RS K ⟨x.F, x.io, x.S.set n (.lst cs'), upd x.H a (.lst vs')⟩ ∧ Stp lo x ⟨x.F, x.io, x.S.set n (.lst cs'), upd x.H a (.lst vs')⟩ :=
  ⟨rs.put hn ha (fun z => by intro w; cases w) (.lst upd_same hp), Stp.put rs hn ha hr hro⟩
theorem pop_ok (rs : RS K x) {a i : Cell} {v u : V} (ra : RpC K x.F x.io a v) (ri : RpC K x.F x.io i u) (w : Wp K lo W σ x (primR lo .popAt [a, i] x.S) (QV K Q)) : MtW X "list.pop" v [u] x.H Q := by
  obtain ⟨p, S', e, w⟩ := prim_inv w
  replace e : popSem lo x.S a i = some (p, S') := e
  unfold popSem at e
  split at e
  · rename_i n k
    split at e
    · rename_i cs hn
      split at e
      case isFalse => cases e
      rename_i hro
      split at e
      · rename_i j hj
        split at e
        · rename_i c hc
          obtain ⟨rfl, rfl⟩ := Prod.mk.inj (Option.some.inj e)
          obtain ⟨b, vs, rfl, hb, hH, hp⟩ := rs.lstAt hn ra
          obtain ⟨z, hz, rz⟩ := paired_at hp hc
          obtain ⟨rs', st⟩ := lst_put (lo := lo) (vs := vs) rs hn hb (paired_erase j hp) (fun _ m hm => by
            unfold refs at hm ⊢
            obtain ⟨c', h1, h2⟩ := List.mem_flatMap.mp hm
            exact List.mem_flatMap.mpr ⟨c', mem_erase h1, h2⟩) hro
          rw [rc_int ri]
          intro pins s σ v0 us I rv ru
          obtain ⟨its, m, rr, _, hsz⟩ := I.lst hH
          have hs := sizeLine_eq
          obtain ⟨q1, q2, q3, q4⟩ := ixN_seq hj
          have hlen := hp.length
          refine MtW.by mt_popAt ⟨b, vs, k, j, z, rfl, rfl, hH, by omega, by omega, by rw [← hlen]; exact q1, hz, ?_⟩ pins s σ v0 us I rv ru
          exact Wp.to (y := ⟨x.F, x.io, x.S.set n (.lst (cs.eraseIdx j)), upd x.H b (.lst (vs.eraseIdx j))⟩) w st rs' z (rz.stp st)
        · cases e
      · cases e
    · cases e
  · cases e
/-- xs[i] = v -/
theorem setItem_ok (rs : RS K x) {a i c : Cell} {va vi v : V} {S' : Stg} (h : setItem lo x.S a i c = some S') (ra : RpC K x.F x.io a va) (ri : RpC K x.F x.io i vi) (rc : RpC K x.F x.io c v) {P : Hp → Prop}
    (q : ∀ y : Sta, y.S = S' → Stp lo x y → RS K y → P y.H) : rSetL va vi v x.H P := by
  unfold setItem at h
  split at h
  · rename_i n k
    split at h
    · rename_i cs hn
      split at h
      · rename_i hpl
        obtain ⟨hpl, hro⟩ := Bool.and_eq_true_iff.mp hpl
        have hro := of_decide_eq_true hro
        simp only [Option.map_eq_some_iff] at h
        obtain ⟨j, hj, rfl⟩ := h
        obtain ⟨b, vs, rfl, hb, hH, hp⟩ := rs.lstAt hn ra
        obtain ⟨rs', st⟩ := lst_put (lo := lo) (vs := vs) rs hn hb (paired_set rc j hp) (fun hlo m hm => by
          unfold refs at hm ⊢
          obtain ⟨c', h1, h2⟩ := List.mem_flatMap.mp hm
          rcases List.mem_or_eq_of_mem_set h1 with h1 | rfl
          · exact List.mem_flatMap.mpr ⟨c', h1, h2⟩
          · cases c' with
            | d _ => cases h2
            | r _ =>
              have : lo.lo ≤ n := of_decide_eq_true hpl
              omega) hro
        rw [rc_int ri]
        refine ⟨b, vs, k, j, rfl, rfl, hH, by rw [← hp.length]; exact hj, ?_⟩
        exact q ⟨x.F, x.io, x.S.set n (.lst (cs.set j c)), upd x.H b (.lst (vs.set j v))⟩ rfl st rs'
      · cases h
    · cases h
  · cases h

/-! ### frozen, laid -/
theorem freeze_ok (rs : RS K x) {p : PV} (w : Wp K lo W σ x (freeze x.S p) (QC K Q)) : QV K Q x p := by
  cases p with
  | v c =>
    have h : QC K Q x c := Wp.ok (show Wp K lo W σ x (.ok c x.S) (QC K Q) from w) rs
    exact h
  | l cs =>
    intro a vs ha hp hl
    have w2 : Wp K lo W σ x (match allD cs with | some ds => Res.ok (Cell.d (D.lst ds)) x.S | none => Res.bad) (QC K Q) := w
    clear w
    cases e : allD cs with
    | none => rw [e] at w2; exact w2.elim
    | some ds =>
      rw [e] at w2
      have rs' : RS K ⟨upd x.F a (.lst vs), x.io, x.S, upd x.H a (.lst vs)⟩ := rs.newF ha
      have st : Stp lo x ⟨upd x.F a (.lst vs), x.io, x.S, upd x.H a (.lst vs)⟩ := Stp.newF' rs ha
      exact Wp.to (y := ⟨upd x.F a (.lst vs), x.io, x.S, upd x.H a (.lst vs)⟩) w2 st rs' (.ref a) (.d (.lst (SqL.of upd_same) ((allD_ok e hp).mono st.ff)))
/-- a new place of the store -/
theorem RS.lay (rs : RS K x) {a : Addr} {vs : List V} {cs : List Cell} (ha : x.H a = none) (hp : Paired (RpC K x.F x.io) cs vs) (hlo : lo.lo ≤ x.S.length) (hro : lo.ro ≤ x.S.length) :
    RS K ⟨x.F, x.io ++ [a], x.S ++ [.lst cs], upd x.H a (.lst vs)⟩ ∧ Stp lo x ⟨x.F, x.io ++ [a], x.S ++ [.lst cs], upd x.H a (.lst vs)⟩ := by
  have ni := rs.ni ha
  have nf := rs.nof ha
  have pre : ∀ (n : Nat) (b : Addr), x.io[n]? = some b → (x.io ++ [a])[n]? = some b := fun n b h => by
    rw [List.getElem?_append_left (List.getElem?_eq_some_iff.mp h).1]
    exact h
  have r1 : RS K ⟨x.F, x.io, x.S, upd x.H a (.lst vs)⟩ := rs.new ha
  refine ⟨⟨r1.fh, by simp [rs.len], ?_, fun n b ob e1 e2 e3 => ?_, fun n ob e => ?_, fun b hb => ?_⟩, ⟨Le.refl _, pre, fun b o e _ => ?_, fun _ q => .inl q, fun b hb => ?_, fun n hn => ?_, fun n hn o' e => ?_⟩⟩
  · show (x.io ++ [a]).Nodup
    rw [List.nodup_append]
    exact ⟨rs.nd, by simp, fun b hb c hc => by
      rw [List.mem_singleton.mp hc]
      rintro rfl
      exact ni hb⟩
  · replace e1 : (x.io ++ [a])[n]? = some b := e1
    replace e2 : (x.S ++ [Ob.lst cs])[n]? = some ob := e2
    by_cases h : n < x.io.length
    · rw [List.getElem?_append_left h] at e1
      rw [List.getElem?_append_left (by rw [← rs.len]; exact h)] at e2
      exact rs.nf n b ob e1 e2 e3
    · rw [List.getElem?_append_right (by omega)] at e1
      have hz : n - x.io.length = 0 := by
        rcases Nat.eq_zero_or_pos (n - x.io.length) with z | z
        · exact z
        · rw [List.getElem?_eq_none (by simp; omega)] at e1
          cases e1
      rw [hz] at e1
      cases e1
      exact nf
  · replace e : (x.S ++ [Ob.lst cs])[n]? = some ob := e
    by_cases h : n < x.S.length
    · rw [List.getElem?_append_left h] at e
      obtain ⟨b, eb, q⟩ := r1.ob n ob e
      exact ⟨b, pre n b eb, q.mono (Le.refl _) pre⟩
    · rw [List.getElem?_append_right (by omega)] at e
      have hz : n - x.S.length = 0 := by
        rcases Nat.eq_zero_or_pos (n - x.S.length) with z | z
        · exact z
        · rw [List.getElem?_eq_none (by simp; omega)] at e
          cases e
      rw [hz] at e
      cases e
      have hn : n = x.io.length := by rw [rs.len]; omega
      refine ⟨a, ?_, .lst upd_same (Paired.mapP hp fun _ _ q => q.mono (Le.refl _) pre)⟩
      show (x.io ++ [a])[n]? = some a
      rw [hn]
      simp
  · rcases List.mem_append.mp hb with hb | hb
    · exact upd_some (rs.th b hb)
    · rw [List.mem_singleton.mp hb]
      show upd x.H a (.lst vs) a ≠ none
      rw [upd_same]
      exact fun z => nomatch z
  · show upd x.H a (.lst vs) b = some o
    rw [L2.upd_ne (ne_of_none e ha)]
    exact e
  · rcases List.mem_append.mp hb with hb | hb
    · exact .inl hb
    · rw [List.mem_singleton.mp hb]
      exact .inr ha
  · show (x.S ++ [Ob.lst cs])[n]? = x.S[n]?
    rw [List.getElem?_append_left (Nat.lt_of_lt_of_le hn hro)]
  · replace e : (x.S ++ [Ob.lst cs])[n]? = some o' := e
    rw [List.getElem?_append_left (Nat.lt_of_lt_of_le hn hlo)] at e
    exact ⟨o', e, fun _ z => z⟩
theorem lay_ok (rs : RS K x) (hlo : lo.lo ≤ x.S.length) (hro : lo.ro ≤ x.S.length) {p : PV} (w : Wp K lo W σ x (lay x.S p) (QC K Q)) : QV K Q x p := by
  cases p with
  | v c =>
    have h : QC K Q x c := Wp.ok (show Wp K lo W σ x (.ok c x.S) (QC K Q) from w) rs
    exact h
  | l cs =>
    intro a vs ha hp hl
    obtain ⟨rs', st⟩ := rs.lay (lo := lo) ha hp hlo hro
    have h : QC K Q ⟨x.F, x.io ++ [a], x.S ++ [.lst cs], upd x.H a (.lst vs)⟩ (.r x.S.length) := Wp.to (y := ⟨x.F, x.io ++ [a], x.S ++ [.lst cs], upd x.H a (.lst vs)⟩) (show Wp K lo W σ x (.ok (.r x.S.length) (x.S ++ [.lst cs])) (QC K Q) from w) st rs'
    refine h (.ref a) (.r ?_)
    show (x.io ++ [a])[x.S.length]? = some a
    rw [← rs.len]
    simp
end
end Mi
/-! M6: expressions. -/
namespace Mi
open PySem PySem.Spec L2
section
variable {X : Cx} {Φ : FT} {lo : Lim} {W : WX}
abbrev SE (X : Cx) (Φ : FT) (lo : Lim) (W : WX) (e : Expr) (c : CE) : Prop := PE X e (TV X.K lo W (evV Φ lo c))
abbrev SC (X : Cx) (Φ : FT) (lo : Lim) (W : WX) (e : Expr) (c : CE) : Prop := PE X e (TC X.K lo W (ev Φ lo c))
abbrev SA (X : Cx) (Φ : FT) (lo : Lim) (W : WX) (e : List Expr) (c : List CE) : Prop := PA X e (TAr X.K lo W (evs Φ lo c))
/-- a test -/
def evB (Φ : FT) (lo : Lim) (c : CE) (ρ : Rho) (S : Stg) : Res Bool := (ev Φ lo c ρ S).bind fun v S1 => Res.of (truth S1 v) S1
abbrev SB (X : Cx) (Φ : FT) (lo : Lim) (W : WX) (e : Expr) (c : CE) : Prop := PT X e (TB X.K lo W (evB Φ lo c))
variable {e a b : Expr} {ca cb cc : CE} {pos : Pos}
theorem sc_of (h : SE X Φ lo W e cc) : SC X Φ lo W e cc := PE.imp h fun σ H Q ⟨x, ρ, g, w⟩ =>
  ⟨x, ρ, g, Wp.mono (Wp.bind w) fun y p s ry w2 => freeze_ok ry w2⟩
theorem args1 {α : Type} {K : Kf} {σ : SSt} {x : Sta} {ρ : Rho} {g : List Cell → Stg → Res α} {Q : Sta → α → Prop} (w : Wp K lo W σ x ((evs Φ lo [ca] ρ x.S).bind g) Q) :
    Wp K lo W σ x (ev Φ lo ca ρ x.S) fun y c => Wp K lo W σ y (g [c] y.S) Q := by
  have w1 : Wp K lo W σ x ((ev Φ lo ca ρ x.S).bind fun c S1 => g [c] S1) Q := by
    have e : (evs Φ lo [ca] ρ x.S).bind g = (ev Φ lo ca ρ x.S).bind fun c S1 => g [c] S1 := by
      show ((ev Φ lo ca ρ x.S).bind fun c S1 => (Res.ok [] S1).bind fun cs S2 => .ok (c :: cs) S2).bind g = _
      cases ev Φ lo ca ρ x.S <;> rfl
    rw [← e]
    exact w
  exact Wp.bind w1
theorem args2 {α : Type} {K : Kf} {σ : SSt} {x : Sta} {ρ : Rho} {g : List Cell → Stg → Res α} {Q : Sta → α → Prop} (w : Wp K lo W σ x ((evs Φ lo [ca, cb] ρ x.S).bind g) Q) :
    Wp K lo W σ x (ev Φ lo ca ρ x.S) fun y c => Wp K lo W σ y (ev Φ lo cb ρ y.S) fun z d => Wp K lo W σ z (g [c, d] z.S) Q := by
  have w1 : Wp K lo W σ x ((ev Φ lo ca ρ x.S).bind fun c S1 => (ev Φ lo cb ρ S1).bind fun d S2 => g [c, d] S2) Q := by
    have e : (evs Φ lo [ca, cb] ρ x.S).bind g = (ev Φ lo ca ρ x.S).bind fun c S1 => (ev Φ lo cb ρ S1).bind fun d S2 => g [c, d] S2 := by
      show ((ev Φ lo ca ρ x.S).bind fun c S1 => ((ev Φ lo cb ρ S1).bind fun d S2 => (Res.ok [] S2).bind fun cs S2 => .ok (d :: cs) S2).bind fun cs S2 => .ok (c :: cs) S2).bind g = _
      cases ev Φ lo ca ρ x.S with
      | ok c S1 =>
        show (((ev Φ lo cb ρ S1).bind fun d S2 => (Res.ok [] S2).bind fun cs S2 => .ok (d :: cs) S2).bind fun cs S2 => .ok (c :: cs) S2).bind g = (ev Φ lo cb ρ S1).bind fun d S2 => g [c, d] S2
        cases ev Φ lo cb ρ S1 <;> rfl
      | exc _ _ => rfl
      | bad => rfl
    rw [← e]
    exact w
  exact Wp.mono (Wp.bind w1) fun y c _ _ w2 => Wp.bind w2
theorem s_cst {d : D} {v : V} (h : PE X e (tC v)) (r : ∀ F, Rp X.K F (.one d v)) : SE X Φ lo W e (.cst d) := PE.imp h fun σ H Q ⟨x, ρ, g, w⟩ => by
  have q : QV X.K Q x (.v (.d d)) := Wp.ok (show Wp X.K lo W σ x (.ok (.v (.d d)) x.S) (QV X.K Q) from w) g.rs
  show Q v H
  rw [← g.h]
  exact q v (.d (r _))
theorem s_var {i : Nat} (h : PE X e (tVar i)) : SE X Φ lo W e (.var i) := PE.imp h fun σ H Q ⟨x, ρ, g, w⟩ => by
  have w2 : Wp X.K lo W σ x (match ρ[i]? with | some (some c) => Res.ok (PV.v c) x.S | _ => Res.bad) (QV X.K Q) := w
  clear w
  cases e : ρ[i]? with
  | none => rw [e] at w2; exact w2.elim
  | some o =>
    rw [e] at w2
    cases o with
    | none => exact w2.elim
    | some c =>
      obtain ⟨v, e1, r⟩ := g.re.at_ i c e
      have q : QV X.K Q x (.v c) := Wp.ok w2 g.rs
      refine ⟨v, e1, ?_⟩
      rw [← g.h]
      exact q v r
/-- a two-place operation -/
theorem s_op2 {f : Expr → Expr → Expr} {p : Prim} {r : R2} (h : ∀ {ta tb : TE}, PE X a ta → PE X b tb → PE X (f a b) (tOp r ta tb))
    (hp : ∀ {σ : SSt} {x : Sta} {Q : VK} {c d : Cell} {v u : V}, RS X.K x → RpC X.K x.F x.io c v → RpC X.K x.F x.io d u → Wp X.K lo W σ x (primR lo p [c, d] x.S) (QV X.K Q) → r v u x.H Q)
    (ha : SC X Φ lo W a ca) (hb : SC X Φ lo W b cb) : SE X Φ lo W (f a b) (.prim p [ca, cb]) := PE.imp (h ha hb) fun σ H Q ⟨x, ρ, g, w⟩ => by
  refine ⟨x, ρ, g, Wp.mono (args2 w) fun y c s ry w1 v rv => ?_⟩
  refine ⟨y, ρ, g.stp s ry, Wp.mono w1 fun z d s2 rz w2 u ru => ?_⟩
  exact hp rz (rv.stp s2) ru w2
theorem s_op1 {f : Expr → Expr} {p : Prim} {r : V → Hp → VK → Prop} (h : ∀ {ta : TE}, PE X a ta → PE X (f a) (tUn r ta))
    (hp : ∀ {σ : SSt} {x : Sta} {Q : VK} {c : Cell} {v : V}, RS X.K x → RpC X.K x.F x.io c v → Wp X.K lo W σ x (primR lo p [c] x.S) (QV X.K Q) → r v x.H Q)
    (ha : SC X Φ lo W a ca) : SE X Φ lo W (f a) (.prim p [ca]) := PE.imp (h ha) fun σ H Q ⟨x, ρ, g, w⟩ => by
  refine ⟨x, ρ, g, Wp.mono (args1 w) fun y c s ry w1 v rv => ?_⟩
  exact hp ry rv w1
theorem s_bin {op : Operator} (ha : SC X Φ lo W a ca) (hb : SC X Φ lo W b cb) : SE X Φ lo W (.BinOp a op b pos) (.prim (.bin op) [ca, cb]) :=
  s_op2 (f := fun a b => .BinOp a op b pos) (fun ha hb => pe_op opW ha hb) (fun rs r1 r2 w => bin_ok rs r1 r2 w) ha hb
theorem s_cmp {op : CmpOp} (hu : X.A.units + 65 < cLine) (hm : behindInMarks op b = false) (ha : SC X Φ lo W a ca) (hb : SC X Φ lo W b cb) : SE X Φ lo W (.Compare a [op] [b] pos) (.prim (.cmp op) [ca, cb]) :=
  s_op2 (f := fun a _ => .Compare a [op] [b] pos) (a := a) (b := b) (fun ha hb => pe_cmpR opW ha hb hm) (fun rs r1 r2 w => cmp_ok hu rfl rs r1 r2 w) ha hb
theorem s_item (hs : PlainIx b) (ha : SC X Φ lo W a ca) (hb : SC X Φ lo W b cb) : SE X Φ lo W (.Subscript a b pos) (.prim .item [ca, cb]) :=
  s_op2 (f := fun a _ => .Subscript a b pos) (a := a) (b := b) (fun ha hb => pe_ix ixW ha hb hs) (fun rs r1 r2 w => item_ok rfl rs r1 r2 w) ha hb
theorem s_not (ha : SC X Φ lo W a ca) : SE X Φ lo W (.UnaryOp .Not a pos) (.prim .not [ca]) :=
  s_op1 (f := fun a => .UnaryOp .Not a pos) (r := fun v H Q => ∃ k, TruV X.K v H k ∧ Q (.bl (!k)) H) (fun ha => pe_notT ha) (fun rs r w => not_ok rs r w) ha
theorem s_neg (ha : SC X Φ lo W a ca) : SE X Φ lo W (.UnaryOp .USub a pos) (.prim .neg [ca]) :=
  s_op1 (f := fun a => .UnaryOp .USub a pos) (r := rU fun i => .int (-i)) (fun ha => pe_un un_neg ha) (fun rs r w => neg_ok rs r w) ha
/-- and, or, if -/
theorem truth_case {α : Type} {K : Kf} {σ : SSt} {x : Sta} {c : Cell} {Q : Sta → α → Prop} {f g : Res α} {v : V} (rs : RS K x) (r : RpC K x.F x.io c v)
    (w : Wp K lo W σ x (match truth x.S c with | some true => f | some false => g | none => .bad) Q) : ∃ k, TruV K v x.H k ∧ (k = true → Wp K lo W σ x f Q) ∧ (k = false → Wp K lo W σ x g Q) := by
  cases e : truth x.S c with
  | none => rw [e] at w; exact w.elim
  | some k =>
    rw [e] at w
    refine ⟨k, truth_ok rs e r, fun hk => ?_, fun hk => ?_⟩
    · subst hk; exact w
    · subst hk; exact w
theorem s_and {rest : List Expr} (ha : SC X Φ lo W a ca) (hb : SE X Φ lo W (.BoolOp .And (b :: rest) pos) cb) : SE X Φ lo W (.BoolOp .And (a :: b :: rest) pos) (.and ca cb) := PE.imp (pe_andT ha hb) fun σ H Q ⟨x, ρ, g, w⟩ => by
  refine ⟨x, ρ, g, Wp.mono (Wp.bind w) fun y c s ry w1 v rv => ?_⟩
  obtain ⟨k, h1, h2, h3⟩ := truth_case ry rv w1
  refine ⟨k, h1, ?_⟩
  cases k with
  | true => exact ⟨y, ρ, g.stp s ry, h2 rfl⟩
  | false =>
    have q : QV X.K Q y (.v c) := Wp.ok (h3 rfl) ry
    exact q v rv
theorem s_or {rest : List Expr} (ha : SC X Φ lo W a ca) (hb : SE X Φ lo W (.BoolOp .Or (b :: rest) pos) cb) : SE X Φ lo W (.BoolOp .Or (a :: b :: rest) pos) (.or ca cb) := PE.imp (pe_orT ha hb) fun σ H Q ⟨x, ρ, g, w⟩ => by
  refine ⟨x, ρ, g, Wp.mono (Wp.bind w) fun y c s ry w1 v rv => ?_⟩
  obtain ⟨k, h1, h2, h3⟩ := truth_case ry rv w1
  refine ⟨k, h1, ?_⟩
  cases k with
  | false => exact ⟨y, ρ, g.stp s ry, h3 rfl⟩
  | true =>
    have q : QV X.K Q y (.v c) := Wp.ok (h2 rfl) ry
    exact q v rv
theorem s_one {op : BoolOp} (ha : SE X Φ lo W a ca) : SE X Φ lo W (.BoolOp op [a] pos) ca := by
  cases op with
  | And => exact PE.imp (pe_one (op := .And) ha) fun _ _ _ h => h
  | Or => exact PE.imp (pe_one (op := .Or) ha) fun _ _ _ h => h
theorem s_ite {t : Expr} {ct : CE} (ht : SB X Φ lo W t ct) (ha : SE X Φ lo W a ca) (hb : SE X Φ lo W b cb) : SE X Φ lo W (.IfExp t a b pos) (.ite ct ca cb) := PE.imp (pe_ifExp ht ha hb) fun σ H Q ⟨x, ρ, g, w⟩ => by
  refine ⟨x, ρ, g, ?_⟩
  have w1 : Wp X.K lo W σ x ((evB Φ lo ct ρ x.S).bind fun k S1 => if k = true then evV Φ lo ca ρ S1 else evV Φ lo cb ρ S1) (QV X.K Q) := by
    have e : (evB Φ lo ct ρ x.S).bind (fun k S1 => if k = true then evV Φ lo ca ρ S1 else evV Φ lo cb ρ S1) = evV Φ lo (.ite ct ca cb) ρ x.S := by
      show ((ev Φ lo ct ρ x.S).bind fun v S1 => Res.of (truth S1 v) S1).bind _ = (ev Φ lo ct ρ x.S).bind fun c S1 => match truth S1 c with | some true => evV Φ lo ca ρ S1 | some false => evV Φ lo cb ρ S1 | none => .bad
      cases ev Φ lo ct ρ x.S with
      | ok v S1 =>
        show (Res.of (truth S1 v) S1).bind _ = match truth S1 v with | some true => evV Φ lo ca ρ S1 | some false => evV Φ lo cb ρ S1 | none => .bad
        cases truth S1 v with
        | none => rfl
        | some k => cases k <;> rfl
      | exc _ _ => rfl
      | bad => rfl
    rw [e]
    exact w
  refine Wp.mono (Wp.bind w1) fun y k s ry w2 => ?_
  show if k = true then _ else _
  cases k with
  | true => exact ⟨y, ρ, g.stp s ry, w2⟩
  | false => exact ⟨y, ρ, g.stp s ry, w2⟩
end
end Mi
/-! M7: argument lists, displays, calls, methods, tests. -/
namespace Mi
open PySem PySem.Spec L2
/-! ### forms of the syntax -/
def notStar : Expr → Bool
  | .Starred _ _ => false
  | _ => true
theorem starEach_cons {e : Expr} (h : notStar e = true) (es : List Expr) (env : Env) : starEach (e :: es) env = (false, eval e env) :: starEach es env := by
  cases e <;> first | rfl | cases h
theorem starEach_none : ∀ {es : List Expr} (env : Env), es.all notStar = true → ∀ q ∈ starEach es env, q.1 = false
  | [], _, _, q, h => by cases h
  | e :: es, env, h, q, hq => by
    rw [List.all_cons, Bool.and_eq_true] at h
    rw [starEach_cons h.1] at hq
    rcases List.mem_cons.mp hq with rfl | hq
    · rfl
    · exact starEach_none env h.2 q hq
theorem backTo_any {es : List Expr} (h : es.all notStar = true) (pos : Pos) (env : Env) : (backTo pos (starEach es env)).any (·.1) = false := by
  rw [List.any_eq_false]
  intro q hq
  unfold backTo at hq
  obtain ⟨r, hr, rfl⟩ := List.mem_map.mp hq
  have := starEach_none env h r hr
  obtain ⟨b, t⟩ := r
  simpa using this
theorem backTo_all {es : List Expr} (h : es.all notStar = true) (pos : Pos) (env : Env) : (backTo pos (starEach es env)).all (fun x => !x.1) = true := by
  rw [List.all_eq_true]
  intro q hq
  have := List.any_eq_false.mp (backTo_any h pos env) q hq
  simpa using this
/-- no call without arguments (super().x) -/
def plainBase : Expr → Bool
  | .Call (.Name _ _) [] [] _ => false
  | _ => true
theorem attributeBase_plain {o : Expr} (h : plainBase o = true) (m : Str) (env : Env) (w : Sem Value) : attributeBase o m env w = w := by
  unfold attributeBase
  split
  · cases h
  · rfl
def plainIx : Expr → Bool
  | .Slice _ _ _ _ => false
  | _ => true
theorem plainIx_ok {b : Expr} (h : plainIx b = true) : PlainIx b := by
  intro o i
  cases b <;> first | rfl | cases h
/-- a test by its value's truth -/
def plainTest : Expr → Bool
  | .UnaryOp _ _ _ => false
  | .BoolOp _ _ _ => false
  | .IfExp _ _ _ _ => false
  | .Compare _ _ _ _ => false
  | _ => true
theorem plainTest_ok {e : Expr} (h : plainTest e = true) (env : Env) (whole : Sem Value) : isTrue e env whole = (do let v ← whole; standAt e.pos; holding [v] (truthy v)) := by
  cases e <;> first | rfl | cases h

section
variable {X : Cx} {Φ : FT} {lo : Lim} {W : WX} {e a b o : Expr} {es : List Expr} {ca cb cc co : CE} {cs : List CE} {pos p apos : Pos} {x m : Str}
theorem sa_nil : SA X Φ lo W [] [] := PA.imp pa_nil fun σ H Q ⟨x, ρ, g, w⟩ => by
  have q : QA X.K Q x [] := Wp.ok (show Wp X.K lo W σ x (.ok [] x.S) (QA X.K Q) from w) g.rs
  show Q [] H
  rw [← g.h]
  exact q [] .nil
theorem sa_cons (hs : notStar e = true) (he : SC X Φ lo W e cc) (hes : SA X Φ lo W es cs) : SA X Φ lo W (e :: es) (cc :: cs) := PA.imp (pa_cons he hes (starEach_cons hs es X.env)) fun σ H Q ⟨x, ρ, g, w⟩ => by
  refine ⟨x, ρ, g, Wp.mono (Wp.bind (show Wp X.K lo W σ x ((ev Φ lo cc ρ x.S).bind fun c S1 => (evs Φ lo cs ρ S1).bind fun cs S2 => .ok (c :: cs) S2) (QA X.K Q) from w)) fun y c s ry w1 v rv => ?_⟩
  refine ⟨y, ρ, g.stp s ry, Wp.mono (Wp.bind w1) fun z ds s2 rz w2 vs rvs => ?_⟩
  have q : QA X.K Q z (c :: ds) := Wp.ok w2 rz
  exact q (v :: vs) (.cons (rv.stp s2) rvs)
theorem s_tup {k : Nat} (h : SA X Φ lo W es cs) : SE X Φ lo W (.Tuple es k pos) (.prim .tup cs) := PE.imp (pe_tup h) fun σ H Q ⟨x, ρ, g, w⟩ =>
  ⟨x, ρ, g, Wp.mono (Wp.bind w) fun y cs s ry w1 vs rvs => tup_ok ry rvs w1⟩
theorem s_lst (h : SA X Φ lo W es cs) : SE X Φ lo W (.List es pos) (.prim .lst cs) := PE.imp (pe_lst h) fun σ H Q ⟨x, ρ, g, w⟩ =>
  ⟨x, ρ, g, Wp.mono (Wp.bind w) fun y cs s ry w1 vs rvs => lst_ok ry rvs w1⟩
/-- a built-in of one, two arguments -/
theorem s_b1 {id : String} {q : Prim} (hp : ∀ {σ : SSt} {x : Sta} {Q : VK} {c : Cell} {v : V}, RS X.K x → RpC X.K x.F x.io c v → Wp X.K lo W σ x (primR lo q [c] x.S) (QV X.K Q) → CallW X (.builtin id) [v] x.H Q)
    (hg : Gl X x) (hm : X.mg x = none) (hv : bootBuiltins x = some (.builtin id)) (hn : x ≠ "__name__") (hdb : (x == ("__debug__" : Str)) = false) (hs : notStar a = true) (ha : SC X Φ lo W a ca) : SE X Φ lo W (.Call (.Name x p) [a] [] pos) (.prim q [ca]) :=
  PE.imp (pe_callB (r := CallW X (.builtin id)) callW hg hm hv (pa_cons ha pa_nil (starEach_cons hs [] X.env)) hn hdb (starEach_cons hs [] X.env) rfl) fun σ H Q ⟨x, ρ, g, w⟩ =>
    ⟨x, ρ, g, Wp.mono (args1 w) fun y c s ry w1 v rv => hp ry rv w1⟩
theorem s_ty1 {id : String} {q : Prim} (hp : ∀ {σ : SSt} {x : Sta} {Q : VK} {c : Cell} {v : V}, RS X.K x → RpC X.K x.F x.io c v → Wp X.K lo W σ x (primR lo q [c] x.S) (QV X.K Q) → CallW X (.type id) [v] x.H Q)
    (hg : Gl X x) (hm : X.mg x = none) (hv : bootBuiltins x = some (.type id)) (hn : x ≠ "__name__") (hdb : (x == ("__debug__" : Str)) = false) (hs : notStar a = true) (ha : SC X Φ lo W a ca) : SE X Φ lo W (.Call (.Name x p) [a] [] pos) (.prim q [ca]) :=
  PE.imp (pe_callTy (r := CallW X (.type id)) callW hg hm hv (pa_cons ha pa_nil (starEach_cons hs [] X.env)) hn hdb (starEach_cons hs [] X.env) rfl) fun σ H Q ⟨x, ρ, g, w⟩ =>
    ⟨x, ρ, g, Wp.mono (args1 w) fun y c s ry w1 v rv => hp ry rv w1⟩
theorem s_b2 {id : String} {q : Prim} (hp : ∀ {σ : SSt} {x : Sta} {Q : VK} {c d : Cell} {v u : V}, RS X.K x → RpC X.K x.F x.io c v → RpC X.K x.F x.io d u → Wp X.K lo W σ x (primR lo q [c, d] x.S) (QV X.K Q) → CallW X (.builtin id) [v, u] x.H Q)
    (hg : Gl X x) (hm : X.mg x = none) (hv : bootBuiltins x = some (.builtin id)) (hn : x ≠ "__name__") (hdb : (x == ("__debug__" : Str)) = false) (hs : notStar a = true) (hs2 : notStar b = true) (ha : SC X Φ lo W a ca) (hb : SC X Φ lo W b cb) : SE X Φ lo W (.Call (.Name x p) [a, b] [] pos) (.prim q [ca, cb]) :=
  PE.imp (pe_callB (r := CallW X (.builtin id)) callW hg hm hv (pa_cons ha (pa_cons hb pa_nil (starEach_cons hs2 [] X.env)) (starEach_cons hs [b] X.env)) hn hdb (starEach_cons hs [b] X.env) (backTo_any (by simp [hs2]) pos X.env)) fun σ H Q ⟨x, ρ, g, w⟩ =>
    ⟨x, ρ, g, Wp.mono (args2 w) fun y c s ry w1 v rv => ⟨y, ρ, g.stp s ry, Wp.mono w1 fun z d s2 rz w2 u ru => hp rz (rv.stp s2) ru w2⟩⟩
/-- a method of a built-in type with arguments -/
theorem s_m1 {id : String} {q : Prim} {t : Ty} (htv : ∀ {y : Sta} {c : Cell} {v : V}, RS X.K y → tyC y.S c = some t → RpC X.K y.F y.io c v → tyV X.K t.name v y.H)
    (hp : ∀ {σ : SSt} {x : Sta} {Q : VK} {c d : Cell} {v u : V}, RS X.K x → RpC X.K x.F x.io c v → RpC X.K x.F x.io d u → Wp X.K lo W σ x (primR lo q [c, d] x.S) (QV X.K Q) → MtW X id v [u] x.H Q)
    (pa : PlainAttrs t.name) (slot : Slot t.name m id) (hty : typeOf (.builtin id) = pure (.type "method_descriptor")) (hb0 : plainBase o = true) (hline : (apos.endLine == pos.line) = true) (hs : notStar a = true) (ho : SC X Φ lo W o co) (ha : SC X Φ lo W a ca) :
    SE X Φ lo W (.Call (.Attribute o m apos) [a] [] pos) (.meth t q co [ca]) :=
  PE.imp (pe_bm (r := MtW X id) pa slot hty mtW ho (pa_cons ha pa_nil (starEach_cons hs [] X.env)) (attributeBase_plain hb0 m X.env _) (by rw [starEach_cons hs]; rfl) hline (starEach_cons hs [] X.env) rfl) fun σ H Q ⟨x, ρ, g, w⟩ => by
    refine ⟨x, ρ, g, Wp.mono (Wp.bind w) fun y c s ry w1 v rv => ?_⟩
    by_cases hc : tyC y.S c = some t
    · replace w1 : Wp X.K lo W σ y (if tyC y.S c = some t then (evs Φ lo [ca] ρ y.S).bind fun cs S2 => primR lo q (c :: cs) S2 else .bad) (QV X.K Q) := w1
      rw [if_pos hc] at w1
      refine ⟨htv ry hc rv, y, ρ, g.stp s ry, Wp.mono (args1 (g := fun cs S2 => primR lo q (c :: cs) S2) w1) fun z d s2 rz w2 u ru => ?_⟩
      exact hp rz (rv.stp s2) ru w2
    · replace w1 : Wp X.K lo W σ y (if tyC y.S c = some t then (evs Φ lo [ca] ρ y.S).bind fun cs S2 => primR lo q (c :: cs) S2 else .bad) (QV X.K Q) := w1
      rw [if_neg hc] at w1
      exact w1.elim
theorem tyV_lst {y : Sta} {c : Cell} {v : V} (rs : RS X.K y) (h : tyC y.S c = some .lst) (r : RpC X.K y.F y.io c v) : tyV X.K "list" v y.H := by
  unfold tyC at h
  split at h <;> first | (cases h; done) | skip
  · cases r with | d r => cases r with | lst s t => exact .inl ⟨rfl, _, sqL_mono rs.fh s⟩
  · rename_i n
    split at h
    · rename_i cs e2
      cases r with
      | r e =>
        obtain ⟨a, ea, q⟩ := rs.ob n _ e2
        rw [e] at ea
        cases ea
        cases q with | lst h1 h2 => exact .inl ⟨rfl, _, SqL.of h1⟩
    · rename_i cs e2
      cases r with
      | r e =>
        obtain ⟨a, ea, q⟩ := rs.ob n _ e2
        rw [e] at ea
        cases ea
        cases q with | frz h1 => cases h1 with | lst s t => exact .inl ⟨rfl, _, sqL_mono rs.fh s⟩
    · cases h

/-! ### calls of the program's defs -/
/-- the promise that a def does what the evaluator says -/
def FnSp (K : Kf) (np : Nat) (f : Lim → List Cell → Stg → Res Cell) : Sp := fun vs H Q E => ∃ (lo : Lim) (x : Sta) (cs : List Cell), x.H = H ∧ RS K x ∧ lo.lo ≤ x.S.length ∧ lo.ro ≤ x.S.length ∧ Paired (RpC K x.F x.io) cs vs ∧ vs.length = np ∧
  Wp K lo (fun cls d _ H' => E cls d H') [] x (f lo cs x.S) (QC K Q)
theorem Wp.slots {α : Type} {K : Kf} {σ τ : SSt} {x : Sta} {r : Res α} {Q : Sta → α → Prop} {W' : WX} (w : Wp K lo W σ x r Q) (h : ∀ cls d H, W cls d σ H → W' cls d τ H) : Wp K lo W' τ x r Q := by
  cases r with
  | ok a S => exact w
  | exc e S => exact fun cls d F' io' H' s rs q => h _ _ _ (w cls d F' io' H' s rs q)
  | bad => exact w
theorem Wp.and {α : Type} {K : Kf} {σ : SSt} {x : Sta} {r : Res α} {Q : Sta → α → Prop} {P : α → Prop} (w : Wp K lo W σ x r Q) (h : ∀ a S', r = .ok a S' → P a) : Wp K lo W σ x r fun y a => Q y a ∧ P a := by
  cases r with
  | ok a S => exact fun F' io' H' s r => ⟨w F' io' H' s r, h a S rfl⟩
  | exc e S => exact w
  | bad => exact w
theorem evs_len : ∀ {l : List CE} {ρ : Rho} {S S' : Stg} {cs : List Cell}, evs Φ lo l ρ S = .ok cs S' → cs.length = l.length
  | [], ρ, S, S', cs, h => by
    have h : Res.ok [] S = Res.ok cs S' := h
    cases h
    rfl
  | c :: l, ρ, S, S', cs, h => by
    replace h : ((ev Φ lo c ρ S).bind fun c S1 => (evs Φ lo l ρ S1).bind fun cs S2 => .ok (c :: cs) S2) = Res.ok cs S' := h
    cases h1 : ev Φ lo c ρ S with
    | bad => rw [h1] at h; cases h
    | exc _ _ => rw [h1] at h; cases h
    | ok c1 S1 =>
      rw [h1, Res.bind_ok] at h
      cases h2 : evs Φ lo l ρ S1 with
      | bad => rw [h2] at h; cases h
      | exc _ _ => rw [h2] at h; cases h
      | ok cs2 S2 =>
        rw [h2, Res.bind_ok] at h
        cases h
        rw [List.length_cons, List.length_cons, evs_len h2]
theorem Wp.unv {K : Kf} {σ : SSt} {x : Sta} {r : Res Cell} {Q : VK} (w : Wp K lo W σ x (r.bind fun c S => .ok (.v c) S) (QV K Q)) : Wp K lo W σ x r (QC K Q) := by
  cases r with
  | ok a S => exact w
  | exc e S => exact w
  | bad => exact w
structure DefOk (X : Cx) (Φ : FT) (f : Nat) (x : Str) (np : Nat) : Prop where
  ex : ∃ (k : Nat) (a : Addr) (fd : FuncData) (ps : List Str), FnOk X.prog X.w X.K X.mg X.base (L2.CX X.prog X.w) k a fd ps (FnSp X.K np (Φ f)) ∧ Room k X.A ∧ X.mg x = some (.ref a) ∧ PySem.W.keepIn X.K (.ref a) = true ∧ Binds X.K fd ps []
theorem s_call {f np : Nat} (D : DefOk X Φ f x np) (tk : Takes X W) (hg : Gl X x) (hdb : (x == ("__debug__" : Str)) = false) (hs : notStar e = true) (hss : es.all notStar = true) (hn : (e :: es).length = np) (hc : cs.length = np) (ha : SA X Φ lo W (e :: es) cs) :
    SE X Φ lo W (.Call (.Name x p) (e :: es) [] pos) (.call f cs) := by
  obtain ⟨k, a, fd, ps, F, hr, hm, hk, hb⟩ := D.ex
  refine PE.imp (pe_callSD (E := fun σ cls d H => W cls d σ H) F hr hg hm hk hb .nil (fun σ => passAt tk σ) ha hdb (starEach_cons hs es X.env) (backTo_any hss pos X.env)) fun σ H Q ⟨x, ρ, g, w⟩ => ?_
  refine ⟨x, ρ, g, Wp.mono (Wp.and (P := fun ds => ds.length = cs.length) (Wp.bind w) fun _ _ h => evs_len h) fun y ds s ry w1 vs rvs => ?_⟩
  refine ⟨lo, y, ds, rfl, ry, Nat.le_trans g.hlo (s.len g.rs ry), Nat.le_trans g.hro (s.len g.rs ry), by simpa using rvs, ?_, ?_⟩
  · rw [List.append_nil, ← rvs.length, w1.2, hc]
  · exact Wp.slots (Wp.unv w1.1) fun cls d H h => h
end
end Mi
/-! M17: set(list of ints and texts), sorted of it. -/
namespace Mi
open PySem PySem.Spec L2 PyProof.Rows

def vKey : Value → Key
  | .int k _ => .inl k
  | .str x _ => .inr x
  | _ => .inl 0
theorem vKey_is {k : Key} {v : Value} (h : keyIs k v = true) : vKey v = k := by
  rcases keyIs_shape h with ⟨i, t, rfl, rfl⟩ | ⟨x, t, rfl, rfl⟩ <;> rfl
def eKey (e : Int × Value) : Key := vKey e.2
def Mem1 (w : World) (e : Int × Value) : Prop := keyIs (eKey e) e.2 = true ∧ e.1 = keyH w (eKey e)
theorem scan_key {k : Key} {v : Value} (h : keyIs k v = true) : v.scannable = true := by
  rcases keyIs_shape h with ⟨i, t, rfl, rfl⟩ | ⟨x, t, rfl, rfl⟩ <;> rfl
/-- the set at a: its keys are ks (in any order), and its table can be walked -/
def SetW (w : World) (h : Heap) (a : Addr) (ks : List Key) : Prop :=
  ∃ o es ep t, h.get? a = some o ∧ o.ExactSet ∧ o.data = .set es ep t ∧ (∀ e ∈ es.toList, Mem1 w e) ∧ (es.toList.map eKey).Perm ks ∧ ks.Nodup ∧
    ks.length < scanBound ∧ t.fits es.size = true ∧ Ris t.place.toList ∧ (w.params.followText "set-order" = true ∨ t.led = true)
section
variable {P : Program} {w : World} {A : Around} {E : Value → Shared → Prop} {s : Shared} {a : Addr} {ks : List Key}
theorem SetW.at {h h' : Heap} (R : SetW w h a ks) (k : ∀ o, h.get? a = some o → h'.get? a = some o) : SetW w h' a ks := by
  obtain ⟨o, es, ep, t, ho, r⟩ := R
  exact ⟨o, es, ep, t, k o ho, r⟩
theorem mem_elems {l : List (Int × Value)} (g : ∀ e ∈ l, Mem1 w e) : ElemsOf (mixKind P w) l :=
  fun e he => ⟨⟨eKey e, (g e he).1, (g e he).2⟩, scan_key (g e he).1⟩
theorem mem_iff_key {l : List (Int × Value)} (g : ∀ e ∈ l, Mem1 w e) (k : Key) : (∃ e ∈ l, keyIs k e.2 = true) ↔ k ∈ l.map eKey := by
  rw [List.mem_map]
  exact ⟨fun ⟨e, he, q⟩ => ⟨e, he, vKey_is q⟩, fun ⟨e, he, q⟩ => ⟨e, he, q ▸ (g e he).1⟩⟩
theorem storeTail {g : Bool → Sem Unit} (hg : ∀ (b : Bool) (s₁ : Shared) (Q' : Unit → Shared → Prop), Q' () s₁ → wpAny (model P w) A (g b) Q' E s₁)
    {o : Obj} {es : Array (Int × Value)} {ep : Nat} {t : SetTable} (h1 : s.heap.get? a = some o) (h2 : o.ExactSet) (h3 : o.data = .set es ep t)
    {fs : Array (Int × Value)} {u : SetTable} (m1 : ∀ e ∈ fs.toList, Mem1 w e) (pm : (fs.toList.map eKey).Perm ks) (nd : ks.Nodup) (few : ks.length < scanBound)
    (ft : u.fits fs.size = true) (hr : Ris u.place.toList) (hl : w.params.followText "set-order" = true ∨ u.led = true) {dm : Bool} {R : Option Bool → Shared → Prop}
    (hR : ∀ h', Heap.SameBut a s.heap h' → SetW w h' a ks → R (some true) { s with heap := h' }) :
    wpAny (model P w) A (storeSet a fs u >>= fun _ => if (!dm && u.tooFull) = true then
        (g (relayAll u fs (SetTable.grown fs.size)).2.2 >>= fun _ => storeSet a (relayAll u fs (SetTable.grown fs.size)).1 (relayAll u fs (SetTable.grown fs.size)).2.1 >>= fun _ => pure (some true))
      else pure (some true)) R E s := by
  have zf : fs.size = ks.length := by rw [← Array.length_toList, ← pm.length_eq, List.length_map]
  have fewf : fs.size < scanBound := by rw [zf]; exact few
  refine wpAny_bind (wpAny_storeSet_of h1 h3 ?_ (fits_of_scanBound fewf))
  have at1 := store_at (es' := fs) (t' := u) h1 h3
  have same := Heap.SameBut.update s.heap a (Obj.putSet fs u)
  split
  · have p2 := relayAll_perm u fs (SetTable.grown fs.size)
    have f2 := relayAll_fits u fs (SetTable.grown fs.size)
    have r2 := relayAll_ris u fs (SetTable.grown fs.size)
    have l2 := relayAll_led u fs (SetTable.grown fs.size)
    generalize relayAll u fs (SetTable.grown fs.size) = z at p2 f2 r2 l2 ⊢
    obtain ⟨gs, u2, gv⟩ := z
    dsimp only at p2 f2 r2 l2 ⊢
    have zg : gs.size = fs.size := by rw [← Array.length_toList, p2.length_eq, Array.length_toList]
    refine wpAny_bind (hg _ _ _ ?_)
    refine wpAny_bind (wpAny_storeSet_of at1 rfl ?_ (fits_of_scanBound (zg ▸ fewf)))
    exact wpAny_pure (hR _ (same.trans (Heap.SameBut.update _ a _)) ⟨_, gs, _, u2, store_at (es' := gs) (t' := u2) at1 rfl, h2, rfl, fun e he => m1 e (p2.mem_iff.mp he), (p2.map eKey).trans pm, nd, few, f2, r2,
      hl.imp id fun q => by rw [l2]; exact q⟩)
  · exact wpAny_pure (hR _ same ⟨_, fs, _, u, at1, h2, rfl, m1, pm, nd, few, ft, hr, hl⟩)
theorem addHashed {k : Key} {v : Value} {Q : Bool → Shared → Prop} (R : SetW w s.heap a ks) (hk : keyIs k v = true) (room : ks.length + 1 < scanBound)
    (hQ : ∀ h' b ks', Heap.SameBut a s.heap h' → SetW w h' a ks' → ks'.length ≤ ks.length + 1 → (∀ j, j ∈ ks' ↔ j ∈ ks ∨ j = k) → Q b { s with heap := h' }) :
    wpAny (model P w) A (setAddHashed a v (keyH w k)) Q E s := by
  obtain ⟨o, es, ep, t, ho, hex, hd, g, pm, nd, few, hf, hr, hl⟩ := R
  have sc : v.scannable = true := scan_key hk
  have el : ElemsOf (mixKind P w) es.toList := mem_elems g
  have zs : es.size = ks.length := by rw [← Array.length_toList, ← pm.length_eq, List.length_map]
  have fewe : es.size < scanBound := by rw [zs]; exact few
  unfold setAddHashed setAddHashedIn
  refine wpAny_holding (wpAny_bind (wpAny_setState_of ho hd hf ?_)); dsimp only
  rw [byScan_of sc fewe el]; simp only [↓reduceIte]
  unfold setAddByScan
  refine wpAny_bind (wpAny_bind (wpAny_rule ?_))
  refine wpAny_bind (wpAny_setScan_of (knd := mixKind P w) (k := k) hk ho hd hf el ?_)
  have mk : (∃ e ∈ es.toList, keyIs k e.2 = true) ↔ k ∈ ks := (mem_iff_key g k).trans pm.mem_iff
  cases fi : List.findIdx? (fun e => (mixKind P w).is k e.2) es.toList with
  | some j =>
    dsimp only
    obtain ⟨hj, pj, _⟩ := List.findIdx?_eq_some_iff_getElem.mp fi
    have inn : k ∈ ks := mk.1 ⟨es.toList[j], List.getElem_mem hj, pj⟩
    exact wpAny_pure (wpAny_pure (hQ s.heap _ ks (Heap.SameBut.refl a s.heap) ⟨o, es, ep, t, ho, hex, hd, g, pm, nd, few, hf, hr, hl⟩ (Nat.le_succ _) fun j => ⟨.inl, fun q => q.elim id fun z => z ▸ inn⟩))
  | none =>
    dsimp only
    have out : k ∉ ks := fun z => by
      obtain ⟨e, he, q⟩ := mk.2 z
      have c := List.findIdx?_eq_none_iff.mp fi e he
      have c' : keyIs k e.2 = false := c
      rw [q] at c'; cases c'
    have p1 := layNew_perm t es (keyH w k) v
    have f1 := layNew_fits t es (keyH w k) v
    have r1 := layNew_ris t es (keyH w k) v hr
    have l1 := layNew_led t es (keyH w k) v
    show wpAny (model P w) A _ _ E s
    generalize layNew t es (keyH w k) v = z at p1 f1 r1 l1 ⊢
    obtain ⟨fs, u, dm, gv⟩ := z
    dsimp only at p1 f1 r1 l1 ⊢
    rw [Array.toList_push] at p1
    have pc : fs.toList.Perm ((keyH w k, v) :: es.toList) := p1.trans (List.perm_append_singleton _ _)
    have ek : eKey (keyH w k, v) = k := vKey_is hk
    have pk : (fs.toList.map eKey).Perm (k :: ks) := (pc.map eKey).trans (by rw [List.map_cons, ek]; exact pm.cons k)
    have m1 : ∀ e ∈ fs.toList, Mem1 w e := fun e he => by
      rcases List.mem_cons.mp (pc.mem_iff.mp he) with q | q
      · rw [q]; exact ⟨by rw [ek]; exact hk, by rw [ek]⟩
      · exact g e q
    have nd1 : (k :: ks).Nodup := List.nodup_cons.mpr ⟨out, nd⟩
    have few1 : (k :: ks).length < scanBound := room
    have ll : w.params.followText "set-order" = true ∨ u.led = true := hl.imp id fun q => by rw [l1]; exact q
    have fin : ∀ h', Heap.SameBut a s.heap h' → SetW w h' a (k :: ks) → Q true { s with heap := h' } := fun h' sb r =>
      hQ h' true (k :: ks) sb r (Nat.le_refl _) fun j => List.mem_cons.trans Or.comm
    refine wpAny_bind (Q := fun _ s' => _) ?_
    · cases gv <;> first | refine wpAny_pure ?_ | refine wpAny_rule ?_
      all_goals
        split
        · refine wpAny_bind ?_
          rw [hashByValue_scannable 8 sc]
          refine wpAny_pure ?_
          try simp only [↓reduceIte]
          refine storeTail ?_ ho hex hd m1 pk nd1 few1 ?_ ?_ ?_ ?_
          · intro b s₁ Q' q; cases b <;> first | exact wpAny_pure q | exact wpAny_rule q
          · split <;> first | exact f1 | exact SetTable.fits_plain_off f1
          · split <;> exact r1
          · split <;> exact ll
          · intro h' sb r; dsimp only; exact wpAny_pure (fin h' sb r)
        · refine wpAny_bind (wpAny_pure ?_)
          try simp only [↓reduceIte]
          refine storeTail ?_ ho hex hd m1 pk nd1 few1 f1 r1 ll ?_
          · intro b s₁ Q' q; cases b <;> first | exact wpAny_pure q | exact wpAny_rule q
          · intro h' sb r; dsimp only; exact wpAny_pure (fin h' sb r)

/-- all of a list of keys, put in one by one -/
theorem update_keys {I : Addr} {fp wr : List Addr} {G : Array GenState → Array GenState → Prop} {n : Nat} {Pv : Nat → Value → Prop} {St : Nat → Shared → Prop} {R : Result → Shared → Prop}
    (W : WalksS P w A.in1 I fp wr G n Pv St) (T : Addr) (nf : T ∉ fp) (all : List Key) (hn : n = all.length) (few : all.length + 1 < scanBound) (hv : ∀ i v, Pv i v → ∃ k, all[i]? = some k ∧ keyIs k v = true) :
    ∀ (m i : Nat) (s : Shared), n - i = m → i ≤ n → St i s → (∃ ks, ks.length ≤ i ∧ (∀ j, j ∈ ks ↔ j ∈ all.take i) ∧ SetW w s.heap T ks) →
      (∀ s' ks, Moved (T :: wr) G s s' → ks.length ≤ n → (∀ j, j ∈ ks ↔ j ∈ all) → SetW w s'.heap T ks → R (.ok (.ret .none)) s') →
      codeAny (model P w) A (.builtin "set.update.loop" ⟨[.ref T, .ref I], []⟩) R s := by
  have nw : T ∉ wr := fun h => nf (W.sub _ h)
  have more : ∀ b ∈ wr, b ∈ T :: wr := fun b h => List.mem_cons_of_mem _ h
  intro m
  induction m with
  | zero =>
    intro i s hm' hi st ⟨ks, kl, km, kS⟩ hR
    have ein : i = n := by omega
    subst ein
    refine codeAny_builtin F.entry_set_update_loop ?_; rw [Around.under_plainId F.plain_set_update_loop _]
    show wpAny _ A.in1 (pyNext (.ref I) >>= _) _ _ s; refine wpAny_bind (W.done s _ _ st fun s' mv => ?_)
    show wpAny _ A.in1 (ret Value.none) _ _ s'
    have e : all.take i = all := List.take_of_length_le (by omega)
    rw [e] at km
    exact wpAny_pure (hR s' ks (mv.mono more) kl km (kS.at fun o q => mv.heap T o nw q))
  | succ m ih =>
    intro i s hm' hi st ⟨ks, kl, km, kS⟩ hR
    have lt : i < n := by omega
    refine codeAny_builtin F.entry_set_update_loop ?_; rw [Around.under_plainId F.plain_set_update_loop _]
    show wpAny _ A.in1 (pyNext (.ref I) >>= _) _ _ s; refine wpAny_bind (W.item i s _ _ lt st fun v s' hP st' mv => ?_)
    obtain ⟨k, hk, kv⟩ := hv i v hP
    have kS' : SetW w s'.heap T ks := kS.at fun o q => mv.heap T o nw q
    show wpAny _ A.in1 (holding [v] (setAdd T v) >>= _) _ _ s'
    refine wpAny_bind (wpAny_holding ?_); unfold setAdd
    refine wpAny_holding (wpAny_bind ((mixKind P w).pyHash (k := k) kv ?_))
    refine addHashed (s := { s' with toks := s'.toks + 1 }) kS' kv (by omega) fun h' b ks' sb kS2 l2 m2 => ?_
    have m3 : ∀ j, j ∈ ks' ↔ j ∈ all.take (i + 1) := fun j => by
      rw [m2 j, km j, List.take_add_one, hk]
      simp [List.mem_append]
    refine wpAny_pure ⟨plainId_quiet F.plain_set_update_loop _, ih (i + 1) _ (by omega) lt (W.frame _ s' _ _ st' (Nat.le_succ _) fun b hb o q => ?_) ⟨ks', by omega, m3, kS2⟩ fun s'' ks'' mv' l3 m4 kS3 => ?_⟩
    · rw [sb.2 b fun z => nf (z ▸ hb)]; exact q
    · refine hR s'' ks'' (Moved.trans W.gtrans ((mv.mono more).then_heap (Nat.le_succ _) fun b o hb q => ?_) mv') l3 m4 kS3
      rw [sb.2 b fun z => hb (by rw [z]; exact List.mem_cons_self)]; exact q
@[reducible] def setObj (w : World) : Obj := { cls := .type "set", dict := none, data := .set #[] 0 (.fresh 0 0 (!w.params.followText "set-order")) }
theorem setW_new {h : Heap} {a : Addr} (ho : h.get? a = some (setObj w)) : SetW w h a [] :=
  ⟨_, #[], 0, _, ho, ⟨rfl, rfl, rfl⟩, rfl, (fun e he => by simp at he), List.Perm.refl _, List.nodup_nil, (by decide), rfl, List.Pairwise.nil, by
    show _ ∨ (!w.params.followText "set-order") = true
    cases w.params.followText "set-order"
    · exact .inr rfl
    · exact .inl rfl⟩
def KeysAre (vs : List Value) (all : List Key) : Prop := vs.length = all.length ∧ ∀ (i : Nat) (v : Value), vs[i]? = some v → ∃ k, all[i]? = some k ∧ keyIs k v = true
set_option maxHeartbeats 3200000 in
theorem call_set_keys {l : Addr} {items : Array Value} (all : List Key) {Q : Value → Shared → Prop} (hh : A.handled = none) (hl : s.heap.IsList l items) (hit : KeysAre items.toList all) (few : all.length + 1 < scanBound)
    (fin : ∀ (h' : Heap) (tk : Nat) ks, SetW w h' s.heap.objs.size ks → ks.length ≤ all.length → (∀ j, j ∈ ks ↔ j ∈ all) → (∀ b o, s.heap.get? b = some o → h'.get? b = some o) → Q (.ref s.heap.objs.size) { s with heap := h', toks := tk }) :
    wpAny (model P w) A (call (.type "set") [.ref l]) Q E s := by
  have hz : items.size = all.length := by rw [← Array.length_toList]; exact hit.1
  obtain ⟨c, tl, hmro⟩ := F.called_set.mro
  have hmade := F.called_set.made; have hsub := F.called_set.sub
  refine wpAny_call (codeAny_of_tree ?_); show wpAny _ _ (callAny (.type "set") _) _ _ _
  refine wpAny_pure ⟨Code.quiet_builtin _ (by decide +kernel), codeAny_builtin F.entry_type_call ?_⟩; rw [Around.under_plain (weight_type_call_type "set" [.ref l] []) rfl]
  have h1 := F.called_set.notType; have h2 := F.called_set.canCreate; have hct := F.typeCall_set_1 (.ref l)
  repeat (any_goals (first | assumption | wp_step))
  refine codeAny_mono (code_set_led1 (.ref l) (E := E) (Q₁ := fun obj s₁ => obj = .ref s.heap.objs.size ∧ s₁ = { s with heap := s.heap.push (setObj w) }) ⟨rfl, rfl⟩) fun r s₁ hr => ?_
  cases r with
  | error e => exact hr
  | ok fl =>
    cases fl with
    | ret obj =>
      obtain ⟨rfl, rfl⟩ := hr
      have hS : (s.heap.push (setObj w)).get? s.heap.objs.size = some (setObj w) := Heap.get?_push_size _ rfl
      have hT : Shared.TypeIs { s with heap := s.heap.push (setObj w) } (.ref s.heap.objs.size) "set" := ⟨_, hS, rfl⟩
      have hli := F.called_set.init.lookup; have hbi := F.called_set.init.bind (.ref s.heap.objs.size)
      repeat (any_goals (first | assumption | wp_step))
      refine codeAny_mono (codeAny_call_builtin (R := wants (fun r s₂ => r = .none ∧ ∃ h' tk ks, s₂ = { s with heap := h', toks := tk } ∧ SetW w h' s.heap.objs.size ks ∧ ks.length ≤ all.length ∧ (∀ j, j ∈ ks ↔ j ∈ all) ∧
          (∀ b o, s.heap.get? b = some o → h'.get? b = some o)) E) F.called_set.init.plain F.entry_set_init (check_set_init_1 hT ?_)) fun r₂ s₂ hr₂ => ?_
      · obtain ⟨ol, hol, hcl, nl, hdl⟩ := hl
        obtain ⟨ocls, odict, odata, oslots⟩ := ol
        simp only at hcl hdl
        subst hcl; subst hdl
        have hol' : (s.heap.push (setObj w)).get? l = some { cls := .type "list", dict := odict, data := .seq items nl, slots := oslots } := Heap.get?_push_of_some _ hol
        have hsls := F.sub_list_set; have hslf := F.sub_list_frozenset
        have hne : (Value.type "list" == Value.type "dict") = false := by decide
        have hl1 : (s.heap.push (setObj w)).IsList l items := ⟨_, hol', rfl, nl, rfl⟩
        unfold Builtin.«set.__init__» noKeywords Builtin.Frozenset.updateFrom
        generalize hPI : pyIter = PI
        wp_walk
        subst hPI
        refine wpAny_pyIter_list hl1 ?_
        refine wpAny_bind (wpAny_runValue ?_)
        have hlS : l < s.heap.objs.size := Heap.lt_size hol
        have hh3 : A.in1.in1.in1.handled = none := by simp [hh]
        have hz1 : (s.heap.push (setObj w)).objs.size = s.heap.objs.size + 1 := Heap.size_push ..
        have hneI : l ≠ (s.heap.push (setObj w)).objs.size := by rw [hz1]; exact Nat.ne_of_lt (Nat.lt_succ_of_lt hlS)
        have hSf : s.heap.objs.size ∉ [(s.heap.push (setObj w)).objs.size, l] := fun z => by
          rcases List.mem_cons.mp z with z | z
          · rw [hz1] at z; exact absurd z (Nat.ne_of_lt (Nat.lt_succ_self _))
          · exact absurd (List.mem_singleton.mp z) (Nat.ne_of_gt hlS)
        have hval : ∀ (i : Nat) (v : Value), items[i]? = some v → ∃ k, all[i]? = some k ∧ keyIs k v = true := fun i v q => hit.2 i v (by rw [Array.getElem?_toList]; exact q)
        refine update_keys ((Walks.list hh3 _ l hneI items).toS) s.heap.objs.size hSf all hz few hval (items.size - 0) 0 _ (by omega) (Nat.zero_le _)
          ⟨⟨_, Heap.get?_push_size _ rfl, rfl, rfl⟩, (hl1.push _)⟩ ⟨[], Nat.le_refl _, fun j => by simp, setW_new (Heap.get?_push_of_some _ hS)⟩ ?_
        intro s' ks mv kl km kS
        obtain ⟨h', g2, d', tk', os'⟩ := s'
        have eg : g2 = s.gens := mv.gens
        have ed : d' = s.drawn := mv.drawn
        have eo : os' = s.os := mv.os
        subst eg; subst ed; subst eo
        show wpAny _ _ _ _ _ _
        refine wpAny_pure ?_
        show wpAny _ _ (ret Value.none) _ _ _
        rw [hz] at kl
        refine wpAny_pure ⟨rfl, h', tk', ks, rfl, kS, kl, km, fun b o q => ?_⟩
        have hb0 : b < s.heap.objs.size := Heap.lt_size q
        refine mv.heap b o (fun z => ?_) (Heap.get?_push_of_some _ (Heap.get?_push_of_some _ q))
        rcases List.mem_cons.mp z with z | z
        · exact absurd z (Nat.ne_of_lt hb0)
        · have z := List.mem_singleton.mp z
          rw [hz1] at z; exact absurd z (Nat.ne_of_lt (Nat.lt_succ_of_lt hb0))
      · cases r₂ with
        | error e => exact hr₂
        | ok fl₂ =>
          cases fl₂ with
          | ret r =>
            obtain ⟨rfl, h', tk, ks, rfl, kS, kl, km, kp⟩ := hr₂
            repeat (any_goals (first | assumption | wp_step))
            exact fin _ _ _ kS kl km kp
          | _ => exact hr₂.elim
    | _ => exact hr.elim
end
end Mi
/-! M18: sorted(set(texts)) gives just one list. -/
namespace Mi
open PySem PySem.Spec L2 PyProof.Rows

/-! ### plain: a sorted list without doubles is told by its members -/
theorem nodup_eraseDups (n : Nat) : ∀ (l : List Str), l.length ≤ n → l.eraseDups.Nodup := by
  induction n with
  | zero => intro l h; cases l with
    | nil => exact List.nodup_nil
    | cons a r => simp at h
  | succ n ih =>
    intro l h
    cases l with
    | nil => exact List.nodup_nil
    | cons a r =>
      rw [List.eraseDups_cons]
      refine List.nodup_cons.mpr ⟨fun m => ?_, ih _ (Nat.le_trans (List.length_filter_le _ _) (Nat.le_of_succ_le_succ h))⟩
      have := List.mem_filter.mp (List.mem_eraseDups.mp m)
      simp at this
theorem perm_of_mem {l m : List Str} (dl : l.Nodup) (dm : m.Nodup) (h : ∀ a, a ∈ l ↔ a ∈ m) : l.Perm m := by
  rw [List.perm_iff_count]
  intro a
  have c1 : ∀ {k : List Str}, k.Nodup → List.count a k = if a ∈ k then 1 else 0 := fun {k} d => by
    split
    · rename_i q
      have u := List.nodup_iff_count.mp d a
      have v := List.count_pos_iff.mpr q
      omega
    · rename_i q
      exact List.count_eq_zero.mpr q
  rw [c1 dl, c1 dm]
  by_cases q : a ∈ l
  · rw [if_pos q, if_pos ((h a).1 q)]
  · rw [if_neg q, if_neg fun z => q ((h a).2 z)]
theorem strLe_trans (a b c : Str) (h : strLe a b = true) (k : strLe b c = true) : strLe a c = true := by
  unfold strLe at *
  simp only [decide_eq_true_eq, List.not_lt] at *
  exact List.le_trans h k
theorem strLe_total (a b : Str) : (strLe a b || strLe b a) = true := by
  unfold strLe
  simp only [Bool.or_eq_true, decide_eq_true_eq, List.not_lt]
  exact List.le_total _ _
theorem strLe_antisymm {a b : Str} (h : strLe a b = true) (k : strLe b a = true) : a = b := by
  unfold strLe at *
  simp only [decide_eq_true_eq, List.not_lt] at *
  have e := List.le_antisymm h k
  cases a; cases b
  exact congrArg Str.mk (Array.toList_inj.mp e)
theorem le_rising : ∀ {r : List Str} {p : Str}, risingS p r = true → (p :: r).Pairwise fun a b => strLe a b = true
  | [], p, _ => List.pairwise_cons.mpr ⟨fun x h => absurd h (List.not_mem_nil), List.Pairwise.nil⟩
  | x :: r, p, h => by
    have h' : (!ltCps x.cps.toList p.cps.toList && risingS x r) = true := h
    rw [Bool.and_eq_true, ltCps_eq] at h'
    have ih := le_rising h'.2
    have px : strLe p x = true := by
      unfold strLe
      have q := h'.1
      simp only [Bool.not_eq_true', decide_eq_false_iff_not] at q
      exact decide_eq_true q
    refine List.pairwise_cons.mpr ⟨fun y hy => ?_, ih⟩
    rcases List.mem_cons.mp hy with e | e
    · rw [e]; exact px
    · exact strLe_trans p x y px ((List.pairwise_cons.mp ih).1 y e)
theorem sortedS_le : ∀ {l : List Str}, sortedS l = true → l.Pairwise fun a b => strLe a b = true
  | [], _ => List.Pairwise.nil
  | _ :: _, h => le_rising h
theorem sortSet_one {ys zs : List Str} (hs : sortedS ys = true) (nd : ys.Nodup) (hm : ∀ a, a ∈ ys ↔ a ∈ zs) : ys = sortSet zs := by
  refine List.Perm.eq_of_pairwise (le := fun a b => strLe a b = true) (fun a b _ _ h k => strLe_antisymm h k) (sortedS_le hs) (List.pairwise_mergeSort strLe_trans strLe_total _) ?_
  exact (perm_of_mem nd (nodup_eraseDups _ zs (Nat.le_refl _)) fun a => (hm a).trans List.mem_eraseDups.symm).trans (List.mergeSort_perm _ _).symm

/-! ### the calls -/
section
variable {P : Program} {w : World} {A : Around} {E : Value → Shared → Prop} {s : Shared} {a : Addr} {ks : List Key}
theorem keys_strs {vs : List Value} {zs : List Str} (h : StrsAre vs zs) : KeysAre vs (zs.map Sum.inr) := by
  induction h with
  | nil => exact ⟨rfl, fun i v e => by simp at e⟩
  | cons x t h ih =>
    refine ⟨by simp [ih.1], fun i v e => ?_⟩
    cases i with
    | zero =>
      have : Value.str x t = v := by simpa using e
      subst this
      exact ⟨.inr x, rfl, keyIs_str x t⟩
    | succ i => exact ih.2 i v (by simpa using e)
theorem strs_of_keys : ∀ {vs : List Value} {zs : List Str}, vs.map vKey = zs.map Sum.inr → (∀ v ∈ vs, keyIs (vKey v) v = true) → StrsAre vs zs
  | [], [], _, _ => .nil
  | v :: vs, z :: zs, e, h => by
    rw [List.map_cons, List.map_cons, List.cons.injEq] at e
    rcases keyIs_shape (h v List.mem_cons_self) with ⟨i, t, e1, _⟩ | ⟨x, t, e1, rfl⟩
    · rw [e.1] at e1; cases e1
    · rw [e.1] at e1; cases e1
      exact .cons _ _ (strs_of_keys e.2 fun v hv => h v (List.mem_cons_of_mem _ hv))
  | [], _ :: _, e, _ => by simp at e
  | _ :: _, [], e, _ => by simp at e
theorem perm_strs : ∀ {l : List Key} {zs : List Str}, (∀ k ∈ l, ∃ x, k = Sum.inr x) → ∃ xs : List Str, l = xs.map Sum.inr
  | [], _, _ => ⟨[], rfl⟩
  | k :: l, zs, h => by
    obtain ⟨x, rfl⟩ := h k List.mem_cons_self
    obtain ⟨xs, rfl⟩ := perm_strs (zs := zs) (l := l) fun k hk => h k (List.mem_cons_of_mem _ hk)
    exact ⟨x :: xs, rfl⟩
theorem sorted_texts {zs : List Str} {Q : Value → Shared → Prop} (R : SetW w s.heap a ks) (hh : A.handled = none) (few : ks.length < 64) (km : ∀ j, j ∈ ks ↔ j ∈ zs.map Sum.inr)
    (hQ : ∀ s' p (out : Array Value) (c : Nat), (∀ b o, s.heap.get? b = some o → s'.heap.get? b = some o) → s'.gens = s.gens → s'.os = s.os → s.heap.objs.size ≤ p →
      s'.heap.get? p = some (seqObj "list" out c) → StrsAre out.toList (sortSet zs) → out.size < 64 → Q (.ref p) s') :
    wpAny (model P w) A (call (.builtin "sorted") [.ref a]) Q E s := by
  obtain ⟨o, es, ep, t, ho, hex, hd, g, pm, nd, fewb, hf, hr, hl⟩ := R
  have ez : es.size = ks.length := by rw [← Array.length_toList, ← pm.length_eq, List.length_map]
  refine Calls.call_function_entry kind_sorted plain_sorted entry_sorted (args_sorted1 _) ?_; unfold Builtin.«sorted»
  refine wpAny_bind (m := checkCount "sorted" 1 1 _) (wpAny_pure (wpAny_bind (collect_set (A := A.in1) hh ⟨o, ho, hex.1, hd⟩ hf (by rw [ez]; exact fewb) hr hl fun s1 vs k1 hz g1 o1 po => ?_)))
  have hvl : vs.length = ks.length := by rw [po.length_eq, List.length_map, Array.length_toList, ez]
  have pk : (vs.map vKey).Perm ks := by
    have q := po.map vKey
    rw [List.map_map] at q
    exact q.trans pm
  obtain ⟨xs, exs⟩ := perm_strs (zs := zs) (l := vs.map vKey) fun k hk => by
    obtain ⟨x, _, e⟩ := List.mem_map.mp ((km k).1 (pk.mem_iff.mp hk))
    exact ⟨x, e.symm⟩
  have hS : StrsAre vs xs := strs_of_keys exs fun v hv => by
    obtain ⟨e, he, q⟩ := List.mem_map.mp (po.mem_iff.mp hv)
    rw [← q]; exact (g e he).1
  refine wpAny_bind (wpAny_newList ?_ (by rw [hvl, sizeLine_eq]; omega))
  have hoL : (s1.heap.push (seqObj "list" vs.toArray 0)).get? s1.heap.objs.size = some (seqObj "list" vs.toArray 0) := Heap.get?_push_size _ rfl
  refine wpAny_bind (wpAny_holding (wpAny_call_entry slot_list_sort ⟨_, hoL, rfl⟩ entry_list_sort
    (list_sort_treeK strKind_oneLt hoL hS.keysOf (fun v₁ v₂ rest e => keyKind_strs (by rw [← e]; exact hS)) (by rw [hvl]; exact few) fun st' hp hs => ⟨_, rfl, ?_⟩) (args_list_sort _)))
  obtain ⟨ys, q1, q2, q3⟩ := sorted_out_str hS hp hs
  obtain ⟨c, hc⟩ := sortedHeap_at (vs := vs) (out := (arrOf st').map (·.2)) hoL
  have nx : xs.Nodup := by
    have q := pk.nodup_iff.mpr nd
    rw [exs] at q
    exact (List.pairwise_map.mp q).imp fun h e => h (congrArg Sum.inr e)
  have ey : ys = sortSet zs := sortSet_one q3 (q2.nodup_iff.mpr nx) fun x => by
    rw [q2.mem_iff]
    have u := km (Sum.inr x)
    rw [← pk.mem_iff, exs] at u
    simpa using u
  rw [ey] at q1
  have q4 := q1.length
  refine wpAny_pure ⟨_, rfl, hQ _ s1.heap.objs.size _ c (fun b u e => ?_) g1 o1 hz hc q1 ?_⟩
  · have q := k1 b u e
    have lt := Heap.lt_size q
    show (sortedHeap (s1.heap.push (seqObj "list" vs.toArray 0)) s1.heap.objs.size vs _).get? b = some u
    rw [sortedHeap_old (Nat.ne_of_lt lt) (by rw [size_push']; exact Nat.lt_succ_of_lt lt)]
    exact Heap.get?_push_of_some _ q
  · rw [← Array.length_toList, q4, ← ey, q2.length_eq, ← hS.length, hvl]; exact few
end

/-- a set of texts, in the layer's heap -/
def SetSO (w : World) (a : Addr) (zs : List Str) : HO := .ext fun h => ∃ ks, SetW w h a ks ∧ ks.length ≤ zs.length ∧ ∀ j, j ∈ ks ↔ j ∈ zs.map Sum.inr
theorem setSO_new {w : World} {P : Program} {H : Hp} {h : Heap} {a : Addr} {zs : List Str} {ks : List Key} (R : SetW w h a ks) (hl : ks.length ≤ zs.length) (hm : ∀ j, j ∈ ks ↔ j ∈ zs.map Sum.inr) : ObjOk P w H h a (SetSO w a zs) := by
  have ⟨o, _, _, _, ho, _⟩ := R
  exact ⟨⟨ks, R, hl, hm⟩, ⟨o, ho⟩, fun h1 h2 ⟨ks, p, l, m⟩ k => ⟨ks, SetW.at p k, l, m⟩⟩
section
variable {X : Cx} {K : Kf} {lo : Lim} {W : WX} {σ : SSt} {x : Sta} {Q : VK}
theorem sortedSet_ok (hc : X.calm = true) (hK : X.K = K) (rs : RS K x) {a : Cell} {v : V} (ra : RpC K x.F x.io a v) (w : Wp K lo W σ x (primR lo .sortedSet [a] x.S) (QV K Q)) :
    CallW X (.type "set") [v] x.H fun v2 H2 => CallW X (.builtin "sorted") [v2] H2 Q := by
  subst hK
  obtain ⟨p, e, w⟩ := prim_map' rfl w
  unfold sortedSetSem at e
  simp only [Option.bind_eq_some_iff] at e
  obtain ⟨cs, e1, zs, e2, e3⟩ := e
  split at e3
  · rename_i few
    cases e3
    obtain ⟨a', vs, rfl, hq, hp⟩ := viewL_ok rs e1 ra
    have ev := strs_ok e2 hp
    subst ev
    intro pins s σ' us I ru
    obtain ⟨its, r, pl, z⟩ := I.list hq
    rw [Vals.ref1 ru]
    have fewS : (zs.map (Sum.inr : Str → Key)).length + 1 < scanBound := by rw [List.length_map]; unfold scanBound; omega
    refine call_set_keys (zs.map Sum.inr) (I.ok.hd hc) pl.isList (by simpa using keys_strs (strsAre_of r)) fewS fun h' tk ks kS kl km kp => ?_
    rw [List.length_map] at kl
    have hn : x.H s.heap.objs.size = none := I.hok.fresh (Nat.le_refl _)
    refine ⟨.ref s.heap.objs.size, upd x.H s.heap.objs.size (SetSO X.w s.heap.objs.size zs), I.laid (t' := tk) kp (Nat.le_refl _) (setSO_new kS kl km), rfl, ?_⟩
    intro pins2 s2 σ2 us2 I2 ru2
    rw [Vals.ref1 ru2]
    obtain ⟨ks2, kS2, kl2, km2⟩ := (I2.hok _ _ (upd_same)).1
    refine sorted_texts kS2 (I2.ok.hd hc) (by omega) km2 fun s' q out c k g o hp' hg hi hl => ?_
    have ho : out.toList.length = (sortSet zs).length := hi.length
    have hlen : ((sortSet zs).map V.str).length ≤ sizeLine := by
      rw [List.length_map, ← ho, Array.length_toList, sizeLine_eq]; omega
    have hq2 : (upd x.H s.heap.objs.size (SetSO X.w s.heap.objs.size zs)) q = none := I2.hok.fresh hp'
    have J : Inv X pins2 σ2 (upd (upd x.H s.heap.objs.size (SetSO X.w s.heap.objs.size zs)) q (.lst ((sortSet zs).map V.str))) { s2 with heap := s'.heap, gens := s'.gens, drawn := s'.drawn, toks := s'.toks } :=
      I2.call (ch := []) (Un.laid k hp' hq2) (I2.hok.laid k hp' ⟨hlen, out.toList, c, vals_of_strs hi, hg⟩) (by rw [g]; exact I2.bare) (fun _ z => nomatch z)
    have es : s' = { s2 with heap := s'.heap, gens := s'.gens, drawn := s'.drawn, toks := s'.toks } := by
      cases s'; cases s2; cases o; rfl
    rw [es]
    refine ⟨.ref q, _, J, rfl, ?_⟩
    have wy := Wp.to (y := ⟨x.F, x.io, x.S, upd x.H s.heap.objs.size (SetSO X.w s.heap.objs.size zs)⟩) w (Stp.new rs hn) (RS.new rs hn)
    refine wy q ((sortSet zs).map V.str) hq2 ?_ hlen
    generalize sortSet zs = ys
    induction ys with
    | nil => exact .nil
    | cons y ys ih => exact .cons (.d (.str y)) ih
  · cases e3
end
section
variable {X : Cx} {Φ : FT} {lo : Lim} {W : WX} {a : Expr} {ca : CE} {x y : Str} {p p2 pos pos2 : Pos}
theorem s_sortedSet (hc : X.calm = true) (hg : Gl X x) (hm : X.mg x = none) (hv : bootBuiltins x = some (.builtin "sorted")) (hn : x ≠ "__name__") (hdb : (x == ("__debug__" : Str)) = false)
    (hg2 : Gl X y) (hm2 : X.mg y = none) (hv2 : bootBuiltins y = some (.type "set")) (hn2 : y ≠ "__name__") (hdb2 : (y == ("__debug__" : Str)) = false) (hs : notStar a = true) (ha : SC X Φ lo W a ca) :
    SE X Φ lo W (.Call (.Name x p) [.Call (.Name y p2) [a] [] pos2] [] pos) (.prim .sortedSet [ca]) :=
  PE.imp (pe_callB (r := CallW X (.builtin "sorted")) callW hg hm hv (pa_cons (pe_callTy (r := CallW X (.type "set")) callW hg2 hm2 hv2 (pa_cons ha pa_nil (starEach_cons hs [] X.env)) hn2 hdb2 (starEach_cons hs [] X.env) rfl) pa_nil (starEach_cons rfl [] X.env)) hn hdb (starEach_cons rfl [] X.env) rfl) fun σ H Q ⟨x, ρ, g, w⟩ =>
    ⟨x, ρ, g, Wp.mono (args1 w) fun y c s ry w1 v rv => sortedSet_ok hc rfl ry rv w1⟩
end
end Mi
/-! M8: tests, what is walked, comprehensions. -/
namespace Mi
open PySem PySem.Spec L2
section
variable {X : Cx} {Φ : FT} {lo : Lim} {W : WX} {e a b o : Expr} {es rest : List Expr} {ca cb cc co : CE} {cs : List CE} {pos p apos : Pos} {x m : Str}
/-! ### tests -/
abbrev SBW (X : Cx) (Φ : FT) (lo : Lim) (W : WX) (e : Expr) (c : CE) : Prop := PW X e (TB X.K lo W (evB Φ lo c))
theorem PW.imp {t t' : TT} (h : PW X e t) (f : ∀ σ H Q, t' σ H Q → t σ H Q) : PW X e t' := ⟨fun wh pins s σ H Q I q => h.run wh pins s σ H Q I (f σ H Q q)⟩
theorem Wp.truth {K : Kf} {σ : SSt} {y : Sta} {c : Cell} {v : V} {Q : Bool → Hp → Prop} (ry : RS K y) (rv : RpC K y.F y.io c v) (w : Wp K lo W σ y (Res.of (truth y.S c) y.S) fun z b => Q b z.H) : ∃ k, TruV K v y.H k ∧ Q k y.H := by
  cases e : Mi.truth y.S c with
  | none => rw [e] at w; exact w.elim
  | some k =>
    rw [e] at w
    exact ⟨k, truth_ok ry e rv, Wp.ok (Q := fun z b => Q b z.H) w ry⟩
theorem sb_plain (h : plainTest e = true) (he : SC X Φ lo W e cc) : SB X Φ lo W e cc := PT.imp (pt_truth he fun w => plainTest_ok h X.env w) fun σ H Q ⟨x, ρ, g, w⟩ =>
  ⟨x, ρ, g, Wp.mono (Wp.bind w) fun y c s ry w1 v rv => Wp.truth ry rv w1⟩
theorem evB_not (ρ : Rho) (S : Stg) : evB Φ lo (.prim .not [ca]) ρ S = (evB Φ lo ca ρ S).bind fun b S1 => .ok (!b) S1 := by
  show ((((ev Φ lo ca ρ S).bind fun c S1 => (Res.ok [] S1).bind fun cs S2 => .ok (c :: cs) S2).bind fun cs S1 => primR lo .not cs S1).bind fun p S1 => freeze S1 p).bind (fun v S1 => Res.of (truth S1 v) S1) = ((ev Φ lo ca ρ S).bind fun v S1 => Res.of (truth S1 v) S1).bind fun b S1 => .ok (!b) S1
  cases ev Φ lo ca ρ S with
  | bad => rfl
  | exc _ _ => rfl
  | ok c S1 =>
    show ((primR lo .not [c] S1).bind fun p S1 => freeze S1 p).bind (fun v S1 => Res.of (truth S1 v) S1) = (Res.of (truth S1 c) S1).bind fun b S1 => .ok (!b) S1
    have e : primSem lo .not [c] S1 = (ovB ((truth S1 c).map not)).map fun p => (p, S1) := rfl
    unfold primR
    rw [e]
    cases truth S1 c with
    | none => rfl
    | some b => rfl
theorem sb_not (h : SB X Φ lo W a ca) : SB X Φ lo W (.UnaryOp .Not a pos) (.prim .not [ca]) := PT.imp (pt_not h) fun σ H Q ⟨x, ρ, g, w⟩ => by
  rw [evB_not] at w
  exact ⟨x, ρ, g, Wp.mono (Wp.bind w) fun y b s ry w1 => Wp.ok (Q := fun z b => Q b z.H) w1 ry⟩
theorem evB_and (ρ : Rho) (S : Stg) : evB Φ lo (.and ca cb) ρ S = (evB Φ lo ca ρ S).bind fun b S1 => if b = true then evB Φ lo cb ρ S1 else .ok false S1 := by
  show (((ev Φ lo ca ρ S).bind fun c S1 => match truth S1 c with | some true => evV Φ lo cb ρ S1 | some false => .ok (.v c) S1 | none => .bad).bind fun p S1 => freeze S1 p).bind (fun v S1 => Res.of (truth S1 v) S1) = ((ev Φ lo ca ρ S).bind fun v S1 => Res.of (truth S1 v) S1).bind _
  cases ev Φ lo ca ρ S with
  | bad => rfl
  | exc _ _ => rfl
  | ok c S1 =>
    show ((match truth S1 c with | some true => evV Φ lo cb ρ S1 | some false => .ok (.v c) S1 | none => .bad).bind fun p S1 => freeze S1 p).bind (fun v S1 => Res.of (truth S1 v) S1) = (Res.of (truth S1 c) S1).bind _
    cases h : truth S1 c with
    | none => rfl
    | some k =>
      cases k with
      | true => rfl
      | false =>
        show Res.of (truth S1 c) S1 = .ok false S1
        rw [h]; rfl
theorem evB_or (ρ : Rho) (S : Stg) : evB Φ lo (.or ca cb) ρ S = (evB Φ lo ca ρ S).bind fun b S1 => if b = true then .ok true S1 else evB Φ lo cb ρ S1 := by
  show (((ev Φ lo ca ρ S).bind fun c S1 => match truth S1 c with | some true => .ok (.v c) S1 | some false => evV Φ lo cb ρ S1 | none => .bad).bind fun p S1 => freeze S1 p).bind (fun v S1 => Res.of (truth S1 v) S1) = ((ev Φ lo ca ρ S).bind fun v S1 => Res.of (truth S1 v) S1).bind _
  cases ev Φ lo ca ρ S with
  | bad => rfl
  | exc _ _ => rfl
  | ok c S1 =>
    show ((match truth S1 c with | some true => Res.ok (PV.v c) S1 | some false => evV Φ lo cb ρ S1 | none => Res.bad).bind fun p S1 => freeze S1 p).bind (fun v S1 => Res.of (truth S1 v) S1) = (Res.of (truth S1 c) S1).bind _
    cases h : truth S1 c with
    | none => rfl
    | some k =>
      cases k with
      | false => rfl
      | true =>
        show Res.of (truth S1 c) S1 = .ok true S1
        rw [h]; rfl
theorem sbw_and (ha : SB X Φ lo W a ca) (hb : SBW X Φ lo W (.BoolOp .And (b :: rest) pos) cb) : SBW X Φ lo W (.BoolOp .And (a :: b :: rest) pos) (.and ca cb) := PW.imp (pw_and ha hb) fun σ H Q ⟨x, ρ, g, w⟩ => by
  rw [evB_and] at w
  refine ⟨x, ρ, g, Wp.mono (Wp.bind w) fun y k s ry w1 => ?_⟩
  cases k with
  | true => exact ⟨y, ρ, g.stp s ry, w1⟩
  | false => exact Wp.ok (Q := fun z b => Q b z.H) w1 ry
theorem sbw_or (ha : SB X Φ lo W a ca) (hb : SBW X Φ lo W (.BoolOp .Or (b :: rest) pos) cb) : SBW X Φ lo W (.BoolOp .Or (a :: b :: rest) pos) (.or ca cb) := PW.imp (pw_or ha hb) fun σ H Q ⟨x, ρ, g, w⟩ => by
  rw [evB_or] at w
  refine ⟨x, ρ, g, Wp.mono (Wp.bind w) fun y k s ry w1 => ?_⟩
  cases k with
  | false => exact ⟨y, ρ, g.stp s ry, w1⟩
  | true => exact Wp.ok (Q := fun z b => Q b z.H) w1 ry
theorem sbw_one {op : BoolOp} (ha : SB X Φ lo W a ca) : SBW X Φ lo W (.BoolOp op [a] pos) ca := by
  cases op with
  | And => exact PW.imp (pw_and1 ha) fun _ _ _ h => h
  | Or => exact PW.imp (pw_or1 ha) fun _ _ _ h => h
/-- a comparison gives True or False -/
theorem cmp_bl {op : CmpOp} {c d : Cell} {S S' : Stg} {p : PV} (h : primSem lo (.cmp op) [c, d] S = some (p, S')) : ∃ k, p = .v (.d (.bl k)) := by
  unfold primSem ovB at h
  simp only [Option.map_eq_some_iff] at h
  obtain ⟨q, ⟨k, _, rfl⟩, e⟩ := h
  exact ⟨k, (Prod.mk.inj e).1.symm⟩
theorem sb_cmp {op : CmpOp} (hu : X.A.units + 65 < cLine) (hm : behindInMarks op b = false) (ha : SC X Φ lo W a ca) (hb : SC X Φ lo W b cb) : SB X Φ lo W (.Compare a [op] [b] pos) (.prim (.cmp op) [ca, cb]) := PT.imp (pt_cmpR opW ha hb hm) fun σ H Q ⟨x, ρ, g, w⟩ => by
  have w1 : Wp X.K lo W σ x ((evs Φ lo [ca, cb] ρ x.S).bind fun cs S1 => ((primR lo (.cmp op) cs S1).bind fun p S1 => freeze S1 p).bind fun v S1 => Res.of (truth S1 v) S1) fun y b => Q b y.H := by
    have e : evB Φ lo (.prim (.cmp op) [ca, cb]) ρ x.S = (evs Φ lo [ca, cb] ρ x.S).bind fun cs S1 => ((primR lo (.cmp op) cs S1).bind fun p S1 => freeze S1 p).bind fun v S1 => Res.of (truth S1 v) S1 := by
      show ((((evs Φ lo [ca, cb] ρ x.S).bind fun cs S1 => primR lo (.cmp op) cs S1).bind fun p S1 => freeze S1 p).bind fun v S1 => Res.of (truth S1 v) S1) = _
      cases evs Φ lo [ca, cb] ρ x.S <;> rfl
    rw [← e]
    exact w
  refine ⟨x, ρ, g, Wp.mono (args2 w1) fun y c s ry w2 v rv => ⟨y, ρ, g.stp s ry, Wp.mono w2 fun z d s2 rz w3 u ru => ?_⟩⟩
  refine cmp_ok hu rfl rz (rv.stp s2) ru (lo := lo) (W := W) (σ := σ) (Q := fun x H' => ∃ k, x = .bl k ∧ Q k H') ?_
  unfold primR at w3 ⊢
  cases h : primSem lo (.cmp op) [c, d] z.S with
  | none => rw [h] at w3; exact w3
  | some q =>
    obtain ⟨q, S'⟩ := q
    obtain ⟨k, rfl⟩ := cmp_bl h
    rw [h] at w3
    intro F' io' H' s3 r3 v rv
    refine ⟨k, rc_bl rv, ?_⟩
    exact w3 F' io' H' s3 r3

/-! ### what is walked -/
/-- the lists of the store among the sources are frozen, or may not be written -/
def Prot (L : Lim) (y : Sta) (cs : List Cell) : Prop := ∀ n, Cell.r n ∈ cs → (∃ d, y.S[n]? = some (.frz d)) ∨ n < L.ro
/-- the iterator J comes to these items, as long as the sources stay -/
def ItOk (K : Kf) (y : Sta) (cs its : List Cell) (J : It) : Prop := ∀ (L : Lim) (z : Sta), Prot L y cs → Stp L y z → RS K z →
  J.stop its.length z.H ∧ (∀ i, i < its.length → J.go i z.H) ∧ ∀ i v H', i < its.length → J.yld i z.H v H' → ∃ z' : Sta, z'.H = H' ∧ z'.S = z.S ∧ (∀ l, Stp l z z') ∧ RS K z' ∧ ∃ c, its[i]? = some c ∧ RpC K z'.F z'.io c v
theorem paired_back {R : Cell → V → Prop} : ∀ {cs : List Cell} {vs : List V} {j : Nat} {v : V}, Paired R cs vs → vs[j]? = some v → ∃ c, cs[j]? = some c ∧ R c v
  | _, _, 0, _, .cons r _, h => by simp at h; subst h; exact ⟨_, rfl, r⟩
  | _, _, j + 1, c, .cons _ t, h => by
    obtain ⟨v, h1, h2⟩ := paired_back (j := j) t (by simpa using h)
    exact ⟨v, by simpa using h1, h2⟩
  | _, _, _, _, .nil, h => by simp at h
/-- a list of the store as it stays -/
theorem viewL_stays {K : Kf} {y z : Sta} {L : Lim} {c : Cell} {its : List Cell} {v : V} (ry : RS K y) (h : viewL y.S c = some its) (rv : RpC K y.F y.io c v) (pr : Prot L y [c]) (s : Stp L y z) (rz : RS K z) :
    ∃ a vs, v = .ref a ∧ SqL K z.H a vs ∧ Paired (RpC K z.F z.io) its vs := by
  cases c with
  | d x => exact viewL_ok rz (by rw [viewL_d z.S y.S]; exact h) (rv.stp s)
  | r n =>
    rcases pr n (List.mem_singleton.mpr rfl) with ⟨d, hd⟩ | hn
    · rw [viewL_r, hd] at h
      cases rv with
      | r e1 =>
        obtain ⟨a, ea, q⟩ := ry.ob n _ hd
        rw [e1] at ea
        cases ea
        cases q with
        | frz h1 => cases h1 with
          | lst s1 t1 =>
            cases h
            exact ⟨_, _, rfl, sqL_mono (s.ff.trans rz.fh) s1, all_paired (t1.mono s.ff)⟩
          | _ => cases h
    · exact viewL_ok rz (by rw [viewL_r, s.ro n hn]; exact h) (rv.stp s)
theorem it_list {K : Kf} {y : Sta} {c : Cell} {its : List Cell} {a : Addr} (ry : RS K y) (h : viewL y.S c = some its) (rv : RpC K y.F y.io c (.ref a)) : ItOk K y [c] its (Itl K a) := by
  intro L z pr s rz
  obtain ⟨b, vs, e, hq, hp⟩ := viewL_stays ry h rv pr s rz
  cases e
  refine ⟨⟨vs, hq, by rw [hp.length]; exact Nat.le_refl _⟩, fun i hi => ?_, fun i v H' _ ⟨e1, e2⟩ => ?_⟩
  · have hi' : i < vs.length := by rw [← hp.length]; exact hi
    exact ⟨vs, _, hq, List.getElem?_eq_getElem hi'⟩
  · subst e1
    obtain ⟨c', h1, h2⟩ := paired_back hp (e2 vs hq)
    exact ⟨z, rfl, rfl, fun l => Stp.refl l z, rz, c', h1, h2⟩
theorem it_tup {K : Kf} {y : Sta} {c : Cell} {ds : List D} {a : Addr} (ry : RS K y) (h : viewT c = some ds) (rv : RpC K y.F y.io c (.ref a)) : ItOk K y [c] (ds.map .d) (Itt K a) := by
  intro L z pr s rz
  obtain ⟨b, vs, e, hq, hp⟩ := viewT_ok rz h (rv.stp s)
  cases e
  have hp : Paired (RpC K z.F z.io) (ds.map .d) vs := all_paired hp
  refine ⟨⟨vs, hq, by rw [hp.length]; exact Nat.le_refl _⟩, fun i hi => ?_, fun i v H' _ ⟨e1, e2⟩ => ?_⟩
  · have hi' : i < vs.length := by rw [← hp.length]; exact hi
    exact ⟨vs, _, hq, List.getElem?_eq_getElem hi'⟩
  · subst e1
    obtain ⟨c', h1, h2⟩ := paired_back hp (e2 vs hq)
    exact ⟨z, rfl, rfl, fun l => Stp.refl l z, rz, c', h1, h2⟩
theorem it_range {K : Kf} {y : Sta} {cs : List Cell} (l : Int) (n : Nat) : ItOk K y cs ((List.range n).map fun (i : Nat) => .d (.int (l + i))) (Itr l n) := by
  intro L z pr s rz
  refine ⟨by show n ≤ _; simp, fun i hi => by show i < n; simpa using hi, fun i v H' e0 ⟨e1, e2⟩ => ?_⟩
  replace e0 : i < n := by simpa using e0
  subst e1 e2
  refine ⟨z, rfl, rfl, fun l => Stp.refl l z, rz, .d (.int (l + i)), ?_, .d (.int _)⟩
  rw [List.getElem?_map, List.getElem?_range e0]
  rfl
/-- .. also where the store was frozen meanwhile -/
def ItAll (K : Kf) (lo : Lim) (y : Sta) (k : Itk) (cs its : List Cell) (J : It) : Prop := ∀ y2 : Sta, Stp lo y y2 → RS K y2 → items y2.S k cs = some its → ItOk K y2 cs its J
/-- an iterator's reading -/
def TIt (K : Kf) (lo : Lim) (W : WX) (Φ : FT) (k : Itk) (as : List CE) : TI := fun σ H R => ∃ (x : Sta) (ρ : Rho), Go K lo x ρ σ H ∧
  Wp K lo W σ x (evs Φ lo as ρ x.S) fun y cs => ∃ its, items y.S k cs = some its ∧ ∀ J, ItAll K lo y k cs its J → R J y.H
theorem PI.imp {tg iter : Expr} {t t' : TI} (h : PI X tg iter t) (f : ∀ σ H R, t' σ H R → t σ H R) : PI X tg iter t' := ⟨fun pins s σ H R I q => h.run pins s σ H R I (f σ H R q)⟩
theorem PI.or {tg iter : Expr} {t t' : TI} (h : PI X tg iter t) (h' : PI X tg iter t') : PI X tg iter (fun σ H R => t σ H R ∨ t' σ H R) := ⟨fun pins s σ H R I q => q.elim (h.run pins s σ H R I) (h'.run pins s σ H R I)⟩
end
end Mi
/-! M9: targets, comprehensions. -/
namespace Mi
open PySem PySem.Spec L2
/-! ### slots -/
def Agree (vs : List Nat) (σ τ : SSt) : Prop := σ.length = τ.length ∧ ∀ i, i ∉ vs → σ[i]? = τ[i]?
theorem wipe_at (σ : SSt) : ∀ (vs : List Nat) (i : Nat), (wipe σ vs)[i]? = if i ∈ vs then (σ[i]?).map (fun _ => none) else σ[i]?
  | [], i => by simp [wipe]
  | v :: vs, i => by
    unfold wipe
    rw [List.getElem?_set]
    have ih := wipe_at σ vs i
    by_cases h : v = i
    · subst h
      rw [if_pos rfl, if_pos List.mem_cons_self, wipe_length]
      by_cases hl : v < σ.length
      · rw [if_pos hl, List.getElem?_eq_getElem hl]; rfl
      · rw [if_neg hl, List.getElem?_eq_none (by omega)]; rfl
    · rw [if_neg h, ih]
      by_cases hm : i ∈ vs
      · rw [if_pos hm, if_pos (List.mem_cons_of_mem _ hm)]
      · rw [if_neg hm, if_neg (fun z => (List.mem_cons.mp z).elim (fun e => h e.symm) hm)]
theorem wipe_agree {vs : List Nat} {σ τ : SSt} (h : Agree vs σ τ) : wipe σ vs = wipe τ vs := by
  apply List.ext_getElem?
  intro i
  rw [wipe_at, wipe_at]
  by_cases hm : i ∈ vs
  · rw [if_pos hm, if_pos hm]
    by_cases hl : i < σ.length
    · rw [List.getElem?_eq_getElem hl, List.getElem?_eq_getElem (by rw [← h.1]; exact hl)]; rfl
    · rw [List.getElem?_eq_none (by omega), List.getElem?_eq_none (by rw [← h.1]; omega)]
  · rw [if_neg hm, if_neg hm, h.2 i hm]
theorem agree_wipe (vs : List Nat) (σ : SSt) : Agree vs (wipe σ vs) σ := ⟨wipe_length σ vs, fun i hi => by rw [wipe_at, if_neg hi]⟩
theorem Agree.trans {vs : List Nat} {σ τ υ : SSt} (a : Agree vs σ τ) (b : Agree vs τ υ) : Agree vs σ υ := ⟨a.1.trans b.1, fun i hi => (a.2 i hi).trans (b.2 i hi)⟩
theorem Agree.sub {vs ws : List Nat} {σ τ : SSt} (a : Agree vs σ τ) (h : ∀ i ∈ vs, i ∈ ws) : Agree ws σ τ := ⟨a.1, fun i hi => a.2 i fun z => hi (h i z)⟩
theorem Agree.refl (vs : List Nat) (σ : SSt) : Agree vs σ σ := ⟨rfl, fun _ _ => rfl⟩
theorem wipeR_len (ρ : Rho) : ∀ vs : List Nat, (wipeR ρ vs).length = ρ.length
  | [] => rfl
  | v :: vs => by unfold wipeR; rw [List.length_set, wipeR_len ρ vs]
theorem RE.wipe {K : Kf} {x : Sta} {ρ : Rho} {σ : SSt} (h : RE K x ρ σ) : ∀ vs : List Nat, RE K x (wipeR ρ vs) (L2.wipe σ vs)
  | [] => h
  | v :: vs => by
    have ih := RE.wipe h vs
    unfold wipeR L2.wipe
    refine ⟨by rw [List.length_set, List.length_set, ih.len], fun i c e => ?_⟩
    rw [List.getElem?_set] at e ⊢
    by_cases hv : v = i
    · rw [if_pos hv] at e
      split at e <;> cases e
    · rw [if_neg hv] at e ⊢
      exact ih.at_ i c e

/-! ### targets -/
def TGt (K : Kf) (tg : Tg) : TG := fun v σ H Q => ∃ (x : Sta) (ρ ρ1 : Rho) (c : Cell), x.H = H ∧ RS K x ∧ RE K x ρ σ ∧ RpC K x.F x.io c v ∧ setTg tg c ρ = some ρ1 ∧ ∀ σ1, RE K x ρ1 σ1 → Agree (slotsOf tg) σ1 σ → Q σ1 H
def TGts (K : Kf) (ts : List Tg) : TGs := fun vs σ H Q => ∃ (x : Sta) (ρ ρ1 : Rho) (cs : List Cell), x.H = H ∧ RS K x ∧ RE K x ρ σ ∧ Paired (RpC K x.F x.io) cs vs ∧ setTgs ts cs ρ = some ρ1 ∧ ∀ σ1, RE K x ρ1 σ1 → Agree (slotsOfs ts) σ1 σ → Q σ1 H
section
variable {X : Cx} {Φ : FT} {lo : Lim} {W : WX} {e a b o : Expr} {es rest : List Expr} {ca cb cc co : CE} {cs : List CE} {pos p apos : Pos} {x m : Str}
theorem PG.imp {t t' : TG} (h : PG X e t) (f : ∀ v σ H Q, t' v σ H Q → t v σ H Q) : PG X e t' := ⟨fun pins s σ H v u Q I r q => h.run pins s σ H v u Q I r (f v σ H Q q)⟩
theorem PGs.imp {t t' : TGs} (h : PGs X es t) (f : ∀ v σ H Q, t' v σ H Q → t v σ H Q) : PGs X es t' := ⟨fun pins s σ H v u Q I r q => h.run pins s σ H v u Q I r (f v σ H Q q)⟩
theorem sg_slot {i : Nat} (h : PG X e (gName i)) : PG X e (TGt X.K (.slot i)) := PG.imp h fun v σ H Q ⟨x, ρ, ρ1, c, _, rs, re, rc, hs, q⟩ => by
  unfold setTg at hs
  split at hs
  · cases hs
    refine q _ (re.set i rc) ⟨by rw [List.length_set], fun j hj => ?_⟩
    rw [List.getElem?_set_ne (fun z => hj (by rw [← z]; exact List.mem_singleton.mpr rfl))]
  · cases hs
theorem sgs_nil : PGs X [] (TGts X.K []) := PGs.imp pgs_nil fun vs σ H Q ⟨x, ρ, ρ1, cs, _, rs, re, rc, hs, q⟩ => by
  cases rc with
  | nil =>
    cases hs
    exact ⟨rfl, q σ re (Agree.refl _ _)⟩
  | cons _ _ => cases hs
theorem assignEach_cons (hs : notStar e = true) (es : List Expr) (env : Env) : assignEach (e :: es) env = (false, assign e env) :: assignEach es env := by
  cases e <;> first | rfl | cases hs
theorem sgs_cons {t : Tg} {ts : List Tg} (hs : notStar e = true) (h : PG X e (TGt X.K t)) (hes : PGs X es (TGts X.K ts)) : PGs X (e :: es) (TGts X.K (t :: ts)) := PGs.imp (pgs_cons h hes (by rw [assignEach_cons hs]; rfl)) fun vs σ H Q ⟨x, ρ, ρ1, cs, hH, rs, re, rc, hs, q⟩ => by
  cases rc with
  | nil => cases hs
  | cons r rt =>
    unfold setTgs at hs
    simp only [Option.bind_eq_some_iff] at hs
    obtain ⟨ρ2, h1, h2⟩ := hs
    refine ⟨_, _, rfl, x, ρ, ρ2, _, hH, rs, re, r, h1, fun σ2 re2 ag2 => ?_⟩
    refine ⟨x, ρ2, ρ1, _, hH, rs, re2, rt, h2, fun σ1 re1 ag1 => q σ1 re1 ?_⟩
    exact (ag1.sub fun i hi => List.mem_append_right _ hi).trans (ag2.sub fun i hi => List.mem_append_left _ hi)
theorem sg_tup {k : Nat} {ts : List Tg} (hc : X.calm = true) (hs : es.all notStar = true) (hl : es.length = ts.length) (h : PGs X es (TGts X.K ts)) : PG X (.Tuple es k pos) (TGt X.K (.tup ts)) := by
  have hlen : ∀ {es : List Expr}, es.all notStar = true → (assignEach es X.env).length = es.length ∧ (assignEach es X.env).findIdx? (·.1) = none := by
    intro es
    induction es with
    | nil => intro _; exact ⟨rfl, rfl⟩
    | cons e es ih =>
      intro h
      rw [List.all_cons, Bool.and_eq_true] at h
      rw [assignEach_cons h.1]
      obtain ⟨h1, h2⟩ := ih h.2
      refine ⟨by rw [List.length_cons, List.length_cons, h1], ?_⟩
      rw [List.findIdx?_cons]
      simp [h2]
  obtain ⟨h1, h2⟩ := hlen hs
  have len_ts : ∀ {ts : List Tg} {cs : List Cell} {ρ ρ1 : Rho}, setTgs ts cs ρ = some ρ1 → cs.length = ts.length := by
    intro ts
    induction ts with
    | nil =>
      intro cs ρ ρ1 h
      cases cs with
      | nil => rfl
      | cons _ _ => cases h
    | cons t ts ih =>
      intro cs ρ ρ1 h
      cases cs with
      | nil => cases h
      | cons c cs =>
        unfold setTgs at h
        simp only [Option.bind_eq_some_iff] at h
        obtain ⟨ρ2, _, h2⟩ := h
        rw [List.length_cons, List.length_cons, ih h2]
  refine PG.imp (pg_tup hc h h1 h2) fun v σ H Q ⟨x, ρ, ρ1, c, hH, rs, re, rc, hs, q⟩ => ?_
  unfold setTg at hs
  split at hs
  · rename_i ds hv
    obtain ⟨a, vs, rfl, h3, h4⟩ := viewT_ok rs hv rc
    have hp : Paired (RpC X.K x.F x.io) (ds.map .d) vs := all_paired h4
    subst hH
    exact ⟨a, vs, rfl, h3, by rw [← hp.length, len_ts hs, hl], x, ρ, ρ1, _, rfl, rs, re, hp, hs, q⟩
  · cases hs

/-! ### iterators -/
theorem evs_one {K : Kf} {σ : SSt} {x : Sta} {ρ : Rho} {Q : Sta → List Cell → Prop} (w : Wp K lo W σ x (evs Φ lo [ca] ρ x.S) Q) : Wp K lo W σ x (ev Φ lo ca ρ x.S) fun y c => Q y [c] := by
  have e : evs Φ lo [ca] ρ x.S = (ev Φ lo ca ρ x.S).bind fun c S1 => .ok [c] S1 := by
    show ((ev Φ lo ca ρ x.S).bind fun c S1 => (Res.ok [] S1).bind fun cs S2 => .ok (c :: cs) S2) = _
    cases ev Φ lo ca ρ x.S <;> rfl
  rw [e] at w
  exact Wp.mono (Wp.bind w) fun y c s ry w1 => Wp.ok w1 ry
theorem si_plain {tg : Expr} (h : SC X Φ lo W a ca) : PI X tg a (TIt X.K lo W Φ .plain [ca]) := PI.imp (PI.or (pi_list h) (pi_tup h)) fun σ H R ⟨x, ρ, g, w⟩ => by
  have w := evs_one w
  cases hc : ev Φ lo ca ρ x.S with
  | bad => rw [hc] at w; exact w.elim
  | exc e S => exact .inl ⟨x, ρ, g, by rw [hc] at w ⊢; exact w⟩
  | ok c S =>
    have w2 := Wp.and (P := fun c' => c' = c) w fun c' S' e => by rw [hc] at e; cases e; rfl
    cases hv : viewT c with
    | some ds =>
      refine .inr ⟨x, ρ, g, Wp.mono w2 fun y c' s ry ⟨⟨its, h1, h2⟩, h3⟩ v rv => ?_⟩
      subst h3
      obtain ⟨a', vs, rfl, hq, hp⟩ := viewT_ok ry hv rv
      have e : items y.S .plain [c'] = some (ds.map .d) := by
        show viewS y.S c' = _
        unfold viewS
        rw [hv]
      rw [e] at h1
      cases h1
      exact ⟨a', rfl, ⟨vs, hq⟩, h2 _ fun y2 s2 r2 _ => it_tup r2 hv (rv.stp s2)⟩
    | none =>
      refine .inl ⟨x, ρ, g, Wp.mono w2 fun y c' s ry ⟨⟨its, h1, h2⟩, h3⟩ v rv => ?_⟩
      subst h3
      have e : items y.S .plain [c'] = viewL y.S c' := by
        show viewS y.S c' = _
        unfold viewS
        rw [hv]
      rw [e] at h1
      obtain ⟨a', vs, rfl, hq, hp⟩ := viewL_ok ry h1 rv
      refine ⟨a', rfl, ⟨vs, hq⟩, h2 _ fun y2 s2 r2 e2 => it_list r2 ?_ (rv.stp s2)⟩
      replace e2 : viewS y2.S c' = some its := e2
      unfold viewS at e2
      rw [hv] at e2
      exact e2
theorem si_range1 {tg : Expr} (hg : Gl X "range") (hm : X.mg "range" = none) (hs : notStar a = true) (h : SC X Φ lo W a ca) : PI X tg (.Call (.Name "range" p) [a] [] pos) (TIt X.K lo W Φ .range1 [ca]) :=
  PI.imp (pi_range1 hg hm (pa_cons h pa_nil (starEach_cons hs [] X.env)) (starEach_cons hs [] X.env)) fun σ H R ⟨x, ρ, g, w⟩ => by
    refine ⟨x, ρ, g, Wp.mono (evs_one w) fun y c s ry ⟨its, h1, h2⟩ v rv => ?_⟩
    replace h1 : rng1 c = some its := h1
    unfold rng1 at h1
    split at h1
    · rename_i n _
      split at h1
      · rename_i hn
        cases h1
        rw [Bool.and_eq_true] at hn
        refine ⟨n, by rw [rc_int rv], of_decide_eq_true hn.1, of_decide_eq_true hn.2, h2 _ fun y2 s2 r2 e2 => ?_⟩
        have := it_range (K := X.K) (y := y2) (cs := [.d (.int n)]) 0 n.toNat
        simpa using this
      · cases h1
    · cases h1
theorem evs_two {K : Kf} {σ : SSt} {x : Sta} {ρ : Rho} {Q : Sta → List Cell → Prop} (w : Wp K lo W σ x (evs Φ lo [ca, cb] ρ x.S) Q) : Wp K lo W σ x (ev Φ lo ca ρ x.S) fun y c => Wp K lo W σ y (ev Φ lo cb ρ y.S) fun z d => Stp lo y z → Q z [c, d] := by
  have e : evs Φ lo [ca, cb] ρ x.S = (evs Φ lo [ca, cb] ρ x.S).bind fun cs S1 => .ok cs S1 := by cases evs Φ lo [ca, cb] ρ x.S <;> rfl
  rw [e] at w
  exact Wp.mono (args2 w) fun y c s ry w1 => Wp.mono w1 fun z d s2 rz w2 _ => Wp.ok w2 rz
theorem si_range2 {tg : Expr} (hg : Gl X "range") (hm : X.mg "range" = none) (hs : notStar a = true) (hs2 : notStar b = true) (h : SC X Φ lo W a ca) (h' : SC X Φ lo W b cb) : PI X tg (.Call (.Name "range" p) [a, b] [] pos) (TIt X.K lo W Φ .range2 [ca, cb]) :=
  PI.imp (pi_range2 hg hm (pa_cons h (pa_cons h' pa_nil (starEach_cons hs2 [] X.env)) (starEach_cons hs [b] X.env)) (by rw [starEach_cons hs, starEach_cons hs2]; rfl) (starEach_cons hs2 [] X.env)) fun σ H R ⟨x, ρ, g, w⟩ => by
    refine ⟨x, ρ, g, Wp.mono (evs_two w) fun y c s ry w1 v rv => ⟨y, ρ, g.stp s ry, Wp.mono w1 fun z d s2 rz q u ru => ?_⟩⟩
    obtain ⟨its, h1, h2⟩ := q s2
    replace h1 : rng2 c d = some its := h1
    unfold rng2 at h1
    split at h1
    · rename_i n m
      split at h1
      · rename_i hn
        cases h1
        simp only [Bool.and_eq_true, decide_eq_true_eq] at hn
        refine ⟨n, m, by rw [rc_int rv, rc_int ru], ⟨hn.1.1.1, hn.1.1.2, hn.1.2, hn.2⟩, h2 _ fun y2 s2 r2 e2 => it_range n _⟩
      · cases h1
    · cases h1

/-! ### a comprehension -/
def del (H : Hp) (a : Addr) : Hp := fun b => if b = a then none else H b
theorem del_same {H : Hp} {a : Addr} : del H a a = none := if_pos rfl
theorem del_ne {H : Hp} {a b : Addr} (h : b ≠ a) : del H a b = H b := if_neg h
theorem upd_del {H : Hp} {a : Addr} {o : HO} : upd (del H a) a o = upd H a o := by
  funext b
  by_cases h : b = a
  · subst h; rw [upd_same, upd_same]
  · rw [L2.upd_ne h, L2.upd_ne h, del_ne h]
theorem upd_self {H : Hp} {a : Addr} {o : HO} (h : H a = some o) : upd H a o = H := by
  funext b
  by_cases e : b = a
  · subst e; rw [upd_same, h]
  · rw [L2.upd_ne e]
/-- what nobody keeps goes -/
theorem RS.del {K : Kf} {x : Sta} {a : Addr} (rs : RS K x) (hf : x.F a = none) (hi : a ∉ x.io) : RS K ⟨x.F, x.io, x.S, del x.H a⟩ := by
  have ne : ∀ b u, Rd x.F b u → b ≠ a := fun b u r z => by
    subst z
    rcases r with r | ⟨_, r⟩ <;> (rw [hf] at r; cases r)
  refine ⟨⟨fun b u r => ?_, fun b C dx fs r => ?_⟩, rs.len, rs.nd, rs.nf, fun n ob e => ?_, fun b hb => ?_⟩
  · have q := rs.fh.rd b u r
    show Mi.del x.H a b = some u ∨ ∃ o, Mi.del x.H a b = some (.frz o u)
    rw [del_ne (ne b u r)]
    exact q
  · have hn : b ≠ a := fun z => by subst z; rw [show x.F b = none from hf] at r; cases r
    show Mi.del x.H a b = _
    rw [del_ne hn]
    exact rs.fh.ins b C dx fs r
  · obtain ⟨b, eb, q⟩ := rs.ob n ob e
    have hn : b ≠ a := fun z => hi (z ▸ List.mem_of_getElem? eb)
    refine ⟨b, eb, ?_⟩
    cases q with
    | lst h1 h2 => exact .lst ((del_ne hn).trans h1) h2
    | dct h1 h2 => exact .dct ((del_ne hn).trans h1) h2
    | ins h1 h2 => exact .ins ((del_ne hn).trans h1) h2
    | frz h1 => exact .frz h1
  · have hn : b ≠ a := fun z => hi (z ▸ hb)
    show Mi.del x.H a b ≠ none
    rw [del_ne hn]
    exact rs.th b hb
theorem viewS_lt {S : Stg} {n : Nat} {its : List Cell} (h : viewS S (.r n) = some its) : n < S.length := by
  replace h : viewO S[n]? = some its := h
  cases e : S[n]? with
  | none => rw [e] at h; cases h
  | some o => exact (List.getElem?_eq_some_iff.mp e).1
theorem items_lt {S : Stg} {k : Itk} {cs its : List Cell} {n : Nat} (h : items S k cs = some its) (hn : Cell.r n ∈ cs) : n < S.length := by
  unfold items at h
  split at h
  · cases List.mem_singleton.mp hn
    exact viewS_lt h
  · cases List.mem_singleton.mp hn
    cases h
  · rcases List.mem_cons.mp hn with e | hn
    · subst e; cases h
    · cases List.mem_singleton.mp hn
      unfold rng2 at h
      split at h
      · rename_i e; cases e
      · cases h
  · cases h
theorem Res.bind_assoc {α β γ : Type} (r : Res α) (f : α → Stg → Res β) (g : β → Stg → Res γ) : (r.bind f).bind g = r.bind fun a S => (f a S).bind g := by cases r <;> rfl
theorem Wp.lim {α : Type} {K : Kf} {σ : SSt} {x : Sta} {r : Res α} {Q : Sta → α → Prop} {L : Lim} (w : Wp K lo W σ x r Q) (h1 : lo.lo ≤ L.lo) (h2 : lo.ro ≤ L.ro) : Wp K L W σ x r Q := by
  cases r with
  | ok a S => exact fun F' io' H' s => w F' io' H' (s.lo_mono h1 h2)
  | exc e S => exact fun cls d F' io' H' s => w cls d F' io' H' (s.lo_mono h1 h2)
  | bad => exact w
/-- the state without the list that is being made -/
theorem Stp.del {K : Kf} {x y : Sta} {a : Addr} (s : Stp lo x y) (hx : x.H a = none) : Stp lo x ⟨y.F, y.io, y.S, del y.H a⟩ :=
  ⟨s.ff, s.pre, fun b o e n => by show Mi.del y.H a b = some o; rw [del_ne (ne_of_none e hx)]; exact s.keep b o e n, s.newF, s.newI, s.ro, s.cl⟩
theorem Wp.noX {α : Type} {K : Kf} {σ τ : SSt} {x : Sta} {r : Res α} {Q : Sta → α → Prop} {W' : WX} (w : Wp K lo W σ x r.noX Q) : Wp K lo W' τ x r Q := by
  cases r with
  | ok a S => exact w
  | exc e S => exact w.elim
  | bad => exact w.elim
/-- tests of a comprehension, all -/
abbrev WF : WX := fun _ _ _ _ => False
def TTs (K : Kf) (Φ : FT) (ifs : List CE) : TT := fun σ H Q => ∃ L : Lim, TB K L WF (evT Φ L ifs) σ H Q
def TEs (K : Kf) (Φ : FT) (c : CE) : TE := fun σ H Q => ∃ L : Lim, TC K L WF (ev Φ L c) σ H Q
theorem s_comp {elt tg iter : Expr} {ifs : List Expr} {scope : Scope} {own : List (Str × Nat)} {ct : List CE} {tgc : Tg} {k : Itk} {as : List CE} {ce : CE} (hc : X.calm = true) (hN : X.N.Nodup)
    (hi : PI X tg iter (TIt X.K lo W Φ k as)) (ok : BlkOk X.N X.env.scope scope own) (hown : own.map (·.2) = slotsOf tgc)
    (hg : ∀ (s : Shared) (H : Hp) (C : Addr) (cl : List (Str × Addr)) (fp : List Addr), PG (X.blk s H scope (compEnvC scope cl C X.env) fp) tg (TGt X.K tgc))
    (ht : ∀ (s : Shared) (H : Hp) (C : Addr) (cl : List (Str × Addr)) (fp : List Addr), PTs (X.blk s H scope (compEnvC scope cl C X.env) fp) ifs (TTs X.K Φ ct))
    (he : ∀ (s : Shared) (H : Hp) (C : Addr) (cl : List (Str × Addr)) (fp : List Addr), PE (X.blk s H scope (compEnvC scope cl C X.env) fp) elt (TEs X.K Φ ce))
    (σ : SSt) (H : Hp) (Q : VK) (h : TV X.K lo W (evV Φ lo (.comp tgc k as ct ce)) σ H Q) : tLc (TIt X.K lo W Φ k as) (TGt X.K tgc) (TTs X.K Φ ct) (TEs X.K Φ ce) (own.map (·.2)) σ H Q := by
  obtain ⟨x, ρ, g, w⟩ := h
  rw [hown]
  refine ⟨x, ρ, g, Wp.mono (Wp.bind (show Wp X.K lo W σ x ((evs Φ lo as ρ x.S).bind fun cs S1 => (Res.of (items S1 k cs) S1).bind fun its S1 => if sizeLine < its.length then .bad else (turnsC tgc (fun ρ1 S2 => (evT Φ (limC lo cs S1.length) ct ρ1 S2).noX) (fun ρ1 S2 => (ev Φ (limC lo cs S1.length) ce ρ1 S2).noX) (wipeR ρ (slotsOf tgc)) its [] S1).bind fun xs S2 => .ok (.l xs) S2) (QV X.K Q) from w)) fun y cs s ry w1 => ?_⟩
  cases hit : items y.S k cs with
  | none => rw [hit] at w1; exact w1.elim
  | some its =>
    refine ⟨its, rfl, fun J hJ0 D hD => ?_⟩
    have hJ : ItOk X.K y cs its J := hJ0 y (Stp.refl lo y) ry hit
    clear hJ0
    rw [hit] at w1
    replace w1 : Wp X.K lo W σ y (if sizeLine < its.length then .bad else (turnsC tgc (fun ρ1 S2 => (evT Φ (limC lo cs y.S.length) ct ρ1 S2).noX) (fun ρ1 S2 => (ev Φ (limC lo cs y.S.length) ce ρ1 S2).noX) (wipeR ρ (slotsOf tgc)) its [] y.S).bind fun xs S2 => .ok (.l xs) S2) (QV X.K Q) := w1
    split at w1
    · exact w1.elim
    rename_i hsz
    -- the limits of the turns
    generalize hL : limC lo cs y.S.length = L at w1
    have L1 : L.lo = lo.lo := by
      rw [← hL]; unfold limC; split <;> rfl
    have L2 : lo.ro ≤ L.ro := by
      rw [← hL]; unfold limC; split
      · exact Nat.le_max_left _ _
      · exact Nat.le_refl _
    have L3 : L.ro ≤ max lo.ro y.S.length := by
      rw [← hL]; unfold limC; split
      · exact Nat.le_refl _
      · exact Nat.le_max_left _ _
    have hylo : lo.lo ≤ y.S.length := Nat.le_trans g.hlo (s.len g.rs ry)
    have hyro : lo.ro ≤ y.S.length := Nat.le_trans g.hro (s.len g.rs ry)
    have pr : Prot L y cs := by
      intro n hn
      have ha : anyR cs = true := by
        clear w1 hit hJ hL L1 L2 L3
        induction cs with
        | nil => cases hn
        | cons c cs ih =>
          cases c with
          | d _ => exact ih ((List.mem_cons.mp hn).resolve_left fun z => nomatch z)
          | r _ => rfl
      right
      rw [← hL]
      unfold limC
      rw [if_pos ha]
      exact Nat.lt_of_lt_of_le (items_lt hit hn) (Nat.le_max_right _ _)
    let go := fun (its acc : List Cell) (S : Stg) => (turnsC tgc (fun ρ1 S2 => (evT Φ L ct ρ1 S2).noX) (fun ρ1 S2 => (ev Φ L ce ρ1 S2).noX) (wipeR ρ (slotsOf tgc)) its acc S).bind fun xs S2 => Res.ok (PV.l xs) S2
    replace w1 : Wp X.K lo W σ y (go its [] y.S) (QV X.K Q) := w1
    let Wi : Nat → Nat → Hp → Prop := fun i m Hh => m = its.length - i ∧ ∃ (z : Sta) (acc : List Cell) (vs : List V), Stp L y z ∧ RS X.K z ∧ z.H D = none ∧ Hh = upd z.H D (.lst vs) ∧ Paired (RpC X.K z.F z.io) acc vs ∧ acc.length ≤ i ∧ i ≤ its.length ∧ Wp X.K lo W σ z (go (its.drop i) acc z.S) (QV X.K Q)
    refine ⟨Wi, ⟨its.length, rfl, y, [], [], Stp.refl L y, ry, hD, rfl, .nil, Nat.le_refl _, Nat.zero_le _, w1⟩, ?_⟩
    rintro i m Hh ⟨hm, z, acc, vs, st, rz, hzD, rfl, hp, hacc, hil, wz⟩
    have rzp : RS X.K ⟨z.F, z.io, z.S, upd z.H D (.lst vs)⟩ := rz.new hzD
    have szp : ∀ l, Stp l z ⟨z.F, z.io, z.S, upd z.H D (.lst vs)⟩ := fun l => Stp.new rz hzD
    obtain ⟨j1, j2, j3⟩ := hJ L ⟨z.F, z.io, z.S, upd z.H D (.lst vs)⟩ pr (st.trans (szp L)) rzp
    have hDi : D ∉ z.io := rz.ni hzD
    have hDF : z.F D = none := rz.nof hzD
    rcases Nat.lt_or_ge i its.length with hi | hi
    · right
      refine ⟨j2 i hi, fun H' => ∃ m', m' < m ∧ Wi (i + 1) m' H', fun _ h => h, fun v H' hy => ?_⟩
      obtain ⟨z1, hz1, hz1S, sz1, rz1, c, hci, rc⟩ := j3 i v H' hi hy
      have hd : its.drop i = c :: its.drop (i + 1) := by
        rw [List.drop_eq_getElem_cons hi]
        congr 1
        rw [List.getElem?_eq_getElem hi] at hci
        exact Option.some.inj hci
      rw [hd] at wz
      cases hs : setTg tgc c (wipeR ρ (slotsOf tgc)) with
      | none =>
        have e : go (c :: its.drop (i + 1)) acc z.S = .bad := by
          show (turnsC _ _ _ _ _ _ _).bind _ = _
          unfold turnsC
          rw [hs]
          rfl
        rw [e] at wz
        exact wz.elim
      | some ρ1 =>
        have e : go (c :: its.drop (i + 1)) acc z.S = (evT Φ L ct ρ1 z.S).noX.bind fun b S1 => match b with
            | false => go (its.drop (i + 1)) acc S1
            | true => (ev Φ L ce ρ1 S1).noX.bind fun x S2 => go (its.drop (i + 1)) (acc ++ [x]) S2 := by
          show (turnsC _ _ _ _ _ _ _).bind _ = _
          conv => lhs; unfold turnsC
          rw [hs]
          show (((evT Φ L ct ρ1 z.S).noX.bind _).bind _) = _
          rw [Res.bind_assoc]
          congr 1
          funext b S1
          cases b with
          | false => rfl
          | true =>
            show ((ev Φ L ce ρ1 S1).noX.bind _).bind _ = _
            rw [Res.bind_assoc]
        rw [e] at wz
        clear e
        have sLz1 : Stp L y z1 := (st.trans (szp L)).trans (sz1 L)
        have sx1 : Stp lo x z1 := s.trans (sLz1.lo_mono (by rw [L1]; exact Nat.le_refl _) L2)
        have re1 : RE X.K z1 (wipeR ρ (slotsOf tgc)) (wipe σ (slotsOf tgc)) := (g.re.stp sx1).wipe _
        have lo1 : L.lo ≤ z1.S.length := by rw [L1]; exact Nat.le_trans hylo (sLz1.len ry rz1)
        have ro1 : L.ro ≤ z1.S.length := Nat.le_trans L3 (Nat.le_trans (Nat.max_le.mpr ⟨hyro, Nat.le_refl _⟩) (sLz1.len ry rz1))
        refine ⟨z1, _, ρ1, c, hz1, rz1, re1, rc, hs, fun σ2 re2 ag2 => ⟨?_, ?_⟩⟩
        · exact wipe_agree (ag2.trans (agree_wipe _ σ))
        -- behind the element: the next turn
        have next : ∀ (acc' : List Cell) (z2 : Sta) (vs' : List V), Stp L z1 z2 → RS X.K z2 → Paired (RpC X.K z2.F z2.io) acc' vs' → acc'.length ≤ i + 1 → (∀ z' : Sta, Stp lo z z' → z'.S = z2.S → Wp X.K lo W σ z' (go (its.drop (i + 1)) acc' z2.S) (QV X.K Q)) →
            ∃ m', m' < m ∧ Wi (i + 1) m' (upd z2.H D (.lst vs')) := by
          intro acc' z2 vs' s12 rz2 hp' hl' hw
          have sp2 : Stp L ⟨z.F, z.io, z.S, upd z.H D (.lst vs)⟩ z2 := (sz1 L).trans s12
          have hF2 : z2.F D = none := by
            cases q : z2.F D with
            | none => rfl
            | some o =>
              rcases sp2.newF D (by rw [q]; exact fun z => nomatch z) with h | h | h
              · exact absurd hDF h
              · replace h : upd z.H D (.lst vs) D = none := h
                rw [upd_same] at h; cases h
              · exact absurd h hDi
          have hI2 : D ∉ z2.io := fun hm => by
            rcases sp2.newI D hm with h | h
            · exact hDi h
            · replace h : upd z.H D (.lst vs) D = none := h
              rw [upd_same] at h; cases h
          have sz2 : Stp L z z2 := (szp L).trans sp2
          refine ⟨its.length - (i + 1), by omega, rfl, ⟨z2.F, z2.io, z2.S, del z2.H D⟩, acc', vs', Stp.del (K := X.K) (st.trans sz2) hD, rz2.del hF2 hI2, del_same, (upd_del).symm, hp', hl', hi, ?_⟩
          exact hw _ ((Stp.del (K := X.K) sz2 hzD).lo_mono (by rw [L1]; exact Nat.le_refl _) L2) rfl
        have keepD : ∀ z2 : Sta, Stp L z1 z2 → z2.H D = some (.lst vs) := fun z2 s12 => ((sz1 L).trans s12).keep D _ upd_same hDi
        refine ⟨L, z1, ρ1, ⟨hz1, rz1, re2, lo1, ro1⟩, ?_⟩
        rw [hz1S]
        cases hr : evT Φ L ct ρ1 z.S with
        | bad => rw [hr] at wz; exact wz.elim
        | exc _ _ => rw [hr] at wz; exact wz.elim
        | ok b S1 =>
          rw [hr] at wz
          cases b with
          | false =>
            replace wz : Wp X.K lo W σ z (go (its.drop (i + 1)) acc S1) (QV X.K Q) := wz
            intro F2 io2 H2 s2 r2
            show ∃ m', m' < m ∧ Wi (i + 1) m' H2
            have h := next acc ⟨F2, io2, S1, H2⟩ vs s2 r2 (pairs_stp (((szp L).trans (sz1 L)).trans s2) hp) (Nat.le_succ_of_le hacc) fun z' sz' _ => Wp.shift wz sz'
            rw [upd_self (keepD ⟨F2, io2, S1, H2⟩ s2)] at h
            exact h
          | true =>
            replace wz : Wp X.K lo W σ z ((ev Φ L ce ρ1 S1).noX.bind fun x S2 => go (its.drop (i + 1)) (acc ++ [x]) S2) (QV X.K Q) := wz
            intro F2 io2 H2 s2 r2
            show TEs X.K Φ ce σ2 H2 _
            refine ⟨L, ⟨F2, io2, S1, H2⟩, ρ1, ⟨rfl, r2, re2.stp s2, Nat.le_trans lo1 (s2.len rz1 r2), Nat.le_trans ro1 (s2.len rz1 r2)⟩, ?_⟩
            show Wp X.K L WF σ2 ⟨F2, io2, S1, H2⟩ (ev Φ L ce ρ1 S1) _
            cases hr2 : ev Φ L ce ρ1 S1 with
            | bad => rw [hr2] at wz; exact wz.elim
            | exc _ _ => rw [hr2] at wz; exact wz.elim
            | ok xc S2 =>
              rw [hr2] at wz
              replace wz : Wp X.K lo W σ z (go (its.drop (i + 1)) (acc ++ [xc]) S2) (QV X.K Q) := wz
              intro F3 io3 H3 s3 r3 v3 rv3
              have s13 := s2.trans s3
              refine ⟨vs, keepD ⟨F3, io3, S2, H3⟩ s13, by rw [← hp.length]; omega, ?_⟩
              refine next (acc ++ [xc]) ⟨F3, io3, S2, H3⟩ (vs ++ [v3]) s13 r3 (Paired.snoc (pairs_stp (((szp L).trans (sz1 L)).trans s13) hp) rv3) ?_ fun z' sz' _ => Wp.shift wz sz'
              rw [List.length_append, List.length_singleton]
              omega
    · left
      have hi2 : i = its.length := by omega
      subst hi2
      refine ⟨j1, ?_⟩
      have e : go (its.drop its.length) acc z.S = .ok (.l acc) z.S := by
        rw [List.drop_length]
        rfl
      rw [e] at wz
      have q : QV X.K Q z (.l acc) := Wp.ok wz rz
      exact q D vs hzD hp (by rw [← hp.length]; omega)
end
end Mi
/-! M10: statements. -/
namespace Mi
open PySem PySem.Spec L2
/-- what is wanted behind a statement -/
def QO (K : Kf) (W : WX) (D : Ends) (y : Sta) : Out → Prop
  | .next ρ => ∀ σ, RE K y ρ σ → D.nx σ y.H
  | .ret c => ∀ v, RpC K y.F y.io c v → D.rt v y.H
  | .brk ρ => ∀ σ, RE K y ρ σ → D.bk σ y.H
  | .cnt ρ => ∀ σ, RE K y ρ σ → D.ct σ y.H
  | .thr e ρ => ∀ σ cls d, RE K y ρ σ → ExR K y e cls d → W cls d σ y.H
abbrev WS (K : Kf) (lo : Lim) (W : WX) (x : Sta) (r : Res Out) (D : Ends) : Prop := Wp K lo WF [] x r (QO K W D)
def TSt (K : Kf) (lo : Lim) (W : WX) (f : Rho → Stg → Res Out) : TS := fun D σ H => ∃ (x : Sta) (ρ : Rho), Go K lo x ρ σ H ∧ WS K lo W x (f ρ x.S) D
section
variable {X : Cx} {Φ : FT} {lo : Lim} {W : WX} {e a b o : Expr} {es rest : List Expr} {ca cb cc co : CE} {cs : List CE} {pos p apos : Pos} {x m : Str} {sm : Stmt} {sts : List Stmt} {c : CS} {css : List CS}
abbrev SS (X : Cx) (Φ : FT) (lo : Lim) (W : WX) (s : Stmt) (c : CS) : Prop := PS X s (TSt X.K lo W (ex Φ lo c))
abbrev SSs (X : Cx) (Φ : FT) (lo : Lim) (W : WX) (s : List Stmt) (c : List CS) : Prop := PSs X s (TSt X.K lo W (exs Φ lo c))
theorem WS.st {α : Type} {K : Kf} {x : Sta} {ρ : Rho} {σ : SSt} {r : Res α} {k : α → Stg → Res Out} {D : Ends} (re : RE K x ρ σ) (w : WS K lo W x (r.st ρ k) D) : Wp K lo W σ x r fun y a => WS K lo W y (k a y.S) D := by
  cases r with
  | ok a S => exact fun F' io' H' s r => Wp.shift (show WS K lo W x (k a S) D from w) s
  | exc e S => exact fun cls d F' io' H' s r q => w F' io' H' s r σ cls d (re.stp s) q
  | bad => exact w
theorem ss_nil : SSs X Φ lo W [] [] := PSs.imp pss_nil fun D σ H ⟨x, ρ, g, w⟩ => by
  have q : QO X.K W D x (.next ρ) := Wp.ok (show WS X.K lo W x (.ok (.next ρ) x.S) D from w) g.rs
  show D.nx σ H
  rw [← g.h]
  exact q σ g.re
theorem ss_cons (h : SS X Φ lo W sm c) (hs : SSs X Φ lo W sts css) : SSs X Φ lo W (sm :: sts) (c :: css) := PSs.imp (pss_cons h hs) fun D σ H ⟨x, ρ, g, w⟩ => by
  refine ⟨x, ρ, g, Wp.mono (Wp.bind (show WS X.K lo W x ((ex Φ lo c ρ x.S).bind fun o S1 => match o with | .next ρ1 => exs Φ lo css ρ1 S1 | o => .ok o S1) D from w)) fun y o s ry w1 => ?_⟩
  cases o with
  | next ρ1 => exact fun σ1 re1 => ⟨y, ρ1, ⟨rfl, ry, re1, Nat.le_trans g.hlo (s.len g.rs ry), Nat.le_trans g.hro (s.len g.rs ry)⟩, w1⟩
  | ret c =>
    have q : QO X.K W D y (.ret c) := Wp.ok w1 ry
    exact q
  | brk ρ1 =>
    have q : QO X.K W D y (.brk ρ1) := Wp.ok w1 ry
    exact q
  | cnt ρ1 =>
    have q : QO X.K W D y (.cnt ρ1) := Wp.ok w1 ry
    exact q
  | thr e ρ1 =>
    have q : QO X.K W D y (.thr e ρ1) := Wp.ok w1 ry
    exact q
theorem ss_expr (hsw : ∀ env, swapsWith e none pos.line env = pure false) (h : SC X Φ lo W e cc) : SS X Φ lo W (.Expr e pos) (.expr cc) := PS.imp (ps_expr h (hsw _)) fun D σ H ⟨x, ρ, g, w⟩ => by
  refine ⟨x, ρ, g, Wp.mono (WS.st g.re w) fun y c s ry w1 v rv => ?_⟩
  have q : QO X.K W D y (.next ρ) := Wp.ok w1 ry
  exact q σ (g.re.stp s)
theorem ss_ret (h : SC X Φ lo W e cc) : SS X Φ lo W (.Return (some e) pos) (.ret cc) := PS.imp (ps_ret h) fun D σ H ⟨x, ρ, g, w⟩ => by
  refine ⟨x, ρ, g, Wp.mono (WS.st g.re w) fun y c s ry w1 v rv => ?_⟩
  have q : QO X.K W D y (.ret c) := Wp.ok w1 ry
  exact q v rv
theorem ss_retN : SS X Φ lo W (.Return none pos) (.ret (.cst .non)) := PS.imp ps_retN fun D σ H ⟨x, ρ, g, w⟩ => by
  have q : QO X.K W D x (.ret (.d .non)) := Wp.ok (show WS X.K lo W x (.ok (.ret (.d .non)) x.S) D from w) g.rs
  show D.rt .non H
  rw [← g.h]
  exact q .non (.d .non)
theorem ss_pass : SS X Φ lo W (.Pass pos) .pass := PS.imp ps_pass fun D σ H ⟨x, ρ, g, w⟩ => by
  have q : QO X.K W D x (.next ρ) := Wp.ok (show WS X.K lo W x (.ok (.next ρ) x.S) D from w) g.rs
  show D.nx σ H
  rw [← g.h]
  exact q σ g.re
theorem ss_brk : SS X Φ lo W (.Break pos) .brk := PS.imp ps_break fun D σ H ⟨x, ρ, g, w⟩ => by
  have q : QO X.K W D x (.brk ρ) := Wp.ok (show WS X.K lo W x (.ok (.brk ρ) x.S) D from w) g.rs
  show D.bk σ H
  rw [← g.h]
  exact q σ g.re
theorem ss_cnt : SS X Φ lo W (.Continue pos) .cnt := PS.imp ps_continue fun D σ H ⟨x, ρ, g, w⟩ => by
  have q : QO X.K W D x (.cnt ρ) := Wp.ok (show WS X.K lo W x (.ok (.cnt ρ) x.S) D from w) g.rs
  show D.ct σ H
  rw [← g.h]
  exact q σ g.re
theorem ss_if {A B : List Stmt} {cA cB : List CS} (ht : SB X Φ lo W a ca) (hA : SSs X Φ lo W A cA) (hB : SSs X Φ lo W B cB) : SS X Φ lo W (.If a A B pos) (.ite ca cA cB) := PS.imp (ps_if ht hA hB) fun D σ H ⟨x, ρ, g, w⟩ => by
  have e : ex Φ lo (.ite ca cA cB) ρ x.S = (evB Φ lo ca ρ x.S).st ρ fun k S1 => if k = true then exs Φ lo cA ρ S1 else exs Φ lo cB ρ S1 := by
    show (ev Φ lo ca ρ x.S).st ρ (fun c S1 => bTest S1 c (exs Φ lo cA ρ S1) (exs Φ lo cB ρ S1)) = ((ev Φ lo ca ρ x.S).bind fun v S1 => Res.of (truth S1 v) S1).st ρ _
    cases ev Φ lo ca ρ x.S with
    | ok v S1 =>
      show bTest S1 v _ _ = (Res.of (truth S1 v) S1).st ρ _
      unfold bTest
      cases truth S1 v with
      | none => rfl
      | some k => cases k <;> rfl
    | exc _ _ => rfl
    | bad => rfl
  rw [e] at w
  refine ⟨x, ρ, g, Wp.mono (WS.st g.re w) fun y k s ry w1 => ?_⟩
  show if k = true then _ else _
  cases k with
  | true => exact ⟨y, ρ, g.stp s ry, w1⟩
  | false => exact ⟨y, ρ, g.stp s ry, w1⟩
/-- an assignment's reading behind its value -/
theorem asg_fin {K : Kf} {y : Sta} {ρ : Rho} {σ : SSt} {cl : Cell} {v : V} {tg : Tg} {D : Ends} (ry : RS K y) (re : RE K y ρ σ) (rv : RpC K y.F y.io cl v) (w1 : WS K lo W y (nextIf (setTg tg cl ρ) y.S) D) : TGt K tg v σ y.H D.nx := by
  cases hs : setTg tg cl ρ with
  | none => rw [hs] at w1; exact w1.elim
  | some ρ1 =>
    rw [hs] at w1
    have q : QO K W D y (.next ρ1) := Wp.ok (show WS K lo W y (.ok (.next ρ1) y.S) D from w1) ry
    exact ⟨y, ρ, ρ1, cl, rfl, ry, re, rv, hs, fun σ1 re1 _ => q σ1 re1⟩
theorem ss_asg {tg : Expr} {tgc : Tg} (hsw : ∀ env, swapsWithSole [tg] e pos.line env = pure false) (hw : ∀ env, swappedStores [tg] e env = pure none) (hst : notStar tg = true) (h : SC X Φ lo W e cc) (hg : PG X tg (TGt X.K tgc)) : SS X Φ lo W (.Assign [tg] e pos) (.asg tgc cc) :=
  PS.imp (ps_asg h hg (hsw _) (hw _) (by rw [assignEach_cons hst]; rfl)) fun D σ H ⟨x, ρ, g, w⟩ =>
    ⟨x, ρ, g, Wp.mono (WS.st g.re w) fun y c s ry w1 v rv => asg_fin ry (g.re.stp s) rv w1⟩
/-- a statement whose value is read with what the target then holds -/
theorem asg_comp {i : Nat} {T : TE} {D : Ends} {σ : SSt} {H : Hp} (hT : ∀ Q, TV X.K lo W (evV Φ lo cc) σ H Q → T σ H Q) (h : TSt X.K lo W (ex Φ lo (.asg (.slot i) cc)) D σ H) : tAsg T (gName i) D σ H := by
  obtain ⟨x, ρ, g, w⟩ := h
  refine hT _ ⟨x, ρ, g, Wp.mono (Wp.bind (WS.st g.re w)) fun y p s ry w1 => ?_⟩
  refine freeze_ok (lo := lo) (W := W) (σ := σ) ry (Wp.mono w1 fun z c s2 rz w2 v rv => ?_)
  show D.nx (σ.set i (some v)) z.H
  cases hs : setTg (.slot i) c ρ with
  | none => rw [hs] at w2; exact w2.elim
  | some ρ1 =>
    rw [hs] at w2
    have q : QO X.K W D z (.next ρ1) := Wp.ok (show WS X.K lo W z (.ok (.next ρ1) z.S) D from w2) rz
    unfold setTg at hs
    split at hs
    · cases hs
      exact q _ (((g.re.stp s).stp s2).set i rv)
    · cases hs
theorem ss_setIx {v : Expr} {cv ci : CE} {i : Expr} {pos' : Pos} (hsw : ∀ env, swapsWithSole [.Subscript a i pos'] v pos.line env = pure false) (hw : ∀ env, swappedStores [.Subscript a i pos'] v env = pure none) (hix : plainIx i = true)
    (h : SC X Φ lo W v cv) (ha : SC X Φ lo W a ca) (hi : SC X Φ lo W i ci) : SS X Φ lo W (.Assign [.Subscript a i pos'] v pos) (.setIx cv ca ci) :=
  PS.imp (ps_asg h (pg_sub ha hi set_list (by intro z; cases i <;> first | rfl | cases hix)) (hsw _) (hw _) rfl) fun D σ H ⟨x, ρ, g, w⟩ => by
    refine ⟨x, ρ, g, Wp.mono (WS.st g.re w) fun y c s ry w1 u ru => ?_⟩
    have g1 := g.stp s ry
    refine ⟨y, ρ, g1, Wp.mono (WS.st g1.re w1) fun y2 c2 s2 ry2 w2 u2 ru2 => ?_⟩
    have g2 := g1.stp s2 ry2
    refine ⟨y2, ρ, g2, Wp.mono (WS.st g2.re w2) fun y3 c3 s3 ry3 w3 u3 ru3 => ?_⟩
    cases hs : setItem lo y3.S c2 c3 c with
    | none => rw [hs] at w3; exact w3.elim
    | some S4 =>
      rw [hs] at w3
      refine setItem_ok ry3 hs (ru2.stp s3) ru3 ((ru.stp s2).stp s3) fun z hz sz rz => ?_
      subst hz
      have q : QO X.K W D z (.next ρ) := Wp.to (show WS X.K lo W y3 (.ok (.next ρ) z.S) D from w3) sz rz
      exact q σ ((g2.re.stp s3).stp sz)

/-! ### what is laid in the store -/
abbrev SAE (X : Cx) (Φ : FT) (lo : Lim) (W : WX) (e : Expr) (c : AE) : Prop := PE X e (TC X.K lo W (evA Φ lo c))
abbrev SAs (X : Cx) (Φ : FT) (lo : Lim) (W : WX) (e : List Expr) (c : List AE) : Prop := PA X e (TAr X.K lo W (evAs Φ lo c))
theorem ae_e (h : SC X Φ lo W e cc) : SAE X Φ lo W e (.e cc) := h
theorem ae_own (h : SE X Φ lo W e cc) : SAE X Φ lo W e (.own cc) := PE.imp h fun σ H Q ⟨x, ρ, g, w⟩ =>
  ⟨x, ρ, g, Wp.mono (Wp.bind w) fun y p s ry w2 => lay_ok ry (Nat.le_trans g.hlo (s.len g.rs ry)) (Nat.le_trans g.hro (s.len g.rs ry)) w2⟩
theorem aes_nil : SAs X Φ lo W [] [] := PA.imp pa_nil fun σ H Q ⟨x, ρ, g, w⟩ => by
  have q : QA X.K Q x [] := Wp.ok (show Wp X.K lo W σ x (.ok [] x.S) (QA X.K Q) from w) g.rs
  show Q [] H
  rw [← g.h]
  exact q [] .nil
theorem aes_cons {ae : AE} {aes : List AE} (hs : notStar e = true) (he : SAE X Φ lo W e ae) (hes : SAs X Φ lo W es aes) : SAs X Φ lo W (e :: es) (ae :: aes) := PA.imp (pa_cons he hes (starEach_cons hs es X.env)) fun σ H Q ⟨x, ρ, g, w⟩ => by
  refine ⟨x, ρ, g, Wp.mono (Wp.bind (show Wp X.K lo W σ x ((evA Φ lo ae ρ x.S).bind fun c S1 => (evAs Φ lo aes ρ S1).bind fun cs S2 => .ok (c :: cs) S2) (QA X.K Q) from w)) fun y c s ry w1 v rv => ?_⟩
  refine ⟨y, ρ, g.stp s ry, Wp.mono (Wp.bind w1) fun z ds s2 rz w2 vs rvs => ?_⟩
  have q : QA X.K Q z (c :: ds) := Wp.ok w2 rz
  exact q (v :: vs) (.cons (rv.stp s2) rvs)
theorem ae_lst {aes : List AE} (h : SAs X Φ lo W es aes) : SAE X Φ lo W (.List es pos) (.lst aes) := PE.imp (pe_lst h) fun σ H Q ⟨x, ρ, g, w⟩ => by
  refine ⟨x, ρ, g, Wp.mono (Wp.bind (show Wp X.K lo W σ x ((evAs Φ lo aes ρ x.S).bind fun cs S1 => if cs.length ≤ sizeLine then .ok (.r S1.length) (S1 ++ [.lst cs]) else .bad) (QC X.K Q) from w)) fun y cs s ry w1 vs rvs => ?_⟩
  split at w1
  · rename_i hl
    have hl' : vs.length ≤ sizeLine := by rw [← rvs.length]; exact hl
    refine ⟨hl', fun p hp => ?_⟩
    have w2 : Wp X.K lo W σ y (lay y.S (.l cs)) (QC X.K Q) := w1
    have q : QV X.K Q y (.l cs) := lay_ok ry (Nat.le_trans g.hlo (s.len g.rs ry)) (Nat.le_trans g.hro (s.len g.rs ry)) w2
    exact q p vs hp rvs hl'
  · exact w1.elim
theorem ss_own {i : Nat} {ae : AE} {tg : Expr} (hsw : ∀ env, swapsWithSole [tg] e pos.line env = pure false) (hw : ∀ env, swappedStores [tg] e env = pure none) (hst : notStar tg = true) (h : SAE X Φ lo W e ae) (hg : PG X tg (TGt X.K (.slot i))) : SS X Φ lo W (.Assign [tg] e pos) (.own i ae) :=
  PS.imp (ps_asg h hg (hsw _) (hw _) (by rw [assignEach_cons hst]; rfl)) fun D σ H ⟨x, ρ, g, w⟩ =>
    ⟨x, ρ, g, Wp.mono (WS.st g.re w) fun y c s ry w1 v rv => asg_fin ry (g.re.stp s) rv w1⟩

/-! ### for -/
theorem allD_map : ∀ {cs : List Cell} {ds : List D}, allD cs = some ds → cs = ds.map .d
  | [], _, h => by cases h; rfl
  | .d x :: cs, ds, h => by
    simp only [allD, Option.map_eq_some_iff] at h
    obtain ⟨es, e1, rfl⟩ := h
    rw [List.map_cons, ← allD_map e1]
  | .r n :: cs, ds, h => by cases h
theorem frz_ok {K : Kf} : ∀ {cs : List Cell} {y : Sta} {S2 : Stg}, RS K y → frzIt cs lo y.S = some S2 → ∃ y2 : Sta, y2.S = S2 ∧ y2.H = y.H ∧ Stp lo y y2 ∧ RS K y2 ∧ (∀ c, viewS S2 c = viewS y.S c) ∧ (∀ (n : Nat) (d : D), y.S[n]? = some (Ob.frz d) → S2[n]? = some (Ob.frz d)) ∧ ∀ (n : Nat), Cell.r n ∈ cs → ∃ d, S2[n]? = some (Ob.frz d)
  | [], y, S2, ry, h => by
    cases h
    exact ⟨y, rfl, rfl, Stp.refl lo y, ry, fun _ => rfl, fun _ _ h => h, fun _ h => nomatch h⟩
  | .d x :: cs, y, S2, ry, h => by
    obtain ⟨y2, h1, h2, h3, h4, h5, h6, h7⟩ := frz_ok (cs := cs) ry h
    exact ⟨y2, h1, h2, h3, h4, h5, h6, fun n hn => h7 n ((List.mem_cons.mp hn).resolve_left fun z => nomatch z)⟩
  | .r n :: cs, y, S2, ry, h => by
    unfold frzIt at h
    split at h
    · rename_i cs' hn
      split at h
      · rename_i hro
        simp only [Option.bind_eq_some_iff] at h
        obtain ⟨ds, e1, e2⟩ := h
        obtain ⟨a, ea, q⟩ := ry.ob n _ hn
        obtain ⟨vs, hH, hp⟩ := obR_lst q
        have hl : n < y.S.length := (List.getElem?_eq_some_iff.mp hn).1
        have hFa : y.F a = none := ry.nf n a _ ea hn (fun z => by intro w; cases w)
        have le : Le y.F (upd y.F a (.lst vs)) := Le.anew hFa
        have rp : Rp K (upd y.F a (.lst vs)) (.one (.lst ds) (.ref a)) := .lst (SqL.of upd_same) ((allD_ok e1 hp).mono le)
        have ry1 : RS K ⟨upd y.F a (.lst vs), y.io, y.S.set n (.frz (.lst ds)), y.H⟩ := by
          refine ⟨?_, by show y.io.length = (y.S.set n _).length; rw [List.length_set]; exact ry.len, ry.nd, fun m b ob f1 f2 f3 => ?_, fun m ob f => ?_, ry.th⟩
          · show Le (upd y.F a (.lst vs)) y.H
            rw [← upd_self hH]
            exact le_both ry.fh
          · replace f2 : (y.S.set n (Ob.frz (.lst ds)))[m]? = some ob := f2
            by_cases hm : n = m
            · subst hm
              rw [List.getElem?_set_self hl] at f2
              cases f2
              exact absurd rfl (f3 _)
            · rw [List.getElem?_set_ne hm] at f2
              have nb : b ≠ a := fun z => hm (at_inj ry.nd (z ▸ ea) f1)
              show upd y.F a (.lst vs) b = none
              rw [L2.upd_ne nb]
              exact ry.nf m b ob f1 f2 f3
          · replace f : (y.S.set n (Ob.frz (.lst ds)))[m]? = some ob := f
            by_cases hm : n = m
            · subst hm
              rw [List.getElem?_set_self hl] at f
              cases f
              exact ⟨a, ea, .frz rp⟩
            · rw [List.getElem?_set_ne hm] at f
              obtain ⟨b, eb, q⟩ := ry.ob m ob f
              exact ⟨b, eb, q.mono le fun _ _ z => z⟩
        have st1 : Stp lo y ⟨upd y.F a (.lst vs), y.io, y.S.set n (.frz (.lst ds)), y.H⟩ := by
          refine ⟨le, fun _ _ z => z, fun _ _ z _ => z, fun b hb => ?_, fun _ z => .inl z, fun m hm => ?_, fun m hm o' f => ?_⟩
          · by_cases hb2 : b = a
            · exact .inr (.inr (hb2 ▸ List.mem_of_getElem? ea))
            · exact .inl (by intro z; exact hb (by show upd y.F a (.lst vs) b = none; rw [L2.upd_ne hb2]; exact z))
          · show (y.S.set n _)[m]? = y.S[m]?
            rw [List.getElem?_set_ne (by omega)]
          · replace f : (y.S.set n (Ob.frz (.lst ds)))[m]? = some o' := f
            by_cases h : n = m
            · subst h
              rw [List.getElem?_set_self hl] at f
              cases f
              exact ⟨_, hn, fun _ z => nomatch z⟩
            · rw [List.getElem?_set_ne h] at f
              exact ⟨o', f, fun _ z => z⟩
        obtain ⟨y2, h1, h2, h3, h4, h5, h6, h7⟩ := frz_ok (cs := cs) ry1 e2
        refine ⟨y2, h1, h2, st1.trans h3, h4, fun c => ?_, fun m d hm => ?_, fun m hm => ?_⟩
        · rw [h5 c]
          show viewS (y.S.set n _) c = _
          cases c with
          | d x =>
            unfold viewS
            rw [viewL_d _ y.S]
          | r m =>
            show viewO (y.S.set n _)[m]? = viewO y.S[m]?
            by_cases hm : n = m
            · subst hm
              rw [List.getElem?_set_self hl, hn]
              show some (ds.map Cell.d) = some cs'
              rw [← allD_map e1]
            · rw [List.getElem?_set_ne hm]
        · refine h6 m d ?_
          show (y.S.set n _)[m]? = _
          have ne : n ≠ m := by
            rintro rfl
            rw [hn] at hm; cases hm
          rw [List.getElem?_set_ne ne]
          exact hm
        · rcases List.mem_cons.mp hm with e | hm
          · cases e
            exact ⟨_, h6 n _ (List.getElem?_set_self hl)⟩
          · exact h7 m hm
      · cases h
    · rename_i d hn
      obtain ⟨y2, h1, h2, h3, h4, h5, h6, h7⟩ := frz_ok (cs := cs) ry h
      refine ⟨y2, h1, h2, h3, h4, h5, h6, fun m hm => ?_⟩
      rcases List.mem_cons.mp hm with e | hm
      · cases e
        exact ⟨_, h6 n _ hn⟩
      · exact h7 m hm
    · cases h
theorem items_view {S S2 : Stg} (h : ∀ c, viewS S2 c = viewS S c) (k : Itk) (cs : List Cell) : items S2 k cs = items S k cs := by
  unfold items
  split
  · exact h _
  · rfl
  · rfl
  · rfl
theorem ss_for {tg iter : Expr} {body : List Stmt} {cb : List CS} {tgc : Tg} {k : Itk} {as : List CE} (hp : PassesOwn (model X.prog X.w) X.A X.env X.xe) (hc : X.calm = true) (hi : PI X tg iter (TIt X.K lo W Φ k as)) (hg : PG X tg (TGt X.K tgc)) (hb : SSs X Φ lo W body cb)
    (hs : ∀ x, foldedSetIterable iter X.env x = pure x) : SS X Φ lo W (.For tg iter body [] pos) (.forS tgc k as cb) := PS.imp (ps_for hp hc hi hg hb hs) fun D σ H ⟨x, ρ, g, w⟩ => by
  refine ⟨x, ρ, g, Wp.mono (WS.st g.re w) fun y cs s ry w1 => ?_⟩
  replace w1 : WS X.K lo W y ((itemsF lo k cs y.S).bind fun its S2 => turnsS tgc (fun ρ1 S3 => exs Φ lo cb ρ1 S3) its ρ S2) D := w1
  unfold itemsF at w1
  cases hf : frzIt cs lo y.S with
  | none => rw [hf] at w1; exact w1.elim
  | some S2 =>
    rw [hf] at w1
    obtain ⟨y2, e1, e2, s2, ry2, hv, _, hfr⟩ := frz_ok ry hf
    subst e1
    replace w1 : WS X.K lo W y ((Res.of (items y2.S k cs) y2.S).bind fun its S2 => turnsS tgc (fun ρ1 S3 => exs Φ lo cb ρ1 S3) its ρ S2) D := w1
    have hit := items_view hv k cs
    cases hi2 : items y2.S k cs with
    | none => rw [hi2] at w1; exact w1.elim
    | some its =>
      rw [hi2] at w1
      replace w1 : WS X.K lo W y (turnsS tgc (fun ρ1 S3 => exs Φ lo cb ρ1 S3) its ρ y2.S) D := w1
      refine ⟨its, by rw [← hit]; exact hi2, fun J hJ0 => ?_⟩
      have hJ := hJ0 y2 s2 ry2 hi2
      have pr : Prot lo y2 cs := fun n hn => .inl (hfr n hn)
      have g2 : Go X.K lo y2 ρ σ y2.H := (g.stp s ry).stp s2 ry2
      let tb := fun (ρ1 : Rho) (S3 : Stg) => exs Φ lo cb ρ1 S3
      let Wi : Nat → Nat → SSt → Hp → Prop := fun i m σ1 Hh => m = its.length - i ∧ i ≤ its.length ∧ ∃ (z : Sta) (ρ1 : Rho), Stp lo y2 z ∧ RS X.K z ∧ z.H = Hh ∧ RE X.K z ρ1 σ1 ∧ WS X.K lo W z (turnsS tgc tb (its.drop i) ρ1 z.S) D
      refine ⟨Wi, ⟨its.length, rfl, Nat.zero_le _, y2, ρ, Stp.refl lo y2, ry2, e2, g2.re, Wp.shift w1 s2⟩, ?_⟩
      rintro i m σ1 Hh ⟨hm, hil, z, ρ1, st, rz, rfl, re1, wz⟩
      obtain ⟨j1, j2, j3⟩ := hJ lo z pr st rz
      rcases Nat.lt_or_ge i its.length with hlt | hge
      · right
        refine ⟨j2 i hlt, fun σ' H' => ∃ m', m' < m ∧ Wi (i + 1) m' σ' H', fun _ _ h => h, fun v H' hy => ?_⟩
        obtain ⟨z1, hz1, hz1S, sz1, rz1, c, hci, rc⟩ := j3 i v H' hlt hy
        have hd : its.drop i = c :: its.drop (i + 1) := by
          rw [List.drop_eq_getElem_cons hlt]
          congr 1
          rw [List.getElem?_eq_getElem hlt] at hci
          exact Option.some.inj hci
        rw [hd] at wz
        unfold turnsS at wz
        cases hs2 : setTg tgc c ρ1 with
        | none => rw [hs2] at wz; exact wz.elim
        | some ρ2 =>
          rw [hs2] at wz
          have wz1 := Wp.shift wz (sz1 lo)
          rw [← hz1S] at wz1
          have s1 : Stp lo y2 z1 := st.trans (sz1 lo)
          refine ⟨z1, ρ1, ρ2, c, hz1, rz1, re1.stp (sz1 lo), rc, hs2, fun σ2 re2 _ => ?_⟩
          have hlen := s1.len ry2 rz1
          refine ⟨z1, ρ2, ⟨hz1, rz1, re2, Nat.le_trans g2.hlo hlen, Nat.le_trans g2.hro hlen⟩, Wp.mono (Wp.bind wz1) fun u o su ru wo => ?_⟩
          have nxt : ∀ ρ3, WS X.K lo W u (turnsS tgc tb (its.drop (i + 1)) ρ3 u.S) D → ∀ σ3, RE X.K u ρ3 σ3 → ∃ m', m' < m ∧ Wi (i + 1) m' σ3 u.H := fun ρ3 w3 σ3 re3 =>
            ⟨its.length - (i + 1), by omega, rfl, hlt, u, ρ3, s1.trans su, ru, rfl, re3, w3⟩
          cases o with
          | next ρ3 => exact nxt ρ3 wo
          | cnt ρ3 => exact nxt ρ3 wo
          | brk ρ3 =>
            have q : QO X.K W D u (.next ρ3) := Wp.ok wo ru
            exact q
          | ret c3 =>
            have q : QO X.K W D u (.ret c3) := Wp.ok wo ru
            exact q
          | thr e3 ρ3 =>
            have q : QO X.K W D u (.thr e3 ρ3) := Wp.ok wo ru
            exact q
      · left
        have hi3 : i = its.length := by omega
        subst hi3
        refine ⟨j1, ?_⟩
        rw [List.drop_length] at wz
        have q : QO X.K W D z (.next ρ1) := Wp.ok (show WS X.K lo W z (.ok (.next ρ1) z.S) D from wz) rz
        exact q σ1 re1
end
end Mi
/-! M11: defs. -/
namespace Mi
open PySem PySem.Spec L2
section
variable {K : Kf} {lo : Lim} {x y : Sta}
theorem take_pre {n ro : Nat} (rx : RS K x) (ry : RS K y) (s : Stp ⟨n, ro⟩ x y) (hn : n = x.S.length) : y.io.take n = x.io := by
  apply List.ext_getElem?
  intro i
  by_cases h : i < n
  · rw [List.getElem?_take_of_lt h]
    have hi : i < x.io.length := by rw [rx.len, ← hn]; exact h
    rw [List.getElem?_eq_getElem hi]
    exact s.pre i _ (List.getElem?_eq_getElem hi)
  · rw [List.getElem?_eq_none (by rw [List.length_take]; omega), List.getElem?_eq_none (by rw [rx.len, ← hn]; omega)]
theorem refs_lst {cs : List Cell} {j : Nat} (h : Cell.r j ∈ cs) : j ∈ refs (.lst cs) := List.mem_flatMap.mpr ⟨_, h, List.mem_singleton.mpr rfl⟩
/-- the cells that a place refers to lie below n -/
theorem rpc_low {F F' : Hp} {io : List Addr} {n : Nat} (l : Le F F') {c : Cell} {v : V} (r : RpC K F io c v) (h : ∀ j, c = .r j → j < n) : RpC K F' (io.take n) c v := by
  cases r with
  | d r => exact .d (r.mono l)
  | r e => exact .r (by rw [List.getElem?_take_of_lt (h _ rfl)]; exact e)
theorem paired_imp {α β : Type} {R R' : α → β → Prop} : ∀ {l : List α} {m : List β}, Paired R l m → (∀ a ∈ l, ∀ b, R a b → R' a b) → Paired R' l m
  | _, _, .nil, _ => .nil
  | _, _, .cons r t, h => .cons (h _ List.mem_cons_self _ r) (paired_imp t fun a ha => h a (List.mem_cons_of_mem _ ha))
theorem obR_low {F F' : Hp} {io : List Addr} {H : Hp} {n : Nat} (l : Le F F') {ob : Ob} {a : Addr} (r : ObR K F io H ob a) (h : ∀ j ∈ refs ob, j < n) : ObR K F' (io.take n) H ob a := by
  cases r with
  | lst h1 h2 => exact .lst h1 (paired_imp h2 fun c hc v rc => rpc_low l rc fun j e => h j (by subst e; exact refs_lst hc))
  | dct h1 h2 => exact .dct h1 (paired_imp h2 fun c hc v rc => ⟨rc.1, rpc_low l rc.2 fun j e => h j (List.mem_flatMap.mpr ⟨c, hc, by rw [e]; exact List.mem_singleton.mpr rfl⟩)⟩)
  | ins h1 h2 => exact .ins h1 (paired_imp h2 fun c hc v rc => ⟨rc.1, rpc_low l rc.2 fun j e => h j (List.mem_flatMap.mpr ⟨c, hc, by rw [e]; exact List.mem_singleton.mpr rfl⟩)⟩)
  | frz h1 => exact .frz (h1.mono l)
theorem pairK_mem {κ : Type} {F : Hp} {io : List Addr} {c : κ × Cell} : ∀ {cs : List (κ × Cell)} {vs : List (κ × V)}, Paired (fun (p : κ × Cell) (q : κ × V) => p.1 = q.1 ∧ RpC K F io p.2 q.2) cs vs → c ∈ cs → ∃ v, RpC K F io c.2 v
  | _, _, .nil, h => by cases h
  | _, _, .cons r t, h => by
    rcases List.mem_cons.mp h with e | h
    · rw [e]; exact ⟨_, r.2⟩
    · exact pairK_mem t h
theorem refs_lt (rx : RS K x) {m : Nat} {o : Ob} (h : x.S[m]? = some o) : ∀ j ∈ refs o, j < x.S.length := by
  obtain ⟨a, ea, q⟩ := rx.ob m o h
  have low : ∀ {c : Cell} {v : V} {j : Nat}, RpC K x.F x.io c v → j ∈ refsC c → j < x.S.length := by
    intro c v j r hj
    cases r with
    | d _ => cases hj
    | r e =>
      rw [List.mem_singleton.mp hj, ← rx.len]
      exact (List.getElem?_eq_some_iff.mp e).1
  intro j hj
  cases q with
  | lst h1 h2 =>
    obtain ⟨c, hc, hj⟩ := List.mem_flatMap.mp hj
    obtain ⟨i, hi, e⟩ := List.getElem_of_mem hc
    obtain ⟨v, _, r⟩ := paired_at h2 (by rw [List.getElem?_eq_getElem hi, e])
    exact low r hj
  | @dct _ cs vs h1 h2 =>
    obtain ⟨c, hc, hj⟩ := List.mem_flatMap.mp hj
    obtain ⟨v, r⟩ := pairK_mem h2 hc
    exact low r hj
  | @ins _ _ _ cs vs h1 h2 =>
    obtain ⟨c, hc, hj⟩ := List.mem_flatMap.mp hj
    obtain ⟨v, r⟩ := pairK_mem h2 hc
    exact low r hj
  | frz h1 => cases hj
/-- behind a def the store is as long as it was; F' may hold more that is not of the store any more -/
theorem trunc {n ro : Nat} {F' : Hp} (rx : RS K x) (ry : RS K y) (s : Stp ⟨n, ro⟩ x y) (hn : n = x.S.length) (l : Le y.F F') (lh : Le F' y.H) (hnew : ∀ b, F' b ≠ none → y.F b ≠ none ∨ (b ∈ y.io ∧ b ∉ x.io)) (hlo : lo.lo ≤ n) (hro : lo.ro = ro) (hron : ro ≤ n) :
    RS K ⟨F', x.io, y.S.take n, y.H⟩ ∧ Stp lo x ⟨F', x.io, y.S.take n, y.H⟩ := by
  have ht := take_pre rx ry s hn
  have hlen : n ≤ y.S.length := by rw [hn]; exact s.len rx ry
  refine ⟨⟨lh, by show x.io.length = (y.S.take n).length; rw [List.length_take, rx.len, ← hn]; omega, rx.nd, fun m a ob e1 e2 e3 => ?_, fun m ob e => ?_, fun a ha => ?_⟩, ⟨s.ff.trans l, fun _ _ h => h, s.keep, fun b hb => ?_, fun _ h => .inl h, fun m hm => ?_, fun m hm o' e => ?_⟩⟩
  · replace e1 : x.io[m]? = some a := e1
    replace e2 : (y.S.take n)[m]? = some ob := e2
    have hm : m < n := by
      have := (List.getElem?_eq_some_iff.mp e1).1
      rw [rx.len, ← hn] at this
      exact this
    rw [List.getElem?_take_of_lt hm] at e2
    have z := ry.nf m a ob (s.pre m a e1) e2 e3
    show F' a = none
    cases q : F' a with
    | none => rfl
    | some o =>
      rcases hnew a (by rw [q]; exact fun z => nomatch z) with h | ⟨_, h⟩
      · exact absurd z h
      · exact absurd (List.mem_of_getElem? e1) h
  · replace e : (y.S.take n)[m]? = some ob := e
    have hm : m < n := by
      have := (List.getElem?_eq_some_iff.mp e).1
      rw [List.length_take] at this
      omega
    rw [List.getElem?_take_of_lt hm] at e
    obtain ⟨a, ea, q⟩ := ry.ob m ob e
    obtain ⟨o0, e0, k0⟩ := s.cl m hm ob e
    have hi : m < x.io.length := by rw [rx.len, ← hn]; exact hm
    have ea2 : x.io[m]? = some a := by
      rw [← ht, List.getElem?_take_of_lt hm]
      exact ea
    refine ⟨a, ea2, ?_⟩
    have q2 := obR_low (n := n) l q fun j hj => by rw [hn]; exact refs_lt rx e0 j (k0 j hj)
    rw [ht] at q2
    exact q2
  · have h2 : a ∈ y.io := by
      rw [← ht] at ha
      exact List.mem_of_mem_take ha
    exact ry.th a h2
  · rcases hnew b hb with h | ⟨h, _⟩
    · exact s.newF b h
    · rcases s.newI b h with h | h
      · exact .inr (.inr h)
      · exact .inr (.inl h)
  · show (y.S.take n)[m]? = x.S[m]?
    rw [List.getElem?_take_of_lt (by omega)]
    exact s.ro m (by rw [← hro]; exact hm)
  · replace e : (y.S.take n)[m]? = some o' := e
    rw [List.getElem?_take_of_lt (by omega)] at e
    exact s.cl m (by show m < n; omega) o' e
/-- what a def hands back -/
theorem finish_ok {n ro : Nat} {W : WX} {σ : SSt} {c : Cell} {v : V} {Q : VK} (rx : RS K x) (ry : RS K y) (s : Stp ⟨n, ro⟩ x y) (hn : n = x.S.length) (hlo : lo.lo ≤ n) (hro : lo.ro = ro) (hron : ro ≤ n) (rv : RpC K y.F y.io c v) (w : Wp K lo W σ x (finish n y.S c) (QC K Q)) : Q v y.H := by
  have ht := take_pre rx ry s hn
  obtain ⟨r1, s1⟩ := trunc (lo := lo) rx ry s hn (Le.refl _) ry.fh (fun b h => .inl h) hlo hro hron
  cases c with
  | d z =>
    have q : QC K Q ⟨y.F, x.io, y.S.take n, y.H⟩ (.d z) := Wp.to (y := ⟨y.F, x.io, y.S.take n, y.H⟩) (show Wp K lo W σ x (.ok (.d z) (y.S.take n)) (QC K Q) from w) s1 r1
    cases rv with | d rv => exact q v (.d rv)
  | r j =>
    replace w : Wp K lo W σ x (if j < n then .ok (.r j) (y.S.take n) else match snap y.S (.r j) with | some x => .ok (.d x) (y.S.take n) | none => .bad) (QC K Q) := w
    cases rv with
    | @r _ a e =>
      by_cases hj : j < n
      · rw [if_pos hj] at w
        have q : QC K Q ⟨y.F, x.io, y.S.take n, y.H⟩ (.r j) := Wp.to (y := ⟨y.F, x.io, y.S.take n, y.H⟩) w s1 r1
        refine q _ (.r ?_)
        show x.io[j]? = some a
        rw [← ht, List.getElem?_take_of_lt hj]
        exact e
      · rw [if_neg hj] at w
        have ni : a ∉ x.io := fun hm => by
          obtain ⟨i, hi, ei⟩ := List.getElem_of_mem hm
          have e2 := s.pre i a (by rw [List.getElem?_eq_getElem hi, ei])
          have := at_inj ry.nd e e2
          rw [rx.len, ← hn] at hi
          omega
        cases hs : snap y.S (.r j) with
        | none => rw [hs] at w; exact w.elim
        | some z =>
          rw [hs] at w
          replace w : Wp K lo W σ x (.ok (.d z) (y.S.take n)) (QC K Q) := w
          obtain ⟨ob, ho⟩ : ∃ ob, y.S[j]? = some ob := by
            have : j < y.S.length := by rw [← ry.len]; exact (List.getElem?_eq_some_iff.mp e).1
            exact ⟨_, List.getElem?_eq_getElem this⟩
          obtain ⟨b, eb, q⟩ := ry.ob j ob ho
          rw [e] at eb
          cases eb
          replace hs : (match y.S[j]? with | some (.lst cs) => (allD cs).map D.lst | some (.frz x) => some x | _ => none) = some z := hs
          rw [ho] at hs
          cases q with
          | @lst _ cs vs h1 h2 =>
            simp only [Option.map_eq_some_iff] at hs
            obtain ⟨ds, e1, rfl⟩ := hs
            have hF : y.F a = none := ry.nf j a _ e ho (fun z => by intro w; cases w)
            have l : Le y.F (upd y.F a (.lst vs)) := Le.anew hF
            have lh : Le (upd y.F a (.lst vs)) y.H := by
              rw [← upd_self h1]
              exact le_both ry.fh
            obtain ⟨r2, s2⟩ := trunc (lo := lo) (F' := upd y.F a (.lst vs)) rx ry s hn l lh (fun b hb => by
              by_cases e2 : b = a
              · exact .inr ⟨e2 ▸ List.mem_of_getElem? e, e2 ▸ ni⟩
              · exact .inl (by rw [L2.upd_ne e2] at hb; exact hb)) hlo hro hron
            have q : QC K Q ⟨upd y.F a (.lst vs), x.io, y.S.take n, y.H⟩ (.d (.lst ds)) := Wp.to (y := ⟨upd y.F a (.lst vs), x.io, y.S.take n, y.H⟩) w s2 r2
            exact q _ (.d (.lst (SqL.of upd_same) ((allD_ok e1 h2).mono l)))
          | frz h1 =>
            cases hs
            have q : QC K Q ⟨y.F, x.io, y.S.take n, y.H⟩ (.d z) := Wp.to (y := ⟨y.F, x.io, y.S.take n, y.H⟩) w s1 r1
            exact q _ (.d h1)
          | dct _ _ => cases hs
          | ins _ _ => cases hs
end
/-! ### a def of the program keeps what the evaluator says -/
theorem start_ok {K : Kf} {x : Sta} {N : List Str} {fd : Fd} {cs : List Cell} {vs : List V} (hp : Paired (RpC K x.F x.io) cs vs) (hN : N.length = fd.nn) (hl : cs.length ≤ fd.nn) : RE K x (start0 fd cs) (L2.start N vs) := by
  have hlen := hp.length
  refine ⟨?_, fun i c e => ?_⟩
  · unfold start0 L2.start
    rw [List.length_append, List.length_append, List.length_map, List.length_map, List.length_replicate, List.length_replicate, hN, hlen]
  · unfold start0 at e
    unfold L2.start
    by_cases h : i < cs.length
    · rw [List.getElem?_append_left (by rw [List.length_map]; exact h), List.getElem?_map] at e
      cases q : cs[i]? with
      | none => rw [q] at e; cases e
      | some c' =>
        rw [q] at e
        cases e
        obtain ⟨v, h1, h2⟩ := paired_at hp q
        refine ⟨v, ?_, h2⟩
        rw [List.getElem?_append_left (by rw [List.length_map, ← hlen]; exact h), List.getElem?_map, h1]
        rfl
    · rw [List.getElem?_append_right (by rw [List.length_map]; omega)] at e
      rw [List.getElem?_replicate] at e
      split at e <;> cases e
theorem fn_sound {P : Program} {w : World} {K : Kf} {mg : Str → Option Value} {base : Heap} {x qual : Str} {params : Arguments} {body : List Stmt} {scope : Scope} {dvs : List V} {kws : List (Str × V)} {f : Addr} {fd : FuncData} {N ps : List Str} {k : Nat} {Φ : FT} {fd0 : Fd}
    (F : FunD K x qual params body scope dvs kws f fd) (S : FnScope N ps scope) (hN : N.length = fd0.nn) (hps : ps.length = fd0.np)
    (hbody : ∀ (X : Cx) (lo : Lim) (W : WX), X.prog = P → X.w = w → X.K = K → X.mg = mg → X.base = base → X.N = N → X.env.scope = scope → X.calm = true → X.fn = (fun _ => true) → Room k X.A → Takes X W → PassesOwn (model X.prog X.w) X.A X.env X.xe → SSs X Φ lo W body fd0.body) :
    FnOk P w K mg base (L2.CX P w) (k + 1) f fd ps (FnSp K fd0.np (fun lo cs S => runF Φ fd0 lo.ro cs S)) := by
  refine F.ok S (fun vs H Q E h => ?_) (fun cdv A outer s H vs Q E hr h => ?_)
  · obtain ⟨lo, x, cs, _, _, _, _, _, hl, _⟩ := h
    rw [hl, hps]
  · obtain ⟨lo, x, cs, hH, rs, hlo, hro, hp, hl, wp⟩ := h
    subst hH
    have hcs : cs.length = fd0.np := by rw [hp.length]; exact hl
    replace wp : Wp K lo (fun cls d _ H' => E cls d H') [] x (if cs.length = fd0.np ∧ fd0.np ≤ fd0.nn then
        (match exs Φ ⟨x.S.length, lo.ro⟩ fd0.body (start0 fd0 cs) x.S with
          | .ok (.ret c) S' => finish x.S.length S' c
          | .ok (.next _) S' => .ok (.d .non) (S'.take x.S.length)
          | .ok (.thr e _) S' => .exc e (S'.take x.S.length)
          | _ => .bad) else .bad) (QC K Q) := wp
    split at wp
    · rename_i hc
      have tk : Takes (cxOf (L2.CX P w) P w K mg base N qual scope f cdv A outer s x.H E) (fun cls d _ H => E cls d H) := takes_of rfl rfl rfl rfl
      have po : PassesOwn (model P w) (cxOf (L2.CX P w) P w K mg base N qual scope f cdv A outer s x.H E).A (cxOf (L2.CX P w) P w K mg base N qual scope f cdv A outer s x.H E).env (cxOf (L2.CX P w) P w K mg base N qual scope f cdv A outer s x.H E).xe := passes_of rfl
      refine ⟨_, hbody _ ⟨x.S.length, lo.ro⟩ (fun cls d _ H => E cls d H) rfl rfl rfl rfl rfl rfl rfl rfl rfl hr tk po, ?_⟩
      have hfin : ∀ {r : Res Cell}, Wp K lo (fun cls d _ H' => E cls d H') [] x r (QC K Q) → Wp K lo (fun cls d _ H' => E cls d H') [] x r (QC K Q) := fun h => h
      refine ⟨x, start0 fd0 cs, ⟨rfl, rs, start_ok hp hN (by rw [hcs]; exact hc.2), Nat.le_refl _, hro⟩, ?_⟩
      show Wp K ⟨x.S.length, lo.ro⟩ WF [] x (exs Φ ⟨x.S.length, lo.ro⟩ fd0.body (start0 fd0 cs) x.S) _
      cases hr : exs Φ ⟨x.S.length, lo.ro⟩ fd0.body (start0 fd0 cs) x.S with
      | bad => rw [hr] at wp; exact wp.elim
      | exc e S' => rw [hr] at wp; exact wp.elim
      | ok o S' =>
        rw [hr] at wp
        intro F' io' H' st ry
        cases o with
        | ret c => exact fun v rv => finish_ok (y := ⟨F', io', S', H'⟩) (lo := lo) rs ry st rfl hlo rfl hro rv wp
        | next ρ' =>
          intro σ' _
          exact finish_ok (y := ⟨F', io', S', H'⟩) (lo := lo) (c := .d .non) rs ry st rfl hlo rfl hro (.d .non) wp
        | brk ρ' => exact wp.elim
        | cnt ρ' => exact wp.elim
        | thr e ρ' =>
          intro σ' cls d _ hx
          obtain ⟨r1, s1⟩ := trunc (lo := lo) (y := ⟨F', io', S', H'⟩) rs ry st rfl (Le.refl _) ry.fh (fun b h => .inl h) hlo rfl hro
          exact wp cls d F' x.io H' s1 r1 hx
    · exact wp.elim
end Mi
/-! M12: from the model's syntax to the small language. -/
namespace Mi
open PySem PySem.Spec L2
/-- what is known where a text is turned: the slots' names, the scope, the defs (name, number of parameters), constants, built-ins that nobody has bound, names that hold lists of the store -/
structure Ct where
  N : List Str
  sc : Scope
  blk : Bool
  fns : List (Str × Nat)
  con : List (Str × D)
  blt : List Str
  mu : List Str
def mapO {α β : Type} (f : α → Option β) : List α → Option (List β)
  | [] => some []
  | a :: as => match f a, mapO f as with
    | some b, some bs => some (b :: bs)
    | _, _ => none
def opt2 {α β γ : Type} (a : Option α) (b : Option β) (f : α → β → γ) : Option γ := match a, b with
  | some x, some y => some (f x y)
  | _, _ => none
def foldB (f : Expr → Option CE) (op : BoolOp) : List Expr → Option CE
  | [] => none
  | [a] => f a
  | a :: b :: r => opt2 (f a) (foldB f op (b :: r)) fun x y => match op with
    | .And => .and x y
    | .Or => .or x y
def isGlob (c : Ct) (x : Str) : Bool := decide (c.sc.names.lookup x = some .globalImplicit) && !(x == ("__debug__" : Str)) && decide (x ≠ ("__name__" : Str))
def isBlt (c : Ct) (x : Str) : Bool := isGlob c x && c.blt.contains x
def isVis (c : Ct) (x : Str) : Bool := (decide (c.sc.names.lookup x = some .local) || decide (c.sc.names.lookup x = some .cell) || decide (c.sc.names.lookup x = some .free)) && !(x == ("__debug__" : Str)) && !(x == ("__classdict__" : Str))
def compName (c : Ct) (x : Str) : Option CE :=
  if isVis c x then (c.N.findIdx? (fun y => decide (y = x))).map .var
  else if isGlob c x then (c.con.lookup x).map .cst else none
def compConst : Const → Option CE
  | .int i => some (.cst (.int i))
  | .str x => some (.cst (.str x))
  | .bool b => some (.cst (.bl b))
  | .none => some (.cst .non)
  | _ => none
/-- one-place built-ins -/
def bi1 (x : Str) : Option Prim :=
  if x = "len" then some .len else if x = "int" then some .int_ else if x = "tuple" then some .tuple_ else if x = "list" then some .list_ else if x = "all" then some .all_ else if x = "any" then some .any_ else none
def tyOfName (x : Str) : Option Ty :=
  if x = "int" then some .int else if x = "str" then some .str else if x = "tuple" then some .tup else if x = "list" then some .lst else if x = "bool" then some .bl else if x = "dict" then some .dct else none
mutual
def compTg (c : Ct) : Nat → Expr → Option Tg
  | 0, _ => none
  | n + 1, .Name x _ => if decide (c.sc.names.lookup x = some .local) || (decide (c.sc.names.lookup x = some .cell) && !c.blk) then (c.N.findIdx? (fun y => decide (y = x))).map .slot else none
  | n + 1, .Tuple es _ _ => if es.all notStar then (mapO (compTg c n) es).map .tup else none
  | _ + 1, _ => none
end
def notSet : Expr → Bool
  | .Set _ _ _ => false
  | _ => true
/-- the names of a target -/
def tgNames : Nat → Expr → List Str
  | 0, _ => []
  | _ + 1, .Name x _ => [x]
  | n + 1, .Tuple es _ _ => es.flatMap (tgNames n)
  | _ + 1, _ => []
def ownOf (N : List Str) (xs : List Str) : List (Str × Nat) := xs.map fun x => (x, (N.findIdx? (fun y => decide (y = x))).getD 0)
def compMeth (t : Ty) (m : Str) : Option Prim := match t with
  | .lst => if m = "pop" then some .popAt else none
  | _ => none
/-- sorted(set(b)) -/
def setArg (c : Ct) (f : Str) : Expr → Option Expr
  | .Call (.Name g _) [b] [] _ => if f = "sorted" && g = "set" && isBlt c g && notStar b then some b else none
  | _ => none
def nameOf : Expr → Option Str
  | .Name x _ => some x
  | _ => none
mutual
def compE : Nat → Ct → Expr → Option CE
  | 0, _, _ => none
  | n + 1, c, e => match e with
    | .Name x _ => compName c x
    | .Constant k _ _ => compConst k
    | .BinOp a op b _ => opt2 (compE n c a) (compE n c b) fun x y => .prim (.bin op) [x, y]
    | .Compare a [op] [b] _ => if behindInMarks op b then none else opt2 (compE n c a) (compE n c b) fun x y => .prim (.cmp op) [x, y]
    | .UnaryOp .Not a _ => (compE n c a).map fun x => .prim .not [x]
    | .UnaryOp .USub a _ => (compE n c a).map fun x => .prim .neg [x]
    | .BoolOp op vs _ => foldB (compE n c) op vs
    | .IfExp t a b _ => match compT n c t, compE n c a, compE n c b with
      | some x, some y, some z => some (.ite x y z)
      | _, _, _ => none
    | .Subscript a i _ => if plainIx i then opt2 (compE n c a) (compE n c i) fun x y => .prim .item [x, y] else none
    | .Tuple es _ _ => if es.all notStar then (mapO (compE n c) es).map (.prim .tup) else none
    | .List es _ => if es.all notStar then (mapO (compE n c) es).map (.prim .lst) else none
    | .Call (.Name f _) (a :: as) [] _ => if isBlt c f then compBlt n c f a as else compCall n c f (a :: as)
    | .Call (.Attribute o m ap) [a] [] p => if plainBase o && (ap.endLine == p.line) && notStar a then (match compMeth .lst m, compE n c o, compE n c a with
      | some q, some x, some y => some (.meth .lst q x [y])
      | _, _, _ => none) else none
    | .ListComp elt [⟨tg, it, ifs, 0⟩] scope _ => compLc n c elt tg it ifs scope
    | _ => none
def compBlt : Nat → Ct → Str → Expr → List Expr → Option CE
  | 0, _, _, _, _ => none
  | n + 1, c, f, a, as => match as with
    | [] => if notStar a then (match setArg c f a with
      | some b => (compE n c b).map fun x => .prim .sortedSet [x]
      | none => opt2 (bi1 f) (compE n c a) fun p x => .prim p [x]) else none
    | [b] => match nameOf b with
      | some t => if f = "isinstance" && isBlt c t && notStar a then opt2 (compE n c a) (tyOfName t) fun x t => .prim (.isinst t) [x, .cst (.ty t.name)] else none
      | none => none
    | _ => none
def compCall : Nat → Ct → Str → List Expr → Option CE
  | 0, _, _, _ => none
  | n + 1, c, f, as => if isGlob c f && as.all notStar then (match c.fns.findIdx? (fun q => decide (q.1 = f)) with
    | some i => (match c.fns[i]? with
      | some q => if q.2 = as.length then (mapO (compE n c) as).map (.call i) else none
      | none => none)
    | none => none) else none
def compLc : Nat → Ct → Expr → Expr → Expr → List Expr → Scope → Option CE
  | 0, _, _, _, _, _, _ => none
  | n + 1, c, elt, tg, it, ifs, scope =>
    if notSet it && blkC c.N c.sc scope (ownOf c.N (tgNames 5 tg)) then
      (match compIt n c it, compTg { c with sc := relS scope c.sc, blk := true } 5 tg, mapO (compT n { c with sc := relS scope c.sc, blk := true }) ifs, compE n { c with sc := relS scope c.sc, blk := true } elt with
      | some (k, as), some t, some cs, some e => if slotsOf t = (ownOf c.N (tgNames 5 tg)).map (·.2) && decide (ifs.length ≤ 1) then some (.comp t k as cs e) else none
      | _, _, _, _ => none)
    else none
def compIt : Nat → Ct → Expr → Option (Itk × List CE)
  | 0, _, _ => none
  | n + 1, c, e => match e with
    | .Call (.Name f p) [a] [] q => if f = "range" && isBlt c f then (if notStar a then (compE n c a).map fun x => (.range1, [x]) else none) else (compE n c (.Call (.Name f p) [a] [] q)).map fun x => (.plain, [x])
    | .Call (.Name f p) [a, b] [] q => if f = "range" && isBlt c f then (if notStar a && notStar b then opt2 (compE n c a) (compE n c b) fun x y => (.range2, [x, y]) else none) else (compE n c (.Call (.Name f p) [a, b] [] q)).map fun x => (.plain, [x])
    | e => (compE n c e).map fun x => (.plain, [x])
def compT : Nat → Ct → Expr → Option CE
  | 0, _, _ => none
  | n + 1, c, e => match e with
    | .UnaryOp .Not a _ => (compT n c a).map fun x => .prim .not [x]
    | .BoolOp op vs _ => foldB (compT n c) op vs
    | .Compare a [op] [b] _ => if behindInMarks op b then none else opt2 (compE n c a) (compE n c b) fun x y => .prim (.cmp op) [x, y]
    | e => if plainTest e then compE n c e else none
end
/-! ### statements -/
def notComp : Expr → Bool
  | .ListComp _ _ _ _ => false
  | .SetComp _ _ _ _ => false
  | .DictComp _ _ _ _ _ => false
  | _ => true
def isTuple : Expr → Bool
  | .Tuple _ _ _ => true
  | .List _ _ => true
  | _ => false
def isLaid : Expr → Bool
  | .ListComp _ _ _ _ => true
  | .Call (.Name f _) _ _ _ => f = "list" || f = "sorted"
  | _ => false
def compA : Nat → Ct → Expr → Option AE
  | 0, _, _ => none
  | n + 1, c, e => match e with
    | .List es _ => if es.all notStar then (mapO (compA n c) es).map .lst else none
    | e => if isLaid e then (compE n c e).map .own else (compE n c e).map .e
structure LcParts where
  elt : Expr
  tg : Expr
  it : Expr
  ifs : List Expr
  scope : Scope
  p : Pos
def lcOf : Expr → Option LcParts
  | .ListComp elt [⟨tg, it, ifs, 0⟩] scope p => some ⟨elt, tg, it, ifs, scope, p⟩
  | _ => none
/-- y = [.. for ..] on one line -/
def compSet (n : Nat) (c : Ct) (i : Nat) (y : Str) (py : Pos) (q : LcParts) : Option CS :=
  if (decide (c.sc.names.lookup y = some .local) && (py.line == q.p.line) && !(q.scope.names.any fun (n, k) => n == y && (k == .local || k == .cell))) || decide (c.sc.names.lookup y = some .cell) then (compLc n c q.elt q.tg q.it q.ifs q.scope).map (.asg (.slot i)) else none
mutual
def compS : Nat → Ct → Stmt → Option CS
  | 0, _, _ => none
  | n + 1, c, s => match s with
    | .Expr e _ => if notComp e then (compE n c e).map .expr else none
    | .Return (some e) _ => (compE n c e).map .ret
    | .Return none _ => some (.ret (.cst .non))
    | .Pass _ => some .pass
    | .Break _ => some .brk
    | .Continue _ => some .cnt
    | .If t a b _ => match compT n c t, compSs n c a, compSs n c b with
      | some x, some y, some z => some (.ite x y z)
      | _, _, _ => none
    | .For tg it body [] _ => if notSet it then (match compIt n c it, compTg c 5 tg, compSs n c body with
      | some (k, as), some t, some b => some (.forS t k as b)
      | _, _, _ => none) else none
    | .Assign [.Name y py] v p => match compTg c 5 (.Name y py) with
      | some (.slot i) =>
        if c.mu.contains y then (if notComp v then (compA n c v).map (.own i) else none)
        else if notComp v then (compE n c v).map (.asg (.slot i))
        else (lcOf v).bind fun q => compSet n c i y py q
      | _ => none
    | .Assign [.Subscript a i _] v _ => if plainIx i && notComp v then (match compE n c v, compE n c a, compE n c i with
      | some x, some y, some z => some (.setIx x y z)
      | _, _, _ => none) else none
    | .Assign [.Tuple ts k tp] v _ => if notComp v && !isTuple v then (match compE n c v, compTg c 5 (.Tuple ts k tp) with
      | some x, some t => some (.asg t x)
      | _, _ => none) else none
    | _ => none
def compSs : Nat → Ct → List Stmt → Option (List CS)
  | 0, _, _ => none
  | n + 1, c, ss => mapO (compS n c) ss
end
end Mi
/-! M13: what is turned means the same: expressions. -/
namespace Mi
open PySem PySem.Spec L2
structure Gd (c : Ct) (X : Cx) (Φ : FT) : Prop where
  N : X.N = c.N
  nd : c.N.Nodup
  sc : X.env.scope = c.sc
  kind : c.sc.kind = .function
  calm : X.calm = true
  fn : c.blk = false → X.fn = fun _ => true
  hu : X.A.units + 65 < cLine
  con : ∀ x d, c.con.lookup x = some d → ∃ v u, X.mg x = some u ∧ RelV v u ∧ ∀ F, Rp X.K F (.one d v)
  blt : ∀ x, c.blt.contains x = true → X.mg x = none
  fns : ∀ (f : Nat) x np, c.fns[f]? = some (x, np) → DefOk X Φ f x np
section
variable {c : Ct} {X : Cx} {Φ : FT} {lo : Lim} {W : WX}
theorem Gd.gl (g : Gd c X Φ) {x : Str} (h : isGlob c x = true) : Gl X x ∧ (x == ("__debug__" : Str)) = false ∧ x ≠ "__name__" := by
  unfold isGlob at h
  simp only [Bool.and_eq_true, decide_eq_true_eq, Bool.not_eq_true'] at h
  obtain ⟨⟨h1, h2⟩, h3⟩ := h
  refine ⟨?_, h2, h3⟩
  show X.env.scope.names.lookup x = _
  rw [g.sc]
  exact h1
theorem Gd.bl (g : Gd c X Φ) {x : Str} (h : isBlt c x = true) : Gl X x ∧ (x == ("__debug__" : Str)) = false ∧ x ≠ "__name__" ∧ X.mg x = none := by
  unfold isBlt at h
  rw [Bool.and_eq_true] at h
  obtain ⟨h1, h2, h3⟩ := g.gl h.1
  exact ⟨h1, h2, h3, g.blt x h.2⟩
theorem findIdx_at {N : List Str} {x : Str} {i : Nat} (h : N.findIdx? (fun y => decide (y = x)) = some i) : N[i]? = some x := by
  obtain ⟨hi, h1, _⟩ := List.findIdx?_eq_some_iff_getElem.mp h
  rw [List.getElem?_eq_getElem hi, of_decide_eq_true h1]
theorem name_ok (g : Gd c X Φ) {x : Str} {pos : Pos} {ce : CE} (h : compName c x = some ce) : SE X Φ lo W (.Name x pos) ce := by
  unfold compName at h
  split at h
  · rename_i hv
    simp only [Option.map_eq_some_iff] at h
    obtain ⟨i, hi, rfl⟩ := h
    unfold isVis at hv
    simp only [Bool.and_eq_true, Bool.or_eq_true, decide_eq_true_eq, Bool.not_eq_true'] at hv
    obtain ⟨⟨h1, h2⟩, h3⟩ := hv
    refine s_var (pe_var (i := i) (by rw [g.N]; exact findIdx_at hi) ?_ h2 h3)
    unfold Vis
    rw [g.sc]
    rcases h1 with (h1 | h1) | h1
    · exact .inl h1
    · exact .inr (.inl h1)
    · exact .inr (.inr h1)
  · split at h
    · rename_i hg
      simp only [Option.map_eq_some_iff] at h
      obtain ⟨d, hd, rfl⟩ := h
      obtain ⟨h1, h2, _⟩ := g.gl hg
      obtain ⟨v, u, hm, r, hr⟩ := g.con x d hd
      exact s_cst (pe_glob h1 hm r h2) hr
    · cases h
theorem const_ok {k : Const} {n : Nat} {pos : Pos} {ce : CE} (h : compConst k = some ce) : SE X Φ lo W (.Constant k n pos) ce := by
  unfold compConst at h
  split at h <;> cases h
  · exact s_cst pe_int fun F => .int _
  · exact s_cst pe_str fun F => .str _
  · exact s_cst pe_bl fun F => .bl _
  · exact s_cst pe_non fun F => .non
theorem bi1_ok (g : Gd c X Φ) {f : Str} {p pos : Pos} {a : Expr} {q : Prim} {ca : CE} (hb : isBlt c f = true) (hs : notStar a = true) (h : bi1 f = some q) (ha : SC X Φ lo W a ca) : SE X Φ lo W (.Call (.Name f p) [a] [] pos) (.prim q [ca]) := by
  obtain ⟨h1, h2, h3, h4⟩ := g.bl hb
  unfold bi1 at h
  split at h
  · rename_i e; cases h; subst e
    exact s_b1 (fun rs r w => len_ok rfl rs r w) h1 h4 (by decide +kernel) h3 h2 hs ha
  split at h
  · rename_i e; cases h; subst e
    exact s_ty1 (fun rs r w => int_ok rs r w) h1 h4 (by decide +kernel) h3 h2 hs ha
  split at h
  · rename_i e; cases h; subst e
    exact s_ty1 (fun rs r w => tuple_ok rfl rs r w) h1 h4 (by decide +kernel) h3 h2 hs ha
  split at h
  · rename_i e; cases h; subst e
    exact s_ty1 (fun rs r w => list_ok rfl rs r w) h1 h4 (by decide +kernel) h3 h2 hs ha
  split at h
  · rename_i e; cases h; subst e
    exact s_b1 (fun rs r w => all_ok g.calm rfl rs r w) h1 h4 (by decide +kernel) h3 h2 hs ha
  split at h
  · rename_i e; cases h; subst e
    exact s_b1 (fun rs r w => any_ok g.calm rfl rs r w) h1 h4 (by decide +kernel) h3 h2 hs ha
  · cases h
theorem isi_name (g : Gd c X Φ) {t : Str} {p : Pos} {ty : Ty} (hb : isBlt c t = true) (h : tyOfName t = some ty) : SC X Φ lo W (.Name t p) (.cst (.ty ty.name)) ∧ ty ≠ .non := by
  obtain ⟨h1, h2, h3, h4⟩ := g.bl hb
  unfold tyOfName at h
  have go : ∀ {n : String} {ty : Ty}, bootBuiltins t = some (.type n) → ty.name = n → SC X Φ lo W (.Name t p) (.cst (.ty ty.name)) := fun {n ty} hv e => sc_of (s_cst (v := .ty ty.name) (pe_bltn h1 h4 hv (by rw [e]; exact rfl) h3 h2) fun F => .ty _)
  split at h
  · rename_i e; cases h; subst e; exact ⟨go (by decide +kernel) rfl, by decide⟩
  split at h
  · rename_i e; cases h; subst e; exact ⟨go (by decide +kernel) rfl, by decide⟩
  split at h
  · rename_i e; cases h; subst e; exact ⟨go (by decide +kernel) rfl, by decide⟩
  split at h
  · rename_i e; cases h; subst e; exact ⟨go (by decide +kernel) rfl, by decide⟩
  split at h
  · rename_i e; cases h; subst e; exact ⟨go (by decide +kernel) rfl, by decide⟩
  split at h
  · rename_i e; cases h; subst e; exact ⟨go (by decide +kernel) rfl, by decide⟩
  · cases h
theorem meth_ok (g : Gd c X Φ) {m : Str} {q : Prim} {o a : Expr} {co ca : CE} {ap p : Pos} (h : compMeth .lst m = some q) (hb : plainBase o = true) (hl : (ap.endLine == p.line) = true) (hs : notStar a = true) (ho : SC X Φ lo W o co) (ha : SC X Φ lo W a ca) : SE X Φ lo W (.Call (.Attribute o m ap) [a] [] p) (.meth .lst q co [ca]) := by
  replace h : (if m = "pop" then some Prim.popAt else none) = some q := h
  split at h
  · rename_i e; cases h; subst e
    exact s_m1 (t := .lst) (fun rs h r => tyV_lst rs h r) (fun rs r1 r2 w => pop_ok rs r1 r2 w) PySem.F.plainAttrs_list PySem.F.slot_list_pop PySem.F.type_list_pop hb hl hs ho ha
  · cases h
theorem opt2_some {α β γ : Type} {a : Option α} {b : Option β} {f : α → β → γ} {r : γ} (h : opt2 a b f = some r) : ∃ x y, a = some x ∧ b = some y ∧ r = f x y := by
  unfold opt2 at h
  split at h
  · cases h; exact ⟨_, _, rfl, rfl, rfl⟩
  · cases h
theorem mapO_all {f : Expr → Option CE} : ∀ {es : List Expr} {cs : List CE}, mapO f es = some cs → es.all notStar = true → (∀ e ce, f e = some ce → SC X Φ lo W e ce) → SA X Φ lo W es cs
  | [], _, h, _, _ => by cases h; exact sa_nil
  | e :: es, cs, h, hs, hf => by
    unfold mapO at h
    rw [List.all_cons, Bool.and_eq_true] at hs
    split at h
    · rename_i b bs e1 e2
      cases h
      exact sa_cons hs.1 (hf e b e1) (mapO_all e2 hs.2 hf)
    · cases h
theorem mapO_len {α β : Type} {f : α → Option β} : ∀ {es : List α} {cs : List β}, mapO f es = some cs → cs.length = es.length
  | [], _, h => by cases h; rfl
  | e :: es, cs, h => by
    unfold mapO at h
    split at h
    · rename_i b bs e1 e2
      cases h
      rw [List.length_cons, List.length_cons, mapO_len e2]
    · cases h
theorem foldB_ok {f : Expr → Option CE} {op : BoolOp} {pos : Pos} (hf : ∀ e ce, f e = some ce → SE X Φ lo W e ce) : ∀ {es : List Expr} {ce : CE}, foldB f op es = some ce → SE X Φ lo W (.BoolOp op es pos) ce
  | [], _, h => by cases h
  | [a], ce, h => s_one (hf a ce h)
  | a :: b :: r, ce, h => by
    unfold foldB at h
    obtain ⟨x, y, h1, h2, rfl⟩ := opt2_some h
    cases op with
    | And => exact s_and (sc_of (hf a x h1)) (foldB_ok hf h2)
    | Or => exact s_or (sc_of (hf a x h1)) (foldB_ok hf h2)
theorem foldB_okT {f : Expr → Option CE} {op : BoolOp} {pos : Pos} (hf : ∀ e ce, f e = some ce → SB X Φ lo W e ce) : ∀ {es : List Expr} {ce : CE}, foldB f op es = some ce → SBW X Φ lo W (.BoolOp op es pos) ce
  | [], _, h => by cases h
  | [a], ce, h => sbw_one (hf a ce h)
  | a :: b :: r, ce, h => by
    unfold foldB at h
    obtain ⟨x, y, h1, h2, rfl⟩ := opt2_some h
    cases op with
    | And => exact sbw_and (hf a x h1) (foldB_okT hf h2)
    | Or => exact sbw_or (hf a x h1) (foldB_okT hf h2)
/-- targets -/
theorem tg_ok (g : Gd c X Φ) : ∀ {n : Nat} {e : Expr} {t : Tg}, compTg c n e = some t → PG X e (TGt X.K t) ∧ notStar e = true
  | 0, _, _, h => by unfold compTg at h; cases h
  | n + 1, e, t, h => by
    unfold compTg at h
    split at h
    · cases h
    · rename_i x _ e1
      cases e1
      split at h
      · rename_i hl
        simp only [Option.map_eq_some_iff] at h
        obtain ⟨i, hi, rfl⟩ := h
        simp only [Bool.or_eq_true, Bool.and_eq_true, decide_eq_true_eq, Bool.not_eq_true'] at hl
        refine ⟨sg_slot (pg_name (i := i) (by rw [g.N]; exact g.nd) (by rw [g.N]; exact findIdx_at hi) ?_ ?_), rfl⟩
        · unfold L2.Loc
          rw [g.sc]
          exact hl.elim .inl fun h => .inr h.1
        · rw [g.sc]
          rcases hl with hl | hl
          · exact .inr hl
          · exact .inl (by rw [g.fn hl.2])
      · cases h
    · rename_i es k pos e1
      cases e1
      split at h
      · rename_i hs
        simp only [Option.map_eq_some_iff] at h
        obtain ⟨ts, ht, rfl⟩ := h
        have all : ∀ {es : List Expr} {ts : List Tg}, mapO (compTg c n) es = some ts → es.all notStar = true → PGs X es (TGts X.K ts) := by
          intro es
          induction es with
          | nil => intro ts h _; cases h; exact sgs_nil
          | cons e es ih =>
            intro ts h hs
            unfold mapO at h
            rw [List.all_cons, Bool.and_eq_true] at hs
            split at h
            · rename_i b bs e1 e2
              cases h
              exact sgs_cons hs.1 (tg_ok g e1).1 (ih e2 hs.2)
            · cases h
        exact ⟨sg_tup g.calm hs (mapO_len ht).symm (all ht hs), rfl⟩
      · cases h
    · cases h
theorem notSet_ok {it : Expr} (h : notSet it = true) (env : Env) (v : Value) : foldedSetIterable it env v = pure v := by
  cases it <;> first | rfl | cases h
end
end Mi
/-! M14: what is turned means the same: the theorem. -/
namespace Mi
open PySem PySem.Spec L2
section
variable {Φ : FT}
structure OkE (n : Nat) : Prop where
  e : ∀ {c : Ct} {X : Cx} {Φ : FT} {lo : Lim} {W : WX} {e : Expr} {ce : CE}, Gd c X Φ → Takes X W → compE n c e = some ce → SE X Φ lo W e ce
  t : ∀ {c : Ct} {X : Cx} {Φ : FT} {lo : Lim} {W : WX} {e : Expr} {ce : CE}, Gd c X Φ → Takes X W → compT n c e = some ce → SB X Φ lo W e ce
  call : ∀ {c : Ct} {X : Cx} {Φ : FT} {lo : Lim} {W : WX} {f : Str} {a : Expr} {as : List Expr} {p pos : Pos} {ce : CE}, Gd c X Φ → Takes X W → compCall n c f (a :: as) = some ce → SE X Φ lo W (.Call (.Name f p) (a :: as) [] pos) ce
  blt : ∀ {c : Ct} {X : Cx} {Φ : FT} {lo : Lim} {W : WX} {f : Str} {a : Expr} {as : List Expr} {p pos : Pos} {ce : CE}, Gd c X Φ → Takes X W → isBlt c f = true → compBlt n c f a as = some ce → SE X Φ lo W (.Call (.Name f p) (a :: as) [] pos) ce
  it : ∀ {c : Ct} {X : Cx} {Φ : FT} {lo : Lim} {W : WX} {tg e : Expr} {k : Itk} {as : List CE}, Gd c X Φ → Takes X W → compIt n c e = some (k, as) → PI X tg e (TIt X.K lo W Φ k as)
  lc : ∀ {c : Ct} {X : Cx} {Φ : FT} {lo : Lim} {W : WX} {elt tg it : Expr} {ifs : List Expr} {scope : Scope} {ce : CE}, Gd c X Φ → Takes X W → compLc n c elt tg it ifs scope = some ce →
    notSet it = true ∧ ∃ (own : List (Str × Nat)) (t : Tg) (k : Itk) (as cs : List CE) (e : CE), ce = .comp t k as cs e ∧ own.map (·.2) = slotsOf t ∧ BlkOk X.N X.env.scope scope own ∧ PI X tg it (TIt X.K lo W Φ k as) ∧
      (∀ (s : Shared) (H : Hp) (C : Addr) (cl : List (Str × Addr)) (fp : List Addr), PG (X.blk s H scope (compEnvC scope cl C X.env) fp) tg (TGt X.K t)) ∧
      (∀ (s : Shared) (H : Hp) (C : Addr) (cl : List (Str × Addr)) (fp : List Addr), PTs (X.blk s H scope (compEnvC scope cl C X.env) fp) ifs (TTs X.K Φ cs)) ∧
      (∀ (s : Shared) (H : Hp) (C : Addr) (cl : List (Str × Addr)) (fp : List Addr), PE (X.blk s H scope (compEnvC scope cl C X.env) fp) elt (TEs X.K Φ e))
theorem ok0 : OkE 0 := by
  refine ⟨?_, ?_, ?_, ?_, ?_, ?_⟩
  · intro c X Φ lo W e ce g tk h; unfold compE at h; cases h
  · intro c X Φ lo W e ce g tk h; unfold compT at h; cases h
  · intro c X Φ lo W f a as p pos ce g tk h; unfold compCall at h; cases h
  · intro c X Φ lo W f a as p pos ce g tk _ h; unfold compBlt at h; cases h
  · intro c X Φ lo W tg e k as g tk h; unfold compIt at h; cases h
  · intro c X Φ lo W elt tg it ifs scope ce g tk h; unfold compLc at h; cases h
/-- a comprehension's block -/
theorem Gd.blk {c : Ct} {X : Cx} {Φ : FT} (g : Gd c X Φ) (scope : Scope) (hk : scope.kind = .function) (s : Shared) (H : Hp) (C : Addr) (cl : List (Str × Addr)) (fp : List Addr) :
    Gd { c with sc := relS scope c.sc, blk := true } (X.blk s H scope (compEnvC scope cl C X.env) fp) Φ := by
  refine ⟨g.N, g.nd, ?_, hk, g.calm, (fun h => nomatch h), g.hu, g.con, g.blt, fun f x np h => ?_⟩
  · show relabel scope X.env = relS scope c.sc
    rw [← g.sc]
    rfl
  · obtain ⟨k, a, fd, ps, h1, h2, h3, h4, h5⟩ := (g.fns f x np h).ex
    exact ⟨k, a, fd, ps, h1, h2, h3, h4, h5⟩
theorem takesF {X : Cx} {s : Shared} {H : Hp} {scope : Scope} {cenv : Env} {fp : List Addr} : Takes (X.blk s H scope cenv fp) WF := fun u s' ⟨_, _, _, _, _, _, _, _, _, _, _, _, _, _, _, _, w⟩ => w.elim
theorem s_lc {n : Nat} (ok : OkE n) {c : Ct} {X : Cx} {Φ : FT} {lo : Lim} {W : WX} {elt tg it : Expr} {ifs : List Expr} {scope : Scope} {pos : Pos} {ce : CE} (g : Gd c X Φ) (tk : Takes X W) (h : compLc n c elt tg it ifs scope = some ce) : SE X Φ lo W (.ListComp elt [⟨tg, it, ifs, 0⟩] scope pos) ce := by
  obtain ⟨hs, own, t, k, as, cs, e, rfl, ho, bo, hi, hg, ht, he⟩ := ok.lc g tk h
  exact PE.imp (pe_lc g.calm (by rw [g.N]; exact g.nd) hi bo hg ht he fun v => notSet_ok hs X.env v) fun σ H Q q => s_comp g.calm (by rw [g.N]; exact g.nd) hi bo ho hg ht he σ H Q q
theorem evT_one {lo : Lim} {c : CE} (ρ : Rho) (S : Stg) : evT Φ lo [c] ρ S = evB Φ lo c ρ S := by
  show ((ev Φ lo c ρ S).bind fun c S1 => match truth S1 c with | some true => Res.ok true S1 | some false => Res.ok false S1 | none => Res.bad) = (ev Φ lo c ρ S).bind fun v S1 => Res.of (truth S1 v) S1
  cases ev Φ lo c ρ S with
  | ok v S1 =>
    show (match truth S1 v with | some true => Res.ok true S1 | some false => Res.ok false S1 | none => Res.bad) = Res.of (truth S1 v) S1
    cases truth S1 v with
    | none => rfl
    | some k => cases k <;> rfl
  | exc _ _ => rfl
  | bad => rfl
theorem step {n : Nat} (ih : OkE n) : OkE (n + 1) := by
  refine ⟨?_, ?_, ?_, ?_, ?_, ?_⟩
  · intro c X Φ lo W e ce g tk h
    unfold compE at h
    split at h
    · exact name_ok g h
    · exact const_ok h
    · obtain ⟨x, y, h1, h2, rfl⟩ := opt2_some h
      exact s_bin (sc_of (ih.e g tk h1)) (sc_of (ih.e g tk h2))
    · split at h
      · cases h
      · rename_i hm
        obtain ⟨x, y, h1, h2, rfl⟩ := opt2_some h
        exact s_cmp g.hu (by simpa using hm) (sc_of (ih.e g tk h1)) (sc_of (ih.e g tk h2))
    · simp only [Option.map_eq_some_iff] at h
      obtain ⟨x, h1, rfl⟩ := h
      exact s_not (sc_of (ih.e g tk h1))
    · simp only [Option.map_eq_some_iff] at h
      obtain ⟨x, h1, rfl⟩ := h
      exact s_neg (sc_of (ih.e g tk h1))
    · exact foldB_ok (fun e ce h => ih.e g tk h) h
    · split at h
      · rename_i x y z h1 h2 h3
        cases h
        exact s_ite (ih.t g tk h1) (ih.e g tk h2) (ih.e g tk h3)
      · cases h
    · split at h
      · rename_i hp
        obtain ⟨x, y, h1, h2, rfl⟩ := opt2_some h
        exact s_item (plainIx_ok hp) (sc_of (ih.e g tk h1)) (sc_of (ih.e g tk h2))
      · cases h
    · split at h
      · rename_i hs
        simp only [Option.map_eq_some_iff] at h
        obtain ⟨cs, h1, rfl⟩ := h
        exact s_tup (mapO_all h1 hs fun e ce h => sc_of (ih.e g tk h))
      · cases h
    · split at h
      · rename_i hs
        simp only [Option.map_eq_some_iff] at h
        obtain ⟨cs, h1, rfl⟩ := h
        exact s_lst (mapO_all h1 hs fun e ce h => sc_of (ih.e g tk h))
      · cases h
    · split at h
      · rename_i hb
        exact ih.blt g tk hb h
      · exact ih.call g tk h
    · split at h
      · rename_i hc
        simp only [Bool.and_eq_true] at hc
        split at h
        · rename_i q x y h1 h2 h3
          cases h
          exact meth_ok g h1 hc.1.1 hc.1.2 hc.2 (sc_of (ih.e g tk h2)) (sc_of (ih.e g tk h3))
        · cases h
      · cases h
    · exact s_lc ih g tk h
    · cases h
  · intro c X Φ lo W e ce g tk h
    unfold compT at h
    split at h
    · simp only [Option.map_eq_some_iff] at h
      obtain ⟨x, h1, rfl⟩ := h
      exact sb_not (ih.t g tk h1)
    · exact PW.pt (foldB_okT (fun e ce h => ih.t g tk h) h)
    · split at h
      · cases h
      · rename_i hm
        obtain ⟨x, y, h1, h2, rfl⟩ := opt2_some h
        exact sb_cmp g.hu (by simpa using hm) (sc_of (ih.e g tk h1)) (sc_of (ih.e g tk h2))
    · split at h
      · rename_i hp
        exact sb_plain hp (sc_of (ih.e g tk h))
      · cases h
  · intro c X Φ lo W f a as p pos ce g tk h
    unfold compCall at h
    split at h
    · rename_i hc
      rw [Bool.and_eq_true] at hc
      split at h
      · rename_i i hi
        split at h
        · rename_i q hq
          split at h
          · rename_i hl
            simp only [Option.map_eq_some_iff] at h
            obtain ⟨cs, h1, rfl⟩ := h
            obtain ⟨hi1, hi2, _⟩ := List.findIdx?_eq_some_iff_getElem.mp hi
            have hq1 : q.1 = f := by
              rw [List.getElem?_eq_getElem hi1] at hq
              rw [← Option.some.inj hq]
              exact of_decide_eq_true hi2
            obtain ⟨g1, g2, _⟩ := g.gl hc.1
            have hss := hc.2
            rw [List.all_cons, Bool.and_eq_true] at hss
            have D : DefOk X Φ i f (a :: as).length := by
              have := g.fns i q.1 q.2 (by rw [hq])
              rw [hq1, hl] at this
              exact this
            exact s_call D tk g1 g2 hss.1 hss.2 rfl (mapO_len h1) (mapO_all h1 hc.2 fun e ce h => sc_of (ih.e g tk h))
          · cases h
        · cases h
      · cases h
    · cases h
  · intro c X Φ lo W f a as p pos ce g tk hb h
    unfold compBlt at h
    split at h
    · split at h
      · rename_i hs
        split at h
        · rename_i b hsa
          simp only [Option.map_eq_some_iff] at h
          obtain ⟨x, h1, rfl⟩ := h
          unfold setArg at hsa
          split at hsa
          · split at hsa
            · rename_i hc
              cases hsa
              simp only [Bool.and_eq_true, decide_eq_true_eq] at hc
              obtain ⟨⟨⟨rfl, rfl⟩, hb2⟩, hs2⟩ := hc
              obtain ⟨b1, b2, b3, b4⟩ := g.bl hb
              obtain ⟨d1, d2, d3, d4⟩ := g.bl hb2
              exact s_sortedSet g.calm b1 b4 (by decide +kernel) b3 b2 d1 d4 (by decide +kernel) d3 d2 hs2 (sc_of (ih.e g tk h1))
            · cases hsa
          · cases hsa
        · obtain ⟨q, x, h1, h2, rfl⟩ := opt2_some h
          exact bi1_ok g hb hs h1 (sc_of (ih.e g tk h2))
      · cases h
    · split at h
      · rename_i b t ht
        split at h
        · rename_i hc
          simp only [Bool.and_eq_true, decide_eq_true_eq] at hc
          obtain ⟨⟨hf, hbt⟩, hs⟩ := hc
          obtain ⟨x, ty, h1, h2, rfl⟩ := opt2_some h
          obtain ⟨b1, b2, b3, b4⟩ := g.bl hb
          unfold nameOf at ht
          split at ht
          · cases ht
            obtain ⟨hn, hne⟩ := isi_name (lo := lo) (W := W) (p := ‹Pos›) g hbt h2
            subst hf
            exact s_b2 (fun rs r1 r2 w => isi_ok rfl rs hne r1 r2 w) b1 b4 (by decide +kernel) b3 b2 hs rfl (sc_of (ih.e g tk h1)) hn
          · cases ht
        · cases h
      · cases h
    · cases h
  · intro c X Φ lo W tg e k as g tk h
    unfold compIt at h
    split at h
    · split at h
      · rename_i hc
        simp only [Bool.and_eq_true, decide_eq_true_eq] at hc
        obtain ⟨rfl, hb⟩ := hc
        obtain ⟨b1, b2, b3, b4⟩ := g.bl hb
        split at h
        · rename_i hs
          simp only [Option.map_eq_some_iff] at h
          obtain ⟨x, h1, e⟩ := h
          cases e
          exact si_range1 b1 b4 hs (sc_of (ih.e g tk h1))
        · cases h
      · simp only [Option.map_eq_some_iff] at h
        obtain ⟨x, h1, e⟩ := h
        cases e
        exact si_plain (sc_of (ih.e g tk h1))
    · split at h
      · rename_i hc
        simp only [Bool.and_eq_true, decide_eq_true_eq] at hc
        obtain ⟨rfl, hb⟩ := hc
        obtain ⟨b1, b2, b3, b4⟩ := g.bl hb
        split at h
        · rename_i hs
          rw [Bool.and_eq_true] at hs
          obtain ⟨x, y, h1, h2, e⟩ := opt2_some h
          cases e
          exact si_range2 b1 b4 hs.1 hs.2 (sc_of (ih.e g tk h1)) (sc_of (ih.e g tk h2))
        · cases h
      · simp only [Option.map_eq_some_iff] at h
        obtain ⟨x, h1, e⟩ := h
        cases e
        exact si_plain (sc_of (ih.e g tk h1))
    · simp only [Option.map_eq_some_iff] at h
      obtain ⟨x, h1, e⟩ := h
      cases e
      exact si_plain (sc_of (ih.e g tk h1))
  · intro c X Φ lo W elt tg it ifs scope ce g tk h
    unfold compLc at h
    split at h
    · rename_i hc
      rw [Bool.and_eq_true] at hc
      split at h
      · rename_i k as t cs e h1 h2 h3 h4
        split at h
        · rename_i hs
          simp only [Bool.and_eq_true, decide_eq_true_eq] at hs
          cases h
          have bo : BlkOk X.N X.env.scope scope (ownOf c.N (tgNames 5 tg)) := by
            rw [g.N, g.sc]
            exact blkOk_by hc.2
          refine ⟨hc.1, ownOf c.N (tgNames 5 tg), t, k, as, cs, e, rfl, hs.1.symm, bo, ih.it g tk h1, fun s H C cl fp => ?_, fun s H C cl fp => ?_, fun s H C cl fp => ?_⟩
          · exact (tg_ok (g.blk scope bo.kind s H C cl fp) h2).1
          · have gb := g.blk scope bo.kind s H C cl fp
            match ifs, hs.2, h3 with
            | [], _, h3 =>
              cases h3
              refine ⟨fun pins s' σ H' Q I ⟨L, x, ρ, gg, w⟩ => ?_⟩
              refine pts_nil.run pins s' σ H' Q I ?_
              have q : (fun (y : Sta) (b : Bool) => Q b y.H) x true := Wp.ok (show Wp X.K L WF σ x (.ok true x.S) (fun y b => Q b y.H) from w) gg.rs
              show Q true H'
              rw [← gg.h]
              exact q
            | [i1], _, h3 =>
              unfold mapO mapO at h3
              split at h3
              · rename_i b bs e1 e2
                cases e2
                cases h3
                refine ⟨fun pins s' σ H' Q I ⟨L, x, ρ, gg, w⟩ => ?_⟩
                rw [evT_one] at w
                exact (pts_one (ih.t gb takesF e1)).run pins s' σ H' Q I ⟨x, ρ, gg, w⟩
              · cases h3
          · have gb := g.blk scope bo.kind s H C cl fp
            refine ⟨fun pins s' σ H' Q I ⟨L, q⟩ => ?_⟩
            exact (sc_of (ih.e gb takesF h4)).run pins s' σ H' Q I q
        · cases h
      · cases h
    · cases h
theorem okE : ∀ n, OkE n
  | 0 => ok0
  | n + 1 => step (okE n)
end
end Mi
/-! M15: statements, the whole program. -/
namespace Mi
open PySem PySem.Spec L2
theorem notComp_none {e : Expr} (h : notComp e = true) (l : Nat) (t : Option Expr) (env : Env) : swapsWith e t l env = pure false := by
  cases e <;> first | rfl | cases h
theorem notComp_sole {e tg : Expr} (h : notComp e = true) (l : Nat) (env : Env) : swapsWithSole [tg] e l env = pure false := notComp_none h l (some tg) env
theorem noswap {tg e : Expr} (h : isTuple tg = false ∨ isTuple e = false) (env : Env) : swappedStores [tg] e env = pure none := by
  rcases h with h | h
  · cases tg <;> first | rfl | (cases h; done)
  · cases tg <;> first | rfl | (cases e <;> first | rfl | (cases h; done))
section
variable {c : Ct} {X : Cx} {Φ : FT} {lo : Lim} {W : WX}
theorem cell_noswap {elt : Expr} {gs : List Comprehension} {scope : Scope} {p py : Pos} {y : Str} {l : Nat} {env : Env} (h : env.scope.names.lookup y = some .cell) : swapsWith (.ListComp elt gs scope p) (some (.Name y py)) l env = pure false := by
  have ky : env.kindOf y = some .cell := h
  unfold swapsWith
  simp only [ky]
  have e : (some NameKind.cell == some NameKind.local) = false := by decide
  simp only [e, Bool.and_false, Bool.false_and]
theorem compA_ok (g : Gd c X Φ) (tk : Takes X W) : ∀ {n : Nat} {e : Expr} {ae : AE}, compA n c e = some ae → SAE X Φ lo W e ae
  | 0, _, _, h => by unfold compA at h; cases h
  | n + 1, e, ae, h => by
    unfold compA at h
    split at h
    · split at h
      · rename_i es p hs
        simp only [Option.map_eq_some_iff] at h
        obtain ⟨as, h1, rfl⟩ := h
        have all : ∀ {es : List Expr} {as : List AE}, mapO (compA n c) es = some as → es.all notStar = true → SAs X Φ lo W es as := by
          intro es
          induction es with
          | nil => intro as h _; cases h; exact aes_nil
          | cons e es ih =>
            intro as h hs
            unfold mapO at h
            rw [List.all_cons, Bool.and_eq_true] at hs
            split at h
            · rename_i b bs e1 e2
              cases h
              exact aes_cons hs.1 (compA_ok g tk e1) (ih e2 hs.2)
            · cases h
        exact ae_lst (all h1 hs)
      · cases h
    · split at h
      · simp only [Option.map_eq_some_iff] at h
        obtain ⟨x, h1, rfl⟩ := h
        exact ae_own ((okE n).e g tk h1)
      · simp only [Option.map_eq_some_iff] at h
        obtain ⟨x, h1, rfl⟩ := h
        exact ae_e (sc_of ((okE n).e g tk h1))
end
structure OkS (n : Nat) : Prop where
  s : ∀ {c : Ct} {X : Cx} {Φ : FT} {lo : Lim} {W : WX} {st : Stmt} {cs : CS}, Gd c X Φ → Takes X W → PassesOwn (model X.prog X.w) X.A X.env X.xe → compS n c st = some cs → SS X Φ lo W st cs
  ss : ∀ {c : Ct} {X : Cx} {Φ : FT} {lo : Lim} {W : WX} {st : List Stmt} {cs : List CS}, Gd c X Φ → Takes X W → PassesOwn (model X.prog X.w) X.A X.env X.xe → compSs n c st = some cs → SSs X Φ lo W st cs
theorem tg_at {c : Ct} {y : Str} {py : Pos} {i : Nat} (h : compTg c 5 (.Name y py) = some (.slot i)) : c.N[i]? = some y := by
  replace h : (if decide (c.sc.names.lookup y = some .local) || (decide (c.sc.names.lookup y = some .cell) && !c.blk) then (c.N.findIdx? (fun z => decide (z = y))).map Tg.slot else none) = some (.slot i) := h
  split at h
  · simp only [Option.map_eq_some_iff] at h
    obtain ⟨j, hj, e⟩ := h
    cases e
    exact findIdx_at hj
  · cases h
theorem lcOf_eq {v : Expr} {q : LcParts} (h : lcOf v = some q) : v = .ListComp q.elt [⟨q.tg, q.it, q.ifs, 0⟩] q.scope q.p := by
  unfold lcOf at h
  split at h
  · cases h; rfl
  · cases h
theorem set_ok {n : Nat} {c : Ct} {X : Cx} {Φ : FT} {lo : Lim} {W : WX} {i : Nat} {y : Str} {py pos : Pos} {v : Expr} {cs : CS} (g : Gd c X Φ) (tk : Takes X W) (hy : c.N[i]? = some y) (ht : compTg c 5 (.Name y py) = some (.slot i)) (h : ((lcOf v).bind fun q => compSet n c i y py q) = some cs) : SS X Φ lo W (.Assign [.Name y py] v pos) cs := by
  simp only [Option.bind_eq_some_iff] at h
  obtain ⟨⟨elt, tg, it, ifs, scope, p⟩, hq, h⟩ := h
  rw [lcOf_eq hq]
  unfold compSet at h
  split at h
  · rename_i hc
    simp only [Option.map_eq_some_iff] at h
    obtain ⟨ce, hl, rfl⟩ := h
    rw [Bool.or_eq_true] at hc
    rcases hc with hc | hc
    · simp only [Bool.and_eq_true, decide_eq_true_eq, Bool.not_eq_true'] at hc
      obtain ⟨⟨h1, h2⟩, h3⟩ := hc
      obtain ⟨hs, own, t, k, as, cs, e, rfl, ho, bo, hi, hg, htt, he⟩ := (okE n).lc (lo := lo) (W := W) g tk hl
      have hN : X.N.Nodup := by rw [g.N]; exact g.nd
      refine PS.imp (ps_setLc (i := i) g.calm hN (by rw [g.N]; exact hy) (by rw [g.sc]; exact h1) (sw_true (by rw [g.sc]; exact g.kind) (by rw [g.sc]; exact h1) h2 h3) hi bo hg htt he fun v => notSet_ok hs X.env v) fun D σ H q => ?_
      exact asg_comp (fun Q q => s_comp g.calm hN hi bo ho hg htt he σ H Q q) q
    · have hc := of_decide_eq_true hc
      have hse := s_lc (okE n) (lo := lo) (W := W) (pos := p) g tk hl
      refine PS.imp (ps_asg (sc_of hse) (tg_ok g ht).1 (show swapsWith _ _ pos.line _ = _ from cell_noswap (l := pos.line) (by rw [g.sc]; exact hc)) (noswap (.inl rfl) _) rfl) fun D σ H ⟨x, ρ, gg, w⟩ =>
        ⟨x, ρ, gg, Wp.mono (WS.st gg.re w) fun y c s ry w1 v rv => asg_fin ry (gg.re.stp s) rv w1⟩
  · cases h
theorem okS : ∀ n, OkS n
  | 0 => by
    refine ⟨?_, ?_⟩
    · intro c X Φ lo W st cs g tk po h; unfold compS at h; cases h
    · intro c X Φ lo W st cs g tk po h; unfold compSs at h; cases h
  | n + 1 => by
    have ih := okS n
    refine ⟨?_, ?_⟩
    · intro c X Φ lo W st cs g tk po h
      unfold compS at h
      split at h
      · split at h
        · rename_i hc
          simp only [Option.map_eq_some_iff] at h
          obtain ⟨x, h1, rfl⟩ := h
          exact ss_expr (fun env => notComp_none hc _ none env) (sc_of ((okE n).e g tk h1))
        · cases h
      · simp only [Option.map_eq_some_iff] at h
        obtain ⟨x, h1, rfl⟩ := h
        exact ss_ret (sc_of ((okE n).e g tk h1))
      · cases h; exact ss_retN
      · cases h; exact ss_pass
      · cases h; exact ss_brk
      · cases h; exact ss_cnt
      · split at h
        · rename_i x y z h1 h2 h3
          cases h
          exact ss_if ((okE n).t g tk h1) (ih.ss g tk po h2) (ih.ss g tk po h3)
        · cases h
      · split at h
        · rename_i hs
          split at h
          · rename_i k as t b h1 h2 h3
            cases h
            exact ss_for po g.calm ((okE n).it g tk h1) (tg_ok g h2).1 (ih.ss g tk po h3) fun v => notSet_ok hs X.env v
          · cases h
        · cases h
      · split at h
        · rename_i i hi
          split at h
          · split at h
            · rename_i hc
              simp only [Option.map_eq_some_iff] at h
              obtain ⟨x, h1, rfl⟩ := h
              exact ss_own (fun env => notComp_sole hc _ env) (fun env => noswap (.inl rfl) env) rfl (compA_ok g tk h1) (tg_ok g hi).1
            · cases h
          · split at h
            · rename_i hc
              simp only [Option.map_eq_some_iff] at h
              obtain ⟨x, h1, rfl⟩ := h
              exact ss_asg (fun env => notComp_sole hc _ env) (fun env => noswap (.inl rfl) env) rfl (sc_of ((okE n).e g tk h1)) (tg_ok g hi).1
            · exact set_ok g tk (tg_at hi) hi h
        · cases h
      · split at h
        · rename_i hc
          rw [Bool.and_eq_true] at hc
          split at h
          · rename_i x y z h1 h2 h3
            cases h
            exact ss_setIx (fun env => notComp_sole hc.2 _ env) (fun env => noswap (.inl rfl) env) hc.1 (sc_of ((okE n).e g tk h1)) (sc_of ((okE n).e g tk h2)) (sc_of ((okE n).e g tk h3))
          · cases h
        · cases h
      · split at h
        · rename_i hc
          rw [Bool.and_eq_true] at hc
          split at h
          · rename_i x t h1 h2
            cases h
            exact ss_asg (fun env => notComp_sole hc.1 _ env) (fun env => noswap (.inr (by simpa using hc.2)) env) rfl (sc_of ((okE n).e g tk h1)) (tg_ok g h2).1
          · cases h
        · cases h
      · cases h
    · intro c X Φ lo W st cs g tk po h
      unfold compSs at h
      have all : ∀ {st : List Stmt} {cs : List CS}, mapO (compS n c) st = some cs → SSs X Φ lo W st cs := by
        intro st
        induction st with
        | nil => intro cs h; cases h; exact ss_nil
        | cons s st ih2 =>
          intro cs h
          unfold mapO at h
          split at h
          · rename_i b bs e1 e2
            cases h
            exact ss_cons (ih.s g tk po e1) (ih2 e2)
          · cases h
      exact all h
end Mi
/-! M16: the whole program: every def does what the evaluator says; the end of a law. -/
namespace Mi
open PySem PySem.Spec L2
/-- a def of the program -/
structure DefI where
  name : Str
  N : List Str
  ps : List Str
  params : Arguments
  body : List Stmt
  scope : Scope
  mu : List Str
  core : List CS
structure Prog where
  ds : List DefI
  con : List (Str × D)
  blt : List Str
def Prog.ct (p : Prog) (d : DefI) : Ct := ⟨d.N, d.scope, false, p.ds.map fun d => (d.name, d.ps.length), p.con, p.blt, d.mu⟩
def Prog.T (p : Prog) : List Fd := p.ds.map fun d => ⟨d.ps.length, d.N.length, d.core⟩
structure DefI.Ok (p : Prog) (d : DefI) : Prop where
  scope : FnScope d.N d.ps d.scope
  comp : ∃ n, compSs n (p.ct d) d.body = some d.core
/-- what the head tells -/
structure Facts (p : Prog) (K : Kf) (mg : Str → Option Value) : Prop where
  fn : ∀ (i : Nat) d, p.ds[i]? = some d → ∃ fd, FunD K d.name d.name d.params d.body d.scope [] [] (He.ga K d.name) fd ∧ mg d.name = some (.ref (He.ga K d.name)) ∧ Binds K fd d.ps []
  con : ∀ x d, p.con.lookup x = some d → ∃ v u, mg x = some u ∧ RelV v u ∧ ∀ F, Rp K F (.one d v)
  blt : ∀ x, p.blt.contains x = true → mg x = none
theorem callF_succ {T : List Fd} {k f : Nat} {fd : Fd} (h : T[f]? = some fd) : callF T (k + 1) f = fun lo cs S => runF (callF T k) fd lo.ro cs S := by
  funext lo cs S
  show (match T[f]? with | some fd => runF (callF T k) fd lo.ro cs S | none => .bad) = _
  rw [h]
theorem prog_sound {p : Prog} {P : Program} {w : World} {K : Kf} {mg : Str → Option Value} {base : Heap} (hd : ∀ d ∈ p.ds, d.Ok p) (F : Facts p K mg) :
    ∀ (k i : Nat) d, p.ds[i]? = some d → ∃ fd, FnOk P w K mg base (L2.CX P w) k (He.ga K d.name) fd d.ps (FnSp K d.ps.length (callF p.T k i)) ∧ PySem.W.keepIn K (.ref (He.ga K d.name)) = true ∧ Binds K fd d.ps [] ∧ FunD K d.name d.name d.params d.body d.scope [] [] (He.ga K d.name) fd := by
  intro k
  induction k with
  | zero =>
    intro i d h
    obtain ⟨fd, h1, h2, h3⟩ := F.fn i d h
    refine ⟨fd, ⟨fun vs H Q E ⟨_, _, _, _, _, _, _, _, _, w⟩ => w.elim, fun A outer s H args us vs Q E _ _ _ _ ⟨_, _, _, _, _, _, _, _, _, w⟩ => w.elim⟩, h1.kp, h3, h1⟩
  | succ k ih =>
    intro i d h
    obtain ⟨fd, h1, h2, h3⟩ := F.fn i d h
    refine ⟨fd, ?_, h1.kp, h3, h1⟩
    have hT : p.T[i]? = some ⟨d.ps.length, d.N.length, d.core⟩ := by
      unfold Prog.T
      rw [List.getElem?_map, h]
      rfl
    rw [callF_succ hT]
    obtain ⟨hs, n, hc⟩ := hd d (List.mem_of_getElem? h)
    refine fn_sound (fd0 := ⟨d.ps.length, d.N.length, d.core⟩) h1 hs rfl rfl fun X lo W e1 e2 e3 e4 e5 e6 e7 e8 e9 hr tk po => ?_
    subst e1 e2 e3 e4 e5
    refine (okS n).ss (c := p.ct d) ⟨e6, hs.nd, e7, hs.kind, e8, fun _ => e9, by have := hr.un; omega, F.con, F.blt, fun f x np hf => ?_⟩ tk po hc
    have hf2 : (p.ds.map fun d => (d.name, d.ps.length))[f]? = some (x, np) := hf
    rw [List.getElem?_map] at hf2
    cases hq : p.ds[f]? with
    | none => rw [hq] at hf2; cases hf2
    | some d2 =>
      rw [hq] at hf2
      obtain ⟨rfl, rfl⟩ := Prod.mk.inj (Option.some.inj hf2)
      obtain ⟨fd2, g1, g2, g3, _⟩ := ih f d2 hq
      obtain ⟨_, _, g4, _⟩ := F.fn f d2 hq
      exact ⟨k, He.ga X.K d2.name, fd2, d2.ps, g1, hr, g4, g2, g3⟩
/-- a scope as a def's, by a look -/
def scopeB (N ps : List Str) (sc : Scope) : Bool :=
  decide (sc.kind = .function) && !sc.isCoroutine && !sc.isGenerator && decide N.Nodup && decide (N.take ps.length = ps) && (ps.all fun x => decide (sc.names.lookup x = some .local) || decide (sc.names.lookup x = some .cell)) && (sc.names.all fun y => decide (y.2 ≠ .free))
theorem scopeB_ok {N ps : List Str} {sc : Scope} (h : scopeB N ps sc = true) : FnScope N ps sc := by
  unfold scopeB at h
  simp only [Bool.and_eq_true, decide_eq_true_eq, Bool.not_eq_true', List.all_eq_true, Bool.or_eq_true] at h
  obtain ⟨⟨⟨⟨⟨⟨h1, h2⟩, h3⟩, h4⟩, h5⟩, h6⟩, h7⟩ := h
  exact ⟨h1, h2, h3, h4, h5, fun x hx => h6 x hx, h7⟩
/-- THE LAW: the evaluator says True -/
def LawTrue (p : Prog) (k i : Nat) (ns : List Int) : Prop := ∀ (lo : Lim), lo.lo = 0 → lo.ro = 0 → ∃ S', callF p.T k i lo [.d (.lst (ns.map D.int))] [] = .ok (.d (.bl true)) S'
theorem rp_ints {K : Kf} {F : Hp} : ∀ ns : List Int, Rp K F (.all (ns.map D.int) (ns.map V.int))
  | [] => .nil
  | n :: ns => .cons (.int n) (rp_ints ns)
theorem law_sp {p : Prog} {K : Kf} {k i : Nat} {H : Hp} {a : Addr} {ns : List Int} (hS : SqL K H a (ns.map V.int)) (h : LawTrue p k i ns) : FnSp K 1 (callF p.T k i) [.ref a] H (fun v _ => v = .bl true) fun _ _ _ => False := by
  obtain ⟨S', e⟩ := h ⟨0, 0⟩ rfl rfl
  refine ⟨⟨0, 0⟩, ⟨H, [], [], H⟩, [.d (.lst (ns.map D.int))], rfl, ⟨Le.refl _, rfl, List.nodup_nil, fun n a o e => by simp at e, fun n o e => by simp at e, fun a h => nomatch h⟩, Nat.le_refl _, Nat.le_refl _, .cons (.d (.lst hS (rp_ints ns))) .nil, rfl, ?_⟩
  show Wp K ⟨0, 0⟩ _ [] _ (callF p.T k i ⟨0, 0⟩ [.d (.lst (ns.map D.int))] []) _
  rw [e]
  intro F' io' H' s r v rv
  exact rc_bl rv
end Mi
/-! M19: the head's facts, for a whole program. -/
namespace Mi
open PySem PySem.Spec L2
def Prog.fn (p : Prog) : List He.DefD := p.ds.map fun d => ⟨(d.name, none), d.name, d.name, d.params, d.body, d.scope, [], []⟩
def conFa : Str × D → He.Fa
  | (x, .str z) => .str x z
  | (x, .int i) => .int x i
  | (x, _) => .glo x
def conOk : D → Bool
  | .str _ => true
  | .int _ => true
  | _ => false
def Prog.fa (p : Prog) : List He.Fa := (p.ds.map fun d => He.Fa.glo d.name) ++ (p.con.map conFa ++ p.blt.map He.Fa.free)
def BdOk (d : DefI) : Prop := ∀ (kV doc pm : Value) (an : Option Addr) (cdv ct : Value) (us : List Value), us.length = d.ps.length →
  bindArgs (PySem.W.fnOf d.name d.name d.params d.body d.scope .none kV doc pm an cdv ct) ⟨us, []⟩ = pure (d.ps.zip us)
theorem fact_mem {fa : List He.Fa} {fn : List He.DefD} {K : Kf} (c : He.SaysD fa fn K) {f : He.Fa} (h : f ∈ fa) : f.ok K = true := by
  obtain ⟨i, hi⟩ := List.mem_iff_getElem?.mp h
  exact c.fact i hi
theorem lookup_mem {β : Type} {x : Str} {d : β} : ∀ {l : List (Str × β)}, l.lookup x = some d → (x, d) ∈ l
  | [], h => by cases h
  | (y, e) :: r, h => by
    rw [List.lookup_cons] at h
    split at h
    · rename_i q
      cases h
      rw [eq_of_beq q]
      exact List.mem_cons_self
    · exact List.mem_cons_of_mem _ (lookup_mem h)
structure Prog.Good (p : Prog) : Prop where
  ok : ∀ d ∈ p.ds, d.Ok p
  bd : ∀ d ∈ p.ds, BdOk d
  con : (p.con.all fun q => conOk q.2) = true
theorem facts_of {p : Prog} (g : p.Good) {K : Kf} {h : Heap} {mg : Str → Option Value} (X : K.In h) (G : h.Ns mainGlobals mg) (c : He.SaysD p.fa p.fn K) : Facts p K mg where
  fn := fun i d hi => by
    have hm : d ∈ p.ds := List.mem_of_getElem? hi
    have hf : p.fn[i]? = some ⟨(d.name, none), d.name, d.name, d.params, d.body, d.scope, [], []⟩ := by
      unfold Prog.fn
      rw [List.getElem?_map, hi]
      rfl
    obtain ⟨fd, F⟩ := c.def_ i hf
    exact ⟨fd, F, He.glo_ok X G (fact_mem c (List.mem_append_left _ (List.mem_map.mpr ⟨d, hm, rfl⟩))), FunD.bindsN (ps := d.ps) F (g.bd d hm)⟩
  con := fun x d hx => by
    have hm := lookup_mem hx
    have hk := List.all_eq_true.mp g.con _ hm
    have hf := fact_mem c (f := conFa (x, d)) (List.mem_append_right _ (List.mem_append_left _ (List.mem_map.mpr ⟨_, hm, rfl⟩)))
    cases d with
    | str z =>
      obtain ⟨t, e⟩ := He.str_ok X G hf
      exact ⟨.str z, _, e, ⟨t, rfl⟩, fun F => .str z⟩
    | int z =>
      obtain ⟨t, e⟩ := He.int_ok X G hf
      exact ⟨.int z, _, e, ⟨t, rfl⟩, fun F => .int z⟩
    | _ => cases hk
  blt := fun x hx => He.free_ok X G (fact_mem c (List.mem_append_right _ (List.mem_append_right _ (List.mem_map.mpr ⟨x, by simpa using hx, rfl⟩))))
theorem law_facts {p : Prog} (g : p.Good) {P : Program} {w : World} {K : Kf} {h : Heap} {mg : Str → Option Value} {f : Addr} {i k n : Nat} {d : DefI} {x : Str} (hi : p.ds[i]? = some d) (hn : d.name = "law") (hx : d.ps = [x])
    (T : ∀ ns : List Int, ns.length ≤ n → (∀ z ∈ ns, Builtin.Int.intBits z ≤ 1048576) → LawTrue p k i ns) (X : K.In h) (G : h.Ns mainGlobals mg) (hf : mg ("law" : Str) = some (.ref f)) (c : He.SaysD p.fa p.fn K) :
    ∃ (fd : FuncData) (sp : Sp), (∀ (s : Shared) (u : Value), BindsTo s fd ⟨[u], []⟩ [(x, u)]) ∧
      (∀ (H : Hp) (a : Addr) (ns : List Int), ns.length ≤ n → (∀ z ∈ ns, Builtin.Int.intBits z ≤ 1048576) → Only H → SqL K H a (ns.map V.int) → sp [.ref a] H (fun v _ => v = .bl true) fun _ _ _ => False) ∧
      ∀ base : Heap, K.In base → base.Ns mainGlobals mg → FnOk P w K mg base (L2.CX P w) k f fd [x] sp := by
  have F := facts_of g X G c
  have hm : d ∈ p.ds := List.mem_of_getElem? hi
  obtain ⟨fd, F1, F2, _⟩ := F.fn i d hi
  rw [hn] at F2
  have e := hf.symm.trans F2
  cases e
  have b : ∀ (s : Shared) (us : List Value), us.length = d.ps.length → BindsTo s fd ⟨us, []⟩ (d.ps.zip us) := FunD.bindsA (ps := d.ps) F1 (g.bd d hm)
  refine ⟨fd, FnSp K d.ps.length (callF p.T k i), fun s u => ?_, fun H a ns hl hz _ hS => ?_, fun base hb hg => ?_⟩
  · have := b s [u] (by rw [hx]; rfl)
    rw [hx] at this
    exact this
  · have := law_sp hS (T ns hl hz)
    rw [hx]
    exact this
  · obtain ⟨fd', q, _, _, F3⟩ := prog_sound (P := P) (w := w) (base := base) g.ok F k i d hi
    have ef : fd' = fd := by
      obtain ⟨_, _, _, _, _, _, _, _, _, _, _, l1, _⟩ := F1.ex
      obtain ⟨_, _, _, _, _, _, _, _, _, _, _, l2, _⟩ := F3.ex
      rw [l1] at l2
      injection l2 with l2
      injection l2 with _ _ l2 _
      injection l2 with l2
      exact l2.symm
    rw [ef, hx, hn] at q
    rw [hx]
    exact q
/-- the end, where what a def may let out hangs on the world -/
theorem walk_mi {l : PySem.W.OpenLaw} {n k : Nat} {q : Program} {loose : List Str} {XP : (Str → Option Value) → Heap → Prop} {YP : World → Heap → Prop} {d : DefRec} {x : Str}
    (hn : l.most = some n) (hn2 : n ≤ sizeLine) (hdf : d.params.defaults = []) (hr : Room k callerA)
    (F : ∀ (w : World) (mg : Str → Option Value) (f : Addr) (h : Heap), YP w h → h.Ns mainGlobals mg → mg d.name = some (.ref f) → ∃ (K : Kf), K.In h ∧ ∃ (fd : FuncData) (sp : Sp),
      (∀ (s : Shared) (u : Value), BindsTo s fd ⟨[u], []⟩ [(x, u)]) ∧
      (∀ (H : Hp) (a : Addr) (ns : List Int), ns.length ≤ n → (∀ z ∈ ns, Builtin.Int.intBits z ≤ 1048576) → Only H → SqL K H a (ns.map V.int) → sp [.ref a] H (fun v _ => v = .bl true) fun _ _ _ => False) ∧
      ∀ base : Heap, K.In base → base.Ns mainGlobals mg → FnOk l.prog w K mg base (L2.CX l.prog w) k f fd [x] sp) :
    PySem.W.WalkO q loose XP YP l.row.toRowW d [] (fun f vs => PySem.call f vs) := by
  refine Att.attach_callB hn hdf fun w s₀ s₁ mg mb f o pm cd doc a vs ns G Y ho hd hcd hmg hobj hints hlen hbits hg => ?_
  obtain ⟨K, KX, fd, sp, hb, hsp, hF⟩ := F w mg f _ Y G.T.g hmg
  exact law_call KX G.T.g G.T.b G.T.builtins G.T.nolimit hg hobj hints (Nat.le_trans hlen hn2) hr hF hb (fun H hO hS => hsp H a ns hlen hbits hO hS) fun H e s' ⟨_, _, _, _, _, _, _, _, _, _, _, _, z⟩ => z
end Mi
/-! P0: == of plain data is equality. -/
namespace Mi
open PySem PySem.Spec L2
mutual
/-- data of None, ints, texts, tuples, lists -/
def Pl : D → Bool
  | .non | .int _ => true
  | .str x => PyData.strOk x
  | .tup ds | .lst ds => Pls ds
  | _ => false
def Pls : List D → Bool
  | [] => true
  | x :: r => Pl x && Pls r
end
mutual
def dep : D → Nat
  | .tup ds | .lst ds => deps ds + 1
  | _ => 0
def deps : List D → Nat
  | [] => 0
  | x :: r => max (dep x) (deps r)
end
mutual
theorem toP_pl : ∀ {a : D}, Pl a = true → ∃ p, toP a = some p ∧ p.canLay0 = true ∧ p.depth = dep a
  | .non, _ => ⟨_, rfl, rfl, rfl⟩
  | .int i, _ => ⟨_, rfl, rfl, rfl⟩
  | .str x, h => ⟨_, rfl, h, rfl⟩
  | .tup ds, h => by
    obtain ⟨ps, e, c, d⟩ := toPs_pl (show Pls ds = true from h)
    exact ⟨.tuple ps, by simp [toP, e], by simpa [PyData.canLay0] using c, by simp [PyData.depth, dep, d]⟩
  | .lst ds, h => by
    obtain ⟨ps, e, c, d⟩ := toPs_pl (show Pls ds = true from h)
    exact ⟨.list ps, by simp [toP, e], by simpa [PyData.canLay0] using c, by simp [PyData.depth, dep, d]⟩
  | .bl _, h => by cases h
  | .dct _, h => by cases h
  | .ins _ _, h => by cases h
  | .fn _, h => by cases h
  | .ty _, h => by cases h
theorem toPs_pl : ∀ {ds : List D}, Pls ds = true → ∃ ps, toPs ds = some ps ∧ PyData.canLayAll0 ps = true ∧ PyData.depthAll ps = deps ds
  | [], _ => ⟨[], rfl, rfl, rfl⟩
  | x :: r, h => by
    have h2 : Pl x = true ∧ Pls r = true := by simpa [Pls] using h
    obtain ⟨p, e, c, d⟩ := toP_pl h2.1
    obtain ⟨ps, e', c', d'⟩ := toPs_pl h2.2
    exact ⟨p :: ps, by simp [toPs, e, e'], by simp [PyData.canLayAll0, c, c'], by simp [PyData.depthAll, deps, d, d']⟩
end
mutual
theorem eqv_pl : ∀ {a b : D} {p q : PyData}, Pl a = true → Pl b = true → toP a = some p → toP b = some q → (PyData.eqv p q = true ↔ a = b)
  | .non, b, p, q, _, hb, ha, he => by
    cases ha
    cases b <;> simp [Pl] at hb <;> simp [toP] at he
    all_goals first | (subst he; simp [PyData.eqv]) | (obtain ⟨_, _, rfl⟩ := he; simp [PyData.eqv])
  | .int i, b, p, q, _, hb, ha, he => by
    cases ha
    cases b <;> simp [Pl] at hb <;> simp [toP] at he
    all_goals first | (subst he; simp [PyData.eqv]) | (obtain ⟨_, _, rfl⟩ := he; simp [PyData.eqv])
  | .str i, b, p, q, _, hb, ha, he => by
    cases ha
    cases b <;> simp [Pl] at hb <;> simp [toP] at he
    all_goals first | (subst he; simp [PyData.eqv]) | (obtain ⟨_, _, rfl⟩ := he; simp [PyData.eqv])
  | .tup ds, b, p, q, h, hb, ha, he => by
    simp [toP] at ha
    obtain ⟨ps, e1, rfl⟩ := ha
    cases b <;> simp [Pl] at hb <;> simp [toP] at he
    case tup es =>
      obtain ⟨qs, e2, rfl⟩ := he
      have := eqvs_pl (show Pls ds = true from h) hb e1 e2
      simpa [PyData.eqv] using this
    all_goals first | (subst he; simp [PyData.eqv]) | (obtain ⟨_, _, rfl⟩ := he; simp [PyData.eqv])
  | .lst ds, b, p, q, h, hb, ha, he => by
    simp [toP] at ha
    obtain ⟨ps, e1, rfl⟩ := ha
    cases b <;> simp [Pl] at hb <;> simp [toP] at he
    case lst es =>
      obtain ⟨qs, e2, rfl⟩ := he
      have := eqvs_pl (show Pls ds = true from h) hb e1 e2
      simpa [PyData.eqv] using this
    all_goals first | (subst he; simp [PyData.eqv]) | (obtain ⟨_, _, rfl⟩ := he; simp [PyData.eqv])
  | .bl _, _, _, _, h, _, _, _ => by cases h
  | .dct _, _, _, _, h, _, _, _ => by cases h
  | .ins _ _, _, _, _, h, _, _, _ => by cases h
  | .fn _, _, _, _, h, _, _, _ => by cases h
  | .ty _, _, _, _, h, _, _, _ => by cases h
theorem eqvs_pl : ∀ {as bs : List D} {ps qs : List PyData}, Pls as = true → Pls bs = true → toPs as = some ps → toPs bs = some qs → (PyData.eqvAll ps qs = true ↔ as = bs)
  | [], [], ps, qs, _, _, ha, hb => by cases ha; cases hb; simp [PyData.eqvAll]
  | [], b :: bs, ps, qs, _, h, ha, hb => by
    cases ha
    have h2 : Pl b = true ∧ Pls bs = true := by simpa [Pls] using h
    obtain ⟨p, e, _⟩ := toP_pl h2.1
    obtain ⟨r, e', _⟩ := toPs_pl h2.2
    simp [toPs, e, e'] at hb
    subst hb
    simp [PyData.eqvAll]
  | a :: as, [], ps, qs, h, _, ha, hb => by
    cases hb
    have h2 : Pl a = true ∧ Pls as = true := by simpa [Pls] using h
    obtain ⟨p, e, _⟩ := toP_pl h2.1
    obtain ⟨r, e', _⟩ := toPs_pl h2.2
    simp [toPs, e, e'] at ha
    subst ha
    simp [PyData.eqvAll]
  | a :: as, b :: bs, ps, qs, h, k, ha, hb => by
    have h2 : Pl a = true ∧ Pls as = true := by simpa [Pls] using h
    have k2 : Pl b = true ∧ Pls bs = true := by simpa [Pls] using k
    obtain ⟨p, e, _⟩ := toP_pl h2.1
    obtain ⟨r, e', _⟩ := toPs_pl h2.2
    obtain ⟨p2, f, _⟩ := toP_pl k2.1
    obtain ⟨r2, f', _⟩ := toPs_pl k2.2
    simp [toPs, e, e'] at ha
    simp [toPs, f, f'] at hb
    subst ha hb
    have i1 := eqv_pl h2.1 k2.1 e f
    have i2 := eqvs_pl h2.2 k2.2 e' f'
    simp [PyData.eqvAll, i1, i2]
end
/-- equality, as a truth value -/
noncomputable def eqB (a b : D) : Bool := @decide (a = b) (Classical.propDecidable _)
theorem eqB_iff {a b : D} : eqB a b = true ↔ a = b := by unfold eqB; exact @decide_eq_true_iff _ (Classical.propDecidable _)
@[simp] theorem eqB_self (a : D) : eqB a a = true := eqB_iff.mpr rfl
theorem eqB_ne {a b : D} (h : a ≠ b) : eqB a b = false := by
  cases e : eqB a b with
  | false => rfl
  | true => exact absurd (eqB_iff.mp e) h
theorem eqD_pl {a b : D} (ha : Pl a = true) (hb : Pl b = true) (da : dep a ≤ 64) (db : dep b ≤ 64) : eqD a b = some (eqB a b) := by
  have gen : (match toP a, toP b with | some p, some q => if SeqAt.shaped p && SeqAt.shaped q then some (PyData.eqv p q) else none | _, _ => none) = some (eqB a b) := by
    obtain ⟨p, e, c, d⟩ := toP_pl ha
    obtain ⟨q, e', c', d'⟩ := toP_pl hb
    rw [e, e']
    have s1 : SeqAt.shaped p = true := by unfold SeqAt.shaped; rw [c, d]; simpa using da
    have s2 : SeqAt.shaped q = true := by unfold SeqAt.shaped; rw [c', d']; simpa using db
    simp only [s1, s2, Bool.and_self, if_true]
    congr 1
    rw [Bool.eq_iff_iff, eqB_iff]
    exact eqv_pl ha hb e e'
  unfold eqD
  split
  · congr 1; rw [Bool.eq_iff_iff, eqB_iff]; simp
  · congr 1; rw [Bool.eq_iff_iff, eqB_iff]; simp
  · congr 1; rw [Bool.eq_iff_iff, eqB_iff]; simp
  · exact gen
end Mi
/-! PS: the evaluator, step by step: each rule fires on a known constructor alone. -/
namespace Mi
open PySem PySem.Spec L2
section
variable {α : Type} {Φ : FT} {lo : Lim} {ρ : Rho} {S : Stg}
/-! ### small helps -/
def getV : Option (Option Cell) → Stg → Res PV
  | some (some c), S => .ok (.v c) S
  | _, _ => .bad
@[simp] theorem getV_some (c : Cell) : getV (some (some c)) S = .ok (.v c) S := rfl
def tIte (o : Option Bool) (x y : Res α) : Res α := match o with
  | some true => x
  | some false => y
  | none => .bad
@[simp] theorem tIte_true (x y : Res α) : tIte (some true) x y = x := rfl
@[simp] theorem tIte_false (x y : Res α) : tIte (some false) x y = y := rfl
theorem tIte_some (b : Bool) (x y : Res α) : tIte (some b) x y = if b = true then x else y := by cases b <;> rfl
def getC : Option Cell → Stg → Res PV
  | some c, S => .ok (.v c) S
  | none, _ => .bad
@[simp] theorem getC_some (c : Cell) : getC (some c) S = .ok (.v c) S := rfl
def getI : Option (List Cell) → Int → Stg → Res PV
  | some cs, k, S => getC (atI cs k) S
  | none, _, _ => .bad
@[simp] theorem getI_some (cs : List Cell) (k : Int) : getI (some cs) k S = getC (atI cs k) S := rfl
@[simp] theorem viewO_lst (cs : List Cell) : viewO (some (.lst cs)) = some cs := rfl
@[simp] theorem viewO_frz (ds : List D) : viewO (some (.frz (.lst ds))) = some (ds.map .d) := rfl
@[simp] theorem freeze_v (c : Cell) : freeze S (.v c) = .ok c S := rfl
@[simp] theorem freeze_nil : freeze S (.l []) = .ok (.d (.lst [])) S := rfl
@[simp] theorem allD_nil : allD [] = some [] := rfl
@[simp] theorem allD_d (x : D) (r : List Cell) : allD (.d x :: r) = (allD r).map (x :: ·) := rfl
@[simp] theorem allD_ds : ∀ ds : List D, allD (ds.map .d) = some ds
  | [] => rfl
  | x :: r => by rw [List.map_cons, allD_d, allD_ds r]; rfl
theorem freeze_l {cs : List Cell} {ds : List D} (h : allD cs = some ds) : freeze S (.l cs) = .ok (.d (.lst ds)) S := by
  show (match allD cs with | some ds => Res.ok (Cell.d (D.lst ds)) S | none => Res.bad) = _
  rw [h]
@[simp] theorem freeze_ds (ds : List D) : freeze S (.l (ds.map .d)) = .ok (.d (.lst ds)) S := freeze_l (allD_ds ds)
@[simp] theorem lay_l (cs : List Cell) : lay S (.l cs) = .ok (.r S.length) (S ++ [.lst cs]) := rfl
@[simp] theorem lay_v (c : Cell) : lay S (.v c) = .ok c S := rfl
@[simp] theorem truth_bl (b : Bool) : truth S (.d (.bl b)) = some b := rfl
@[simp] theorem truth_non : truth S (.d .non) = some false := rfl
@[simp] theorem truth_int (i : Int) : truth S (.d (.int i)) = some (i != 0) := rfl
@[simp] theorem truth_lst (ds : List D) : truth S (.d (.lst ds)) = some (!ds.isEmpty) := by
  show (some (ds.map Cell.d)).map (fun cs => !cs.isEmpty) = _
  cases ds <;> rfl
@[simp] theorem truth_tup (ds : List D) : truth S (.d (.tup ds)) = some (!ds.isEmpty) := by
  show (some (ds.map Cell.d)).map (fun cs => !cs.isEmpty) = _
  cases ds <;> rfl
@[simp] theorem bTest_bl (b : Bool) (x y : Res Out) : bTest S (.d (.bl b)) x y = if b = true then x else y := by cases b <;> rfl
theorem bTest_of {c : Cell} {b : Bool} (h : truth S c = some b) (x y : Res Out) : bTest S c x y = if b = true then x else y := by
  unfold bTest; rw [h]; cases b <;> rfl
@[simp] theorem nextIf_some : nextIf (some ρ) S = .ok (.next ρ) S := rfl
@[simp] theorem setTg_slot (i : Nat) (c : Cell) : setTg (.slot i) c ρ = if i < ρ.length then some (ρ.set i (some c)) else none := by rw [setTg]
/-! ### expressions -/
@[simp] theorem evV_var (i : Nat) : evV Φ lo (.var i) ρ S = getV ρ[i]? S := by
  rw [evV]
  rcases ρ[i]? with _ | _ | c <;> rfl
@[simp] theorem evV_cst (x : D) : evV Φ lo (.cst x) ρ S = .ok (.v (.d x)) S := by rw [evV]
@[simp] theorem evV_prim (p : Prim) (as : List CE) : evV Φ lo (.prim p as) ρ S = (evs Φ lo as ρ S).bind fun cs S1 => primR lo p cs S1 := by rw [evV]
@[simp] theorem evV_and (a b : CE) : evV Φ lo (.and a b) ρ S = (ev Φ lo a ρ S).bind fun c S1 => tIte (truth S1 c) (evV Φ lo b ρ S1) (.ok (.v c) S1) := by
  rw [evV]; rfl
@[simp] theorem evV_or (a b : CE) : evV Φ lo (.or a b) ρ S = (ev Φ lo a ρ S).bind fun c S1 => tIte (truth S1 c) (.ok (.v c) S1) (evV Φ lo b ρ S1) := by
  rw [evV]; rfl
@[simp] theorem evV_ite (t a b : CE) : evV Φ lo (.ite t a b) ρ S = (ev Φ lo t ρ S).bind fun c S1 => tIte (truth S1 c) (evV Φ lo a ρ S1) (evV Φ lo b ρ S1) := by
  rw [evV]; rfl
@[simp] theorem evV_call (f : Nat) (as : List CE) : evV Φ lo (.call f as) ρ S = (evs Φ lo as ρ S).bind fun cs S1 => (Φ f lo cs S1).bind fun c S2 => .ok (.v c) S2 := by rw [evV]
@[simp] theorem evV_meth (t : Ty) (p : Prim) (o : CE) (as : List CE) : evV Φ lo (.meth t p o as) ρ S = (ev Φ lo o ρ S).bind fun c S1 => if tyC S1 c = some t then (evs Φ lo as ρ S1).bind fun cs S2 => primR lo p (c :: cs) S2 else .bad := by rw [evV]; rfl
@[simp] theorem evs_nil : evs Φ lo [] ρ S = .ok [] S := by rw [evs]
@[simp] theorem evs_cons (a : CE) (as : List CE) : evs Φ lo (a :: as) ρ S = (ev Φ lo a ρ S).bind fun c S1 => (evs Φ lo as ρ S1).bind fun cs S2 => .ok (c :: cs) S2 := by rw [evs]; rfl
@[simp] theorem evT_nil : evT Φ lo [] ρ S = .ok true S := by rw [evT]
@[simp] theorem evT_cons (a : CE) (as : List CE) : evT Φ lo (a :: as) ρ S = (ev Φ lo a ρ S).bind fun c S1 => tIte (truth S1 c) (evT Φ lo as ρ S1) (.ok false S1) := by
  rw [evT]; rfl
@[simp] theorem ev_def (e : CE) : ev Φ lo e ρ S = (evV Φ lo e ρ S).bind fun p S1 => freeze S1 p := rfl
/-! ### statements -/
@[simp] theorem ex_expr (e : CE) : ex Φ lo (.expr e) ρ S = (ev Φ lo e ρ S).st ρ fun _ S1 => .ok (.next ρ) S1 := by rw [ex]
@[simp] theorem ex_asg (tg : Tg) (e : CE) : ex Φ lo (.asg tg e) ρ S = (ev Φ lo e ρ S).st ρ fun c S1 => nextIf (setTg tg c ρ) S1 := by rw [ex]
@[simp] theorem ex_own (i : Nat) (e : AE) : ex Φ lo (.own i e) ρ S = (evA Φ lo e ρ S).st ρ fun c S1 => nextIf (setTg (.slot i) c ρ) S1 := by rw [ex]
def putR (o : Option Stg) (ρ : Rho) : Res Out := match o with
  | some S => .ok (.next ρ) S
  | none => .bad
@[simp] theorem putR_some : putR (some S) ρ = .ok (.next ρ) S := rfl
@[simp] theorem ex_setIx (v a i : CE) : ex Φ lo (.setIx v a i) ρ S = (ev Φ lo v ρ S).st ρ fun cv S1 => (ev Φ lo a ρ S1).st ρ fun ca S2 => (ev Φ lo i ρ S2).st ρ fun ci S3 => putR (setItem lo S3 ca ci cv) ρ := by rw [ex]; rfl
@[simp] theorem ex_ite (t : CE) (a b : List CS) : ex Φ lo (.ite t a b) ρ S = (ev Φ lo t ρ S).st ρ fun c S1 => bTest S1 c (exs Φ lo a ρ S1) (exs Φ lo b ρ S1) := by rw [ex]
@[simp] theorem ex_for (tg : Tg) (k : Itk) (as : List CE) (body : List CS) : ex Φ lo (.forS tg k as body) ρ S = (evs Φ lo as ρ S).st ρ fun cs S1 => (itemsF lo k cs S1).bind fun its S2 => turnsS tg (fun ρ1 S3 => exs Φ lo body ρ1 S3) its ρ S2 := by rw [ex]
@[simp] theorem ex_ret (e : CE) : ex Φ lo (.ret e) ρ S = (ev Φ lo e ρ S).st ρ fun c S1 => .ok (.ret c) S1 := by rw [ex]
@[simp] theorem ex_pass : ex Φ lo .pass ρ S = .ok (.next ρ) S := by rw [ex]
@[simp] theorem ex_brk : ex Φ lo .brk ρ S = .ok (.brk ρ) S := by rw [ex]
@[simp] theorem ex_cnt : ex Φ lo .cnt ρ S = .ok (.cnt ρ) S := by rw [ex]
def cont (Φ : FT) (lo : Lim) (ss : List CS) (o : Out) (S : Stg) : Res Out := match o with
  | .next ρ => exs Φ lo ss ρ S
  | o => .ok o S
@[simp] theorem cont_next (ss : List CS) : cont Φ lo ss (.next ρ) S = exs Φ lo ss ρ S := rfl
@[simp] theorem cont_ret (ss : List CS) (c : Cell) : cont Φ lo ss (.ret c) S = .ok (.ret c) S := rfl
@[simp] theorem cont_brk (ss : List CS) : cont Φ lo ss (.brk ρ) S = .ok (.brk ρ) S := rfl
@[simp] theorem cont_cnt (ss : List CS) : cont Φ lo ss (.cnt ρ) S = .ok (.cnt ρ) S := rfl
@[simp] theorem cont_thr (ss : List CS) (e : Exn) : cont Φ lo ss (.thr e ρ) S = .ok (.thr e ρ) S := rfl
@[simp] theorem exs_nil : exs Φ lo [] ρ S = .ok (.next ρ) S := by rw [exs]
@[simp] theorem exs_cons (s : CS) (ss : List CS) : exs Φ lo (s :: ss) ρ S = (ex Φ lo s ρ S).bind fun o S1 => cont Φ lo ss o S1 := by
  rw [exs]; rfl
@[simp] theorem evA_e (a : CE) : evA Φ lo (.e a) ρ S = ev Φ lo a ρ S := by rw [evA]
@[simp] theorem evA_own (a : CE) : evA Φ lo (.own a) ρ S = (evV Φ lo a ρ S).bind fun p S1 => lay S1 p := by rw [evA]
@[simp] theorem evA_lst (as : List AE) : evA Φ lo (.lst as) ρ S = (evAs Φ lo as ρ S).bind fun cs S1 => if cs.length ≤ sizeLine then .ok (.r S1.length) (S1 ++ [.lst cs]) else .bad := by rw [evA]
@[simp] theorem evAs_nil : evAs Φ lo [] ρ S = .ok [] S := by rw [evAs]
@[simp] theorem evAs_cons (a : AE) (as : List AE) : evAs Φ lo (a :: as) ρ S = (evA Φ lo a ρ S).bind fun c S1 => (evAs Φ lo as ρ S1).bind fun cs S2 => .ok (c :: cs) S2 := by rw [evAs]
/-! ### operations -/
@[simp] theorem p_add (i j : Int) : primR lo (.bin .Add) [.d (.int i), .d (.int j)] S = .ok (.v (.d (.int (i + j)))) S := rfl
@[simp] theorem p_sub (i j : Int) : primR lo (.bin .Sub) [.d (.int i), .d (.int j)] S = .ok (.v (.d (.int (i - j)))) S := rfl
def gd (b : Bool) (r : Res α) : Res α := if b = true then r else .bad
@[simp] theorem gd_true (r : Res α) : gd true r = r := rfl
theorem gd_of {b : Bool} (h : b = true) (r : Res α) : gd b r = r := by rw [h]; rfl
theorem p_mul (i j : Int) : primR lo (.bin .Mult) [.d (.int i), .d (.int j)] S = gd (smallI i || smallI j) (.ok (.v (.d (.int (i * j)))) S) := by
  show (match (if smallI i || smallI j then okI (i * j) else none).map fun p => (p, S) with | some (v, S') => Res.ok v S' | none => .bad) = _
  unfold gd
  cases h : (smallI i || smallI j) <;> rfl
theorem p_mod (i j : Int) : primR lo (.bin .Mod) [.d (.int i), .d (.int j)] S = gd (decide (0 < j)) (.ok (.v (.d (.int (i % j)))) S) := by
  show (match (if 0 < j then okI (i % j) else none).map fun p => (p, S) with | some (v, S') => Res.ok v S' | none => .bad) = _
  unfold gd
  by_cases h : 0 < j <;> simp [h, okI]
theorem p_div (i j : Int) : primR lo (.bin .FloorDiv) [.d (.int i), .d (.int j)] S = gd (decide (0 < j) && decide (j < 2 ^ 64)) (.ok (.v (.d (.int (i / j)))) S) := by
  show (match (if 0 < j && decide (j < 2 ^ 64) then okI (i / j) else none).map fun p => (p, S) with | some (v, S') => Res.ok v S' | none => .bad) = _
  unfold gd
  cases h : (decide (0 < j) && decide (j < 2 ^ 64)) <;> rfl
theorem p_pow (i j : Int) : primR lo (.bin .Pow) [.d (.int i), .d (.int j)] S = gd (decide (0 ≤ j) && decide (j ≤ 1000000) && decide (i.natAbs < 2 ^ 64)) (.ok (.v (.d (.int (i ^ j.toNat)))) S) := by
  show (match (if 0 ≤ j && decide (j ≤ 1000000) && decide (i.natAbs < 2 ^ 64) then okI (i ^ j.toNat) else none).map fun p => (p, S) with | some (v, S') => Res.ok v S' | none => .bad) = _
  unfold gd
  cases h : (decide (0 ≤ j) && decide (j ≤ 1000000) && decide (i.natAbs < 2 ^ 64)) <;> rfl
theorem p_cat (x y : Str) : primR lo (.bin .Add) [.d (.str x), .d (.str y)] S = gd (decide (x.length + y.length ≤ sizeLine)) (.ok (.v (.d (.str (x ++ y)))) S) := by
  show (match (if x.length + y.length ≤ sizeLine then some (PV.v (.d (.str (x ++ y)))) else none).map fun p => (p, S) with | some (v, S') => Res.ok v S' | none => .bad) = _
  unfold gd
  by_cases h : x.length + y.length ≤ sizeLine <;> simp [h]
@[simp] theorem p_lt (i j : Int) : primR lo (.cmp .Lt) [.d (.int i), .d (.int j)] S = .ok (.v (.d (.bl (decide (i < j))))) S := rfl
@[simp] theorem p_le (i j : Int) : primR lo (.cmp .LtE) [.d (.int i), .d (.int j)] S = .ok (.v (.d (.bl (decide (i ≤ j))))) S := rfl
@[simp] theorem p_gt (i j : Int) : primR lo (.cmp .Gt) [.d (.int i), .d (.int j)] S = .ok (.v (.d (.bl (decide (j < i))))) S := rfl
@[simp] theorem p_ge (i j : Int) : primR lo (.cmp .GtE) [.d (.int i), .d (.int j)] S = .ok (.v (.d (.bl (decide (j ≤ i))))) S := rfl
@[simp] theorem p_eqi (i j : Int) : primR lo (.cmp .Eq) [.d (.int i), .d (.int j)] S = .ok (.v (.d (.bl (decide (i = j))))) S := rfl
@[simp] theorem p_nei (i j : Int) : primR lo (.cmp .NotEq) [.d (.int i), .d (.int j)] S = .ok (.v (.d (.bl (!decide (i = j))))) S := rfl
@[simp] theorem p_eqb (i j : Bool) : primR lo (.cmp .Eq) [.d (.bl i), .d (.bl j)] S = .ok (.v (.d (.bl (decide (i = j))))) S := rfl
@[simp] theorem p_neb (i j : Bool) : primR lo (.cmp .NotEq) [.d (.bl i), .d (.bl j)] S = .ok (.v (.d (.bl (!decide (i = j))))) S := rfl
theorem p_eq {a b : Cell} {x y : D} (ha : snap S a = some x) (hb : snap S b = some y) (px : Pl x = true) (py : Pl y = true) (dx : dep x ≤ 64) (dy : dep y ≤ 64) : primR lo (.cmp .Eq) [a, b] S = .ok (.v (.d (.bl (eqB x y)))) S := by
  show (match (ovB (eqSem S a b)).map fun p => (p, S) with | some (v, S') => Res.ok v S' | none => .bad) = _
  unfold eqSem
  rw [ha, hb]
  dsimp only
  rw [eqD_pl px py dx dy]
  rfl
theorem p_ne {a b : Cell} {x y : D} (ha : snap S a = some x) (hb : snap S b = some y) (px : Pl x = true) (py : Pl y = true) (dx : dep x ≤ 64) (dy : dep y ≤ 64) : primR lo (.cmp .NotEq) [a, b] S = .ok (.v (.d (.bl (!eqB x y)))) S := by
  show (match (ovB ((eqSem S a b).map not)).map fun p => (p, S) with | some (v, S') => Res.ok v S' | none => .bad) = _
  unfold eqSem
  rw [ha, hb]
  dsimp only
  rw [eqD_pl px py dx dy]
  rfl
@[simp] theorem p_not (b : Bool) : primR lo .not [.d (.bl b)] S = .ok (.v (.d (.bl (!b)))) S := rfl
theorem p_notT {c : Cell} {b : Bool} (h : truth S c = some b) : primR lo .not [c] S = .ok (.v (.d (.bl (!b)))) S := by
  show (match (ovB ((truth S c).map not)).map fun p => (p, S) with | some (v, S') => Res.ok v S' | none => .bad) = _
  rw [h]; rfl
@[simp] theorem p_neg (i : Int) : primR lo .neg [.d (.int i)] S = .ok (.v (.d (.int (-i)))) S := rfl
@[simp] theorem p_item_r (n : Nat) (k : Int) : primR lo .item [.r n, .d (.int k)] S = getI (viewO S[n]?) k S := by
  show (match (match viewO S[n]? with | some cs => (atI cs k).map PV.v | none => none).map fun p => (p, S) with | some (v, S') => Res.ok v S' | none => .bad) = _
  rcases viewO S[n]? with _ | cs
  · rfl
  · rw [getI_some]
    dsimp only
    rcases atI cs k with _ | c <;> rfl
theorem atI_map {α β : Type} (f : α → β) (xs : List α) (k : Int) : atI (xs.map f) k = (atI xs k).map f := by
  unfold atI
  rw [List.length_map]
  rcases ixN xs.length k with _ | j
  · rfl
  · simp
@[simp] theorem p_item_tup (ds : List D) (k : Int) : primR lo .item [.d (.tup ds), .d (.int k)] S = getC ((atI ds k).map .d) S := by
  show (match ((atI (ds.map Cell.d) k).map PV.v).map fun p => (p, S) with | some (v, S') => Res.ok v S' | none => .bad) = _
  rw [atI_map]
  rcases atI ds k with _ | c <;> rfl
@[simp] theorem p_item_lst (ds : List D) (k : Int) : primR lo .item [.d (.lst ds), .d (.int k)] S = getC ((atI ds k).map .d) S := by
  show (match ((atI (ds.map Cell.d) k).map PV.v).map fun p => (p, S) with | some (v, S') => Res.ok v S' | none => .bad) = _
  rw [atI_map]
  rcases atI ds k with _ | c <;> rfl
theorem p_item_str {x : Str} {k : Int} {c : Nat} (hx : x.length ≤ sizeLine) (h : atI x.cps.toList k = some c) : primR lo .item [.d (.str x), .d (.int k)] S = .ok (.v (.d (.str ⟨#[c]⟩))) S := by
  show (match (if x.length ≤ sizeLine then (match atI x.cps.toList k with | some c => some (PV.v (.d (.str ⟨#[c]⟩))) | none => none) else none).map fun p => (p, S) with | some (v, S') => Res.ok v S' | none => .bad) = _
  rw [if_pos hx, h]; rfl
theorem atI_nat {α : Type} (xs : List α) (n : Nat) : atI xs (n : Int) = xs[n]? := by
  unfold atI ixN
  rw [if_pos (Int.natCast_nonneg n)]
  split
  · rfl
  · rename_i h
    rw [List.getElem?_eq_none (by omega)]; rfl
@[simp] theorem atI_2 {α : Type} (xs : List α) : atI xs 2 = xs[2]? := atI_nat xs 2
@[simp] theorem atI_3 {α : Type} (xs : List α) : atI xs 3 = xs[3]? := atI_nat xs 3
@[simp] theorem atI_4 {α : Type} (xs : List α) : atI xs 4 = xs[4]? := atI_nat xs 4
@[simp] theorem atI_5 {α : Type} (xs : List α) : atI xs 5 = xs[5]? := atI_nat xs 5
@[simp] theorem atI_6 {α : Type} (xs : List α) : atI xs 6 = xs[6]? := atI_nat xs 6
@[simp] theorem atI_7 {α : Type} (xs : List α) : atI xs 7 = xs[7]? := atI_nat xs 7
@[simp] theorem atI_8 {α : Type} (xs : List α) : atI xs 8 = xs[8]? := atI_nat xs 8
@[simp] theorem atI_9 {α : Type} (xs : List α) : atI xs 9 = xs[9]? := atI_nat xs 9
@[simp] theorem atI_zero {α : Type} (xs : List α) : atI xs 0 = xs[0]? := atI_nat xs 0
@[simp] theorem atI_one {α : Type} (xs : List α) : atI xs 1 = xs[1]? := atI_nat xs 1
theorem atI_pos {α : Type} (xs : List α) {k : Int} (h : 0 ≤ k) : atI xs k = xs[k.toNat]? := by
  obtain ⟨n, rfl⟩ := Int.eq_ofNat_of_zero_le h
  exact atI_nat xs n
@[simp] theorem p_len_lst (ds : List D) : primR lo .len [.d (.lst ds)] S = .ok (.v (.d (.int ds.length))) S := by
  show Res.ok (PV.v (.d (.int (ds.map Cell.d).length))) S = _
  rw [List.length_map]
@[simp] theorem p_len_tup (ds : List D) : primR lo .len [.d (.tup ds)] S = .ok (.v (.d (.int ds.length))) S := by
  show Res.ok (PV.v (.d (.int (ds.map Cell.d).length))) S = _
  rw [List.length_map]
@[simp] theorem p_int_bl (b : Bool) : primR lo .int_ [.d (.bl b)] S = .ok (.v (.d (.int (if b then 1 else 0)))) S := rfl
@[simp] theorem p_int_int (i : Int) : primR lo .int_ [.d (.int i)] S = .ok (.v (.d (.int i))) S := rfl
@[simp] theorem p_list_lst (ds : List D) : primR lo .list_ [.d (.lst ds)] S = .ok (.l (ds.map .d)) S := rfl
@[simp] theorem p_list_tup (ds : List D) : primR lo .list_ [.d (.tup ds)] S = .ok (.l (ds.map .d)) S := rfl
@[simp] theorem p_tuple_lst (ds : List D) : primR lo .tuple_ [.d (.lst ds)] S = .ok (.v (.d (.tup ds))) S := by
  show (match (((allD (ds.map Cell.d)).map fun ds => PV.v (.d (.tup ds)))).map fun p => (p, S) with | some (v, S') => Res.ok v S' | none => .bad) = _
  rw [allD_ds]; rfl
theorem p_lst (cs : List Cell) : primR lo .lst cs S = gd (decide (cs.length ≤ sizeLine)) (.ok (.l cs) S) := by
  show (match (if cs.length ≤ sizeLine then some (PV.l cs) else none).map fun p => (p, S) with | some (v, S') => Res.ok v S' | none => .bad) = _
  unfold gd
  by_cases h : cs.length ≤ sizeLine <;> simp [h]
theorem p_tup {cs : List Cell} {ds : List D} (h : allD cs = some ds) (hl : cs.length ≤ sizeLine) : primR lo .tup cs S = .ok (.v (.d (.tup ds))) S := by
  show (match (if cs.length ≤ sizeLine then (allD cs).map fun ds => PV.v (.d (.tup ds)) else none).map fun p => (p, S) with | some (v, S') => Res.ok v S' | none => .bad) = _
  rw [if_pos hl, h]; rfl
theorem boolsOf_map : ∀ bs : List Bool, boolsOf (bs.map fun b => Cell.d (.bl b)) = some bs
  | [] => rfl
  | b :: r => by rw [List.map_cons]; show (boolsOf _).map _ = _; rw [boolsOf_map r]; rfl
theorem p_all (bs : List Bool) : primR lo .all_ [.d (.lst (bs.map D.bl))] S = .ok (.v (.d (.bl (bs.all id)))) S := by
  show (match ((boolsOf ((bs.map D.bl).map Cell.d)).map fun bs => PV.v (.d (.bl (bs.all id)))).map fun p => (p, S) with | some (v, S') => Res.ok v S' | none => .bad) = _
  rw [List.map_map]
  rw [show (Cell.d ∘ D.bl) = fun b => Cell.d (.bl b) from rfl, boolsOf_map]; rfl
theorem p_any (bs : List Bool) : primR lo .any_ [.d (.lst (bs.map D.bl))] S = .ok (.v (.d (.bl (bs.any id)))) S := by
  show (match ((boolsOf ((bs.map D.bl).map Cell.d)).map fun bs => PV.v (.d (.bl (bs.any id)))).map fun p => (p, S) with | some (v, S') => Res.ok v S' | none => .bad) = _
  rw [List.map_map]
  rw [show (Cell.d ∘ D.bl) = fun b => Cell.d (.bl b) from rfl, boolsOf_map]; rfl
theorem p_isi {c : Cell} {z t : Ty} (h : tyC S c = some z) : primR lo (.isinst t) [c, .d (.ty t.name)] S = .ok (.v (.d (.bl (z.le t)))) S := by
  show (match (if t.name = t.name then (tyC S c).map fun z => PV.v (.d (.bl (z.le t))) else none).map fun p => (p, S) with | some (v, S') => Res.ok v S' | none => .bad) = _
  rw [if_pos rfl, h]; rfl
@[simp] theorem tyC_int (i : Int) : tyC S (.d (.int i)) = some .int := rfl
@[simp] theorem tyC_str (i : Str) : tyC S (.d (.str i)) = some .str := rfl
@[simp] theorem tyC_bl (i : Bool) : tyC S (.d (.bl i)) = some .bl := rfl
@[simp] theorem tyC_non : tyC S (.d .non) = some .non := rfl
@[simp] theorem tyC_tup (i : List D) : tyC S (.d (.tup i)) = some .tup := rfl
@[simp] theorem tyC_lst (i : List D) : tyC S (.d (.lst i)) = some .lst := rfl
def setO : Option Ob → Lim → Nat → Int → Cell → Stg → Option Stg
  | some (.lst cs), lo, n, k, v, S => if plainC lo n v && decide (lo.ro ≤ n) then (ixN cs.length k).map fun j => S.set n (.lst (cs.set j v)) else none
  | _, _, _, _, _, _ => none
@[simp] theorem setItem_r (n : Nat) (k : Int) (v : Cell) : setItem lo S (.r n) (.d (.int k)) v = setO S[n]? lo n k v S := by
  show (match S[n]? with | some (.lst cs) => if plainC lo n v && decide (lo.ro ≤ n) then (ixN cs.length k).map fun j => S.set n (.lst (cs.set j v)) else none | _ => none) = _
  generalize S[n]? = o
  rcases o with _ | o
  · rfl
  · cases o <;> rfl
@[simp] theorem setO_lst (n : Nat) (k : Int) (x : D) (cs : List Cell) : setO (some (.lst cs)) lo n k (.d x) S = if lo.ro ≤ n then (ixN cs.length k).map fun j => S.set n (.lst (cs.set j (.d x))) else none := by
  show (if true && decide (lo.ro ≤ n) then _ else _) = _
  by_cases h : lo.ro ≤ n <;> simp [h]
theorem ixN_nat (n j : Nat) : ixN n (j : Int) = if j < n then some j else none := by
  unfold ixN
  rw [if_pos (Int.natCast_nonneg j)]
  by_cases h : j < n
  · rw [if_pos h, if_pos (by omega)]; rfl
  · rw [if_neg h, if_neg (by omega)]
@[simp] theorem ixN_0 (n : Nat) : ixN n 0 = if 0 < n then some 0 else none := ixN_nat n 0
@[simp] theorem ixN_1 (n : Nat) : ixN n 1 = if 1 < n then some 1 else none := ixN_nat n 1
@[simp] theorem ixN_2 (n : Nat) : ixN n 2 = if 2 < n then some 2 else none := ixN_nat n 2
@[simp] theorem ixN_3 (n : Nat) : ixN n 3 = if 3 < n then some 3 else none := ixN_nat n 3
@[simp] theorem ixN_4 (n : Nat) : ixN n 4 = if 4 < n then some 4 else none := ixN_nat n 4
@[simp] theorem ixN_5 (n : Nat) : ixN n 5 = if 5 < n then some 5 else none := ixN_nat n 5
@[simp] theorem ixN_6 (n : Nat) : ixN n 6 = if 6 < n then some 6 else none := ixN_nat n 6
@[simp] theorem ixN_7 (n : Nat) : ixN n 7 = if 7 < n then some 7 else none := ixN_nat n 7
@[simp] theorem ixN_8 (n : Nat) : ixN n 8 = if 8 < n then some 8 else none := ixN_nat n 8
@[simp] theorem ixN_9 (n : Nat) : ixN n 9 = if 9 < n then some 9 else none := ixN_nat n 9
def popO : Option Ob → Lim → Nat → Int → Stg → Res PV
  | some (.lst cs), lo, n, k, S => if lo.ro ≤ n then (match ixN cs.length k with
    | some j => (match cs[j]? with
      | some c => .ok (.v c) (S.set n (.lst (cs.eraseIdx j)))
      | none => .bad)
    | none => .bad) else .bad
  | _, _, _, _, _ => .bad
@[simp] theorem p_pop (n : Nat) (k : Int) : primR lo .popAt [.r n, .d (.int k)] S = popO S[n]? lo n k S := by
  show (match (match S[n]? with
    | some (.lst cs) => if lo.ro ≤ n then (match ixN cs.length k with
      | some j => (match cs[j]? with
        | some c => some (PV.v c, S.set n (.lst (cs.eraseIdx j)))
        | none => none)
      | none => none) else none
    | _ => none) with | some (v, S') => Res.ok v S' | none => .bad) = popO S[n]? lo n k S
  generalize S[n]? = o
  rcases o with _ | o
  · rfl
  · cases o with
    | lst cs =>
      unfold popO
      dsimp only
      by_cases h : lo.ro ≤ n
      · rw [if_pos h, if_pos h]
        rcases ixN cs.length k with _ | j
        · rfl
        · dsimp only
          rcases cs[j]? with _ | c <;> rfl
      · rw [if_neg h, if_neg h]
    | _ => rfl
@[simp] theorem popO_zero (n : Nat) (c : Cell) (cs : List Cell) : popO (some (.lst (c :: cs))) lo n 0 S = if lo.ro ≤ n then .ok (.v c) (S.set n (.lst cs)) else .bad := by
  unfold popO
  simp
@[simp] theorem tyC_r (n : Nat) : tyC S (.r n) = (match S[n]? with | some (.lst _) => some .lst | some (.frz (.lst _)) => some .lst | _ => none) := rfl
@[simp] theorem snap_d (x : D) : snap S (.d x) = some x := rfl
theorem snap_r {n : Nat} {cs : List Cell} {ds : List D} (h : S[n]? = some (.lst cs)) (ha : allD cs = some ds) : snap S (.r n) = some (.lst ds) := by
  show (match S[n]? with | some (.lst cs) => (allD cs).map D.lst | some (.frz x) => some x | _ => none) = _
  rw [h]; dsimp only; rw [ha]; rfl
/-! ### walks -/
@[simp] theorem turnsS_nil (tg : Tg) (body : Rho → Stg → Res Out) : turnsS tg body [] ρ S = .ok (.next ρ) S := rfl
@[simp] theorem turnsC_nil (tg : Tg) (test : Rho → Stg → Res Bool) (elt : Rho → Stg → Res Cell) (acc : List Cell) : turnsC tg test elt ρ [] acc S = .ok acc S := rfl
end
end Mi
/-! P1: the draws of the laws, in plain. -/
namespace Mi
open PySem PySem.Spec L2
structure Stm where
  xs : List Int
  a : Int
  b : Int
  c : Int
def Stm.ob (s : Stm) (R : Stg) : Stg := .lst (s.xs.map fun i => .d (.int i)) :: .lst [.r 0, .d (.int s.a), .d (.int s.b), .d (.int s.c)] :: R
def Stm.fed (s : Stm) : Stm := if s.a = 0 then (match s.xs with
    | [] => ⟨[], s.a, s.b + 1, s.c⟩
    | x :: r => if x < 1000000000000000000 then ⟨r, 0, s.b + 1, (s.c * 39373 + x) % 2147483647⟩ else ⟨r, x, s.b + 1, s.c⟩) else ⟨s.xs, s.a, s.b + 1, s.c⟩
def Stm.num (s : Stm) (m : Int) : Int := if 0 < s.fed.a then s.fed.a % m else ((s.fed.c + 7919 * s.fed.b + 104729) ^ 5 % 2147483647 + s.fed.b) * 48271 % 2147483629 % m
def Stm.nx (s : Stm) (m : Int) : Stm := if 0 < s.fed.a then ⟨s.fed.xs, s.fed.a / m, s.fed.b, s.fed.c⟩ else s.fed
structure Stm.Ok (s : Stm) (n : Nat) : Prop where
  b : s.b = n
  c0 : 0 ≤ s.c
  c1 : s.c < 2147483647
  a : 0 ≤ s.a
theorem Stm.Ok.fed {s : Stm} {n : Nat} (h : s.Ok n) : s.fed.Ok (n + 1) := by
  obtain ⟨h1, h2, h3, h4⟩ := h
  unfold Stm.fed
  split
  · split
    · exact ⟨by simp [h1], h2, h3, h4⟩
    · split
      · exact ⟨by simp [h1], Int.emod_nonneg _ (by decide), Int.emod_lt_of_pos _ (by decide), Int.le_refl 0⟩
      · exact ⟨by simp [h1], h2, h3, by rename_i x _ _ hx; show 0 ≤ x; omega⟩
  · exact ⟨by simp [h1], h2, h3, h4⟩
theorem Stm.Ok.nx {s : Stm} {n : Nat} (h : s.Ok n) {m : Int} (hm : 0 < m) : (s.nx m).Ok (n + 1) := by
  obtain ⟨h1, h2, h3, h4⟩ := h.fed
  unfold Stm.nx
  split
  · exact ⟨h1, h2, h3, Int.ediv_nonneg h4 (Int.le_of_lt hm)⟩
  · exact h.fed
theorem Stm.num_lt (s : Stm) {m : Int} (hm : 0 < m) : 0 ≤ s.num m ∧ s.num m < m := by
  unfold Stm.num
  split
  · exact ⟨Int.emod_nonneg _ (by omega), Int.emod_lt_of_pos _ hm⟩
  · exact ⟨Int.emod_nonneg _ (by omega), Int.emod_lt_of_pos _ hm⟩
/-- the text of a law's draw -/
def drawCore : List CS := [.setIx (.prim (.bin .Add) [.prim .item [.var 0, .cst (.int 2)], .cst (.int 1)]) (.var 0) (.cst (.int 2)), .ite (.and (.prim (.cmp .Eq) [.prim .item [.var 0, .cst (.int 1)], .cst (.int 0)]) (.prim (.cmp .NotEq) [.prim .item [.var 0, .cst (.int 0)], .prim .lst []])) [.setIx (.meth .lst .popAt (.prim .item [.var 0, .cst (.int 0)]) [.cst (.int 0)]) (.var 0) (.cst (.int 1)), .ite (.prim (.cmp .Lt) [.prim .item [.var 0, .cst (.int 1)], .prim (.bin .Pow) [.cst (.int 10), .cst (.int 18)]]) [.setIx (.prim (.bin .Mod) [.prim (.bin .Add) [.prim (.bin .Mult) [.prim .item [.var 0, .cst (.int 3)], .cst (.int 39373)], .prim .item [.var 0, .cst (.int 1)]], .cst (.int 2147483647)]) (.var 0) (.cst (.int 3)), .setIx (.cst (.int 0)) (.var 0) (.cst (.int 1))] []] [], .ite (.prim (.cmp .Gt) [.prim .item [.var 0, .cst (.int 1)], .cst (.int 0)]) [.asg (.slot 2) (.prim (.bin .Mod) [.prim .item [.var 0, .cst (.int 1)], .var 1]), .setIx (.prim (.bin .FloorDiv) [.prim .item [.var 0, .cst (.int 1)], .var 1]) (.var 0) (.cst (.int 1)), .ret (.var 2)] [], .asg (.slot 2) (.prim (.bin .Mod) [.prim (.bin .Pow) [.prim (.bin .Add) [.prim (.bin .Add) [.prim .item [.var 0, .cst (.int 3)], .prim (.bin .Mult) [.cst (.int 7919), .prim .item [.var 0, .cst (.int 2)]]], .cst (.int 104729)], .cst (.int 5)], .cst (.int 2147483647)]), .ret (.prim (.bin .Mod) [.prim (.bin .Mod) [.prim (.bin .Mult) [.prim (.bin .Add) [.var 2, .prim .item [.var 0, .cst (.int 2)]], .cst (.int 48271)], .cst (.int 2147483629)], .var 1])]
theorem pls_ints : ∀ xs : List Int, Pls (xs.map D.int) = true
  | [] => rfl
  | x :: r => by simp [Pls, Pl, pls_ints r]
theorem deps_ints : ∀ xs : List Int, deps (xs.map D.int) = 0
  | [] => rfl
  | x :: r => by simp [deps, dep, deps_ints r]
theorem allD_ints : ∀ xs : List Int, allD (xs.map fun i => Cell.d (.int i)) = some (xs.map D.int)
  | [] => rfl
  | x :: r => by simp [allD, allD_ints r]
theorem eq_nil (xs : List Int) : eqD (.lst (xs.map D.int)) (.lst []) = some xs.isEmpty := by
  rw [eqD_pl (show Pl (.lst _) = true from pls_ints xs) rfl (by simp [dep, deps_ints]) (by decide)]
  congr 1
  cases xs with
  | nil => simp
  | cons x r => exact eqB_ne (by simp)
theorem ne_nil0 {lo : Lim} (T : Stg) : primR lo (.cmp .NotEq) [.r 0, .d (.lst [])] (.lst [] :: T) = .ok (.v (.d (.bl false))) (.lst [] :: T) := by
  rw [p_ne (x := .lst []) (y := .lst []) rfl rfl rfl rfl (by decide) (by decide)]
  simp
theorem ne_nil1 {lo : Lim} (x : Int) (r : List Int) (T : Stg) : primR lo (.cmp .NotEq) [.r 0, .d (.lst [])] (.lst (.d (.int x) :: r.map fun i => .d (.int i)) :: T) = .ok (.v (.d (.bl true))) (.lst (.d (.int x) :: r.map fun i => .d (.int i)) :: T) := by
  have e := allD_ints (x :: r)
  rw [p_ne (x := .lst ((x :: r).map D.int)) (y := .lst []) (snap_r (cs := .d (.int x) :: r.map fun i => .d (.int i)) rfl e) rfl (show Pl (.lst _) = true from pls_ints (x :: r)) rfl (by simp only [dep, deps_ints]; decide) (by decide), eqB_ne (by simp)]
  rfl
theorem draw_ok (Φ : FT) (s : Stm) (n : Nat) (R : Stg) (m : Int) (hs : s.Ok n) (hn : n < 1000000000) (h0 : 0 < m) (h1 : m < 2 ^ 64) :
    runF Φ ⟨2, 3, drawCore⟩ 0 [.r 1, .d (.int m)] (s.ob R) = .ok (.d (.int (s.num m))) ((s.nx m).ob R) := by
  have hf := hs.fed
  obtain ⟨xs, a, b, c⟩ := s
  have hb : b = n := hs.b
  have hc0 : 0 ≤ c := hs.c0
  have hc1 : c < 2147483647 := hs.c1
  have h1' : m < 18446744073709551616 := h1
  have big : ∀ d : Int, 0 ≤ d → d < 2147483647 → (decide ((d + 7919 * (b + 1) + 104729).natAbs < 2 ^ 64)) = true := fun d p q => decide_eq_true (by omega)
  have sm : smallI c = true := by unfold smallI; exact decide_eq_true (by omega)
  unfold runF
  rw [if_pos ⟨rfl, by decide⟩]
  by_cases ha : a = 0
  · subst ha
    cases xs with
    | nil =>
      have ef : (Stm.mk [] 0 b c).fed = ⟨[], 0, b + 1, c⟩ := rfl
      unfold drawCore Stm.num Stm.nx
      rw [ef]
      simp [Stm.ob, start0, p_lst, ne_nil0, p_mul, p_mod, p_pow, big c hc0 hc1, smallI, finish, h0]
    | cons x r =>
      by_cases hx : x < 1000000000000000000
      · have ef : (Stm.mk (x :: r) 0 b c).fed = ⟨r, 0, b + 1, (c * 39373 + x) % 2147483647⟩ := by simp [Stm.fed, hx]
        have g0 : 0 ≤ (c * 39373 + x) % 2147483647 := Int.emod_nonneg _ (by decide)
        have g1 : (c * 39373 + x) % 2147483647 < 2147483647 := Int.emod_lt_of_pos _ (by decide)
        have bg := big _ g0 g1
        unfold drawCore Stm.num Stm.nx
        rw [ef]
        simp at bg
        simp [Stm.ob, start0, p_lst, ne_nil1, p_mul, p_mod, p_pow, smallI, finish, h0, hx, bg]
      · have ef : (Stm.mk (x :: r) 0 b c).fed = ⟨r, x, b + 1, c⟩ := by simp [Stm.fed, hx]
        have px : 0 < x := by omega
        unfold drawCore Stm.num Stm.nx
        rw [ef]
        simp [Stm.ob, start0, p_lst, ne_nil1, p_mul, p_mod, p_div, p_pow, smallI, finish, h0, h1', hx, px]
  · have ef : (Stm.mk xs a b c).fed = ⟨xs, a, b + 1, c⟩ := by simp [Stm.fed, ha]
    have px : 0 < a := by have : 0 ≤ a := hs.a; omega
    unfold drawCore Stm.num Stm.nx
    rw [ef]
    simp [Stm.ob, start0, p_lst, p_mul, p_mod, p_div, p_pow, smallI, finish, h0, h1', ha, px]
end Mi
/-! PC: comprehensions and loops in plain; texts in lists. -/
namespace Mi
open PySem PySem.Spec L2
section
variable {Φ : FT} {lo : Lim} {ρ : Rho} {S : Stg}
@[simp] theorem noX_ok {α : Type} (a : α) (S : Stg) : (Res.ok a S).noX = .ok a S := rfl
theorem evV_comp (tg : Tg) (k : Itk) (as ifs : List CE) (e : CE) : evV Φ lo (.comp tg k as ifs e) ρ S = (evs Φ lo as ρ S).bind fun cs S1 => (Res.of (items S1 k cs) S1).bind fun its S1 =>
    if sizeLine < its.length then .bad else (turnsC tg (fun ρ1 S2 => (evT Φ (limC lo cs S1.length) ifs ρ1 S2).noX) (fun ρ1 S2 => (ev Φ (limC lo cs S1.length) e ρ1 S2).noX) (wipeR ρ (slotsOf tg)) its [] S1).bind fun xs S2 => .ok (.l xs) S2 := by
  rw [evV]; rfl
theorem turnsC_pure {test : Rho → Stg → Res Bool} {elt : Rho → Stg → Res Cell} {i : Nat} {p : Cell → Bool} {f : Cell → Cell} (hi : i < ρ.length) :
    ∀ (its acc : List Cell), (∀ c ∈ its, test (ρ.set i (some c)) S = .ok (p c) S) → (∀ c ∈ its, p c = true → elt (ρ.set i (some c)) S = .ok (f c) S) →
      turnsC (.slot i) test elt ρ its acc S = .ok (acc ++ (its.filter p).map f) S
  | [], acc, _, _ => by simp
  | c :: its, acc, ht, he => by
    rw [turnsC, setTg_slot, if_pos hi]
    dsimp only
    rw [ht c List.mem_cons_self, Res.bind_ok]
    cases hp : p c with
    | false =>
      dsimp only
      rw [turnsC_pure hi its acc (fun c h => ht c (List.mem_cons_of_mem _ h)) (fun c h => he c (List.mem_cons_of_mem _ h)), List.filter_cons_of_neg (by simp [hp])]
    | true =>
      dsimp only
      rw [he c List.mem_cons_self hp, Res.bind_ok, turnsC_pure hi its (acc ++ [f c]) (fun c h => ht c (List.mem_cons_of_mem _ h)) (fun c h => he c (List.mem_cons_of_mem _ h)), List.filter_cons_of_pos (by simp [hp])]
      simp
theorem wipe1 (i : Nat) : wipeR ρ (slotsOf (.slot i)) = ρ.set i none := by
  rw [slotsOf]; rfl
/-- a comprehension that changes nothing -/
theorem comp_pure {k : Itk} {as ifs : List CE} {e : CE} {i : Nat} {cs its : List Cell} {p : Cell → Bool} {f : Cell → Cell} (hi : i < ρ.length) (ha : evs Φ lo as ρ S = .ok cs S) (hk : items S k cs = some its) (hl : its.length ≤ sizeLine)
    (ht : ∀ c ∈ its, ∀ l : Lim, l.ro ≤ max lo.ro S.length → evT Φ l ifs (ρ.set i (some c)) S = .ok (p c) S) (he : ∀ c ∈ its, p c = true → ∀ l : Lim, l.ro ≤ max lo.ro S.length → ev Φ l e (ρ.set i (some c)) S = .ok (f c) S) :
    evV Φ lo (.comp (.slot i) k as ifs e) ρ S = .ok (.l ((its.filter p).map f)) S := by
  rw [evV_comp, ha, Res.bind_ok, hk, Res.of_some, Res.bind_ok, if_neg (by omega), wipe1]
  have hlim : (limC lo cs S.length).ro ≤ max lo.ro S.length := by
    unfold limC
    split
    · exact Nat.le_refl _
    · exact Nat.le_max_left _ _
  rw [turnsC_pure (p := p) (f := f) (by rw [List.length_set]; exact hi) its [] (fun c h => by rw [List.set_set, ht c h _ hlim]; rfl) (fun c h q => by rw [List.set_set, he c h q _ hlim]; rfl), Res.bind_ok]
  simp
theorem turnsC_pureM {β : Type} {test : Rho → Stg → Res Bool} {elt : Rho → Stg → Res Cell} {i : Nat} {g : β → Cell} {p : β → Bool} {f : β → Cell} (hi : i < ρ.length) :
    ∀ (us : List β) (acc : List Cell), (∀ u ∈ us, test (ρ.set i (some (g u))) S = .ok (p u) S) → (∀ u ∈ us, p u = true → elt (ρ.set i (some (g u))) S = .ok (f u) S) →
      turnsC (.slot i) test elt ρ (us.map g) acc S = .ok (acc ++ (us.filter p).map f) S
  | [], acc, _, _ => by simp
  | c :: us, acc, ht, he => by
    rw [List.map_cons, turnsC, setTg_slot, if_pos hi]
    dsimp only
    rw [ht c List.mem_cons_self, Res.bind_ok]
    cases hp : p c with
    | false =>
      dsimp only
      rw [turnsC_pureM hi us acc (fun c h => ht c (List.mem_cons_of_mem _ h)) (fun c h => he c (List.mem_cons_of_mem _ h)), List.filter_cons_of_neg (by simp [hp])]
    | true =>
      dsimp only
      rw [he c List.mem_cons_self hp, Res.bind_ok, turnsC_pureM hi us (acc ++ [f c]) (fun c h => ht c (List.mem_cons_of_mem _ h)) (fun c h => he c (List.mem_cons_of_mem _ h)), List.filter_cons_of_pos (by simp [hp])]
      simp
theorem comp_pureM {β : Type} {k : Itk} {as ifs : List CE} {e : CE} {i : Nat} {cs : List Cell} (us : List β) (g : β → Cell) (p : β → Bool) (f : β → Cell) (hi : i < ρ.length) (ha : evs Φ lo as ρ S = .ok cs S) (hk : items S k cs = some (us.map g)) (hl : us.length ≤ sizeLine)
    (ht : ∀ u ∈ us, ∀ l : Lim, l.ro ≤ max lo.ro S.length → evT Φ l ifs (ρ.set i (some (g u))) S = .ok (p u) S) (he : ∀ u ∈ us, p u = true → ∀ l : Lim, l.ro ≤ max lo.ro S.length → ev Φ l e (ρ.set i (some (g u))) S = .ok (f u) S) :
    evV Φ lo (.comp (.slot i) k as ifs e) ρ S = .ok (.l ((us.filter p).map f)) S := by
  rw [evV_comp, ha, Res.bind_ok, hk, Res.of_some, Res.bind_ok, if_neg (by rw [List.length_map]; omega), wipe1]
  have hlim : (limC lo cs S.length).ro ≤ max lo.ro S.length := by
    unfold limC
    split
    · exact Nat.le_refl _
    · exact Nat.le_max_left _ _
  rw [turnsC_pureM (p := p) (f := f) (by rw [List.length_set]; exact hi) us [] (fun c h => by rw [List.set_set, ht c h _ hlim]; rfl) (fun c h q => by rw [List.set_set, he c h q _ hlim]; rfl), Res.bind_ok]
  simp
/-- a comprehension whose turns write: what holds behind each turn -/
theorem turnsC_inv {test : Rho → Stg → Res Bool} {elt : Rho → Stg → Res Cell} {i : Nat} (hi : i < ρ.length) (J : Nat → List Cell → Stg → Prop) :
    ∀ (its : List Cell) (n : Nat) (acc : List Cell) (S : Stg), J n acc S →
      (∀ (m : Nat) (c : Cell), its[m]? = some c → ∀ acc S, J (n + m) acc S → ∃ b S1, test (ρ.set i (some c)) S = .ok b S1 ∧ (b = false → J (n + m + 1) acc S1) ∧ (b = true → ∃ x S2, elt (ρ.set i (some c)) S1 = .ok x S2 ∧ J (n + m + 1) (acc ++ [x]) S2)) →
      ∃ acc' S', turnsC (.slot i) test elt ρ its acc S = .ok acc' S' ∧ J (n + its.length) acc' S'
  | [], n, acc, S, h, _ => ⟨acc, S, by simp, h⟩
  | c :: its, n, acc, S, h, hs => by
    obtain ⟨b, S1, e1, h1, h2⟩ := hs 0 c rfl acc S h
    rw [turnsC, setTg_slot, if_pos hi]
    dsimp only
    rw [e1, Res.bind_ok]
    have rest : ∀ (acc : List Cell) (S : Stg), J (n + 1) acc S → ∃ acc' S', turnsC (.slot i) test elt ρ its acc S = .ok acc' S' ∧ J (n + (c :: its).length) acc' S' := fun acc S h => by
      obtain ⟨acc', S', q, r⟩ := turnsC_inv hi J its (n + 1) acc S h fun m d hm acc S hJ => by
        have := hs (m + 1) d hm acc S (by rw [show n + (m + 1) = n + 1 + m by omega]; exact hJ)
        rw [show n + (m + 1) + 1 = n + 1 + m + 1 by omega] at this
        exact this
      exact ⟨acc', S', q, by rw [List.length_cons, show n + (its.length + 1) = n + 1 + its.length by omega]; exact r⟩
    cases b with
    | false => exact rest acc S1 (h1 rfl)
    | true =>
      obtain ⟨x, S2, e2, h3⟩ := h2 rfl
      dsimp only
      rw [e2, Res.bind_ok]
      exact rest _ S2 h3
theorem comp_inv {k : Itk} {as ifs : List CE} {e : CE} {i : Nat} {cs its : List Cell} {S0 : Stg} (hi : i < ρ.length) (J : Nat → List Cell → Stg → Prop) (ha : evs Φ lo as ρ S0 = .ok cs S) (hk : items S k cs = some its) (hl : its.length ≤ sizeLine) (h0 : J 0 [] S)
    (hs : ∀ (m : Nat) (c : Cell), its[m]? = some c → ∀ acc S', J m acc S' → ∃ b S1, evT Φ (limC lo cs S.length) ifs (ρ.set i (some c)) S' = .ok b S1 ∧ (b = false → J (m + 1) acc S1) ∧ (b = true → ∃ x S2, ev Φ (limC lo cs S.length) e (ρ.set i (some c)) S1 = .ok x S2 ∧ J (m + 1) (acc ++ [x]) S2)) :
    ∃ xs S', evV Φ lo (.comp (.slot i) k as ifs e) ρ S0 = .ok (.l xs) S' ∧ J its.length xs S' := by
  rw [evV_comp, ha, Res.bind_ok, hk, Res.of_some, Res.bind_ok, if_neg (by omega), wipe1]
  obtain ⟨acc', S', q, r⟩ := turnsC_inv (test := fun ρ1 S2 => (evT Φ (limC lo cs S.length) ifs ρ1 S2).noX) (elt := fun ρ1 S2 => (ev Φ (limC lo cs S.length) e ρ1 S2).noX) (ρ := ρ.set i none) (i := i) (by rw [List.length_set]; exact hi) J its 0 [] S h0 fun m c hm acc S' hJ => by
    rw [Nat.zero_add] at hJ ⊢
    obtain ⟨b, S1, e1, h1, h2⟩ := hs m c hm acc S' hJ
    refine ⟨b, S1, by rw [List.set_set, e1]; rfl, h1, fun hb => ?_⟩
    obtain ⟨x, S2, e2, h3⟩ := h2 hb
    exact ⟨x, S2, by rw [List.set_set, e2]; rfl, h3⟩
  rw [q, Res.bind_ok]
  rw [Nat.zero_add] at r
  exact ⟨acc', S', rfl, r⟩
/-- a loop -/
theorem turnsS_inv {body : Rho → Stg → Res Out} {i : Nat} (J : Nat → Rho → Stg → Prop) (hJ : ∀ n ρ S, J n ρ S → i < ρ.length) :
    ∀ (its : List Cell) (n : Nat) (ρ : Rho) (S : Stg), J n ρ S →
      (∀ (m : Nat) (c : Cell), its[m]? = some c → ∀ ρ S, J (n + m) ρ S → ∃ ρ' S1, body (ρ.set i (some c)) S = .ok (.next ρ') S1 ∧ J (n + m + 1) ρ' S1) →
      ∃ ρ' S', turnsS (.slot i) body its ρ S = .ok (.next ρ') S' ∧ J (n + its.length) ρ' S'
  | [], n, ρ, S, h, _ => ⟨ρ, S, by simp, h⟩
  | c :: its, n, ρ, S, h, hs => by
    obtain ⟨ρ1, S1, e1, h1⟩ := hs 0 c rfl ρ S h
    rw [turnsS, setTg_slot, if_pos (hJ _ _ _ h)]
    dsimp only
    rw [e1, Res.bind_ok]
    obtain ⟨ρ', S', q, r⟩ := turnsS_inv J hJ its (n + 1) ρ1 S1 h1 fun m d hm ρ S hj => by
      have := hs (m + 1) d hm ρ S (by rw [show n + (m + 1) = n + 1 + m by omega]; exact hj)
      rw [show n + (m + 1) + 1 = n + 1 + m + 1 by omega] at this
      exact this
    exact ⟨ρ', S', q, by rw [List.length_cons, show n + (its.length + 1) = n + 1 + its.length by omega]; exact r⟩
/-! ### texts in lists -/
theorem flats_strs : ∀ ys : List Str, flats ((ys.map D.str).map Cell.d) = some (ys.map V.str)
  | [] => rfl
  | y :: r => by
    rw [List.map_cons, List.map_cons, flats, flats_strs r]
    rfl
theorem inV_strs (x : Str) : ∀ ys : List Str, inV (.str x) (ys.map V.str) = decide (x ∈ ys)
  | [] => rfl
  | y :: r => by
    have ih := inV_strs x r
    unfold inV at ih ⊢
    rw [List.map_cons, List.any_cons, ih]
    rw [Bool.eq_iff_iff]
    simp [eqV]
    exact ⟨fun h => h.elim (fun e => .inl e.symm) .inr, fun h => h.elim (fun e => .inl e.symm) .inr⟩
theorem p_in_tup (x : Str) (ys : List Str) : primR lo (.cmp .In) [.d (.str x), .d (.tup (ys.map D.str))] S = .ok (.v (.d (.bl (decide (x ∈ ys))))) S := by
  show (match (ovB (inSem S (.d (.str x)) (.d (.tup (ys.map D.str))))).map fun p => (p, S) with | some (v, S') => Res.ok v S' | none => .bad) = _
  have e : inSem S (.d (.str x)) (.d (.tup (ys.map D.str))) = some (decide (x ∈ ys)) := by
    show (match flatC (.d (.str x)), flats ((ys.map D.str).map Cell.d) with | some v, some vs => some (inV v vs) | _, _ => _) = _
    rw [flats_strs]
    show some (inV (.str x) (ys.map V.str)) = _
    rw [inV_strs]
  rw [e]; rfl
theorem strsOf_map : ∀ ys : List Str, strsOf ((ys.map D.str).map Cell.d) = some ys
  | [] => rfl
  | y :: r => by rw [List.map_cons, List.map_cons, strsOf, strsOf_map r]; rfl
theorem p_sortedSet {xs : List Str} (h : xs.length < 64) : primR lo .sortedSet [.d (.lst (xs.map D.str))] S = .ok (.l (((sortSet xs).map D.str).map .d)) S := by
  show (match ((viewL S (.d (.lst (xs.map D.str)))).bind fun cs => (strsOf cs).bind fun xs => if xs.length < 64 then some (PV.l ((sortSet xs).map fun x => .d (.str x))) else none).map fun p => (p, S) with | some (v, S') => Res.ok v S' | none => .bad) = _
  rw [show viewL S (.d (.lst (xs.map D.str))) = some ((xs.map D.str).map .d) from rfl, Option.bind_some, strsOf_map, Option.bind_some, if_pos h, List.map_map]
  rfl
theorem pls_strs : ∀ {xs : List Str}, (∀ x ∈ xs, PyData.strOk x = true) → Pls (xs.map D.str) = true
  | [], _ => rfl
  | x :: r, h => by
    rw [List.map_cons, Pls, pls_strs (fun y hy => h y (List.mem_cons_of_mem _ hy))]
    show (PyData.strOk x && true) = true
    rw [h x List.mem_cons_self]; rfl
theorem deps_strs : ∀ (xs : List Str), deps (xs.map D.str) = 0
  | [] => rfl
  | x :: r => by rw [List.map_cons, deps, deps_strs r]; rfl
end
end Mi
namespace La
open PySem PySem.Spec L2 Mi
abbrev Pr : Program := PySem.Challenge.pw_strangemill_k26_whole_marks
def top (i : Nat) : Stmt := Pr.main.body.getD i (.Pass ⟨0, 0, 0, 0⟩)
def cr_0 : List CS := [.ite (.or (.prim (.cmp .Eq) [.var 0, .cst (.str "any")]) (.prim (.cmp .Eq) [.var 0, .var 1])) [.ret (.cst (.bl true))] [], .ite (.or (.prim .not [.prim (.isinst .tup) [.var 0, .cst (.ty "tuple")]]) (.prim .not [.prim (.isinst .tup) [.var 1, .cst (.ty "tuple")]])) [.ret (.cst (.bl false))] [], .ret (.prim .all_ [.comp (.slot 2) .plain [.var 0] [] (.prim (.cmp .In) [.var 2, .var 1])])]
def d_0 : DefI := ⟨"covers", ["mark", "other", "name"], ["mark", "other"], defArgs (top 2), defBody (top 2), defScope (top 2), [], cr_0⟩
def cr_1 : List CS := [.ite (.prim (.cmp .Eq) [.var 0, .var 1]) [.ret (.var 0)] [], .ite (.and (.prim (.isinst .tup) [.var 0, .cst (.ty "tuple")]) (.prim (.isinst .tup) [.var 1, .cst (.ty "tuple")])) [.ret (.prim .tuple_ [.comp (.slot 2) .plain [.var 0] [.prim (.cmp .In) [.var 2, .var 1]] (.var 2)])] [], .ret (.cst (.str "any"))]
def d_1 : DefI := ⟨"in_common", ["mark", "other", "name"], ["mark", "other"], defArgs (top 3), defBody (top 3), defScope (top 3), [], cr_1⟩
def cr_2 : List CS := [.setIx (.prim (.bin .Add) [.prim .item [.var 0, .cst (.int 2)], .cst (.int 1)]) (.var 0) (.cst (.int 2)), .ite (.and (.prim (.cmp .Eq) [.prim .item [.var 0, .cst (.int 1)], .cst (.int 0)]) (.prim (.cmp .NotEq) [.prim .item [.var 0, .cst (.int 0)], .prim .lst []])) [.setIx (.meth .lst .popAt (.prim .item [.var 0, .cst (.int 0)]) [.cst (.int 0)]) (.var 0) (.cst (.int 1)), .ite (.prim (.cmp .Lt) [.prim .item [.var 0, .cst (.int 1)], .prim (.bin .Pow) [.cst (.int 10), .cst (.int 18)]]) [.setIx (.prim (.bin .Mod) [.prim (.bin .Add) [.prim (.bin .Mult) [.prim .item [.var 0, .cst (.int 3)], .cst (.int 39373)], .prim .item [.var 0, .cst (.int 1)]], .cst (.int 2147483647)]) (.var 0) (.cst (.int 3)), .setIx (.cst (.int 0)) (.var 0) (.cst (.int 1))] []] [], .ite (.prim (.cmp .Gt) [.prim .item [.var 0, .cst (.int 1)], .cst (.int 0)]) [.asg (.slot 2) (.prim (.bin .Mod) [.prim .item [.var 0, .cst (.int 1)], .var 1]), .setIx (.prim (.bin .FloorDiv) [.prim .item [.var 0, .cst (.int 1)], .var 1]) (.var 0) (.cst (.int 1)), .ret (.var 2)] [], .asg (.slot 2) (.prim (.bin .Mod) [.prim (.bin .Pow) [.prim (.bin .Add) [.prim (.bin .Add) [.prim .item [.var 0, .cst (.int 3)], .prim (.bin .Mult) [.cst (.int 7919), .prim .item [.var 0, .cst (.int 2)]]], .cst (.int 104729)], .cst (.int 5)], .cst (.int 2147483647)]), .ret (.prim (.bin .Mod) [.prim (.bin .Mod) [.prim (.bin .Mult) [.prim (.bin .Add) [.var 2, .prim .item [.var 0, .cst (.int 2)]], .cst (.int 48271)], .cst (.int 2147483629)], .var 1])]
def d_2 : DefI := ⟨"_law_draw", ["_law_stream", "_law_many", "_law_number"], ["_law_stream", "_law_many"], defArgs (top 5), defBody (top 5), defScope (top 5), [], cr_2⟩
def cr_3 : List CS := [.ite (.or (.prim .not [.prim (.isinst .tup) [.var 0, .cst (.ty "tuple")]]) (.prim .not [.prim (.isinst .tup) [.var 1, .cst (.ty "tuple")]])) [.ret (.or (.prim (.cmp .Eq) [.var 0, .cst (.str "any")]) (.prim (.cmp .Eq) [.var 0, .var 1]))] [], .ret (.prim .all_ [.comp (.slot 2) .plain [.var 0] [] (.prim (.cmp .In) [.var 2, .var 1])])]
def d_3 : DefI := ⟨"_law_covers", ["_law_mark", "_law_other", "_law_name"], ["_law_mark", "_law_other"], defArgs (top 6), defBody (top 6), defScope (top 6), [], cr_3⟩
def cr_4 : List CS := [.ite (.and (.prim (.isinst .tup) [.var 0, .cst (.ty "tuple")]) (.prim (.isinst .tup) [.var 1, .cst (.ty "tuple")])) [.ret (.prim .tuple_ [.comp (.slot 2) .plain [.var 0] [.prim (.cmp .In) [.var 2, .var 1]] (.var 2)])] [], .ret (.prim .item [.prim .lst [.cst (.str "any"), .var 0], .prim .int_ [.prim (.cmp .Eq) [.var 0, .var 1]]])]
def d_4 : DefI := ⟨"_law_common", ["_law_mark", "_law_other", "_law_name"], ["_law_mark", "_law_other"], defArgs (top 7), defBody (top 7), defScope (top 7), [], cr_4⟩
def cr_5 : List CS := [.asg (.slot 2) (.call 2 [.var 0, .cst (.int 5)]), .ite (.prim (.cmp .Lt) [.var 2, .cst (.int 2)]) [.ret (.prim .item [.prim .lst [.cst (.str "any"), .cst (.str "num")], .var 2])] [], .ret (.prim .tuple_ [.comp (.slot 3) .plain [.var 1] [.prim (.cmp .Gt) [.call 2 [.var 0, .cst (.int 3)], .cst (.int 0)]] (.var 3)])]
def d_5 : DefI := ⟨"_law_drawn_mark", ["_law_stream", "_law_names", "_law_way", "_law_name"], ["_law_stream", "_law_names"], defArgs (top 8), defBody (top 8), defScope (top 8), [], cr_5⟩
def cr_6 : List CS := [.own 1 (.lst [.own (.prim .list_ [.var 0]), .e (.cst (.int 0)), .e (.cst (.int 0)), .e (.cst (.int 0))]), .asg (.slot 2) (.cst (.str "ABCDEFGHIJKLMNOPQRSTUVWXYZ")), .asg (.slot 3) (.comp (.slot 8) .range1 [.call 2 [.var 1, .cst (.int 10)]] [] (.prim (.bin .Add) [.prim .item [.var 2, .call 2 [.var 1, .cst (.int 26)]], .prim .item [.cst (.str "abz09"), .call 2 [.var 1, .cst (.int 5)]]])), .asg (.slot 3) (.prim .sortedSet [.var 3]), .asg (.slot 4) (.comp (.slot 8) .range1 [.cst (.int 3)] [] (.call 5 [.var 1, .var 3])), .forS (.slot 5) .plain [.var 4] [.forS (.slot 7) .plain [.var 4] [.asg (.slot 9) (.call 1 [.var 5, .var 7]), .ite (.or (.prim (.cmp .NotEq) [.var 9, .call 4 [.var 5, .var 7]]) (.prim (.cmp .NotEq) [.prim (.isinst .str) [.var 9, .cst (.ty "str")], .prim (.isinst .str) [.call 4 [.var 5, .var 7], .cst (.ty "str")]])) [.ret (.cst (.bl false))] [], .ite (.or (.prim (.cmp .NotEq) [.var 9, .call 1 [.var 7, .var 5]]) (.prim (.cmp .NotEq) [.call 0 [.var 5, .var 7], .call 3 [.var 5, .var 7]])) [.ret (.cst (.bl false))] [], .asg (.slot 10) (.and (.call 0 [.var 9, .var 5]) (.call 0 [.var 9, .var 7])), .asg (.slot 11) (.comp (.slot 12) .plain [.var 4] [.and (.call 0 [.var 12, .var 5]) (.call 0 [.var 12, .var 7])] (.var 12)), .ite (.or (.prim .not [.var 10]) (.prim .not [.prim .all_ [.comp (.slot 12) .plain [.var 11] [] (.call 0 [.var 12, .var 9])]])) [.ret (.cst (.bl false))] []]], .asg (.slot 6) (.call 1 [.call 1 [.prim .item [.var 4, .cst (.int 0)], .prim .item [.var 4, .cst (.int 1)]], .prim .item [.var 4, .cst (.int 2)]]), .ret (.prim (.cmp .Eq) [.var 6, .call 1 [.prim .item [.var 4, .cst (.int 0)], .call 1 [.prim .item [.var 4, .cst (.int 1)], .prim .item [.var 4, .cst (.int 2)]]]])]
def d_6 : DefI := ⟨"law", ["_law_script", "_law_stream", "_law_letters", "_law_names", "_law_marks", "_law_one", "_law_left", "_law_other", "_law_k", "_law_found", "_law_both", "_law_upper", "_law_mark"], ["_law_script"], defArgs (top 9), defBody (top 9), defScope (top 9), ["_law_stream"], cr_6⟩
def pg : Prog := ⟨[d_0, d_1, d_2, d_3, d_4, d_5, d_6], [("ANY", .str "any")], ["len", "int", "tuple", "list", "all", "any", "isinstance", "range", "str", "bool", "dict", "sorted", "set", "zip", "enumerate", "reversed", "sum", "min", "max", "abs"]⟩
theorem ok_0 : d_0.Ok pg := ⟨scopeB_ok (by decide +kernel), 80, by kernel_rfl⟩
theorem bd_0 : BdOk d_0 := fun _ _ _ _ _ _ us hl => match us, hl with | [_, _], _ => rfl
theorem ok_1 : d_1.Ok pg := ⟨scopeB_ok (by decide +kernel), 80, by kernel_rfl⟩
theorem bd_1 : BdOk d_1 := fun _ _ _ _ _ _ us hl => match us, hl with | [_, _], _ => rfl
theorem ok_2 : d_2.Ok pg := ⟨scopeB_ok (by decide +kernel), 80, by kernel_rfl⟩
theorem bd_2 : BdOk d_2 := fun _ _ _ _ _ _ us hl => match us, hl with | [_, _], _ => rfl
theorem ok_3 : d_3.Ok pg := ⟨scopeB_ok (by decide +kernel), 80, by kernel_rfl⟩
theorem bd_3 : BdOk d_3 := fun _ _ _ _ _ _ us hl => match us, hl with | [_, _], _ => rfl
theorem ok_4 : d_4.Ok pg := ⟨scopeB_ok (by decide +kernel), 80, by kernel_rfl⟩
theorem bd_4 : BdOk d_4 := fun _ _ _ _ _ _ us hl => match us, hl with | [_, _], _ => rfl
theorem ok_5 : d_5.Ok pg := ⟨scopeB_ok (by decide +kernel), 80, by kernel_rfl⟩
theorem bd_5 : BdOk d_5 := fun _ _ _ _ _ _ us hl => match us, hl with | [_, _], _ => rfl
theorem ok_6 : d_6.Ok pg := ⟨scopeB_ok (by decide +kernel), 80, by kernel_rfl⟩
theorem bd_6 : BdOk d_6 := fun _ _ _ _ _ _ us hl => match us, hl with | [_], _ => rfl
theorem good : pg.Good where
  ok := fun d h => by
    simp only [pg, List.mem_cons, List.not_mem_nil, or_false] at h
    rcases h with rfl | rfl | rfl | rfl | rfl | rfl | rfl
    · exact ok_0
    · exact ok_1
    · exact ok_2
    · exact ok_3
    · exact ok_4
    · exact ok_5
    · exact ok_6
  bd := fun d h => by
    simp only [pg, List.mem_cons, List.not_mem_nil, or_false] at h
    rcases h with rfl | rfl | rfl | rfl | rfl | rfl | rfl
    · exact bd_0
    · exact bd_1
    · exact bd_2
    · exact bd_3
    · exact bd_4
    · exact bd_5
    · exact bd_6
  con := by decide +kernel
end La
/-! K26: marks, in plain. -/
namespace La
open PySem PySem.Spec L2 Mi
inductive Mk where
  | any | num | tup (xs : List Str)
  deriving DecidableEq
def Mk.D : Mk → D
  | .any => .str "any"
  | .num => .str "num"
  | .tup xs => .tup (xs.map Mi.D.str)
/-- a mark of sub-tuples of L -/
def Mk.Of (L : List Str) : Mk → Prop
  | .tup xs => xs.Sublist L
  | _ => True
def cov : Mk → Mk → Bool
  | .tup xs, .tup ys => xs.all fun x => decide (x ∈ ys)
  | m, o => decide (m = .any) || decide (m = o)
def com : Mk → Mk → Mk
  | .tup xs, .tup ys => .tup (xs.filter fun x => decide (x ∈ ys))
  | m, o => if m = o then m else .any
/-! ### plain laws -/
theorem sub_filter {L xs : List Str} (nd : L.Nodup) (h : xs.Sublist L) : xs = L.filter fun x => decide (x ∈ xs) := by
  induction h with
  | slnil => rfl
  | cons a h ih =>
    rename_i l1 l2
    obtain ⟨n1, n2⟩ := List.nodup_cons.mp nd
    have : a ∉ l1 := fun q => n1 (h.subset q)
    rw [List.filter_cons_of_neg (by simpa using this)]
    exact ih n2
  | cons_cons a h ih =>
    rename_i l1 l2
    obtain ⟨n1, n2⟩ := List.nodup_cons.mp nd
    rw [List.filter_cons_of_pos (by simp)]
    congr 1
    rw [ih n2]
    apply List.filter_congr
    intro x hx
    have hxa : x ≠ a := fun e => n1 (e ▸ hx)
    rw [← ih n2]
    simp [hxa]
theorem com_comm {L : List Str} (nd : L.Nodup) {m o : Mk} (hm : m.Of L) (ho : o.Of L) : com m o = com o m := by
  cases m <;> cases o <;> simp [com]
  rename_i xs ys
  have e1 := sub_filter nd hm
  have e2 := sub_filter nd ho
  conv => lhs; rw [e1, List.filter_filter]
  conv => rhs; rw [e2, List.filter_filter]
  apply List.filter_congr
  intro x hx
  exact Bool.and_comm _ _
theorem com_of {L : List Str} {m o : Mk} (hm : m.Of L) (ho : o.Of L) : (com m o).Of L := by
  cases m <;> cases o <;> simp [com, Mk.Of]
  exact (List.filter_sublist).trans hm
theorem com_assoc {m o p : Mk} : com (com m o) p = com m (com o p) := by
  cases m <;> cases o <;> cases p <;> simp [com]
  rename_i xs ys zs
  apply List.filter_congr
  intro x hx
  exact Bool.and_comm _ _
theorem cov_com_l {m o : Mk} : cov (com m o) m = true := by
  cases m <;> cases o <;> simp [com, cov]
  intro x hx; exact .inr hx
theorem cov_com_r {m o : Mk} : cov (com m o) o = true := by
  cases m <;> cases o <;> simp [com, cov]
theorem cov_up {m o u : Mk} (h1 : cov u m = true) (h2 : cov u o = true) : cov u (com m o) = true := by
  cases m <;> cases o <;> cases u <;> simp [com, cov] at *
  intro x hx
  exact ⟨h1 x hx, h2 x hx⟩
/-! ### the defs -/
def NmOk (L : List Str) : Prop := L.Nodup ∧ (∀ x ∈ L, PyData.strOk x = true) ∧ L.length ≤ 64
theorem mk_pl {L : List Str} (hL : NmOk L) {m : Mk} (h : m.Of L) : Pl m.D = true := by
  cases m with
  | any => decide +kernel
  | num => decide +kernel
  | tup xs => exact pls_strs fun x hx => hL.2.1 x (h.subset hx)
theorem mk_dep (m : Mk) : dep m.D ≤ 64 := by
  cases m with
  | any => decide
  | num => decide
  | tup xs => show deps _ + 1 ≤ 64; rw [deps_strs]; decide
theorem mk_inj {m o : Mk} : m.D = o.D ↔ m = o := by
  constructor
  · intro h
    cases m <;> cases o <;> simp [Mk.D] at h <;> first | rfl | (exact absurd h (by decide +kernel)) | skip
    rename_i xs ys
    congr 1
    exact List.map_inj_right (fun a b e => by injection e) |>.mp h
  · intro h; rw [h]
theorem mk_eqB (m o : Mk) : eqB m.D o.D = decide (m = o) := by
  rw [Bool.eq_iff_iff, eqB_iff, mk_inj]; simp
theorem any_D : (D.str "any" : D) = Mk.any.D := rfl
section
variable {lo : Lim} {S : Stg} {L : List Str} {m o : Mk}
theorem q_eq (hL : NmOk L) (hm : m.Of L) (ho : o.Of L) : primR lo (.cmp .Eq) [.d m.D, .d o.D] S = .ok (.v (.d (.bl (decide (m = o))))) S := by
  rw [p_eq rfl rfl (mk_pl hL hm) (mk_pl hL ho) (mk_dep _) (mk_dep _), mk_eqB]
theorem q_ne (hL : NmOk L) (hm : m.Of L) (ho : o.Of L) : primR lo (.cmp .NotEq) [.d m.D, .d o.D] S = .ok (.v (.d (.bl (!decide (m = o))))) S := by
  rw [p_ne rfl rfl (mk_pl hL hm) (mk_pl hL ho) (mk_dep _) (mk_dep _), mk_eqB]
def Mk.isT : Mk → Bool
  | .tup _ => true
  | _ => false
theorem q_isT (m : Mk) : primR lo (.isinst .tup) [.d m.D, .d (.ty "tuple")] S = .ok (.v (.d (.bl m.isT))) S := by
  cases m with
  | any => exact p_isi (t := .tup) (z := .str) rfl
  | num => exact p_isi (t := .tup) (z := .str) rfl
  | tup xs => exact p_isi (t := .tup) (z := .tup) rfl
theorem q_isS (m : Mk) : primR lo (.isinst .str) [.d m.D, .d (.ty "str")] S = .ok (.v (.d (.bl (!m.isT)))) S := by
  cases m with
  | any => exact p_isi (t := .str) (z := .str) rfl
  | num => exact p_isi (t := .str) (z := .str) rfl
  | tup xs => exact p_isi (t := .str) (z := .tup) rfl
variable {Φ : FT}
/-- all(name in other for name in mark), by a list -/
theorem allIn {ρ : Rho} {xs ys : List Str} (hx : xs.length ≤ 64) (e0 : ρ[0]? = some (some (.d (.tup (xs.map D.str))))) (e1 : ρ[1]? = some (some (.d (.tup (ys.map D.str))))) (h3 : 2 < ρ.length) :
    evV Φ lo (.comp (.slot 2) .plain [.var 0] [] (.prim (.cmp .In) [.var 2, .var 1])) ρ S = .ok (.l ((xs.map fun x => D.bl (decide (x ∈ ys))).map .d)) S := by
  rw [comp_pure (cs := [.d (.tup (xs.map D.str))]) (its := (xs.map D.str).map .d) (p := fun _ => true) (f := fun c => match c with | .d (.str x) => .d (.bl (decide (x ∈ ys))) | c => c) h3 (by simp [e0]) rfl (by simp [sizeLine_eq]; omega) (fun c _ l _ => by simp) fun c hc _ l _ => ?_]
  · rw [List.filter_eq_self.mpr (fun _ _ => rfl)]
    simp [Function.comp_def]
  · rw [List.map_map, List.mem_map] at hc
    obtain ⟨x, _, rfl⟩ := hc
    simp [h3, e1, p_in_tup]
theorem filtIn {ρ : Rho} {xs ys : List Str} (hx : xs.length ≤ 64) (e0 : ρ[0]? = some (some (.d (.tup (xs.map D.str))))) (e1 : ρ[1]? = some (some (.d (.tup (ys.map D.str))))) (h3 : 2 < ρ.length) :
    evV Φ lo (.comp (.slot 2) .plain [.var 0] [.prim (.cmp .In) [.var 2, .var 1]] (.var 2)) ρ S = .ok (.l (((xs.filter fun x => decide (x ∈ ys)).map D.str).map .d)) S := by
  rw [comp_pure (cs := [.d (.tup (xs.map D.str))]) (its := (xs.map D.str).map .d) (p := fun c => match c with | .d (.str x) => decide (x ∈ ys) | _ => false) (f := fun c => c) h3 (by simp [e0]) rfl (by simp [sizeLine_eq]; omega) (fun c hc l _ => ?_) fun c hc _ l _ => ?_]
  · simp [List.filter_map, Function.comp_def]
  · rw [List.map_map, List.mem_map] at hc
    obtain ⟨x, _, rfl⟩ := hc
    simp [h3, e1, p_in_tup]
    cases decide (x ∈ ys) <;> rfl
  · simp [h3]
theorem len_of {xs : List Str} (hL : NmOk L) (h : xs.Sublist L) : xs.length ≤ 64 := Nat.le_trans h.length_le hL.2.2
theorem all_bl (xs ys : List Str) : primR lo .all_ [.d (.lst (xs.map fun x => D.bl (decide (x ∈ ys))))] S = .ok (.v (.d (.bl (xs.all fun x => decide (x ∈ ys))))) S := by
  have := p_all (lo := lo) (S := S) (xs.map fun x => decide (x ∈ ys))
  rw [List.map_map] at this
  rw [show (D.bl ∘ fun x => decide (x ∈ ys)) = fun x => D.bl (decide (x ∈ ys)) from rfl] at this
  rw [this]
  simp [List.all_map, Function.comp_def]
theorem fin_d (x : D) : finish S.length S (.d x) = .ok (.d x) S := by simp [Mi.finish]
theorem cov_ok (hL : NmOk L) (hm : m.Of L) (ho : o.Of L) (ro : Nat) : runF Φ ⟨2, 3, cr_0⟩ ro [.d m.D, .d o.D] S = .ok (.d (.bl (cov m o))) S := by
  have ha : Mk.any.Of L := trivial
  unfold runF
  rw [if_pos ⟨rfl, by decide⟩]
  unfold cr_0
  have e1 := fun lo => q_eq (lo := lo) (S := S) hL hm ha
  have e2 := fun lo => q_eq (lo := lo) (S := S) hL hm ho
  have e3 := fun lo => q_isT (lo := lo) (S := S) m
  have e4 := fun lo => q_isT (lo := lo) (S := S) o
  by_cases h1 : m = .any
  · subst h1
    simp [start0, any_D, e1, fin_d]
    cases o <;> rfl
  · by_cases h2 : m = o
    · subst h2
      simp [start0, any_D, e1, e2, h1, fin_d]
      cases m <;> simp [cov]
    · cases m <;> cases o <;> simp [start0, any_D, e1, e2, e3, e4, h1, h2, fin_d, Mk.isT, cov]
      rename_i xs ys
      have := allIn (Φ := Φ) (lo := ⟨S.length, ro⟩) (S := S) (ρ := [some (.d (Mk.tup xs).D), some (.d (Mk.tup ys).D), none]) (len_of hL hm) rfl rfl (by simp)
      rw [this]
      simp [-List.map_map, all_bl, fin_d]
theorem lcov_ok (hL : NmOk L) (hm : m.Of L) (ho : o.Of L) (ro : Nat) : runF Φ ⟨2, 3, cr_3⟩ ro [.d m.D, .d o.D] S = .ok (.d (.bl (cov m o))) S := by
  have ha : Mk.any.Of L := trivial
  unfold runF
  rw [if_pos ⟨rfl, by decide⟩]
  unfold cr_3
  have e1 := fun lo => q_eq (lo := lo) (S := S) hL hm ha
  have e2 := fun lo => q_eq (lo := lo) (S := S) hL hm ho
  have e3 := fun lo => q_isT (lo := lo) (S := S) m
  have e4 := fun lo => q_isT (lo := lo) (S := S) o
  by_cases h1 : m.isT = true ∧ o.isT = true
  · cases m <;> cases o <;> simp [Mk.isT] at h1
    rename_i xs ys
    have := allIn (Φ := Φ) (lo := ⟨S.length, ro⟩) (S := S) (ρ := [some (.d (Mk.tup xs).D), some (.d (Mk.tup ys).D), none]) (len_of hL hm) rfl rfl (by simp)
    simp [start0, e3, e4, Mk.isT]
    rw [this]
    simp [-List.map_map, all_bl, fin_d, cov]
  · cases m <;> cases o <;> simp [Mk.isT] at h1 <;> simp [start0, any_D, e1, e2, e3, e4, fin_d, Mk.isT, cov]
theorem com_ok (hL : NmOk L) (hm : m.Of L) (ho : o.Of L) (ro : Nat) : runF Φ ⟨2, 3, cr_1⟩ ro [.d m.D, .d o.D] S = .ok (.d (com m o).D) S := by
  unfold runF
  rw [if_pos ⟨rfl, by decide⟩]
  unfold cr_1
  have e2 := fun lo => q_eq (lo := lo) (S := S) hL hm ho
  have e3 := fun lo => q_isT (lo := lo) (S := S) m
  have e4 := fun lo => q_isT (lo := lo) (S := S) o
  by_cases h2 : m = o
  · subst h2
    simp [start0, e2, fin_d]
    cases m with
    | any => rfl
    | num => rfl
    | tup xs =>
      show Mk.D (.tup xs) = Mk.D (.tup (xs.filter fun x => decide (x ∈ xs)))
      rw [List.filter_eq_self.mpr fun x hx => decide_eq_true hx]
  · cases m <;> cases o <;> simp at h2 <;> simp [start0, any_D, e2, e3, e4, h2, fin_d, Mk.isT, com]
    rename_i xs ys
    have := filtIn (Φ := Φ) (lo := ⟨S.length, ro⟩) (S := S) (ρ := [some (.d (Mk.tup xs).D), some (.d (Mk.tup ys).D), none]) (len_of hL hm) rfl rfl (by simp)
    rw [this]
    simp [-List.map_map, fin_d]
    rfl
theorem lcom_ok (hL : NmOk L) (hm : m.Of L) (ho : o.Of L) (ro : Nat) : runF Φ ⟨2, 3, cr_4⟩ ro [.d m.D, .d o.D] S = .ok (.d (com m o).D) S := by
  unfold runF
  rw [if_pos ⟨rfl, by decide⟩]
  unfold cr_4
  have e2 := fun lo => q_eq (lo := lo) (S := S) hL hm ho
  have e3 := fun lo => q_isT (lo := lo) (S := S) m
  have e4 := fun lo => q_isT (lo := lo) (S := S) o
  by_cases h1 : m.isT = true ∧ o.isT = true
  · cases m <;> cases o <;> simp [Mk.isT] at h1
    rename_i xs ys
    have := filtIn (Φ := Φ) (lo := ⟨S.length, ro⟩) (S := S) (ρ := [some (.d (Mk.tup xs).D), some (.d (Mk.tup ys).D), none]) (len_of hL hm) rfl rfl (by simp)
    simp [start0, e3, e4, Mk.isT]
    rw [this]
    simp [-List.map_map, fin_d, com]
    rfl
  · have h3 : freeze S (.l [.d Mk.any.D, .d m.D]) = .ok (.d (.lst [Mk.any.D, m.D])) S := rfl
    cases m <;> cases o <;> simp [Mk.isT] at h1 <;> simp [start0, any_D, e2, e3, e4, fin_d, Mk.isT, com, p_lst, h3, sizeLine_eq]
end
/-! ### the draws -/
def Le (s : Stm) (n : Nat) : Prop := ∃ k, k ≤ n ∧ s.Ok k
theorem call_2 (k : Nat) {s : Stm} {n : Nat} (h : Le s n) (hn : n < 1000000000) {m : Int} (h0 : 0 < m) (h1 : m < 2 ^ 64) (R : Stg) (lo : Lim) (hr : lo.ro = 0) :
    callF pg.T (k + 1) 2 lo [.r 1, .d (.int m)] (s.ob R) = .ok (.d (.int (s.num m))) ((s.nx m).ob R) ∧ Le (s.nx m) (n + 1) := by
  obtain ⟨j, hj, ho⟩ := h
  refine ⟨?_, j + 1, by omega, ho.nx h0⟩
  show runF (callF pg.T k) ⟨2, 3, drawCore⟩ lo.ro [.r 1, .d (.int m)] (s.ob R) = _
  rw [hr]
  exact draw_ok _ s j R m ho (by omega) h0 h1
theorem mark_ok (k : Nat) {s : Stm} {n : Nat} (h : Le s n) (hn : n < 1000000) {L : List Str} (hL : NmOk L) (R : Stg) (lo : Lim) (hr : lo.ro = 0) :
    ∃ m s', callF pg.T (k + 2) 5 lo [.r 1, .d (.lst (L.map D.str))] (s.ob R) = .ok (.d (Mk.D m)) (Stm.ob s' R) ∧ m.Of L ∧ Le s' (n + 65) := by
  obtain ⟨e1, g1⟩ := call_2 k h (by omega) (m := 5) (by decide) (by decide) R ⟨(s.ob R).length, 0⟩ rfl
  obtain ⟨b1, b2⟩ := Stm.num_lt s (m := 5) (by decide)
  have hlen : ∀ s' : Stm, (s'.ob R).length = R.length + 2 := fun s' => rfl
  have fin : ∀ (x : D) (s' : Stm), Mi.finish (s.ob R).length (s'.ob R) (.d x) = .ok (.d x) (s'.ob R) := fun x s' => by
    rw [hlen s, ← hlen s']; exact fin_d x
  have unf : callF pg.T (k + 2) 5 lo [.r 1, .d (.lst (L.map D.str))] (s.ob R) = runF (callF pg.T (k + 1)) ⟨2, 4, cr_5⟩ lo.ro [.r 1, .d (.lst (L.map D.str))] (s.ob R) := rfl
  rw [unf, hr]
  unfold runF
  rw [if_pos ⟨rfl, by decide⟩]
  unfold cr_5
  generalize s.num 5 = w at *
  have hw : w = 0 ∨ w = 1 ∨ 2 ≤ w := by omega
  rcases hw with rfl | rfl | hw
  · refine ⟨.any, s.nx 5, ?_, trivial, by obtain ⟨j, hj, hk⟩ := g1; exact ⟨j, by omega, hk⟩⟩
    have f2 : ∀ S, freeze S (.l [.d (.str "any"), .d (.str "num")]) = .ok (.d (.lst [.str "any", .str "num"])) S := fun S => rfl
    simp [start0, e1, p_lst, sizeLine_eq, f2, fin]
    rfl
  · refine ⟨.num, s.nx 5, ?_, trivial, by obtain ⟨j, hj, hk⟩ := g1; exact ⟨j, by omega, hk⟩⟩
    have f2 : ∀ S, freeze S (.l [.d (.str "any"), .d (.str "num")]) = .ok (.d (.lst [.str "any", .str "num"])) S := fun S => rfl
    simp [start0, e1, p_lst, sizeLine_eq, f2, fin]
    rfl
  · have hlt : ¬ w < 2 := by omega
    obtain ⟨xs, S', q, s2, ys, rfl, hle, rfl, hsub⟩ := comp_inv (Φ := callF pg.T (k + 1)) (lo := ⟨(s.ob R).length, 0⟩) (ρ := [some (.r 1), some (.d (.lst (L.map D.str))), some (.d (.int w)), none]) (S0 := (s.nx 5).ob R) (S := (s.nx 5).ob R) (k := .plain) (as := [.var 1])
      (ifs := [.prim (.cmp .Gt) [.call 2 [.var 0, .cst (.int 3)], .cst (.int 0)]]) (e := .var 3) (i := 3) (cs := [.d (.lst (L.map D.str))]) (its := (L.map D.str).map .d) (by simp)
      (fun j acc S => ∃ (s' : Stm) (ys : List Str), S = s'.ob R ∧ Le s' (n + 1 + j) ∧ acc = (ys.map D.str).map .d ∧ ys.Sublist (L.take j)) (by simp) rfl (by simp [sizeLine_eq]; have := hL.2.2; omega)
      ⟨s.nx 5, [], rfl, g1, rfl, List.nil_sublist _⟩ (fun j c hc acc S ⟨s', ys, hS, hle, hacc, hsub⟩ => by
        subst hS
        subst hacc
        rw [List.map_map, List.getElem?_map] at hc
        obtain ⟨x, hx, rfl⟩ := Option.map_eq_some_iff.mp hc
        have hj : j < L.length := (List.getElem?_eq_some_iff.mp hx).1
        obtain ⟨d1, d2⟩ := call_2 k hle (by have := hL.2.2; omega) (m := 3) (by decide) (by decide) R ⟨(s.ob R).length, 0⟩ rfl
        have tk : L.take (j + 1) = L.take j ++ [x] := by rw [List.take_add_one, hx]; rfl
        refine ⟨decide (0 < s'.num 3), (s'.nx 3).ob R, ?_, fun _ => ⟨s'.nx 3, ys, rfl, d2, rfl, ?_⟩, fun _ => ⟨.d (.str x), (s'.nx 3).ob R, ?_, s'.nx 3, ys ++ [x], rfl, d2, by simp, ?_⟩⟩
        · have el : limC ⟨(s.ob R).length, 0⟩ [.d (.lst (L.map D.str))] ((s.nx 5).ob R).length = ⟨(s.ob R).length, 0⟩ := rfl
          rw [el]
          simp [d1]
          cases decide (0 < s'.num 3) <;> rfl
        · rw [tk]; exact hsub.trans (List.sublist_append_left _ _)
        · simp
        · rw [tk]; exact hsub.append (List.Sublist.refl _))
    refine ⟨.tup ys, s2, ?_, ?_, ?_⟩
    · simp [start0, e1, hlt]
      rw [q]
      simp [-List.map_map, fin]
      rfl
    · have : ys.Sublist (L.take ((L.map D.str).map Cell.d).length) := hsub
      exact this.trans (List.take_sublist _ _)
    · obtain ⟨j, hj, hk⟩ := hle
      refine ⟨j, ?_, hk⟩
      have := hL.2.2
      simp at hj
      omega
/-! ### the law's loops -/
def mD (ms : List Mk) : Cell := .d (.lst (ms.map Mk.D))
def rh (x0 x1 x2 x3 : Option Cell) (ms : List Mk) (x5 x6 x7 x8 x9 x10 x11 x12 : Option Cell) : Rho := [x0, x1, x2, x3, some (mD ms), x5, x6, x7, x8, x9, x10, x11, x12]
def inner : List CS := [.asg (.slot 9) (.call 1 [.var 5, .var 7]), .ite (.or (.prim (.cmp .NotEq) [.var 9, .call 4 [.var 5, .var 7]]) (.prim (.cmp .NotEq) [.prim (.isinst .str) [.var 9, .cst (.ty "str")], .prim (.isinst .str) [.call 4 [.var 5, .var 7], .cst (.ty "str")]])) [.ret (.cst (.bl false))] [], .ite (.or (.prim (.cmp .NotEq) [.var 9, .call 1 [.var 7, .var 5]]) (.prim (.cmp .NotEq) [.call 0 [.var 5, .var 7], .call 3 [.var 5, .var 7]])) [.ret (.cst (.bl false))] [], .asg (.slot 10) (.and (.call 0 [.var 9, .var 5]) (.call 0 [.var 9, .var 7])), .asg (.slot 11) (.comp (.slot 12) .plain [.var 4] [.and (.call 0 [.var 12, .var 5]) (.call 0 [.var 12, .var 7])] (.var 12)), .ite (.or (.prim .not [.var 10]) (.prim .not [.prim .all_ [.comp (.slot 12) .plain [.var 11] [] (.call 0 [.var 12, .var 9])]])) [.ret (.cst (.bl false))] []]
section
variable {k : Nat} {L : List Str} {m o : Mk} {lo : Lim} {S : Stg}
theorem c0 (hL : NmOk L) (hm : m.Of L) (ho : o.Of L) : callF pg.T (k + 1) 0 lo [.d m.D, .d o.D] S = .ok (.d (.bl (cov m o))) S := cov_ok hL hm ho lo.ro
theorem c1 (hL : NmOk L) (hm : m.Of L) (ho : o.Of L) : callF pg.T (k + 1) 1 lo [.d m.D, .d o.D] S = .ok (.d (com m o).D) S := com_ok hL hm ho lo.ro
theorem c3 (hL : NmOk L) (hm : m.Of L) (ho : o.Of L) : callF pg.T (k + 1) 3 lo [.d m.D, .d o.D] S = .ok (.d (.bl (cov m o))) S := lcov_ok hL hm ho lo.ro
theorem c4 (hL : NmOk L) (hm : m.Of L) (ho : o.Of L) : callF pg.T (k + 1) 4 lo [.d m.D, .d o.D] S = .ok (.d (com m o).D) S := lcom_ok hL hm ho lo.ro
theorem inner_ok (hL : NmOk L) {ms : List Mk} (hms : ∀ m ∈ ms, m.Of L) (hl : ms.length ≤ 64) (hm : m.Of L) (ho : o.Of L) (x0 x1 x2 x3 x6 x8 x9 x10 x11 x12 : Option Cell) :
    ∃ y9 y10 y11, exs (callF pg.T (k + 1)) lo inner (rh x0 x1 x2 x3 ms (some (.d m.D)) x6 (some (.d o.D)) x8 x9 x10 x11 x12) S = .ok (.next (rh x0 x1 x2 x3 ms (some (.d m.D)) x6 (some (.d o.D)) x8 y9 y10 y11 x12)) S := by
  have hc := com_of hm ho
  have q1 := comp_pureM (Φ := callF pg.T (k + 1)) (lo := lo) (S := S) (ρ := rh x0 x1 x2 x3 ms (some (.d m.D)) x6 (some (.d o.D)) x8 (some (.d (com m o).D)) (some (.d (.bl true))) x11 x12) (k := .plain) (as := [.var 4]) (ifs := [.and (.call 0 [.var 12, .var 5]) (.call 0 [.var 12, .var 7])])
    (e := .var 12) (i := 12) (cs := [mD ms]) ms (fun u => .d u.D) (fun u => cov u m && cov u o) (fun u => .d u.D) (by simp [rh]) (by simp [rh]) (by show some ((ms.map Mk.D).map Cell.d) = _; rw [List.map_map]; rfl) (by rw [sizeLine_eq]; omega)
    (fun u hu l _ => by
      simp [rh, c0 hL (hms u hu) hm]
      cases cov u m <;> simp [c0 hL (hms u hu) ho]
      cases cov u o <;> rfl)
    (fun u hu _ l _ => by simp [rh])
  have q2 := comp_pureM (Φ := callF pg.T (k + 1)) (lo := lo) (S := S) (ρ := rh x0 x1 x2 x3 ms (some (.d m.D)) x6 (some (.d o.D)) x8 (some (.d (com m o).D)) (some (.d (.bl true))) (some (mD (ms.filter fun u => cov u m && cov u o))) x12) (k := .plain) (as := [.var 11]) (ifs := [])
    (e := .call 0 [.var 12, .var 9]) (i := 12) (cs := [mD (ms.filter fun u => cov u m && cov u o)]) (ms.filter fun u => cov u m && cov u o) (fun u => .d u.D) (fun u => true) (fun u => .d (.bl (cov u (com m o)))) (by simp [rh]) (by simp [rh]) (by show some (((ms.filter _).map Mk.D).map Cell.d) = _; rw [List.map_map]; rfl)
    (by rw [sizeLine_eq]; have := List.length_filter_le (fun u => cov u m && cov u o) ms; omega)
    (fun u hu l _ => by simp) (fun u hu _ l _ => by simp [rh, c0 hL (hms u (List.mem_filter.mp hu).1) hc])
  have f1 : freeze S (.l ((ms.filter fun u => cov u m && cov u o).map fun u => .d u.D)) = .ok (mD (ms.filter fun u => cov u m && cov u o)) S := by
    have := freeze_ds (S := S) ((ms.filter fun u => cov u m && cov u o).map Mk.D)
    rw [List.map_map] at this
    exact this
  have f2 : ∀ us : List Mk, freeze S (.l (us.map fun u => .d (.bl (cov u (com m o))))) = .ok (.d (.lst ((us.map fun u => cov u (com m o)).map D.bl))) S := fun us => by
    have := freeze_ds (S := S) ((us.map fun u => cov u (com m o)).map D.bl)
    rw [List.map_map, List.map_map] at this
    exact this
  have a1 : ((ms.filter fun u => cov u m && cov u o).map fun u => cov u (com m o)).all id = true := by
    rw [List.all_map, List.all_eq_true]
    intro u hu
    have hu2 := (List.mem_filter.mp hu).2
    rw [Bool.and_eq_true] at hu2
    exact cov_up hu2.1 hu2.2
  refine ⟨some (.d (com m o).D), some (.d (.bl true)), some (mD (ms.filter fun u => cov u m && cov u o)), ?_⟩
  unfold inner
  unfold rh at q1 q2 ⊢
  simp [-List.map_map, c1 hL hm ho, c1 hL ho hm, c4 hL hm ho, c0 hL hm ho, c3 hL hm ho, q_ne hL hc hc, q_isS, com_comm hL.1 ho hm, c0 hL hc hm, c0 hL hc ho, cov_com_l, cov_com_r, q1, f1, q2, f2, p_all, a1]
end
end La
namespace La
open PySem PySem.Spec L2 Mi
def outer : List CS := [.forS (.slot 7) .plain [.var 4] inner]
section
variable {k : Nat} {L : List Str} {lo : Lim} {S : Stg}
def InvR (x0 x1 x2 x3 : Option Cell) (ms : List Mk) (S : Stg) (n : Nat) (ρ : Rho) (S' : Stg) : Prop := S' = S ∧ ∃ x5 x6 x7 x8 x9 x10 x11 x12, ρ = rh x0 x1 x2 x3 ms x5 x6 x7 x8 x9 x10 x11 x12
theorem items_ms (ms : List Mk) : itemsF lo .plain [mD ms] S = .ok ((ms.map Mk.D).map .d) S := rfl
theorem loop2 (hL : NmOk L) {ms : List Mk} (hms : ∀ m ∈ ms, m.Of L) (hl : ms.length ≤ 64) {m : Mk} (hm : m.Of L) (x0 x1 x2 x3 x6 x7 x8 x9 x10 x11 x12 : Option Cell) :
    ∃ ρ', exs (callF pg.T (k + 1)) lo outer (rh x0 x1 x2 x3 ms (some (.d m.D)) x6 x7 x8 x9 x10 x11 x12) S = .ok (.next ρ') S ∧ InvR x0 x1 x2 x3 ms S 0 ρ' S := by
  obtain ⟨ρ', S', q, ⟨r1, y6, y7, y8, y9, y10, y11, y12, r2⟩⟩ := turnsS_inv (body := fun ρ1 S3 => exs (callF pg.T (k + 1)) lo inner ρ1 S3) (i := 7)
    (fun n ρ S' => S' = S ∧ ∃ x6 x7 x8 x9 x10 x11 x12, ρ = rh x0 x1 x2 x3 ms (some (.d m.D)) x6 x7 x8 x9 x10 x11 x12) (fun n ρ S' ⟨_, _, _, _, _, _, _, _, e⟩ => by rw [e]; simp [rh])
    ((ms.map Mk.D).map .d) 0 (rh x0 x1 x2 x3 ms (some (.d m.D)) x6 x7 x8 x9 x10 x11 x12) S ⟨rfl, x6, x7, x8, x9, x10, x11, x12, rfl⟩ (fun j c hc ρ S' ⟨e, z6, z7, z8, z9, z10, z11, z12, er⟩ => by
      subst e er
      rw [List.map_map, List.getElem?_map] at hc
      obtain ⟨o, ho, rfl⟩ := Option.map_eq_some_iff.mp hc
      obtain ⟨y9, y10, y11, q⟩ := inner_ok (k := k) (lo := lo) (S := S') hL hms hl hm (hms o (List.mem_of_getElem? ho)) x0 x1 x2 x3 z6 z8 z9 z10 z11 z12
      exact ⟨_, _, q, rfl, z6, some (.d o.D), z8, y9, y10, y11, z12, rfl⟩)
  refine ⟨ρ', ?_, rfl, some (.d m.D), y6, y7, y8, y9, y10, y11, y12, r2⟩
  subst r1
  unfold outer
  have e4 : (rh x0 x1 x2 x3 ms (some (.d m.D)) x6 x7 x8 x9 x10 x11 x12)[4]? = some (some (mD ms)) := rfl
  rw [exs_cons, ex_for]
  simp only [evs_cons, evs_nil, ev_def, evV_var, e4, getV_some, Res.bind_ok, freeze_v, Res.st_ok, items_ms]
  rw [q]
  simp
theorem loop1 (hL : NmOk L) {ms : List Mk} (hms : ∀ m ∈ ms, m.Of L) (hl : ms.length ≤ 64) (x0 x1 x2 x3 x5 x6 x7 x8 x9 x10 x11 x12 : Option Cell) :
    ∃ ρ', ex (callF pg.T (k + 1)) lo (.forS (.slot 5) .plain [.var 4] outer) (rh x0 x1 x2 x3 ms x5 x6 x7 x8 x9 x10 x11 x12) S = .ok (.next ρ') S ∧ InvR x0 x1 x2 x3 ms S 0 ρ' S := by
  obtain ⟨ρ', S', q, r⟩ := turnsS_inv (body := fun ρ1 S3 => exs (callF pg.T (k + 1)) lo outer ρ1 S3) (i := 5)
    (InvR x0 x1 x2 x3 ms S) (fun n ρ S' ⟨_, _, _, _, _, _, _, _, _, e⟩ => by rw [e]; simp [rh])
    ((ms.map Mk.D).map .d) 0 (rh x0 x1 x2 x3 ms x5 x6 x7 x8 x9 x10 x11 x12) S ⟨rfl, x5, x6, x7, x8, x9, x10, x11, x12, rfl⟩ (fun j c hc ρ S' ⟨e, z5, z6, z7, z8, z9, z10, z11, z12, er⟩ => by
      subst e er
      rw [List.map_map, List.getElem?_map] at hc
      obtain ⟨o, ho, rfl⟩ := Option.map_eq_some_iff.mp hc
      obtain ⟨ρ', q, r⟩ := loop2 (k := k) (lo := lo) (S := S') hL hms hl (hms o (List.mem_of_getElem? ho)) x0 x1 x2 x3 z6 z7 z8 z9 z10 z11 z12
      exact ⟨_, _, q, r⟩)
  obtain ⟨r1, r2⟩ := r
  subst r1
  refine ⟨ρ', ?_, rfl, r2⟩
  have e4 : (rh x0 x1 x2 x3 ms x5 x6 x7 x8 x9 x10 x11 x12)[4]? = some (some (mD ms)) := rfl
  rw [ex_for]
  simp only [evs_cons, evs_nil, ev_def, evV_var, e4, getV_some, Res.bind_ok, freeze_v, Res.st_ok, items_ms]
  rw [q]
end
section
variable {Φ : FT} {lo : Lim} {ρ : Rho} {S S' : Stg} {ss : List CS} {i : Nat}
theorem st_own {e : AE} {c : Cell} (h : evA Φ lo e ρ S = .ok c S') (hi : i < ρ.length) : exs Φ lo (.own i e :: ss) ρ S = exs Φ lo ss (ρ.set i (some c)) S' := by
  rw [exs_cons, ex_own, h, Res.st_ok, setTg_slot, if_pos hi, nextIf_some, Res.bind_ok, cont_next]
theorem st_asg {e : CE} {c : Cell} (h : ev Φ lo e ρ S = .ok c S') (hi : i < ρ.length) : exs Φ lo (.asg (.slot i) e :: ss) ρ S = exs Φ lo ss (ρ.set i (some c)) S' := by
  rw [exs_cons, ex_asg, h, Res.st_ok, setTg_slot, if_pos hi, nextIf_some, Res.bind_ok, cont_next]
theorem st_asgL {e : CE} {ds : List D} (h : evV Φ lo e ρ S = .ok (.l (ds.map .d)) S') (hi : i < ρ.length) : exs Φ lo (.asg (.slot i) e :: ss) ρ S = exs Φ lo ss (ρ.set i (some (.d (.lst ds)))) S' :=
  st_asg (by rw [ev_def, h, Res.bind_ok, freeze_ds]) hi
end
/-! ### the names -/
def lets : Str := "ABCDEFGHIJKLMNOPQRSTUVWXYZ"
def five : Str := "abz09"
def Nm (x : Str) : Prop := ∃ c ∈ lets.cps.toList, ∃ d ∈ five.cps.toList, x = (⟨#[c]⟩ : Str) ++ ⟨#[d]⟩
theorem nm_all : ∀ c ∈ lets.cps.toList, ∀ d ∈ five.cps.toList, PyData.strOk ((⟨#[c]⟩ : Str) ++ ⟨#[d]⟩) = true := by decide +kernel
theorem nm_ok {x : Str} (h : Nm x) : PyData.strOk x = true := by
  obtain ⟨c, hc, d, hd, rfl⟩ := h
  exact nm_all c hc d hd
theorem at_mem {xs : List Nat} {i : Int} (h0 : 0 ≤ i) (h1 : i < xs.length) : ∃ c ∈ xs, atI xs i = some c := by
  rw [atI_pos xs h0]
  have h : i.toNat < xs.length := by omega
  exact ⟨xs[i.toNat], List.getElem_mem h, List.getElem?_eq_getElem h⟩
theorem one_len (c : Nat) : (⟨#[c]⟩ : Str).length = 1 := rfl
theorem strsOf_map : ∀ xs : List Str, strsOf ((xs.map D.str).map .d) = some xs
  | [] => rfl
  | x :: r => by
    rw [List.map_cons, List.map_cons]
    show (strsOf _).map _ = _
    rw [strsOf_map r]; rfl
theorem p_sortedSet {lo : Lim} {S : Stg} (xs : List Str) (h : xs.length < 64) : primR lo .sortedSet [.d (.lst (xs.map D.str))] S = .ok (.l (((sortSet xs).map D.str).map .d)) S := by
  show (match (((strsOf ((xs.map D.str).map Cell.d)).bind fun xs => if xs.length < 64 then some (PV.l ((sortSet xs).map fun x => .d (.str x))) else none)).map fun p => (p, S) with | some (v, S') => Res.ok v S' | none => .bad) = _
  rw [strsOf_map]
  simp [h, Function.comp_def]
theorem nm_sort {xs : List Str} (h : ∀ x ∈ xs, Nm x) (hl : xs.length ≤ 64) : NmOk (sortSet xs) := by
  have p := List.mergeSort_perm xs.eraseDups strLe
  have e : ∀ n (l : List Str), l.length ≤ n → l.eraseDups.length ≤ l.length := fun n => by
    induction n with
    | zero => intro l h; cases l with
      | nil => exact Nat.le_refl _
      | cons a r => simp at h
    | succ n ih =>
      intro l h
      cases l with
      | nil => exact Nat.le_refl _
      | cons a r =>
        rw [List.eraseDups_cons]
        have h1 := List.length_filter_le (fun b => !b == a) r
        have h2 := ih (r.filter fun b => !b == a) (Nat.le_trans h1 (Nat.le_of_succ_le_succ h))
        simp only [List.length_cons]
        omega
  refine ⟨p.nodup_iff.mpr (nodup_eraseDups _ xs (Nat.le_refl _)), fun x hx => nm_ok (h x (List.mem_eraseDups.mp (p.mem_iff.mp hx))), ?_⟩
  unfold sortSet
  rw [p.length_eq]
  exact Nat.le_trans (e _ xs (Nat.le_refl _)) hl
theorem rng1_ok {w : Int} (b1 : 0 ≤ w) (b2 : w < 10) : rng1 (.d (.int w)) = some ((List.range w.toNat).map fun (i : Nat) => .d (.int i)) := by
  unfold rng1
  simp only
  rw [if_pos (by simp; omega)]
theorem names_ok (k : Nat) {s : Stm} {n : Nat} (h : Le s n) (hn : n < 1000000) (x0 x3 x4 x5 x6 x7 x8 x9 x10 x11 x12 : Option Cell) :
    ∃ (xs : List Str) (s' : Stm), evV (callF pg.T (k + 1)) ⟨0, 0⟩ (.comp (.slot 8) .range1 [.call 2 [.var 1, .cst (.int 10)]] [] (.prim (.bin .Add) [.prim .item [.var 2, .call 2 [.var 1, .cst (.int 26)]], .prim .item [.cst (.str "abz09"), .call 2 [.var 1, .cst (.int 5)]]]))
      [x0, some (.r 1), some (.d (.str "ABCDEFGHIJKLMNOPQRSTUVWXYZ")), x3, x4, x5, x6, x7, x8, x9, x10, x11, x12] (s.ob []) = .ok (.l ((xs.map D.str).map .d)) (Stm.ob s' []) ∧ (∀ x ∈ xs, Nm x) ∧ xs.length < 64 ∧ Le s' (n + 21) := by
  obtain ⟨e1, g1⟩ := call_2 k h (by omega) (m := 10) (by decide) (by decide) [] ⟨0, 0⟩ rfl
  obtain ⟨b1, b2⟩ := Stm.num_lt s (m := 10) (by decide)
  generalize s.num 10 = w at *
  obtain ⟨acc, S', q, s2, xs, rfl, hle, rfl, hnm, hlen⟩ := comp_inv (Φ := callF pg.T (k + 1)) (lo := ⟨0, 0⟩) (ρ := [x0, some (.r 1), some (.d (.str "ABCDEFGHIJKLMNOPQRSTUVWXYZ")), x3, x4, x5, x6, x7, x8, x9, x10, x11, x12]) (S0 := s.ob []) (S := (s.nx 10).ob []) (k := .range1) (as := [.call 2 [.var 1, .cst (.int 10)]])
      (ifs := []) (e := .prim (.bin .Add) [.prim .item [.var 2, .call 2 [.var 1, .cst (.int 26)]], .prim .item [.cst (.str "abz09"), .call 2 [.var 1, .cst (.int 5)]]]) (i := 8) (cs := [.d (.int w)]) (its := (List.range w.toNat).map fun (i : Nat) => .d (.int i)) (by simp)
      (fun j acc S => ∃ (s' : Stm) (xs : List Str), S = s'.ob [] ∧ Le s' (n + 1 + 2 * j) ∧ acc = (xs.map D.str).map .d ∧ (∀ x ∈ xs, Nm x) ∧ xs.length = j) (by simp [e1])
      (rng1_ok b1 b2) (by simp [sizeLine_eq]; omega)
      ⟨s.nx 10, [], rfl, g1, rfl, (fun x hx => nomatch hx), rfl⟩ (fun j c hc acc S ⟨s', xs, hS, hle, hacc, hnm, hlen⟩ => by
        subst hS hacc
        have hj : j < w.toNat := by
          have := (List.getElem?_eq_some_iff.mp hc).1
          simpa using this
        obtain ⟨d1, g2⟩ := call_2 k hle (by omega) (m := 26) (by decide) (by decide) [] ⟨0, 0⟩ rfl
        obtain ⟨c1, c2⟩ := Stm.num_lt s' (m := 26) (by decide)
        obtain ⟨d2, g3⟩ := call_2 k g2 (by omega) (m := 5) (by decide) (by decide) [] ⟨0, 0⟩ rfl
        obtain ⟨c3, c4⟩ := Stm.num_lt (s'.nx 26) (m := 5) (by decide)
        obtain ⟨u, hu, eu⟩ := at_mem (xs := lets.cps.toList) c1 (by have : lets.cps.toList.length = 26 := by decide +kernel
                                                                    omega)
        obtain ⟨v, hv, ev'⟩ := at_mem (xs := five.cps.toList) c3 (by have : five.cps.toList.length = 5 := by decide +kernel
                                                                     omega)
        have i1 := fun S => p_item_str (lo := ⟨0, 0⟩) (S := S) (x := "ABCDEFGHIJKLMNOPQRSTUVWXYZ") (by decide +kernel) eu
        have i2 := fun S => p_item_str (lo := ⟨0, 0⟩) (S := S) (x := "abz09") (by decide +kernel) ev'
        have el : limC ⟨0, 0⟩ [.d (.int w)] ((s.nx 10).ob []).length = ⟨0, 0⟩ := rfl
        refine ⟨true, s'.ob [], by simp, (fun h => nomatch h), fun _ => ⟨.d (.str ((⟨#[u]⟩ : Str) ++ ⟨#[v]⟩)), ((s'.nx 26).nx 5).ob [], ?_, (s'.nx 26).nx 5, xs ++ [(⟨#[u]⟩ : Str) ++ ⟨#[v]⟩], rfl, ?_, by simp, ?_, by simp [hlen]⟩⟩
        · rw [el]
          simp [d1, d2, i1, i2, p_cat, one_len, sizeLine_eq]
        · obtain ⟨m, hm, ho⟩ := g3
          exact ⟨m, by omega, ho⟩
        · intro x hx
          rcases List.mem_append.mp hx with hx | hx
          · exact hnm x hx
          · rw [List.mem_singleton.mp hx]; exact ⟨u, hu, v, hv, rfl⟩)
  refine ⟨xs, s2, q, hnm, ?_, ?_⟩
  · simp at hlen; omega
  · obtain ⟨m, hm, ho⟩ := hle
    simp at hm
    exact ⟨m, by omega, ho⟩
theorem marks_ok (k : Nat) {s : Stm} {n : Nat} (h : Le s n) (hn : n < 100000) {L : List Str} (hL : NmOk L) (x0 x2 x4 x5 x6 x7 x8 x9 x10 x11 x12 : Option Cell) :
    ∃ (ms : List Mk) (s' : Stm), evV (callF pg.T (k + 2)) ⟨0, 0⟩ (.comp (.slot 8) .range1 [.cst (.int 3)] [] (.call 5 [.var 1, .var 3]))
      [x0, some (.r 1), x2, some (.d (.lst (L.map D.str))), x4, x5, x6, x7, x8, x9, x10, x11, x12] (s.ob []) = .ok (.l ((ms.map Mk.D).map .d)) (Stm.ob s' []) ∧ (∀ m ∈ ms, m.Of L) ∧ ms.length = 3 := by
  obtain ⟨acc, S', q, s2, ms, rfl, hle, rfl, hnm, hlen⟩ := comp_inv (Φ := callF pg.T (k + 2)) (lo := ⟨0, 0⟩) (ρ := [x0, some (.r 1), x2, some (.d (.lst (L.map D.str))), x4, x5, x6, x7, x8, x9, x10, x11, x12]) (S0 := s.ob []) (S := s.ob []) (k := .range1) (as := [.cst (.int 3)])
      (ifs := []) (e := .call 5 [.var 1, .var 3]) (i := 8) (cs := [.d (.int 3)]) (its := (List.range 3).map fun (i : Nat) => .d (.int i)) (by simp)
      (fun j acc S => ∃ (s' : Stm) (ms : List Mk), S = s'.ob [] ∧ Le s' (n + 65 * j) ∧ acc = (ms.map Mk.D).map .d ∧ (∀ m ∈ ms, m.Of L) ∧ ms.length = j) (by simp)
      rfl (by simp [sizeLine_eq])
      ⟨s, [], rfl, h, rfl, (fun x hx => nomatch hx), rfl⟩ (fun j c hc acc S ⟨s', ms, hS, hle, hacc, hnm, hlen⟩ => by
        subst hS hacc
        have hj : j < 3 := by
          have := (List.getElem?_eq_some_iff.mp hc).1
          simpa using this
        obtain ⟨m, s3, d1, hm, g2⟩ := mark_ok k hle (by omega) hL [] ⟨0, 0⟩ rfl
        have el : limC ⟨0, 0⟩ [.d (.int 3)] (s.ob []).length = ⟨0, 0⟩ := rfl
        refine ⟨true, s'.ob [], by simp, (fun h => nomatch h), fun _ => ⟨.d m.D, s3.ob [], ?_, s3, ms ++ [m], rfl, ?_, by simp, ?_, by simp [hlen]⟩⟩
        · rw [el]
          simp [d1]
        · obtain ⟨i, hi, ho⟩ := g2
          exact ⟨i, by omega, ho⟩
        · intro x hx
          rcases List.mem_append.mp hx with hx | hx
          · exact hnm x hx
          · rw [List.mem_singleton.mp hx]; exact hm)
  exact ⟨ms, s2, q, hnm, by simpa using hlen⟩
def kk : Nat := 3
theorem holds : ∀ ns : List Int, ns.length ≤ 63 → (∀ z ∈ ns, Builtin.Int.intBits z ≤ 1048576) → LawTrue pg kk 6 ns := by
  intro ns hl hz lo h1 h2
  have unf : callF pg.T kk 6 lo [.d (.lst (ns.map D.int))] [] = runF (callF pg.T 2) ⟨1, 13, cr_6⟩ lo.ro [.d (.lst (ns.map D.int))] [] := rfl
  rw [unf, h2]
  unfold runF
  rw [if_pos ⟨rfl, by decide⟩]
  have h0 : Le ⟨ns, 0, 0, 0⟩ 0 := ⟨0, Nat.le_refl _, rfl, Int.le_refl 0, by show (0 : Int) < _; decide, Int.le_refl 0⟩
  obtain ⟨xs, s1, q1, hx, hxl, g1⟩ := names_ok 1 h0 (by decide) (some (.d (.lst (ns.map D.int)))) none none none none none none none none none none
  have hL := nm_sort hx (by omega)
  obtain ⟨ms, s2, q2, hm, hml⟩ := marks_ok 0 g1 (by decide) hL (some (.d (.lst (ns.map D.int)))) (some (.d (.str "ABCDEFGHIJKLMNOPQRSTUVWXYZ"))) none none none none none none none none none
  obtain ⟨ρ', q3, r1, z5, z6, z7, z8, z9, z10, z11, z12, r2⟩ := loop1 (k := 1) (lo := ⟨0, 0⟩) (S := s2.ob []) hL hm (by omega) (some (.d (.lst (ns.map D.int)))) (some (.r 1)) (some (.d (.str "ABCDEFGHIJKLMNOPQRSTUVWXYZ"))) (some (.d (.lst ((sortSet xs).map D.str)))) none none none none none none none none
  match ms, hml, hm with
  | [a, b, c], _, hm =>
    have ha := hm a (by simp)
    have hb := hm b (by simp)
    have hc := hm c (by simp)
    have st0 : start0 ⟨1, 13, cr_6⟩ [.d (.lst (ns.map D.int))] = [some (.d (.lst (ns.map D.int))), none, none, none, none, none, none, none, none, none, none, none, none] := rfl
    have ini : evA (callF pg.T 2) ⟨0, 0⟩ (.lst [.own (.prim .list_ [.var 0]), .e (.cst (.int 0)), .e (.cst (.int 0)), .e (.cst (.int 0))]) [some (.d (.lst (ns.map D.int))), none, none, none, none, none, none, none, none, none, none, none, none] [] = .ok (.r 1) ((Stm.mk ns 0 0 0).ob []) := by
      simp [start0, Stm.ob, sizeLine_eq]
    have body : cr_6 = [.own 1 (.lst [.own (.prim .list_ [.var 0]), .e (.cst (.int 0)), .e (.cst (.int 0)), .e (.cst (.int 0))]), .asg (.slot 2) (.cst (.str "ABCDEFGHIJKLMNOPQRSTUVWXYZ")), .asg (.slot 3) (.comp (.slot 8) .range1 [.call 2 [.var 1, .cst (.int 10)]] [] (.prim (.bin .Add) [.prim .item [.var 2, .call 2 [.var 1, .cst (.int 26)]], .prim .item [.cst (.str "abz09"), .call 2 [.var 1, .cst (.int 5)]]])), .asg (.slot 3) (.prim .sortedSet [.var 3]), .asg (.slot 4) (.comp (.slot 8) .range1 [.cst (.int 3)] [] (.call 5 [.var 1, .var 3])), .forS (.slot 5) .plain [.var 4] outer,
      .asg (.slot 6) (.call 1 [.call 1 [.prim .item [.var 4, .cst (.int 0)], .prim .item [.var 4, .cst (.int 1)]], .prim .item [.var 4, .cst (.int 2)]]), .ret (.prim (.cmp .Eq) [.var 6, .call 1 [.prim .item [.var 4, .cst (.int 0)], .call 1 [.prim .item [.var 4, .cst (.int 1)], .prim .item [.var 4, .cst (.int 2)]]]])] := rfl
    have go : exs (callF pg.T 2) ⟨0, 0⟩ cr_6 [some (.d (.lst (ns.map D.int))), none, none, none, none, none, none, none, none, none, none, none, none] [] = .ok (.ret (.d (.bl true))) (s2.ob []) := by
      rw [body, st_own ini (by simp)]
      simp only [List.set_cons_succ, List.set_cons_zero]
      rw [st_asg (c := .d (.str "ABCDEFGHIJKLMNOPQRSTUVWXYZ")) (S' := (Stm.mk ns 0 0 0).ob []) (by simp) (by simp)]
      simp only [List.set_cons_succ, List.set_cons_zero]
      rw [st_asgL q1 (by simp)]
      simp only [List.set_cons_succ, List.set_cons_zero]
      rw [st_asgL (ds := (sortSet xs).map D.str) (S' := s1.ob []) (by simp [-List.map_map, p_sortedSet xs hxl]) (by simp)]
      simp only [List.set_cons_succ, List.set_cons_zero]
      rw [st_asgL q2 (by simp)]
      simp only [List.set_cons_succ, List.set_cons_zero]
      unfold rh at q3 r2
      rw [exs_cons]
      erw [q3]
      rw [Res.bind_ok, cont_next, r2]
      have ab := com_of ha hb
      have bc := com_of hb hc
      have e1 := q_eq (lo := ⟨0, 0⟩) (S := s2.ob []) hL (com_of ha bc) (com_of ha bc)
      simp [rh, mD, c1 hL ha hb, c1 hL ab hc, c1 hL hb hc, c1 hL ha bc, e1, com_assoc]
    have e0 : ([] : Stg).length = 0 := rfl
    rw [e0, st0, go]
    exact ⟨[], rfl⟩
end La
namespace La
open PySem PySem.Spec L2 Mi
abbrev Ro : PySem.W.OpenRow := PySem.W.OpenLaw.row PySem.Challenge.rw_strangemill_k26_whole_marks
abbrev hk : PySem.W.Hook := He.hookD 6 pg.fa pg.fn
def ob (s : PySem.W.SharedT) : He.AlD := He.obsDG 6 pg.fa pg.fn (HandSHeadRun.getT s)
theorem ob_eq (s : PySem.W.SharedT) : ob s = hk.obs s.abs := He.obsDG_eq (HandSHeadRun.getT_eq s)
def names : List PySem.Str := ["ANY", "_law_common", "_law_covers", "_law_draw", "_law_drawn_mark", "covers", "in_common"]
theorem run (w : World) : HandSHeadRun.RunEq Ro (PySem.W.view Ro.prog [9]) hk ob 2000 names w := fun os => by kernel_rfl
end La
open PySem PySem.W PyProof.Rows
theorem PySem.Challenge.cw_strangemill_k26_whole_marks_holds : PySem.Challenge.rw_strangemill_k26_whole_marks.Holds := by
  w_on; o_law
  refine HandSHeadRun.head_any (r := La.Ro) (q := view La.Ro.prog [9]) (H := La.hk) (ob := La.ob) (M := 2000) (loose := La.names) (d := HandSHeadRun.topDef La.Ro.prog 9) (kwd := []) La.ob_eq
    (by kernel_rfl) (fun s => by kernel_rfl) La.run (by kernel_rfl) (by kernel_rfl) (by kernel_rfl) (by rfl) (by decide +kernel) (by decide +kernel) ⟨rfl, rfl, rfl, rfl, rfl, by decide +kernel⟩ ?hw ?hc
  case hw => w_witness2
  case hc =>
    refine Mi.walk_mi (l := PySem.Challenge.rw_strangemill_k26_whole_marks) (n := 63) (k := La.kk) (x := "_law_script") rfl (by decide) (by kernel_rfl) ⟨rfl, by decide, by decide⟩ fun w mg f h Y G hm => ?_
    obtain ⟨K, KX, c⟩ := Y
    have e : (HandSHeadRun.topDef La.Ro.prog 9).name = ("law" : PySem.Str) := by kernel_rfl
    rw [e] at hm
    exact ⟨K, KX, Mi.law_facts La.good (i := 6) (k := La.kk) (n := 63) rfl rfl rfl La.holds KX G hm c⟩
