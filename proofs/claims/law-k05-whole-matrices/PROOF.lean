import PyProof.Rows.All
import Wide.All
import OpenK.AllK
import Wide.FinOn
import HandS.ForMost
import HandS.Exc
import HandS.TryOnly
import HandS.ExcOwn
import HandS.WordsExc
import HandS.Flow
import HandS.TupAny
import HandS.TupMul
import HandS.Style
import HandS.IsInst
import HandS.Deep
import HandS.Conv
import KE.KSortTupG
import HandS.Sort
import HandS.Iter
import HandS.Zip
import HandS.Comp
import HandS.ExcInit
import HandS.ExcField
import KE.KExcSuper
import HandS.TryMany
import KE.RegKSuper
import HandS.List
import PyProof.EqLayable
import PySem.Challenge.RW_chieflayers_k05_whole_matrices
set_option Elab.async false
set_option linter.all false
set_option maxRecDepth 100000
namespace PC
open PySem L2

inductive D where
  | non | bl (b : Bool) | int (i : Int) | str (x : Str) | tup (xs : List D) | lst (xs : List D) | cell (n : Nat) | frz (xs : List D)

mutual
def D.py : D → Option PyData
  | .non => some .none
  | .bl b => some (.bool b)
  | .int i => some (.int i)
  | .str x => some (.str x)
  | .tup xs => match D.pys xs with | some ys => some (.tuple ys) | none => none
  | .lst xs => match D.pys xs with | some ys => some (.list ys) | none => none
  | .cell _ => none
  | .frz _ => none
def D.pys : List D → Option (List PyData)
  | [] => some []
  | x :: xs => match D.py x, D.pys xs with
    | some a, some b => some (a :: b)
    | _, _ => none
end
instance : Inhabited D := ⟨.non⟩

/-- what a mutable object holds -/
inductive Cell where
  | lst (xs : List D)
  | dict (kvs : List (D × D))
  | ins (c : Nat) (fs : List (Str × D))
abbrev Mem := List Cell
/-- an exception: its class, its fields -/
structure Exc where
  cls : Str
  anc : List Str
  fs : List (Str × D)
inductive Res (α : Type) where
  | ok (a : α) (M : Mem)
  | err (x : Exc) (M : Mem)
  | bad
def Res.bind {α β : Type} (r : Res α) (f : α → Mem → Res β) : Res β :=
  match r with
  | .ok a M => f a M
  | .err x M => .err x M
  | .bad => .bad
@[simp] theorem Res.bind_ok {α β : Type} (a : α) (M : Mem) (f : α → Mem → Res β) : (Res.ok a M).bind f = f a M := (rfl)
@[simp] theorem Res.bind_err {α β : Type} (x : Exc) (M : Mem) (f : α → Mem → Res β) : (Res.err x M : Res α).bind f = .err x M := (rfl)
@[simp] theorem Res.bind_bad {α β : Type} (f : α → Mem → Res β) : (Res.bad : Res α).bind f = .bad := (rfl)
/-- a slot of a def -/
inductive Slot where
  | un
  | v (d : D)
  | own (xs : List D)
abbrev Ev := List Slot

inductive Bop where | add | sub | mul | fdiv | mod
  deriving DecidableEq
inductive Cop where | eq | ne | lt | le | gt | ge | isin | notin
  deriving DecidableEq
inductive Bi where | len | int | abs | tuple | list | sum | sorted | all | any
  deriving DecidableEq
inductive Ty where | int | bool | str | tuple | list
  deriving DecidableEq
inductive Tg where
  | name (i : Nat)
  | tup (is : List Nat)
mutual
inductive E where
  | var (i : Nat)
  | non | bl (b : Bool) | int (i : Int) | str (x : Str)
  | glob (x : Str) (d : D)
  | bin (o : Bop) (a b : E)
  | neg (a : E) | not (a : E)
  | cmp (o : Cop) (a b : E)
  | chain (o o' : Cop) (a b c : E)
  | isN (a : E) | notN (a : E)
  | isB (a : E) (b : Bool) | notB (a : E) (b : Bool)
  | and (a b : E) | or (a b : E)
  | ite (c a b : E)
  | tup (es : Es) | lst (es : Es) | newL (es : Es)
  | sub (a i : E)
  | slice (a : E) (lo hi : Pt)
  | sliceRev (a : E)
  | lenO (i : Nat) | subO (i : Nat) (k : E)
  | call (f : Nat) (es : Es)
  | bi (b : Bi) (e : E)
  | isi (a : E) (ts : List Ty)
  | comp (it : It) (t : Tg) (ifs : Es) (elt : E)
  | borrow (i : Nat) (e : E)
inductive Es where
  | nil
  | cons (e : E) (es : Es)
inductive Pt where
  | none
  | some (e : E)
inductive It where
  | seq (e : E)
  | own (i : Nat)
  | range1 (e : E)
  | range2 (a b : E)
  | zip (a b : E)
end
/-- what an except clause gives back -/
inductive HE where
  | con (d : D)
  | fld (f : Str)
  | pair (a b : HE)
structure Hdl where
  cls : Str
  slot : Option Nat
  e : HE
mutual
inductive S where
  | set (i : Nat) (e : E)
  | own (i : Nat) (e : E)
  | freeze (i : Nat)
  | unpack (is : List Nat) (e : E)
  | append (i : Nat) (e : E)
  | popAt (j i : Nat) (k : E)
  | setO (i : Nat) (k e : E)
  | setC (a k e : E)
  | expr (e : E)
  | ret (e : E)
  | ite (c : E) (a b : B)
  | whl (n : Nat) (c : E) (b : B)
  | for_ (it : It) (t : Tg) (b : B)
  | never
  | raise_ (c : Str) (anc : List Str) (f : Option Str) (e : E)
  | try_ (b : B) (hs : List Hdl)
inductive B where
  | nil
  | cons (s : S) (b : B)
end
structure FD where
  name : Str
  ps : List Str
  N : List Str
  body : B

def D.flat : D → Bool | .non => true | .bl _ => true | .int _ => true | .str _ => true | _ => false
def Cell.flat : Cell → Bool | .lst xs => xs.all D.flat | _ => false
def Mem.flat (M : Mem) : Bool := M.all Cell.flat
def D.truth (M : Mem) : D → Option Bool
  | .non => some false
  | .bl b => some b
  | .int i => some (i != 0)
  | .str x => if x.length ≤ sizeLine then some (x.length != 0) else none
  | .tup xs => some (!xs.isEmpty)
  | .lst xs => some (!xs.isEmpty)
  | .cell _ => none
  | .frz _ => none
theorem D.truth_str {d : D} {M : Mem} {k : Bool} (h : d.truth M = some k) : ∀ s, d = .str s → s.length ≤ sizeLine := fun s e => by
  subst e
  by_cases hz : s.length ≤ sizeLine
  · exact hz
  · simp [D.truth, hz] at h
def isNon : D → Bool | .non => true | _ => false
def small (n : Nat) : Bool := decide (n ≤ sizeLine)
def mulOk (i j : Int) : Bool := decide ((-(2 ^ 64) < i ∧ i < 2 ^ 64) ∨ (-(2 ^ 64) < j ∧ j < 2 ^ 64))
def HE.ev (x : Exc) : HE → Option D
  | .con d => if d.flat then some d else none
  | .fld f => x.fs.lookup f
  | .pair a b => match HE.ev x a, HE.ev x b with
    | some u, some v => some (.tup [u, v])
    | _, _ => none
def rep {α : Type} (n : Int) (xs : List α) : List α := (List.replicate n.toNat xs).flatten
def Bop.run : Bop → D → D → Option D
  | .add, .int i, .int j => some (.int (i + j))
  | .add, .str x, .str y => if x.length + y.length ≤ sizeLine then some (.str (x ++ y)) else none
  | .add, .tup xs, .tup ys => if xs.length + ys.length ≤ sizeLine then some (.tup (xs ++ ys)) else none
  | .add, .lst xs, .lst ys => if xs.length + ys.length ≤ sizeLine then some (.lst (xs ++ ys)) else none
  | .sub, .int i, .int j => some (.int (i - j))
  | .mul, .int i, .int j => if mulOk i j then some (.int (i * j)) else none
  | .mul, .tup xs, .int n => if -(2 ^ 63) ≤ n ∧ n < 2 ^ 62 ∧ n.toNat * xs.length ≤ sizeLine then some (.tup (rep n xs)) else none
  | .mul, .lst xs, .int n => if -(2 ^ 63) ≤ n ∧ n < 2 ^ 62 ∧ n.toNat * xs.length ≤ sizeLine then some (.lst (rep n xs)) else none
  | .fdiv, .int i, .int j => if 0 < j ∧ j < 1073741824 then some (.int (i / j)) else none
  | .mod, .int i, .int j => if 0 < j then some (.int (i % j)) else none
  | _, _, _ => none
def D.eqv? (a b : D) : Option Bool :=
  match a.py, b.py with
  | some p, some q => if SeqAt.shaped p && SeqAt.shaped q then some (PyData.eqv p q) else none
  | _, _ => none
def D.items : D → Option (List D)
  | .tup xs => some xs
  | .lst xs => some xs
  | .frz xs => some xs
  | _ => none
def D.has? (x : D) (l : D) : Option Bool :=
  match l, x.py, l.py with
  | .lst _, some p, some (.list qs) => if SeqAt.shaped p && SeqAt.shaped (.list qs) then some (qs.any fun z => PyData.eqv z p) else none
  | .tup _, some p, some (.tuple qs) => if SeqAt.shaped p && SeqAt.shaped (.tuple qs) then some (qs.any fun z => PyData.eqv z p) else none
  | _, _, _ => none
def Cop.run : Cop → D → D → Option Bool
  | .eq, a, b => D.eqv? a b
  | .ne, a, b => (D.eqv? a b).map (! ·)
  | .lt, .int i, .int j => some (decide (i < j))
  | .le, .int i, .int j => some (decide (i ≤ j))
  | .gt, .int i, .int j => some (decide (j < i))
  | .ge, .int i, .int j => some (decide (j ≤ i))
  | .isin, a, b => D.has? a b
  | .notin, a, b => (D.has? a b).map (! ·)
  | _, _, _ => none
def D.ints : List D → Option (List Int)
  | [] => some []
  | .int i :: r => (D.ints r).map (i :: ·)
  | _ :: _ => none
def D.bools : List D → Option (List Bool)
  | [] => some []
  | .bl b :: r => (D.bools r).map (b :: ·)
  | _ :: _ => none
/-- a list's order as sorted: by a told order of the data (tuples of ints) -/
def D.ltI : List Int → List Int → Bool
  | [], [] => false
  | [], _ :: _ => true
  | _ :: _, [] => false
  | x :: xs, y :: ys => decide (x < y) || (!decide (y < x) && D.ltI xs ys)
def ins (lt : α → α → Bool) (x : α) : List α → List α
  | [] => [x]
  | y :: r => if lt x y then x :: y :: r else y :: ins lt x r
def isort (lt : α → α → Bool) : List α → List α
  | [] => []
  | x :: r => ins lt x (isort lt r)
def D.rows : List D → Option (List (List Int))
  | [] => some []
  | .tup xs :: r => match D.ints xs, D.rows r with
    | some a, some b => some (a :: b)
    | _, _ => none
  | _ :: _ => none
def Bi.run : Bi → D → Option D
  | .len, .tup xs => some (.int xs.length)
  | .len, .lst xs => some (.int xs.length)
  | .len, .str x => if x.length ≤ sizeLine then some (.int x.length) else none
  | .int, .int i => some (.int i)
  | .int, .bl b => some (.int (if b then 1 else 0))
  | .abs, .int i => some (.int (if i < 0 then -i else i))
  | .tuple, .tup xs => some (.tup xs)
  | .tuple, .lst xs => some (.tup xs)
  | .list, .tup xs => some (.lst xs)
  | .list, .lst xs => some (.lst xs)
  | .sum, .lst xs => (D.ints xs).map fun is => .int is.sum
  | .all, .lst xs => (D.bools xs).map fun bs => .bl (bs.all id)
  | .any, .lst xs => (D.bools xs).map fun bs => .bl (bs.any id)
  | .sorted, .lst xs => match D.rows xs with
    | some rs => if xs.length ≤ sizeLine ∧ (rs.length ≤ 1 ∨ rs.all (fun r => !r.isEmpty) = true) then some (.lst ((isort D.ltI rs).map fun r => .tup (r.map .int))) else none
    | none => none
  | _, _ => none
def Ty.is : Ty → D → Option Bool
  | .int, .int _ => some true
  | .int, .bl _ => some true
  | .bool, .bl _ => some true
  | .str, .str _ => some true
  | .tuple, .tup _ => some true
  | .list, .lst _ => some true
  | _, .cell _ => none
  | _, .frz _ => none
  | _, _ => some false
def Ty.any : List Ty → D → Option Bool
  | [], _ => some false
  | t :: r, d => match t.is d with
    | some true => some true
    | some false => Ty.any r d
    | none => none
def ix (n : Nat) (i : Int) : Option Nat := seqIndex? i n
def D.sub : D → D → Option D
  | .tup xs, .int i => L2.atI xs i
  | .lst xs, .int i => L2.atI xs i
  | _, _ => none
def cutD {α : Type} (xs : List α) (lo hi : Option Int) : List α := (xs.drop (HT.sIx xs.length 0 lo)).take (HT.sIx xs.length xs.length hi - HT.sIx xs.length 0 lo)
def D.slice (a : D) (lo hi : Option Int) : Option D :=
  match a with
  | .tup xs => some (.tup (cutD xs lo hi))
  | .lst xs => some (.lst (cutD xs lo hi))
  | .frz xs => some (.lst (cutD xs lo hi))
  | _ => none
def D.rev : D → Option D
  | .tup xs => some (.tup xs.reverse)
  | .lst xs => some (.lst xs.reverse)
  | _ => none
def Res.of {α : Type} (o : Option α) (M : Mem) : Res α := match o with | some a => .ok a M | none => .bad
@[simp] theorem Res.of_some {α : Type} (a : α) (M : Mem) : Res.of (some a) M = .ok a M := (rfl)
@[simp] theorem Res.of_none {α : Type} (M : Mem) : Res.of (none : Option α) M = .bad := (rfl)
/-- an exception may not pass here -/
def Res.calm {α : Type} : Res α → Res α
  | .ok a M => .ok a M
  | .err _ _ => .bad
  | .bad => .bad
def rangeL (lo : Int) : Nat → List D
  | 0 => []
  | n + 1 => .int lo :: rangeL (lo + 1) n
def rngOk (i : Int) : Bool := decide (-(2 ^ 62) ≤ i ∧ i < 2 ^ 62)
def cmpL (f : D → Mem → Res (Option D)) : List D → List D → Mem → Res (List D)
  | [], acc, M => .ok acc M
  | d :: ds, acc, M => (f d M).bind fun o M1 => match o with
    | none => cmpL f ds acc M1
    | some y => if acc.length < sizeLine then cmpL f ds (acc ++ [y]) M1 else .bad
def Tg.slots : Tg → List Nat
  | .name i => [i]
  | .tup is => is
def setsL : List Nat → List D → Ev → Option Ev
  | [], [], ρ => some ρ
  | i :: is, d :: ds, ρ => setsL is ds (ρ.set i (.v d))
  | _, _, _ => none
def Tg.put : Tg → D → Ev → Option Ev
  | .name i, d, ρ => some (ρ.set i (.v d))
  | .tup is, .tup ds, ρ => setsL is ds ρ
  | .tup _, _, _ => none
def wipeE (ρ : Ev) : List Nat → Ev
  | [] => ρ
  | v :: vs => (wipeE ρ vs).set v .un
abbrev Fns := Nat → List D → Mem → Res D
def slotV (ρ : Ev) (i : Nat) : Option D := match ρ[i]? with | some (.v d) => some d | _ => none
def slotO (ρ : Ev) (i : Nat) : Option (List D) := match ρ[i]? with | some (.own xs) => some xs | _ => none
/-- o[k], lists that may change among them -/
def subM (M : Mem) : D → D → Option D
  | .cell n, .int i => match M[n]? with | some (.lst xs) => L2.atI xs i | _ => none
  | a, b => D.sub a b
def lenM (M : Mem) : Bi → D → Option D
  | .len, .cell n => match M[n]? with | some (.lst xs) => some (.int xs.length) | _ => none
  | b, d => Bi.run b d
def zipL : List D → List D → List D
  | x :: xs, y :: ys => .tup [x, y] :: zipL xs ys
  | _, _ => []
mutual
def ev (Φ : Fns) : E → Ev → Mem → Res D
  | .var i, ρ, M => .of (slotV ρ i) M
  | .non, _, M => .ok .non M
  | .bl b, _, M => .ok (.bl b) M
  | .int i, _, M => .ok (.int i) M
  | .str x, _, M => .ok (.str x) M
  | .glob _ d, _, M => .ok d M
  | .bin o a b, ρ, M => (ev Φ a ρ M).bind fun x M1 => (ev Φ b ρ M1).bind fun y M2 => .of (o.run x y) M2
  | .neg a, ρ, M => (ev Φ a ρ M).bind fun x M1 => match x with | .int i => .ok (.int (-i)) M1 | _ => .bad
  | .not a, ρ, M => (ev Φ a ρ M).bind fun x M1 => .of ((x.truth M1).map fun k => .bl (!k)) M1
  | .cmp o a b, ρ, M => (ev Φ a ρ M).bind fun x M1 => (ev Φ b ρ M1).bind fun y M2 => .of ((o.run x y).map .bl) M2
  | .chain o o' a b c, ρ, M => (ev Φ a ρ M).bind fun x M1 => (ev Φ b ρ M1).bind fun y M2 => match o.run x y with
    | some true => (ev Φ c ρ M2).bind fun z M3 => .of ((o'.run y z).map .bl) M3
    | some false => .ok (.bl false) M2
    | none => .bad
  | .isN a, ρ, M => (ev Φ a ρ M).bind fun x M1 => .ok (.bl (isNon x)) M1
  | .notN a, ρ, M => (ev Φ a ρ M).bind fun x M1 => .ok (.bl (!isNon x)) M1
  | .isB a b, ρ, M => (ev Φ a ρ M).bind fun x M1 => match x with | .bl c => .ok (.bl (c == b)) M1 | _ => .bad
  | .notB a b, ρ, M => (ev Φ a ρ M).bind fun x M1 => match x with | .bl c => .ok (.bl (!(c == b))) M1 | _ => .bad
  | .and a b, ρ, M => (ev Φ a ρ M).bind fun x M1 => match x.truth M1 with
    | some true => ev Φ b ρ M1
    | some false => .ok x M1
    | none => .bad
  | .or a b, ρ, M => (ev Φ a ρ M).bind fun x M1 => match x.truth M1 with
    | some true => .ok x M1
    | some false => ev Φ b ρ M1
    | none => .bad
  | .ite c a b, ρ, M => (ev Φ c ρ M).bind fun x M1 => match x.truth M1 with
    | some true => ev Φ a ρ M1
    | some false => ev Φ b ρ M1
    | none => .bad
  | .tup es, ρ, M => (evs Φ es ρ M).bind fun xs M1 => if xs.length ≤ sizeLine then .ok (.tup xs) M1 else .bad
  | .lst es, ρ, M => (evs Φ es ρ M).bind fun xs M1 => if xs.length ≤ sizeLine then .ok (.lst xs) M1 else .bad
  | .newL es, ρ, M => (evs Φ es ρ M).bind fun xs M1 => if xs.length ≤ sizeLine then .ok (.cell M1.length) (M1 ++ [.lst xs]) else .bad
  | .sub a i, ρ, M => (ev Φ a ρ M).bind fun x M1 => (ev Φ i ρ M1).bind fun y M2 => .of (subM M2 x y) M2
  | .slice a lo hi, ρ, M => (ev Φ a ρ M).bind fun x M1 => (evP Φ lo ρ M1).bind fun y M2 => (evP Φ hi ρ M2).bind fun z M3 => .of (x.slice y z) M3
  | .sliceRev a, ρ, M => (ev Φ a ρ M).bind fun x M1 => .of x.rev M1
  | .lenO i, ρ, M => .of ((slotO ρ i).map fun xs => .int xs.length) M
  | .subO i k, ρ, M => match slotO ρ i with
    | some xs => (ev Φ k ρ M).bind fun y M1 => .of (D.sub (.lst xs) y) M1
    | none => .bad
  | .call f es, ρ, M => (evs Φ es ρ M).bind fun xs M1 => Φ f xs M1
  | .bi b e, ρ, M => (ev Φ e ρ M).bind fun x M1 => .of (lenM M1 b x) M1
  | .isi a ts, ρ, M => (ev Φ a ρ M).bind fun x M1 => .of ((Ty.any ts x).map .bl) M1
  | .comp it t ifs elt, ρ, M => (evI Φ it ρ M).bind fun ds M1 =>
      ((cmpL (fun d M2 => match t.put d (wipeE ρ t.slots) with
        | some ρ2 => (tst Φ ifs ρ2 M2).bind fun k M3 => if k = true then (ev Φ elt ρ2 M3).bind fun y M4 => .ok (some y) M4 else .ok none M3
        | none => .bad) ds [] M1).bind fun xs M4 => .ok (.lst xs) M4).calm
  | .borrow i e, ρ, M => match slotO ρ i with
    | some xs => (ev Φ e (ρ.set i (.v (.lst xs))) M).calm.bind fun x M1 => if x.flat && Mem.flat M1 then .ok x M1 else .bad
    | none => .bad
def evs (Φ : Fns) : Es → Ev → Mem → Res (List D)
  | .nil, _, M => .ok [] M
  | .cons e es, ρ, M => (ev Φ e ρ M).bind fun x M1 => (evs Φ es ρ M1).bind fun xs M2 => .ok (x :: xs) M2
def evP (Φ : Fns) : Pt → Ev → Mem → Res (Option Int)
  | .none, _, M => .ok Option.none M
  | .some e, ρ, M => (ev Φ e ρ M).bind fun x M1 => match x with
    | .int i => .ok (Option.some i) M1
    | _ => .bad
/-- a clause's tests: none or one -/
def tst (Φ : Fns) : Es → Ev → Mem → Res Bool
  | .nil, _, M => .ok true M
  | .cons e .nil, ρ, M => (ev Φ e ρ M).bind fun x M1 => .of (x.truth M1) M1
  | .cons _ (.cons _ _), _, _ => .bad
def evI (Φ : Fns) : It → Ev → Mem → Res (List D)
  | .seq e, ρ, M => (ev Φ e ρ M).bind fun x M1 => .of x.items M1
  | .own i, ρ, M => .of (slotO ρ i) M
  | .range1 e, ρ, M => (ev Φ e ρ M).bind fun x M1 => match x with
    | .int j => if rngOk j then .ok (rangeL 0 j.toNat) M1 else .bad
    | _ => .bad
  | .range2 a b, ρ, M => (ev Φ a ρ M).bind fun x M1 => (ev Φ b ρ M1).bind fun y M2 => match x, y with
    | .int i, .int j => if rngOk i && rngOk j then .ok (rangeL i (j - i).toNat) M2 else .bad
    | _, _ => .bad
  | .zip a b, ρ, M => (ev Φ a ρ M).bind fun x M1 => (ev Φ b ρ M1).bind fun y M2 => match x, y with
    | .tup xs, .tup ys => .ok (zipL xs ys) M2
    | .lst xs, .lst ys => .ok (zipL xs ys) M2
    | .lst xs, .tup ys => .ok (zipL xs ys) M2
    | _, _ => .bad
end
/-- a statement's end -/
inductive Out where
  | nx (ρ : Ev) (M : Mem)
  | rt (d : D) (M : Mem)
  | er (x : Exc) (ρ : Ev) (M : Mem)
  | bad
def Res.out {α : Type} (r : Res α) (ρ : Ev) (f : α → Mem → Out) : Out :=
  match r with
  | .ok a M => f a M
  | .err x M => .er x ρ M
  | .bad => .bad
@[simp] theorem Res.out_ok {α : Type} (a : α) (M : Mem) (ρ : Ev) (f : α → Mem → Out) : (Res.ok a M).out ρ f = f a M := (rfl)
@[simp] theorem Res.out_err {α : Type} (x : Exc) (M : Mem) (ρ : Ev) (f : α → Mem → Out) : (Res.err x M : Res α).out ρ f = .er x ρ M := (rfl)
@[simp] theorem Res.out_bad {α : Type} (ρ : Ev) (f : α → Mem → Out) : (Res.bad : Res α).out ρ f = .bad := (rfl)
def Out.then (o : Out) (f : Ev → Mem → Out) : Out :=
  match o with
  | .nx ρ M => f ρ M
  | .rt d M => .rt d M
  | .er x ρ M => .er x ρ M
  | .bad => .bad
@[simp] theorem Out.then_nx (ρ : Ev) (M : Mem) (f : Ev → Mem → Out) : (Out.nx ρ M).then f = f ρ M := (rfl)
@[simp] theorem Out.then_rt (d : D) (M : Mem) (f : Ev → Mem → Out) : (Out.rt d M).then f = .rt d M := (rfl)
@[simp] theorem Out.then_er (x : Exc) (ρ : Ev) (M : Mem) (f : Ev → Mem → Out) : (Out.er x ρ M).then f = .er x ρ M := (rfl)
@[simp] theorem Out.then_bad (f : Ev → Mem → Out) : Out.bad.then f = .bad := (rfl)
def forL (t : Tg) (f : Ev → Mem → Out) : List D → Ev → Mem → Out
  | [], ρ, M => .nx ρ M
  | d :: ds, ρ, M => match t.put d ρ with
    | some ρ1 => (f ρ1 M).then fun ρ2 M2 => forL t f ds ρ2 M2
    | none => .bad
def whlL (c : Ev → Mem → Res Bool) (f : Ev → Mem → Out) : Nat → Ev → Mem → Out
  | 0, _, _ => .bad
  | n + 1, ρ, M => (c ρ M).out ρ fun k M1 => if k = true then (f ρ M1).then fun ρ2 M2 => whlL c f n ρ2 M2 else .nx ρ M1
def evT (Φ : Fns) (c : E) (ρ : Ev) (M : Mem) : Res Bool := (ev Φ c ρ M).bind fun x M1 => .of (x.truth M1) M1
/-- may the slot be stored to: it is no list of its own (that would be dropped: also fine) -/
def putE (ρ : Ev) (i : Nat) (d : D) : Ev := ρ.set i (.v d)
mutual
def ex (Φ : Fns) : S → Ev → Mem → Out
  | .set i e, ρ, M => (ev Φ e ρ M).out ρ fun x M1 => .nx (ρ.set i (.v x)) M1
  | .own i e, ρ, M => (ev Φ e ρ M).out ρ fun x M1 => match x with
    | .lst xs => .nx (ρ.set i (.own xs)) M1
    | _ => .bad
  | .freeze i, ρ, M => match slotO ρ i with
    | some xs => .nx (ρ.set i (.v (.lst xs))) M
    | none => .bad
  | .unpack is e, ρ, M => (ev Φ e ρ M).out ρ fun x M1 => match x with
    | .tup ds => match setsL is ds ρ with | some ρ2 => .nx ρ2 M1 | none => .bad
    | _ => .bad
  | .append i e, ρ, M => match slotO ρ i with
    | some xs => (ev Φ e ρ M).out ρ fun x M1 => if xs.length < sizeLine then .nx (ρ.set i (.own (xs ++ [x]))) M1 else .bad
    | none => .bad
  | .popAt j i k, ρ, M => match slotO ρ i with
    | some xs => (ev Φ k ρ M).out ρ fun y M1 => match y with
      | .int z => match seqIndex? z xs.length with
        | some m => match xs[m]? with
          | some x => if -(2 ^ 63) ≤ z ∧ z < 2 ^ 63 ∧ j ≠ i then .nx ((ρ.set i (.own (xs.eraseIdx m))).set j (.v x)) M1 else .bad
          | none => .bad
        | none => .bad
      | _ => .bad
    | none => .bad
  | .setO i k e, ρ, M => match slotO ρ i with
    | some xs => (ev Φ e ρ M).out ρ fun x M1 => (ev Φ k ρ M1).out ρ fun y M2 => match y with
      | .int z => match ixN xs.length z with
        | some m => .nx (ρ.set i (.own (xs.set m x))) M2
        | none => .bad
      | _ => .bad
    | none => .bad
  | .setC a k e, ρ, M => (ev Φ e ρ M).out ρ fun x M1 => (ev Φ a ρ M1).out ρ fun o M2 => (ev Φ k ρ M2).out ρ fun y M3 => match o, y with
    | .cell n, .int z => match M3[n]? with
      | some (.lst xs) => match ixN xs.length z with
        | some m => .nx ρ (M3.set n (.lst (xs.set m x)))
        | none => .bad
      | _ => .bad
    | _, _ => .bad
  | .expr e, ρ, M => (ev Φ e ρ M).out ρ fun _ M1 => .nx ρ M1
  | .ret e, ρ, M => (ev Φ e ρ M).out ρ fun x M1 => .rt x M1
  | .ite c a b, ρ, M => (evT Φ c ρ M).out ρ fun k M1 => if k = true then exs Φ a ρ M1 else exs Φ b ρ M1
  | .whl n c b, ρ, M => whlL (evT Φ c) (exs Φ b) n ρ M
  | .for_ it t b, ρ, M => (evI Φ it ρ M).out ρ fun ds M1 => forL t (exs Φ b) ds ρ M1
  | .never, _, _ => .bad
  | .raise_ c anc f e, ρ, M => (ev Φ e ρ M).out ρ fun x M1 => match f with
    | some f => if x.flat then .er ⟨c, anc, [(f, x)]⟩ ρ M1 else .bad
    | none => .er ⟨c, anc, []⟩ ρ M1
  | .try_ b hs, ρ, M => match exs Φ b ρ M with
    | .er x ρ1 M1 => match hs.find? fun h => x.anc.contains h.cls with
      | some h => match h.e.ev x, h.slot.all fun k => decide (k < ρ1.length) with
        | some d, true => .rt d M1
        | _, _ => .bad
      | none => .er x ρ1 M1
    | o => o
def exs (Φ : Fns) : B → Ev → Mem → Out
  | .nil, ρ, M => .nx ρ M
  | .cons s b, ρ, M => (ex Φ s ρ M).then fun ρ1 M1 => exs Φ b ρ1 M1
end
def startE (N : List Str) (ds : List D) : Ev := ds.map .v ++ List.replicate (N.length - ds.length) .un
def FD.run (Φ : Fns) (fd : FD) (ds : List D) (M : Mem) : Res D :=
  if ds.length = fd.ps.length then
    match exs Φ fd.body (startE fd.N ds) M with
    | .nx _ M1 => .ok .non M1
    | .rt d M1 => .ok d M1
    | .er x _ M1 => .err x M1
    | .bad => .bad
  else .bad
/-- the defs of the table, called to a depth -/
def callN (T : Nat → Option FD) : Nat → Fns
  | 0, _, _, _ => .bad
  | n + 1, f, ds, M => match T f with
    | some fd => fd.run (callN T n) ds M
    | none => .bad
end PC

namespace PC
open PySem L2

def LsAt (K : PySem.W.Frag) (H : Hp) (B : Addr → Prop) (a : Addr) (vs : List V) : Prop := H a = some (.lst vs) ∧ ¬ B a
def FzAt (K : PySem.W.Frag) (H : Hp) (B : Addr → Prop) (a : Addr) (vs : List V) : Prop := (Rd H a (.lst vs) ∧ ¬ B a) ∨ ∀ H' : Hp, SqL K H' a vs
def TpAt (K : PySem.W.Frag) (H : Hp) (B : Addr → Prop) (a : Addr) (vs : List V) : Prop := (Rd H a (.tup vs) ∧ ¬ B a) ∨ ∀ H' : Hp, SqT K H' a vs
mutual
inductive Rp (K : PySem.W.Frag) (H : Hp) (B : Addr → Prop) (μ : List Addr) : D → V → Prop
  | non : Rp K H B μ .non .non
  | bl (b : Bool) : Rp K H B μ (.bl b) (.bl b)
  | int (i : Int) : Rp K H B μ (.int i) (.int i)
  | str (x : Str) : Rp K H B μ (.str x) (.str x)
  | tup {a : Addr} {vs : List V} {ds : List D} : TpAt K H B a vs → Rps K H B μ ds vs → Rp K H B μ (.tup ds) (.ref a)
  | lst {a : Addr} {vs : List V} {ds : List D} : LsAt K H B a vs → Rps K H B μ ds vs → Rp K H B μ (.lst ds) (.ref a)
  | frz {a : Addr} {vs : List V} {ds : List D} : FzAt K H B a vs → Rps K H B μ ds vs → Rp K H B μ (.frz ds) (.ref a)
  | cell {n : Nat} {a : Addr} : μ[n]? = some a → Rp K H B μ (.cell n) (.ref a)
inductive Rps (K : PySem.W.Frag) (H : Hp) (B : Addr → Prop) (μ : List Addr) : List D → List V → Prop
  | nil : Rps K H B μ [] []
  | cons {d : D} {v : V} {ds : List D} {vs : List V} : Rp K H B μ d v → Rps K H B μ ds vs → Rps K H B μ (d :: ds) (v :: vs)
end
section
variable {K : PySem.W.Frag} {H H' : Hp} {B B' : Addr → Prop} {μ μ' : List Addr}
theorem TpAt.sq {a : Addr} {vs : List V} (h : TpAt K H B a vs) : SqT K H a vs := by
  rcases h with h | h
  · exact .inl h.1
  · exact h H
theorem LsAt.sq {a : Addr} {vs : List V} (h : LsAt K H B a vs) : SqL K H a vs := .inl (.inl h.1)
theorem FzAt.sq {a : Addr} {vs : List V} (h : FzAt K H B a vs) : SqL K H a vs := by
  rcases h with h | h
  · exact .inl h.1
  · exact h H
/-- what a datum leans on stays -/
structure Kp (H H' : Hp) (B B' : Addr → Prop) (μ μ' : List Addr) : Prop where
  k : ∀ (a : Addr) (o : HO), H a = some o → ¬ B a → H' a = some o ∧ ¬ B' a
  m : ∀ (n : Nat) (a : Addr), μ[n]? = some a → μ'[n]? = some a
theorem Kp.refl : Kp H H B B μ μ := ⟨fun _ _ h b => ⟨h, b⟩, fun _ _ h => h⟩
theorem Kp.trans {H'' : Hp} {B'' : Addr → Prop} {μ'' : List Addr} (x : Kp H H' B B' μ μ') (y : Kp H' H'' B' B'' μ' μ'') : Kp H H'' B B'' μ μ'' :=
  ⟨fun a o h b => let ⟨h1, b1⟩ := x.k a o h b; y.k a o h1 b1, fun n a h => y.m n a (x.m n a h)⟩
theorem TpAt.mono {a : Addr} {vs : List V} (k : Kp H H' B B' μ μ') (h : TpAt K H B a vs) : TpAt K H' B' a vs := by
  rcases h with ⟨h | ⟨o, h⟩, b⟩ | h
  · exact .inl ⟨.inl (k.k _ _ h b).1, (k.k _ _ h b).2⟩
  · exact .inl ⟨.inr ⟨o, (k.k _ _ h b).1⟩, (k.k _ _ h b).2⟩
  · exact .inr h
theorem LsAt.mono {a : Addr} {vs : List V} (k : Kp H H' B B' μ μ') (h : LsAt K H B a vs) : LsAt K H' B' a vs := k.k _ _ h.1 h.2
theorem FzAt.mono {a : Addr} {vs : List V} (k : Kp H H' B B' μ μ') (h : FzAt K H B a vs) : FzAt K H' B' a vs := by
  rcases h with ⟨h | ⟨o, h⟩, b⟩ | h
  · exact .inl ⟨.inl (k.k _ _ h b).1, (k.k _ _ h b).2⟩
  · exact .inl ⟨.inr ⟨o, (k.k _ _ h b).1⟩, (k.k _ _ h b).2⟩
  · exact .inr h
mutual
theorem Rp.mono (k : Kp H H' B B' μ μ') : ∀ {d : D} {v : V}, Rp K H B μ d v → Rp K H' B' μ' d v
  | _, _, .non => .non
  | _, _, .bl b => .bl b
  | _, _, .int i => .int i
  | _, _, .str x => .str x
  | _, _, .tup h r => .tup (h.mono k) (Rps.mono k r)
  | _, _, .lst h r => .lst (h.mono k) (Rps.mono k r)
  | _, _, .frz h r => .frz (h.mono k) (Rps.mono k r)
  | _, _, .cell h => .cell (k.m _ _ h)
theorem Rps.mono (k : Kp H H' B B' μ μ') : ∀ {ds : List D} {vs : List V}, Rps K H B μ ds vs → Rps K H' B' μ' ds vs
  | _, _, .nil => .nil
  | _, _, .cons h r => .cons (Rp.mono k h) (Rps.mono k r)
end
theorem Rps.length : ∀ {ds : List D} {vs : List V}, Rps K H B μ ds vs → ds.length = vs.length
  | _, _, .nil => rfl
  | _, _, .cons _ r => congrArg (· + 1) (Rps.length r)
theorem Rps.get : ∀ {ds : List D} {vs : List V} {i : Nat} {d : D}, Rps K H B μ ds vs → ds[i]? = some d → ∃ v, vs[i]? = some v ∧ Rp K H B μ d v
  | _, _, _, _, .nil, e => by simp at e
  | _, _, 0, _, .cons h _, e => by simp at e; subst e; exact ⟨_, rfl, h⟩
  | _, _, i + 1, _, .cons _ r, e => by
    obtain ⟨v, h1, h2⟩ := Rps.get (i := i) r (by simpa using e)
    exact ⟨v, by simpa using h1, h2⟩
theorem Rps.append : ∀ {ds es : List D} {vs ws : List V}, Rps K H B μ ds vs → Rps K H B μ es ws → Rps K H B μ (ds ++ es) (vs ++ ws)
  | _, _, _, _, .nil, s => s
  | _, _, _, _, .cons h r, s => .cons h (Rps.append r s)
theorem Rps.set {d : D} {v : V} (h : Rp K H B μ d v) : ∀ {ds : List D} {vs : List V} (i : Nat), Rps K H B μ ds vs → Rps K H B μ (ds.set i d) (vs.set i v)
  | _, _, _, .nil => .nil
  | _, _, 0, .cons _ r => .cons h r
  | _, _, i + 1, .cons q r => .cons q (Rps.set h i r)
theorem Rps.eraseIdx : ∀ {ds : List D} {vs : List V} (i : Nat), Rps K H B μ ds vs → Rps K H B μ (ds.eraseIdx i) (vs.eraseIdx i)
  | _, _, _, .nil => .nil
  | _, _, 0, .cons _ r => r
  | _, _, i + 1, .cons q r => .cons q (Rps.eraseIdx i r)
theorem Rps.take : ∀ {ds : List D} {vs : List V} (n : Nat), Rps K H B μ ds vs → Rps K H B μ (ds.take n) (vs.take n)
  | _, _, 0, _ => by simp; exact .nil
  | _, _, _ + 1, .nil => .nil
  | _, _, n + 1, .cons h r => .cons h (Rps.take n r)
theorem Rps.drop : ∀ {ds : List D} {vs : List V} (n : Nat), Rps K H B μ ds vs → Rps K H B μ (ds.drop n) (vs.drop n)
  | _, _, 0, r => r
  | _, _, _ + 1, .nil => .nil
  | _, _, n + 1, .cons _ r => Rps.drop n r
theorem Rps.reverse : ∀ {ds : List D} {vs : List V}, Rps K H B μ ds vs → Rps K H B μ ds.reverse vs.reverse
  | _, _, .nil => .nil
  | _, _, .cons h r => by
    rw [List.reverse_cons, List.reverse_cons]
    exact (Rps.reverse r).append (.cons h .nil)
theorem Rps.rep {ds : List D} {vs : List V} (r : Rps K H B μ ds vs) : ∀ n : Nat, Rps K H B μ (List.replicate n ds).flatten (List.replicate n vs).flatten
  | 0 => .nil
  | n + 1 => by
    rw [List.replicate_succ, List.replicate_succ, List.flatten_cons, List.flatten_cons]
    exact r.append (Rps.rep r n)
theorem Rps.cut {ds : List D} {vs : List V} (r : Rps K H B μ ds vs) (lo hi : Option Int) : Rps K H B μ (cutD ds lo hi) (cutV vs lo hi) := by
  unfold cutD cutV
  rw [r.length]
  exact (r.drop _).take _
theorem Rps.ints : ∀ {ds : List D} {is : List Int} {vs : List V}, D.ints ds = some is → Rps K H B μ ds vs → vs = is.map V.int
  | [], is, vs, h, r => by cases r; cases h; rfl
  | d :: ds, is, vs, h, r => by
    cases r with
    | cons h1 r =>
      cases h1 <;> simp only [D.ints] at h <;> try cases h
      cases e : D.ints ds with
      | none => rw [e] at h; cases h
      | some js =>
        rw [e] at h
        cases h
        rw [Rps.ints e r]
        rfl
theorem Rps.of_ints : ∀ (is : List Int), Rps K H B μ (is.map D.int) (is.map V.int)
  | [] => .nil
  | i :: is => .cons (.int i) (Rps.of_ints is)
theorem Rps.of_get : ∀ {ds : List D} {vs : List V}, ds.length = vs.length → (∀ (i : Nat) (d : D) (v : V), ds[i]? = some d → vs[i]? = some v → Rp K H B μ d v) → Rps K H B μ ds vs
  | [], [], _, _ => .nil
  | [], _ :: _, h, _ => by cases h
  | _ :: _, [], h, _ => by cases h
  | d :: ds, v :: vs, h, f => .cons (f 0 d v rfl rfl) (Rps.of_get (Nat.succ.inj h) fun i d' v' h1 h2 => f (i + 1) d' v' (by simpa using h1) (by simpa using h2))
mutual
theorem Rp.dp : ∀ {d : D} {v : V} {p : PyData}, Rp K H B μ d v → d.py = some p → Dp K H v p
  | _, _, _, .non, e => by simp only [D.py] at e; cases e; exact .non
  | _, _, _, .bl b, e => by simp only [D.py] at e; cases e; exact .bl b
  | _, _, _, .int i, e => by simp only [D.py] at e; cases e; exact .int i
  | _, _, _, .str x, e => by simp only [D.py] at e; cases e; exact .str x
  | .tup ds, _, _, .tup h r, e => by
    simp only [D.py] at e
    cases q : D.pys ds with
    | none => rw [q] at e; cases e
    | some ys => rw [q] at e; cases e; exact .tup h.sq (Rps.dp r q)
  | .lst ds, _, _, .lst h r, e => by
    simp only [D.py] at e
    cases q : D.pys ds with
    | none => rw [q] at e; cases e
    | some ys => rw [q] at e; cases e; exact .lst h.sq (Rps.dp r q)
  | _, _, _, .frz _ _, e => by simp only [D.py] at e; cases e
  | _, _, _, .cell _, e => by simp only [D.py] at e; cases e
theorem Rps.dp : ∀ {ds : List D} {vs : List V} {ps : List PyData}, Rps K H B μ ds vs → D.pys ds = some ps → DpAll K H vs ps
  | _, _, _, .nil, e => by simp only [D.pys] at e; cases e; exact .nil
  | d :: ds, _, _, .cons h r, e => by
    simp only [D.pys] at e
    cases q : d.py with
    | none => rw [q] at e; cases e
    | some a =>
      cases q2 : D.pys ds with
      | none => rw [q, q2] at e; cases e
      | some b => rw [q, q2] at e; cases e; exact .cons (Rp.dp h q) (Rps.dp r q2)
end
end

structure Fr where
  H0 : Hp
  B0 : Addr → Prop
  μ0 : List Addr
def CellR (K : PySem.W.Frag) (H : Hp) (B : Addr → Prop) (μ : List Addr) : Cell → Addr → Prop
  | .lst ds, a => ∃ vs, H a = some (.lst vs) ∧ Rps K H B μ ds vs
  | .dict _, _ => False
  | .ins _ _, _ => False
def SlotR (K : PySem.W.Frag) (H : Hp) (B : Addr → Prop) (μ : List Addr) (oa : Option Addr) (σi : Option (Option V)) : Slot → Prop
  | .un => oa = none
  | .v d => oa = none ∧ ∃ v, σi = some (some v) ∧ Rp K H B μ d v
  | .own ds => ∃ a vs, oa = some a ∧ σi = some (some (.ref a)) ∧ H a = some (.lst vs) ∧ Rps K H B μ ds vs
/-- the cells -/
structure Cs (K : PySem.W.Frag) (H : Hp) (B : Addr → Prop) (μ : List Addr) (M : Mem) : Prop where
  nd : μ.Nodup
  len : M.length = μ.length
  ban : ∀ a ∈ μ, B a
  at_ : ∀ (n : Nat) (c : Cell) (a : Addr), M[n]? = some c → μ[n]? = some a → CellR K H B μ c a
structure Rel (K : PySem.W.Frag) (fr : Fr) (B : Addr → Prop) (μ : List Addr) (oa : Nat → Option Addr) (ρ : Ev) (M : Mem) (σ : St) (H : Hp) : Prop where
  cs : Cs K H B μ M
  b0 : ∀ a, fr.B0 a → B a
  bt : ∀ a, B a → H a ≠ none
  bo : ∀ i a, oa i = some a → B a
  oi : ∀ i j a, oa i = some a → oa j = some a → i = j
  on : ∀ i a, oa i = some a → fr.H0 a = none ∧ ¬ fr.B0 a ∧ a ∉ μ
  sl : ∀ (i : Nat) (s : Slot), ρ[i]? = some s → SlotR K H B μ (oa i) σ[i]? s
  so : ∀ (i : Nat), ρ[i]? = none → oa i = none
  ln : ρ.length = σ.length
  m0 : ∃ t, μ = fr.μ0 ++ t ∧ ∀ a ∈ t, fr.H0 a = none ∧ ¬ fr.B0 a
  ev : ∀ a o, fr.H0 a = some o → a ∉ fr.μ0 → H a = some o
/-- the bans behind: what was, and the cells -/
def ban (B : Addr → Prop) (μ : List Addr) : Addr → Prop := fun a => B a ∨ a ∈ μ
/-- from one state to a later one within an expression -/
structure Evo (μ : List Addr) (H : Hp) (μ' : List Addr) (H' : Hp) : Prop where
  pre : ∃ t, μ' = μ ++ t ∧ ∀ a ∈ t, H a = none
  keep : ∀ a o, H a = some o → a ∉ μ → H' a = some o
section
variable {K : PySem.W.Frag} {fr : Fr} {H H' H'' : Hp} {B : Addr → Prop} {μ μ' μ'' : List Addr} {oa : Nat → Option Addr} {ρ : Ev} {M M' : Mem} {σ : St}
theorem Evo.refl : Evo μ H μ H := ⟨⟨[], by simp, by simp⟩, fun _ _ h _ => h⟩
theorem Evo.mem (e : Evo μ H μ' H') {a : Addr} (h : a ∈ μ) : a ∈ μ' := by
  obtain ⟨t, rfl, _⟩ := e.pre
  exact List.mem_append_left _ h
theorem Evo.old (e : Evo μ H μ' H') {a : Addr} {o : HO} (h : a ∈ μ') (q : H a = some o) : a ∈ μ := by
  obtain ⟨t, rfl, n⟩ := e.pre
  rcases List.mem_append.mp h with h | h
  · exact h
  · rw [n a h] at q; cases q
theorem Evo.get (e : Evo μ H μ' H') {n : Nat} {a : Addr} (h : μ[n]? = some a) : μ'[n]? = some a := by
  obtain ⟨t, rfl, _⟩ := e.pre
  rw [List.getElem?_append_left (List.getElem?_eq_some_iff.mp h).1]
  exact h
theorem Evo.kp (e : Evo μ H μ' H') : Kp H H' (ban B μ) (ban B μ') μ μ' :=
  ⟨fun a o h b => ⟨e.keep a o h fun z => b (.inr z), fun z => z.elim (fun z => b (.inl z)) fun z => b (.inr (e.old z h))⟩, fun _ _ h => e.get h⟩
theorem Evo.trans (e : Evo μ H μ' H') (f : Evo μ' H' μ'' H'') (tr : ∀ a ∈ μ, H a ≠ none) (hm : ∀ a ∈ μ, H' a ≠ none) : Evo μ H μ'' H'' := by
  obtain ⟨t, rfl, n⟩ := e.pre
  obtain ⟨u, rfl, n'⟩ := f.pre
  refine ⟨⟨t ++ u, by rw [List.append_assoc], fun a h => ?_⟩, fun a o h hn => ?_⟩
  · rcases List.mem_append.mp h with h | h
    · exact n a h
    · cases q : H a with
      | none => rfl
      | some o =>
        by_cases hm' : a ∈ μ
        · exact absurd (n' a h) (hm a hm')
        · exact (e.keep a o q hm').symm.trans (n' a h)
  · refine f.keep a o (e.keep a o h hn) fun z => ?_
    rcases List.mem_append.mp z with z | z
    · exact hn z
    · rw [n a z] at h; cases h
end
end PC

namespace PC
open PySem PySem.Spec PyProof.Rows L2
section
variable {K : PySem.W.Frag} {H H' : Hp} {B : Addr → Prop} {μ : List Addr}
theorem same_upd {p : Addr} {o : HO} (h : H p = none) : Same H (upd H p o) := fun b x e => by
  rw [upd_ne (ne_of_none e h)]
  exact e
theorem Same.kp (s : Same H H') : Kp H H' B B μ μ := ⟨fun a o h b => ⟨s a o h, b⟩, fun _ _ h => h⟩
theorem new_tup {p : Addr} {ds : List D} {vs : List V} (bt : ∀ a, B a → H a ≠ none) (h : H p = none) (r : Rps K H B μ ds vs) : Rp K (upd H p (.tup vs)) B μ (.tup ds) (.ref p) :=
  .tup (.inl ⟨.inl upd_same, fun b => bt p b h⟩) (r.mono (Same.kp (same_upd h)))
theorem new_lst {p : Addr} {ds : List D} {vs : List V} (bt : ∀ a, B a → H a ≠ none) (h : H p = none) (r : Rps K H B μ ds vs) : Rp K (upd H p (.lst vs)) B μ (.lst ds) (.ref p) :=
  .lst ⟨upd_same, fun b => bt p b h⟩ (r.mono (Same.kp (same_upd h)))
end

/-- an operator's wish, by data -/
def rD (K : PySem.W.Frag) (run : D → D → Option D) : R2 := fun x y H Q => ∃ B μ a b d, (∀ z : Addr, B z → H z ≠ none) ∧ Rp K H B μ a x ∧ Rp K H B μ b y ∧ run a b = some d ∧
  ∀ v H', Same H H' → Rp K H' B μ d v → Q v H'
section
variable {X : Cx}
theorem tup_rep1 (l : Addr) (items : Array Value) (n : Nat) (dd : Option Addr) (sl : Array (Option Value)) (x : Int) (u : Tok) (c0 : (decide (x < -(2 ^ 63)) || decide (x ≥ 2 ^ 63)) = false) (c1 : (items.isEmpty || x == 1) = true) :
    Meets (Builtin.«tuple.__mul__» ⟨[.ref l, .int x u], []⟩) (fun _ R s => s.heap.get? l = some { cls := .type "tuple", dict := dd, data := .seq items n, slots := sl } ∧
      R (.ok (.ret (Value.ref l))) s) :=
  .of_wp fun prog w A R s h => by
    obtain ⟨hp, g, d, tk, os⟩ := s
    obtain ⟨hl, h⟩ := h
    have f1 := AutoSeq1.idx_int
    wp_walk using wpAny_loadPart' hl
    repeat (first
      | (refine wpAny_ite_false (decide_eq_false (by rw [c0]; exact Bool.false_ne_true)) ?_; wp_walk using wpAny_loadPart' hl)
      | (refine wpAny_ite_true (decide_eq_true c1) ?_; wp_walk using wpAny_loadPart' hl))
    exact ⟨_, rfl, h⟩
theorem tup_rep0 (l : Addr) (items : Array Value) (n : Nat) (dd : Option Addr) (sl : Array (Option Value)) (x : Int) (u : Tok) (c0 : (decide (x < -(2 ^ 63)) || decide (x ≥ 2 ^ 63)) = false) (c1 : (items.isEmpty || x == 1) = false) (c2 : (decide (x ≤ 0) || items.isEmpty) = true) :
    Meets (Builtin.«tuple.__mul__» ⟨[.ref l, .int x u], []⟩) (fun _ R s => s.heap.get? l = some { cls := .type "tuple", dict := dd, data := .seq items n, slots := sl } ∧
      R (.ok (.ret (Value.ref s.heap.objs.size))) { s with heap := s.heap.push { cls := Value.type "tuple", data := Data.seq #[] }, toks := s.toks }) :=
  .of_wp fun prog w A R s h => by
    obtain ⟨hp, g, d, tk, os⟩ := s
    obtain ⟨hl, h⟩ := h
    have f1 := AutoSeq1.idx_int
    wp_walk using wpAny_loadPart' hl
    repeat (first
      | (refine wpAny_ite_false (decide_eq_false (by rw [c0]; exact Bool.false_ne_true)) ?_; wp_walk using wpAny_loadPart' hl)
      | (refine wpAny_ite_false (decide_eq_false (by rw [c1]; exact Bool.false_ne_true)) ?_; wp_walk using wpAny_loadPart' hl)
      | (refine wpAny_ite_true (decide_eq_true c2) ?_; wp_walk using wpAny_loadPart' hl))
    exact ⟨_, rfl, h⟩
/-- t * k, any k -/
def rRepA (K : PySem.W.Frag) : R2 := fun x y H Q => ∃ l k xs, x = .ref l ∧ y = .int k ∧ SqT K H l xs ∧ -(2 ^ 63) ≤ k ∧ k < 2 ^ 62 ∧ k.toNat * xs.length ≤ sizeLine ∧
  (xs = [] ∨ k = 1 → Q (.ref l) H) ∧ (∀ p, H p = none → Q (.ref p) (upd H p (.tup (List.replicate k.toNat xs).flatten)))
theorem op_repA : OpR X (binaryOp .Mult) (rRepA X.K) := by
  intro pins s σ H x y v u Q I rx ry h
  obtain ⟨l, k, xs, rfl, rfl, hT, h1, h2, hz, q1, q⟩ := h
  cases rx
  obtain ⟨t, rfl⟩ := ry
  obtain ⟨its, r, ⟨⟨cls, dd, data, sl⟩, ho, hc, n, hd⟩, hs⟩ := I.tuple hT
  simp only at hc hd
  subst hc hd
  have hle : its.length = xs.length := r.length.symm
  have hsz0 : its.toArray.size = xs.length := by rw [List.size_toArray, hle]
  have c0 : (decide (k < -(2 ^ 63)) || decide (k ≥ 2 ^ 63)) = false := by
    rw [decide_eq_false (by omega), decide_eq_false (by omega)] <;> rfl
  have sz := sizeLine_eq
  refine wpAny_binaryOp_repeat_ref (T := "tuple") (U := "int") (by decide) ⟨_, ho, rfl⟩ (fun s' => typeIs_int s' k t) noFill_tuple_mul F.fills_int_mul F.slot_int_rmul repeat_tuple F.slot_int_index.lookup
    (call_meets F.slot_int_rmul (typeIs_int s k t) F.entry_int_rmul (F.args_int_rmul_2 _ _) (int_rmul_tuple k t l its.toArray n dd sl) ⟨ho, rfl, ⟨_, ho, rfl⟩, ?_⟩)
  by_cases hx : xs = [] ∨ k = 1
  · have c1 : (its.toArray.isEmpty || k == 1) = true := by
      rcases hx with e | e
      · have : its = [] := List.eq_nil_of_length_eq_zero (by rw [hle, e]; rfl)
        subst this
        rfl
      · subst e
        exact Bool.or_true _
    exact call_meets F.slot_tuple_mul ⟨_, ho, rfl⟩ F.entry_tuple_mul (F.args_tuple_mul_2 _ _) (tup_rep1 l its.toArray n dd sl k t c0 c1) ⟨ho, .ref l, H, I, rfl, q1 hx⟩
  · have hne : xs ≠ [] := fun e => hx (.inl e)
    have hk : k ≠ 1 := fun e => hx (.inr e)
    have hn : its ≠ [] := fun e => hne (by
      rw [e] at hle
      exact List.eq_nil_of_length_eq_zero hle.symm)
    have hi : its.toArray.isEmpty = false := by
      cases its with
      | nil => exact absurd rfl hn
      | cons a b => rfl
    have hpos : 0 < xs.length := by
      cases xs with
      | nil => exact absurd rfl hne
      | cons a b => exact Nat.succ_pos _
    have c1 : (its.toArray.isEmpty || k == 1) = false := by
      rw [hi, Bool.false_or]
      exact beq_eq_false_iff_ne.mpr hk
    by_cases h0 : k ≤ 0
    · have c2 : (decide (k ≤ 0) || its.toArray.isEmpty) = true := by rw [decide_eq_true h0]; rfl
      refine call_meets F.slot_tuple_mul ⟨_, ho, rfl⟩ F.entry_tuple_mul (F.args_tuple_mul_2 _ _) (tup_rep0 l its.toArray n dd sl k t c0 c1 c2) ⟨ho, ?_⟩
      have e0 : k.toNat = 0 := by omega
      have q' := q _ (I.hok.fresh (Nat.le_refl _))
      rw [e0] at q'
      refine ⟨.ref s.heap.objs.size, _, I.laid (t' := s.toks) (o := .tup []) (fun b ob q => Heap.get?_push_of_some _ q) (Nat.le_refl _) ?_, rfl, q'⟩
      exact ⟨Nat.zero_le _, [], .nil, IsTup.new _ _⟩
    · have flen : (List.replicate k.toNat its).flatten.length ≤ sizeLine := by
        rw [PyProof.Rows.lm_len_rep_flat, hle]
        exact hz
      have c2 : (decide (k ≤ 0) || its.toArray.isEmpty) = false := by
        rw [hi, Bool.or_false]
        exact decide_eq_false h0
      have em : ((its.toArray.size : Nat) : Int) * k = ((k.toNat * xs.length : Nat) : Int) := by
        rw [hsz0, Int.natCast_mul, Int.toNat_of_nonneg (by omega), Int.mul_comm]
      have c4 : Builtin.Tuple.tupleTooMany (((its.toArray.size : Nat) : Int) * k) = false := by
        unfold Builtin.Tuple.tupleTooMany
        rw [em, sizeLine_eq]
        exact decide_eq_false (by omega)
      refine call_meets F.slot_tuple_mul ⟨_, ho, rfl⟩ F.entry_tuple_mul (F.args_tuple_mul_2 _ _) (tuple_mulW l its.toArray n dd sl k t c0 c1 c2 (by rw [em]; omega) c4 (by rw [size_rep, List.size_toArray]; exact flen)) ⟨ho, ?_⟩
      rw [size_rep]
      refine ⟨.ref s.heap.objs.size, _, I.laid (t' := s.toks) (o := .tup (List.replicate k.toNat xs).flatten) (fun b ob q => Heap.get?_push_of_some _ q) (Nat.le_refl _) ?_, rfl, q _ (I.hok.fresh (Nat.le_refl _))⟩
      exact ⟨by rw [PyProof.Rows.lm_len_rep_flat]; exact hz, _, r.rep k.toNat, IsTup.new _ _⟩

def bopOf : Bop → Operator
  | .add => .Add | .sub => .Sub | .mul => .Mult | .fdiv => .FloorDiv | .mod => .Mod
theorem op_bop (o : Bop) : OpR X (binaryOp (bopOf o)) (rD X.K o.run) := by
  intro pins s σ H x y v u Q I rx ry h
  obtain ⟨B, μ, a, b, d, bt, ra, rb, hr, q⟩ := h
  cases o with
  | add =>
    cases ra <;> cases rb <;> simp only [Bop.run] at hr <;> try cases hr
    · exact op_add pins s σ H _ _ v u Q I rx ry ⟨_, _, rfl, rfl, q _ H (Same.refl H) (.int _)⟩
    · split at hr
      · cases hr
        exact op_add_str pins s σ H _ _ v u Q I rx ry ⟨_, _, rfl, rfl, by assumption, q _ H (Same.refl H) (.str _)⟩
      · cases hr
    · rename_i a1 vs1 ds1 t1 r1 a2 vs2 ds2 t2 r2
      split at hr
      · rename_i hz
        cases hr
        rw [r1.length, r2.length] at hz
        refine op_catA pins s σ H _ _ v u Q I rx ry ⟨_, _, _, _, rfl, rfl, t1.sq, t2.sq, hz, fun e => q _ H (Same.refl H) ?_, fun _ e => q _ H (Same.refl H) ?_, fun _ _ p hp => q _ _ (same_upd hp) (new_tup bt hp (r1.append r2))⟩
        · subst e
          cases r1
          exact .tup t2 r2
        · subst e
          cases r2
          rw [List.append_nil]
          exact .tup t1 r1
      · cases hr
    · rename_i a1 vs1 ds1 t1 r1 a2 vs2 ds2 t2 r2
      split at hr
      · rename_i hz
        cases hr
        rw [r1.length, r2.length] at hz
        exact op_cat pins s σ H _ _ v u Q I rx ry ⟨_, _, _, _, rfl, rfl, t1.1, t2.1, hz, fun p hp => q _ _ (same_upd hp) (new_lst bt hp (r1.append r2))⟩
      · cases hr
  | sub =>
    cases ra <;> cases rb <;> simp only [Bop.run] at hr <;> try cases hr
    exact op_sub pins s σ H _ _ v u Q I rx ry ⟨_, _, rfl, rfl, q _ H (Same.refl H) (.int _)⟩
  | mul =>
    cases ra <;> cases rb <;> simp only [Bop.run] at hr <;> try cases hr
    · split at hr
      · rename_i hm
        cases hr
        exact op_mul pins s σ H _ _ v u Q I rx ry ⟨_, _, rfl, rfl, (show CMul _ _ from of_decide_eq_true (p := (_ ∨ _)) hm), q _ H (Same.refl H) (.int _)⟩
      · cases hr
    · rename_i a1 vs1 ds1 t1 r1 n
      split at hr
      · rename_i hz
        cases hr
        obtain ⟨h0, h1, h2⟩ := hz
        rw [r1.length] at h2
        refine op_repA pins s σ H _ _ v u Q I rx ry ⟨_, _, _, rfl, rfl, t1.sq, h0, h1, h2, fun e => q _ H (Same.refl H) ?_, fun p hp => q _ _ (same_upd hp) (new_tup bt hp (r1.rep _))⟩
        rcases e with e | e
        · subst e
          cases r1
          unfold rep
          rw [show (List.replicate n.toNat ([] : List D)).flatten = [] by simp]
          exact .tup t1 .nil
        · subst e
          unfold rep
          rw [show (List.replicate (1 : Int).toNat ds1).flatten = ds1 by simp]
          exact .tup t1 r1
      · cases hr
    · rename_i a1 vs1 ds1 t1 r1 n
      split at hr
      · rename_i hz
        cases hr
        obtain ⟨h0, h1, h2⟩ := hz
        rw [r1.length] at h2
        exact op_rep pins s σ H _ _ v u Q I rx ry ⟨_, _, _, rfl, rfl, t1.1, by omega, by omega, by rw [Nat.mul_comm]; exact h2, fun p hp => q _ _ (same_upd hp) (new_lst bt hp (r1.rep _))⟩
      · cases hr
  | fdiv =>
    cases ra <;> cases rb <;> simp only [Bop.run] at hr <;> try cases hr
    split at hr
    · rename_i hm
      cases hr
      exact op_fdiv pins s σ H _ _ v u Q I rx ry ⟨_, _, rfl, rfl, hm, q _ H (Same.refl H) (.int _)⟩
    · cases hr
  | mod =>
    cases ra <;> cases rb <;> simp only [Bop.run] at hr <;> try cases hr
    split at hr
    · rename_i hm
      cases hr
      exact op_mod pins s σ H _ _ v u Q I rx ry ⟨_, _, rfl, rfl, hm, q _ H (Same.refl H) (.int _)⟩
    · cases hr

def copOf : Cop → CmpOp
  | .eq => .Eq | .ne => .NotEq | .lt => .Lt | .le => .LtE | .gt => .Gt | .ge => .GtE | .isin => .In | .notin => .NotIn
def rInT (K : PySem.W.Frag) : R2 := fun x y H Q => ∃ d ds, Dp K H x d ∧ Dp K H y (.tuple ds) ∧ SeqAt.shaped d = true ∧ SeqAt.shaped (.tuple ds) = true ∧ Q (.bl (ds.any fun z => PyData.eqv z d)) H
def rNotInT (K : PySem.W.Frag) : R2 := fun x y H Q => ∃ d ds, Dp K H x d ∧ Dp K H y (.tuple ds) ∧ SeqAt.shaped d = true ∧ SeqAt.shaped (.tuple ds) = true ∧ Q (.bl (!ds.any fun z => PyData.eqv z d)) H
theorem op_inT (hu : X.A.units + 65 < cLine) : OpR X (compareOp .In) (rInT X.K) := by
  intro pins s σ H x y v u Q I rx ry h
  obtain ⟨d, ds, hd, he, sd, se, q⟩ := h
  obtain ⟨as, r1⟩ := Dp.reads I d x v hd rx
  obtain ⟨bs, r2⟩ := Dp.reads I (.tuple ds) y u he ry
  exact PySem.SeqAt.in_tuple_reads r2 r1 (SeqAt.canLay_of_shaped se) (SeqAt.canLay_of_shaped sd) (room_in_shaped sd hu) ⟨.bl _, H, I, rfl, q⟩
theorem op_notInT (hu : X.A.units + 65 < cLine) : OpR X (compareOp .NotIn) (rNotInT X.K) := by
  intro pins s σ H x y v u Q I rx ry h
  obtain ⟨d, ds, hd, he, sd, se, q⟩ := h
  obtain ⟨as, r1⟩ := Dp.reads I d x v hd rx
  obtain ⟨bs, r2⟩ := Dp.reads I (.tuple ds) y u he ry
  exact PySem.SeqAt.notIn_tuple_reads r2 r1 (SeqAt.canLay_of_shaped se) (SeqAt.canLay_of_shaped sd) (room_in_shaped sd hu) ⟨.bl _, H, I, rfl, q⟩
def rC (K : PySem.W.Frag) (run : D → D → Option Bool) : R2 := fun x y H Q => ∃ B μ a b k, Rp K H B μ a x ∧ Rp K H B μ b y ∧ run a b = some k ∧ Q (.bl k) H
theorem op_cop (hu : X.A.units + 65 < cLine) (o : Cop) : OpR X (compareOp (copOf o)) (rC X.K o.run) := by
  intro pins s σ H x y v u Q I rx ry h
  obtain ⟨B, μ, a, b, k, ra, rb, hr, q⟩ := h
  have hu4 : X.A.units + 64 < cLine := by omega
  have eqv : ∀ k, D.eqv? a b = some k → ∃ p p', Dp X.K H x p ∧ Dp X.K H y p' ∧ SeqAt.shaped p = true ∧ SeqAt.shaped p' = true ∧ PyData.eqv p p' = k := fun k h => by
    unfold D.eqv? at h
    split at h
    · rename_i p p' h1 h2
      split at h
      · rename_i hs
        cases h
        rw [Bool.and_eq_true] at hs
        exact ⟨p, p', ra.dp h1, rb.dp h2, hs.1, hs.2, rfl⟩
      · cases h
    · cases h
  have has : ∀ k, D.has? a b = some k → (∃ p ps, Dp X.K H x p ∧ Dp X.K H y (.list ps) ∧ SeqAt.shaped p = true ∧ SeqAt.shaped (.list ps) = true ∧ (ps.any fun z => PyData.eqv z p) = k) ∨
      (∃ p ps, Dp X.K H x p ∧ Dp X.K H y (.tuple ps) ∧ SeqAt.shaped p = true ∧ SeqAt.shaped (.tuple ps) = true ∧ (ps.any fun z => PyData.eqv z p) = k) := fun k h => by
    unfold D.has? at h
    split at h
    · rename_i p qs h1 h2
      split at h
      · rename_i hs
        cases h
        rw [Bool.and_eq_true] at hs
        exact .inl ⟨p, qs, ra.dp h1, rb.dp h2, hs.1, hs.2, rfl⟩
      · cases h
    · rename_i p qs h1 h2
      split at h
      · rename_i hs
        cases h
        rw [Bool.and_eq_true] at hs
        exact .inr ⟨p, qs, ra.dp h1, rb.dp h2, hs.1, hs.2, rfl⟩
      · cases h
    · cases h
  cases o with
  | eq =>
    obtain ⟨p, p', h1, h2, h3, h4, rfl⟩ := eqv k hr
    exact op_eqD hu4 pins s σ H x y v u Q I rx ry ⟨p, p', h1, h2, h3, h4, q⟩
  | ne =>
    cases e : D.eqv? a b with
    | none => simp only [Cop.run, e] at hr; cases hr
    | some k' =>
      simp only [Cop.run, e] at hr
      cases hr
      obtain ⟨p, p', h1, h2, h3, h4, rfl⟩ := eqv k' e
      exact op_neD hu4 pins s σ H x y v u Q I rx ry ⟨p, p', h1, h2, h3, h4, q⟩
  | isin =>
    rcases has k hr with ⟨p, p', h1, h2, h3, h4, rfl⟩ | ⟨p, p', h1, h2, h3, h4, rfl⟩
    · exact op_inD hu pins s σ H x y v u Q I rx ry ⟨p, p', h1, h2, h3, h4, q⟩
    · exact op_inT hu pins s σ H x y v u Q I rx ry ⟨p, p', h1, h2, h3, h4, q⟩
  | notin =>
    cases e : D.has? a b with
    | none => simp only [Cop.run, e] at hr; cases hr
    | some k' =>
      simp only [Cop.run, e] at hr
      cases hr
      rcases has k' e with ⟨p, p', h1, h2, h3, h4, rfl⟩ | ⟨p, p', h1, h2, h3, h4, rfl⟩
      · exact op_notInD hu pins s σ H x y v u Q I rx ry ⟨p, p', h1, h2, h3, h4, q⟩
      · exact op_notInT hu pins s σ H x y v u Q I rx ry ⟨p, p', h1, h2, h3, h4, q⟩
  | lt =>
    cases ra <;> cases rb <;> simp only [Cop.run] at hr <;> try cases hr
    exact op_lt pins s σ H _ _ v u Q I rx ry ⟨_, _, rfl, rfl, q⟩
  | le =>
    cases ra <;> cases rb <;> simp only [Cop.run] at hr <;> try cases hr
    exact op_le pins s σ H _ _ v u Q I rx ry ⟨_, _, rfl, rfl, q⟩
  | gt =>
    cases ra <;> cases rb <;> simp only [Cop.run] at hr <;> try cases hr
    exact op_gt pins s σ H _ _ v u Q I rx ry ⟨_, _, rfl, rfl, q⟩
  | ge =>
    cases ra <;> cases rb <;> simp only [Cop.run] at hr <;> try cases hr
    exact op_ge pins s σ H _ _ v u Q I rx ry ⟨_, _, rfl, rfl, q⟩
end
end PC

namespace PC
open PySem PySem.Spec PyProof.Rows L2

theorem _root_.L2.PE.imp {X : Cx} {e : Expr} {t t' : TE} (h : PE X e t) (f : ∀ σ H Q, t' σ H Q → t σ H Q) : PE X e t' := ⟨fun pins s σ H Q I w => h.run pins s σ H Q I (f σ H Q w)⟩
theorem _root_.L2.PT.imp {X : Cx} {e : Expr} {t t' : TT} (h : PT X e t) (f : ∀ σ H Q, t' σ H Q → t σ H Q) : PT X e t' := ⟨fun pins s σ H Q I w => h.run pins s σ H Q I (f σ H Q w)⟩
theorem _root_.L2.PW.imp {X : Cx} {e : Expr} {t t' : TT} (h : PW X e t) (f : ∀ σ H Q, t' σ H Q → t σ H Q) : PW X e t' := ⟨fun wh pins s σ H Q I w => h.run wh pins s σ H Q I (f σ H Q w)⟩
theorem _root_.L2.PA.imp {X : Cx} {e : List Expr} {t t' : TA} (h : PA X e t) (f : ∀ σ H Q, t' σ H Q → t σ H Q) : PA X e t' := ⟨fun pos pins s σ H Q I w => h.run pos pins s σ H Q I (f σ H Q w)⟩
theorem _root_.L2.PI.imp {X : Cx} {tg e : Expr} {t t' : TI} (h : PI X tg e t) (f : ∀ σ H R, t' σ H R → t σ H R) : PI X tg e t' := ⟨fun pins s σ H R I w => h.run pins s σ H R I (f σ H R w)⟩

structure Lg where
  /-- what an exception of the core is: the class, the own dict -/
  xr : Hp → Exc → Value → Option Addr → Prop
section
variable {K : PySem.W.Frag} {fr : Fr} {H H' H'' : Hp} {B : Addr → Prop} {μ μ' μ'' : List Addr} {oa : Nat → Option Addr} {ρ : Ev} {M M' : Mem} {σ : L2.St} {α β : Type} {L : Lg} {W : WX}
/-- a state -/
abbrev Rl (K : PySem.W.Frag) (fr : Fr) (B : Addr → Prop) (μ : List Addr) (oa : Nat → Option Addr) (ρ : Ev) (M : Mem) (σ : L2.St) (H : Hp) : Prop := Rel K fr (ban B μ) μ oa ρ M σ H
/-- what is wanted of a result -/
def Pst (K : PySem.W.Frag) (L : Lg) (W : WX) (fr : Fr) (B : Addr → Prop) (μ : List Addr) (oa : Nat → Option Addr) (ρ : Ev) (σ : L2.St) (H : Hp) (r : Res α) (R : Hp → List Addr → α → Mem → Prop) : Prop :=
  match r with
  | .ok a M' => ∀ H' μ', Evo μ H μ' H' → Rl K fr B μ' oa ρ M' σ H' → R H' μ' a M'
  | .err x M' => ∀ cls dd H' μ', Evo μ H μ' H' → Rl K fr B μ' oa ρ M' σ H' → L.xr H' x cls dd → W cls dd σ H'
  | .bad => False
theorem Rel.tr (r : Rel K fr B μ oa ρ M σ H) : ∀ a ∈ μ, H a ≠ none := fun a h => r.bt a (r.cs.ban a h)
theorem Rel.later_tr (r : Rl K fr B μ' oa ρ M σ H') (e : Evo μ H μ' H') : ∀ a ∈ μ, H' a ≠ none := fun a h => r.bt a (.inr (e.mem h))
/-- from a later state -/
theorem Pst.shift {r : Res α} {R : Hp → List Addr → α → Mem → Prop} (e : Evo μ H μ' H') (tr : ∀ a ∈ μ, H a ≠ none) (tr' : ∀ a ∈ μ, H' a ≠ none) (h : Pst K L W fr B μ oa ρ σ H r R) : Pst K L W fr B μ' oa ρ σ H' r R := by
  cases r with
  | ok a M2 => exact fun H2 μ2 e2 r2 => h H2 μ2 (e.trans e2 tr tr') r2
  | err x M2 => exact fun cls dd H2 μ2 e2 r2 hx => h cls dd H2 μ2 (e.trans e2 tr tr') r2 hx
  | bad => exact h
theorem Pst.imp {r : Res α} {R R' : Hp → List Addr → α → Mem → Prop} (h : Pst K L W fr B μ oa ρ σ H r R) (f : ∀ H' μ' a M', Evo μ H μ' H' → Rl K fr B μ' oa ρ M' σ H' → R H' μ' a M' → R' H' μ' a M') : Pst K L W fr B μ oa ρ σ H r R' := by
  cases r with
  | ok a M2 => exact fun H' μ' e r => f H' μ' a M2 e r (h H' μ' e r)
  | err x M2 => exact h
  | bad => exact h
/-- the first part of a longer evaluation -/
theorem Pst.first {r : Res α} {f : α → Mem → Res β} {R : Hp → List Addr → β → Mem → Prop} (rel : Rl K fr B μ oa ρ M σ H) (h : Pst K L W fr B μ oa ρ σ H (r.bind f) R) :
    Pst K L W fr B μ oa ρ σ H r (fun H1 μ1 a M1 => Pst K L W fr B μ1 oa ρ σ H1 (f a M1) R) := by
  cases r with
  | ok a M2 => exact fun H1 μ1 e1 r1 => Pst.shift e1 rel.tr (r1.later_tr e1) h
  | err x M2 => exact h
  | bad => exact h
theorem SlotR.same {oi : Option Addr} {si : Option (Option V)} {s : Slot} (k : Same H H') (h : SlotR K H B μ oi si s) : SlotR K H' B μ oi si s := by
  cases s with
  | un => exact h
  | v d => obtain ⟨h1, v, h2, h3⟩ := h; exact ⟨h1, v, h2, h3.mono (Same.kp k)⟩
  | own ds => obtain ⟨a, vs, h1, h2, h3, h4⟩ := h; exact ⟨a, vs, h1, h2, k _ _ h3, h4.mono (Same.kp k)⟩
theorem CellR.same {c : Cell} {a : Addr} (k : Same H H') (h : CellR K H B μ c a) : CellR K H' B μ c a := by
  cases c with
  | lst ds => obtain ⟨vs, h1, h2⟩ := h; exact ⟨vs, k _ _ h1, h2.mono (Same.kp k)⟩
  | dict _ => exact h
  | ins _ _ => exact h
/-- the heap has grown -/
theorem Rel.same (r : Rel K fr B μ oa ρ M σ H) (k : Same H H') : Rel K fr B μ oa ρ M σ H' where
  cs := ⟨r.cs.nd, r.cs.len, r.cs.ban, fun n c a h1 h2 => (r.cs.at_ n c a h1 h2).same k⟩
  b0 := r.b0
  bt := fun a h => by
    cases e : H a with
    | none => exact absurd e (r.bt a h)
    | some o => rw [k a o e]; exact fun z => nomatch z
  bo := r.bo
  oi := r.oi
  on := r.on
  sl := fun i s h => (r.sl i s h).same k
  so := r.so
  ln := r.ln
  m0 := r.m0
  ev := fun a o h n => k a o (r.ev a o h n)
theorem Evo.same (k : Same H H') : Evo μ H μ H' := ⟨⟨[], by simp, by simp⟩, fun a o h _ => k a o h⟩
/-- an end that leaves the cells -/
theorem Pst.fin {a : α} {R : Hp → List Addr → α → Mem → Prop} (rel : Rl K fr B μ oa ρ M σ H) (k : Same H H') (h : Pst K L W fr B μ oa ρ σ H (.ok a M) R) : R H' μ a M :=
  h H' μ (Evo.same k) (rel.same k)

def tE (K : PySem.W.Frag) (L : Lg) (W : WX) (Φ : Fns) (c : E) : TE := fun σ H Q => ∃ fr B μ oa ρ M, Rl K fr B μ oa ρ M σ H ∧
  Pst K L W fr B μ oa ρ σ H (ev Φ c ρ M) fun H' μ' d _ => ∀ v, Rp K H' (ban B μ') μ' d v → Q v H'
def tEs (K : PySem.W.Frag) (L : Lg) (W : WX) (Φ : Fns) (c : Es) : TA := fun σ H Q => ∃ fr B μ oa ρ M, Rl K fr B μ oa ρ M σ H ∧
  Pst K L W fr B μ oa ρ σ H (evs Φ c ρ M) fun H' μ' ds _ => ∀ vs, Rps K H' (ban B μ') μ' ds vs → Q vs H'
def tT (K : PySem.W.Frag) (L : Lg) (W : WX) (Φ : Fns) (c : E) : TT := fun σ H Q => ∃ fr B μ oa ρ M, Rl K fr B μ oa ρ M σ H ∧
  Pst K L W fr B μ oa ρ σ H (evT Φ c ρ M) fun H' _ k _ => Q k H'

/-- a part is read, then the rest -/
theorem tE_first {Φ : Fns} {c : E} {f : D → Mem → Res β} {R : Hp → List Addr → β → Mem → Prop} {Q : VK} (rel : Rl K fr B μ oa ρ M σ H) (h : Pst K L W fr B μ oa ρ σ H ((ev Φ c ρ M).bind f) R)
    (g : ∀ H1 μ1 d M1 v, Rl K fr B μ1 oa ρ M1 σ H1 → Evo μ H μ1 H1 → Rp K H1 (ban B μ1) μ1 d v → Pst K L W fr B μ1 oa ρ σ H1 (f d M1) R → Q v H1) : tE K L W Φ c σ H Q :=
  ⟨fr, B, μ, oa, ρ, M, rel, (Pst.first rel h).imp fun H1 μ1 d M1 e1 r1 h1 v rv => g H1 μ1 d M1 v r1 e1 rv h1⟩
theorem tEs_first {Φ : Fns} {c : Es} {f : List D → Mem → Res β} {R : Hp → List Addr → β → Mem → Prop} {Q : List V → Hp → Prop} (rel : Rl K fr B μ oa ρ M σ H) (h : Pst K L W fr B μ oa ρ σ H ((evs Φ c ρ M).bind f) R)
    (g : ∀ H1 μ1 d M1 v, Rl K fr B μ1 oa ρ M1 σ H1 → Evo μ H μ1 H1 → Rps K H1 (ban B μ1) μ1 d v → Pst K L W fr B μ1 oa ρ σ H1 (f d M1) R → Q v H1) : tEs K L W Φ c σ H Q :=
  ⟨fr, B, μ, oa, ρ, M, rel, (Pst.first rel h).imp fun H1 μ1 d M1 e1 r1 h1 v rv => g H1 μ1 d M1 v r1 e1 rv h1⟩
theorem tT_first {Φ : Fns} {c : E} {f : Bool → Mem → Res β} {R : Hp → List Addr → β → Mem → Prop} {Q : Bool → Hp → Prop} (rel : Rl K fr B μ oa ρ M σ H) (h : Pst K L W fr B μ oa ρ σ H ((evT Φ c ρ M).bind f) R)
    (g : ∀ H1 μ1 d M1, Rl K fr B μ1 oa ρ M1 σ H1 → Evo μ H μ1 H1 → Pst K L W fr B μ1 oa ρ σ H1 (f d M1) R → Q d H1) : tT K L W Φ c σ H Q :=
  ⟨fr, B, μ, oa, ρ, M, rel, (Pst.first rel h).imp fun H1 μ1 d M1 e1 r1 h1 => g H1 μ1 d M1 r1 e1 h1⟩
/-- an earlier value at a later state -/
theorem Rp.later {d : D} {v : V} (e : Evo μ H μ' H') (h : Rp K H (ban B μ) μ d v) : Rp K H' (ban B μ') μ' d v := h.mono e.kp
theorem Rps.later {d : List D} {v : List V} (e : Evo μ H μ' H') (h : Rps K H (ban B μ) μ d v) : Rps K H' (ban B μ') μ' d v := h.mono e.kp
theorem bind_id {r : Res α} : r.bind (fun a M => .ok a M) = r := by cases r <;> rfl
theorem of_ok {o : Option α} {R : Hp → List Addr → α → Mem → Prop} (h : Pst K L W fr B μ oa ρ σ H (.of o M) R) : ∃ a, o = some a ∧ Pst K L W fr B μ oa ρ σ H (.ok a M) R := by
  cases o with
  | none => exact h.elim
  | some a => exact ⟨a, rfl, h⟩
end
end PC

namespace PC
open PySem PySem.Spec PyProof.Rows L2
section
variable {X : Cx} {L : Lg} {W : WX} {Φ : Fns} {a b c i : E} {x y z : Expr} {pos : Pos}

theorem s_var {i : Nat} {n : Str} (hN : X.N[i]? = some n) (hv : Vis X.env.scope n) (hd : (n == ("__debug__" : Str)) = false) (hc : (n == ("__classdict__" : Str)) = false) : PE X (.Name n pos) (tE X.K L W Φ (.var i)) := by
  refine (pe_var hN hv hd hc).imp fun σ H Q ⟨fr, B, μ, oa, ρ, M, rel, h⟩ => ?_
  have h : Pst X.K L W fr B μ oa ρ σ H (.of (slotV ρ i) M) _ := h
  obtain ⟨d, hs, h1⟩ := of_ok h
  unfold slotV at hs
  split at hs
  · rename_i d' e
    cases hs
    obtain ⟨_, v, h2, h3⟩ := rel.sl i _ e
    exact ⟨v, h2, Pst.fin rel (Same.refl H) h1 v h3⟩
  · cases hs
/-- a value that stands in the text -/
theorem s_const {e : Expr} {c : E} {v : V} {d : D} (h : PE X e (tC v)) (hc : ∀ ρ M, ev Φ c ρ M = .ok d M) (r : ∀ H B μ, Rp X.K H B μ d v) : PE X e (tE X.K L W Φ c) := by
  refine h.imp fun σ H Q ⟨fr, B, μ, oa, ρ, M, rel, h⟩ => ?_
  rw [hc] at h
  exact Pst.fin rel (Same.refl H) h v (r _ _ _)
theorem s_bin (o : Bop) (ha : PE X x (tE X.K L W Φ a)) (hb : PE X y (tE X.K L W Φ b)) : PE X (.BinOp x (bopOf o) y pos) (tE X.K L W Φ (.bin o a b)) := by
  refine (pe_op (op_bop o) ha hb).imp fun σ H Q ⟨fr, B, μ, oa, ρ, M, rel, h⟩ => ?_
  rw [ev] at h
  refine tE_first rel h fun H1 μ1 d1 M1 v1 r1 e1 p1 h1 => tE_first r1 h1 fun H2 μ2 d2 M2 v2 r2 e2 p2 h2 => ?_
  obtain ⟨d, hd, h3⟩ := of_ok h2
  exact ⟨ban B μ2, μ2, d1, d2, d, r2.bt, p1.later e2, p2, hd, fun v H' k rv => Pst.fin r2 k h3 v rv⟩
theorem s_neg (ha : PE X x (tE X.K L W Φ a)) : PE X (.UnaryOp .USub x pos) (tE X.K L W Φ (.neg a)) := by
  refine (pe_un un_neg ha).imp fun σ H Q ⟨fr, B, μ, oa, ρ, M, rel, h⟩ => ?_
  rw [ev] at h
  refine tE_first rel h fun H1 μ1 d1 M1 v1 r1 e1 p1 h1 => ?_
  cases p1 <;> try exact h1.elim
  exact ⟨_, rfl, Pst.fin r1 (Same.refl _) h1 _ (.int _)⟩
theorem truV {K : PySem.W.Frag} {H : Hp} {B : Addr → Prop} {μ : List Addr} {d : D} {v : V} {M : Mem} {k : Bool} (r : Rp K H B μ d v) (h : d.truth M = some k) (hz : ∀ s, d = .str s → s.length ≤ sizeLine) : TruV K v H k := by
  cases r with
  | non => cases h; rfl
  | bl b => cases h; rfl
  | int i => cases h; rfl
  | str s =>
    simp only [D.truth, if_pos (hz s rfl)] at h
    cases h
    refine ⟨hz s rfl, ?_⟩
    by_cases e : s.length = 0
    · rw [e]; rfl
    · have e2 : ((s.length : Nat) : Int) ≠ 0 := by omega
      rw [bne_iff_ne.mpr e, bne_iff_ne.mpr e2]
  | tup t rs =>
    cases h
    refine .inr (.inl ⟨_, t.sq, ?_⟩)
    cases rs <;> rfl
  | lst t rs =>
    cases h
    refine .inl ⟨_, t.sq, ?_⟩
    cases rs <;> rfl
  | frz t rs => cases h
  | cell _ => cases h
theorem s_not (ha : PE X x (tE X.K L W Φ a)) : PE X (.UnaryOp .Not x pos) (tE X.K L W Φ (.not a)) := by
  refine (pe_notT ha).imp fun σ H Q ⟨fr, B, μ, oa, ρ, M, rel, h⟩ => ?_
  rw [ev] at h
  refine tE_first rel h fun H1 μ1 d1 M1 v1 r1 e1 p1 h1 => ?_
  obtain ⟨d, hd, h2⟩ := of_ok h1
  cases e : d1.truth M1 with
  | none => rw [e] at hd; cases hd
  | some k =>
    rw [e] at hd
    cases hd
    exact ⟨k, truV p1 e (D.truth_str e), Pst.fin r1 (Same.refl _) h2 _ (.bl _)⟩
theorem s_cmp (hu : X.A.units + 65 < cLine) (o : Cop) (ha : PE X x (tE X.K L W Φ a)) (hb : PE X y (tE X.K L W Φ b)) (hm : behindInMarks (copOf o) y = false) : PE X (.Compare x [copOf o] [y] pos) (tE X.K L W Φ (.cmp o a b)) := by
  refine (pe_cmpR (op_cop hu o) ha hb hm).imp fun σ H Q ⟨fr, B, μ, oa, ρ, M, rel, h⟩ => ?_
  rw [ev] at h
  refine tE_first rel h fun H1 μ1 d1 M1 v1 r1 e1 p1 h1 => tE_first r1 h1 fun H2 μ2 d2 M2 v2 r2 e2 p2 h2 => ?_
  obtain ⟨d, hd, h3⟩ := of_ok h2
  cases e : o.run d1 d2 with
  | none => rw [e] at hd; cases hd
  | some k =>
    rw [e] at hd
    cases hd
    exact ⟨ban B μ2, μ2, d1, d2, k, p1.later e2, p2, e, Pst.fin r2 (Same.refl _) h3 _ (.bl k)⟩
theorem s_cmpT (hu : X.A.units + 65 < cLine) (o : Cop) (ha : PE X x (tE X.K L W Φ a)) (hb : PE X y (tE X.K L W Φ b)) (hm : behindInMarks (copOf o) y = false) : PT X (.Compare x [copOf o] [y] pos) (tT X.K L W Φ (.cmp o a b)) := by
  refine (pt_cmpR (op_cop hu o) ha hb hm).imp fun σ H Q ⟨fr, B, μ, oa, ρ, M, rel, h⟩ => ?_
  unfold evT at h
  have h := Pst.first rel h
  rw [ev] at h
  refine tE_first rel h fun H1 μ1 d1 M1 v1 r1 e1 p1 h1 => tE_first r1 h1 fun H2 μ2 d2 M2 v2 r2 e2 p2 h2 => ?_
  obtain ⟨d, hd, h3⟩ := of_ok h2
  cases e : o.run d1 d2 with
  | none => rw [e] at hd; cases hd
  | some k =>
    rw [e] at hd
    cases hd
    refine ⟨ban B μ2, μ2, d1, d2, k, p1.later e2, p2, e, k, rfl, ?_⟩
    exact Pst.fin r2 (Same.refl _) (Pst.fin r2 (Same.refl _) h3)
theorem s_chain (hu : X.A.units + 65 < cLine) (o o' : Cop) (ha : PE X x (tE X.K L W Φ a)) (hb : PE X y (tE X.K L W Φ b)) (hc : PE X z (tE X.K L W Φ c)) (hm : lastMarks [copOf o, copOf o'] [y, z] = false) : PE X (.Compare x [copOf o, copOf o'] [y, z] pos) (tE X.K L W Φ (.chain o o' a b c)) := by
  refine (pe_chain (op_cop hu o) (op_cop hu o') ha hb hc hm).imp fun σ H Q ⟨fr, B, μ, oa, ρ, M, rel, h⟩ => ?_
  rw [ev] at h
  refine tE_first rel h fun H1 μ1 d1 M1 v1 r1 e1 p1 h1 => tE_first r1 h1 fun H2 μ2 d2 M2 v2 r2 e2 p2 h2 => ?_
  cases e : o.run d1 d2 with
  | none => rw [e] at h2; exact h2.elim
  | some k =>
    rw [e] at h2
    refine ⟨ban B μ2, μ2, d1, d2, k, p1.later e2, p2, e, k, rfl, ?_⟩
    cases k with
    | false => exact iteF (Pst.fin r2 (Same.refl _) h2 _ (.bl _))
    | true =>
      refine iteT (tE_first r2 h2 fun H3 μ3 d3 M3 v3 r3 e3 p3 h3 => ?_)
      obtain ⟨d, hd, h4⟩ := of_ok h3
      cases e4 : o'.run d2 d3 with
      | none => rw [e4] at hd; cases hd
      | some k =>
        rw [e4] at hd
        cases hd
        exact ⟨ban B μ3, μ3, d2, d3, k, p2.later e3, p3, e4, Pst.fin r3 (Same.refl _) h4 _ (.bl k)⟩
theorem s_chainT (hu : X.A.units + 65 < cLine) (o o' : Cop) (ha : PE X x (tE X.K L W Φ a)) (hb : PE X y (tE X.K L W Φ b)) (hc : PE X z (tE X.K L W Φ c)) (hm : lastMarks [copOf o, copOf o'] [y, z] = false) : PT X (.Compare x [copOf o, copOf o'] [y, z] pos) (tT X.K L W Φ (.chain o o' a b c)) := by
  refine (pt_chain (op_cop hu o) (op_cop hu o') ha hb hc hm).imp fun σ H Q ⟨fr, B, μ, oa, ρ, M, rel, h⟩ => ?_
  unfold evT at h
  have h := Pst.first rel h
  rw [ev] at h
  refine tE_first rel h fun H1 μ1 d1 M1 v1 r1 e1 p1 h1 => tE_first r1 h1 fun H2 μ2 d2 M2 v2 r2 e2 p2 h2 => ?_
  cases e : o.run d1 d2 with
  | none => rw [e] at h2; exact h2.elim
  | some k =>
    rw [e] at h2
    refine ⟨ban B μ2, μ2, d1, d2, k, p1.later e2, p2, e, k, rfl, ?_⟩
    cases k with
    | false => exact iteF ⟨false, rfl, Pst.fin r2 (Same.refl _) (Pst.fin r2 (Same.refl _) h2)⟩
    | true =>
      refine iteT (tE_first r2 h2 fun H3 μ3 d3 M3 v3 r3 e3 p3 h3 => ?_)
      obtain ⟨d, hd, h4⟩ := of_ok h3
      cases e4 : o'.run d2 d3 with
      | none => rw [e4] at hd; cases hd
      | some k =>
        rw [e4] at hd
        cases hd
        exact ⟨ban B μ3, μ3, d2, d3, k, p2.later e3, p3, e4, k, rfl, Pst.fin r3 (Same.refl _) (Pst.fin r3 (Same.refl _) h4)⟩
theorem Rp.non_iff {K : PySem.W.Frag} {H : Hp} {B : Addr → Prop} {μ : List Addr} {d : D} {v : V} (r : Rp K H B μ d v) : decide (v = .non) = isNon d := by
  cases r <;> rfl
theorem s_isN {k : Nat} {p : Pos} (ha : PE X x (tE X.K L W Φ a)) : PE X (.Compare x [.Is] [.Constant .none k p] pos) (tE X.K L W Φ (.isN a)) := by
  refine (pe_cmpR op_isN ha pe_non (nomark _)).imp fun σ H Q ⟨fr, B, μ, oa, ρ, M, rel, h⟩ => ?_
  rw [ev] at h
  refine tE_first rel h fun H1 μ1 d1 M1 v1 r1 e1 p1 h1 => ?_
  refine ⟨rfl, ?_⟩
  have q := Pst.fin r1 (Same.refl _) h1 _ (.bl _)
  rw [p1.non_iff]
  exact q
theorem s_notN {k : Nat} {p : Pos} (ha : PE X x (tE X.K L W Φ a)) : PE X (.Compare x [.IsNot] [.Constant .none k p] pos) (tE X.K L W Φ (.notN a)) := by
  refine (pe_cmpR op_notN ha pe_non (nomark _)).imp fun σ H Q ⟨fr, B, μ, oa, ρ, M, rel, h⟩ => ?_
  rw [ev] at h
  refine tE_first rel h fun H1 μ1 d1 M1 v1 r1 e1 p1 h1 => ?_
  refine ⟨rfl, ?_⟩
  have q := Pst.fin r1 (Same.refl _) h1 _ (.bl _)
  rw [p1.non_iff]
  exact q
theorem s_isNT {k : Nat} {p : Pos} (ha : PE X x (tE X.K L W Φ a)) : PT X (.Compare x [.Is] [.Constant .none k p] pos) (tT X.K L W Φ (.isN a)) := by
  refine (pt_cmpR op_isN ha pe_non (nomark _)).imp fun σ H Q ⟨fr, B, μ, oa, ρ, M, rel, h⟩ => ?_
  unfold evT at h
  have h := Pst.first rel h
  rw [ev] at h
  refine tE_first rel h fun H1 μ1 d1 M1 v1 r1 e1 p1 h1 => ?_
  refine ⟨rfl, _, rfl, ?_⟩
  rw [p1.non_iff]
  exact Pst.fin r1 (Same.refl _) (Pst.fin r1 (Same.refl _) h1)
theorem s_notNT {k : Nat} {p : Pos} (ha : PE X x (tE X.K L W Φ a)) : PT X (.Compare x [.IsNot] [.Constant .none k p] pos) (tT X.K L W Φ (.notN a)) := by
  refine (pt_cmpR op_notN ha pe_non (nomark _)).imp fun σ H Q ⟨fr, B, μ, oa, ρ, M, rel, h⟩ => ?_
  unfold evT at h
  have h := Pst.first rel h
  rw [ev] at h
  refine tE_first rel h fun H1 μ1 d1 M1 v1 r1 e1 p1 h1 => ?_
  refine ⟨rfl, _, rfl, ?_⟩
  rw [p1.non_iff]
  have q := Pst.fin r1 (Same.refl _) (Pst.fin r1 (Same.refl _) h1)
  exact q
theorem s_isB {b : Bool} {k : Nat} {p : Pos} (ha : PE X x (tE X.K L W Φ a)) : PE X (.Compare x [.Is] [.Constant (.bool b) k p] pos) (tE X.K L W Φ (.isB a b)) := by
  refine (pe_cmpR op_isBl ha pe_bl (nomark _)).imp fun σ H Q ⟨fr, B, μ, oa, ρ, M, rel, h⟩ => ?_
  rw [ev] at h
  refine tE_first rel h fun H1 μ1 d1 M1 v1 r1 e1 p1 h1 => ?_
  cases p1 <;> try exact h1.elim
  refine ⟨_, _, rfl, rfl, ?_⟩
  rw [← Bool.beq_eq_decide_eq]
  exact Pst.fin r1 (Same.refl _) h1 _ (.bl _)
theorem s_notB {b : Bool} {k : Nat} {p : Pos} (ha : PE X x (tE X.K L W Φ a)) : PE X (.Compare x [.IsNot] [.Constant (.bool b) k p] pos) (tE X.K L W Φ (.notB a b)) := by
  refine (pe_cmpR op_notBl ha pe_bl (nomark _)).imp fun σ H Q ⟨fr, B, μ, oa, ρ, M, rel, h⟩ => ?_
  rw [ev] at h
  refine tE_first rel h fun H1 μ1 d1 M1 v1 r1 e1 p1 h1 => ?_
  cases p1 <;> try exact h1.elim
  refine ⟨_, _, rfl, rfl, ?_⟩
  rw [← Bool.beq_eq_decide_eq]
  exact Pst.fin r1 (Same.refl _) h1 _ (.bl _)
theorem s_isBT {b : Bool} {k : Nat} {p : Pos} (ha : PE X x (tE X.K L W Φ a)) : PT X (.Compare x [.Is] [.Constant (.bool b) k p] pos) (tT X.K L W Φ (.isB a b)) := by
  refine (pt_cmpR op_isBl ha pe_bl (nomark _)).imp fun σ H Q ⟨fr, B, μ, oa, ρ, M, rel, h⟩ => ?_
  unfold evT at h
  have h := Pst.first rel h
  rw [ev] at h
  refine tE_first rel h fun H1 μ1 d1 M1 v1 r1 e1 p1 h1 => ?_
  cases p1 <;> try exact h1.elim
  refine ⟨_, _, rfl, rfl, _, rfl, ?_⟩
  rw [← Bool.beq_eq_decide_eq]
  exact Pst.fin r1 (Same.refl _) (Pst.fin r1 (Same.refl _) h1)
theorem s_notBT {b : Bool} {k : Nat} {p : Pos} (ha : PE X x (tE X.K L W Φ a)) : PT X (.Compare x [.IsNot] [.Constant (.bool b) k p] pos) (tT X.K L W Φ (.notB a b)) := by
  refine (pt_cmpR op_notBl ha pe_bl (nomark _)).imp fun σ H Q ⟨fr, B, μ, oa, ρ, M, rel, h⟩ => ?_
  unfold evT at h
  have h := Pst.first rel h
  rw [ev] at h
  refine tE_first rel h fun H1 μ1 d1 M1 v1 r1 e1 p1 h1 => ?_
  cases p1 <;> try exact h1.elim
  refine ⟨_, _, rfl, rfl, _, rfl, ?_⟩
  rw [← Bool.beq_eq_decide_eq]
  exact Pst.fin r1 (Same.refl _) (Pst.fin r1 (Same.refl _) h1)
theorem s_and {rest : List Expr} (ha : PE X x (tE X.K L W Φ a)) (hb : PE X (.BoolOp .And (y :: rest) pos) (tE X.K L W Φ b)) : PE X (.BoolOp .And (x :: y :: rest) pos) (tE X.K L W Φ (.and a b)) := by
  refine (pe_andT ha hb).imp fun σ H Q ⟨fr, B, μ, oa, ρ, M, rel, h⟩ => ?_
  rw [ev] at h
  refine tE_first rel h fun H1 μ1 d1 M1 v1 r1 e1 p1 h1 => ?_
  cases e : d1.truth M1 with
  | none => rw [e] at h1; exact h1.elim
  | some k =>
    rw [e] at h1
    refine ⟨k, truV p1 e (D.truth_str e), ?_⟩
    cases k with
    | false => exact iteF (Pst.fin r1 (Same.refl _) h1 _ p1)
    | true => exact iteT ⟨fr, B, μ1, oa, ρ, M1, r1, h1⟩
theorem s_or {rest : List Expr} (ha : PE X x (tE X.K L W Φ a)) (hb : PE X (.BoolOp .Or (y :: rest) pos) (tE X.K L W Φ b)) : PE X (.BoolOp .Or (x :: y :: rest) pos) (tE X.K L W Φ (.or a b)) := by
  refine (pe_orT ha hb).imp fun σ H Q ⟨fr, B, μ, oa, ρ, M, rel, h⟩ => ?_
  rw [ev] at h
  refine tE_first rel h fun H1 μ1 d1 M1 v1 r1 e1 p1 h1 => ?_
  cases e : d1.truth M1 with
  | none => rw [e] at h1; exact h1.elim
  | some k =>
    rw [e] at h1
    refine ⟨k, truV p1 e (D.truth_str e), ?_⟩
    cases k with
    | true => exact iteT (Pst.fin r1 (Same.refl _) h1 _ p1)
    | false => exact iteF ⟨fr, B, μ1, oa, ρ, M1, r1, h1⟩
theorem evT_and {ρ : Ev} {M : Mem} : evT Φ (.and a b) ρ M = (evT Φ a ρ M).bind fun k M1 => if k = true then evT Φ b ρ M1 else .ok false M1 := by
  unfold evT
  rw [ev]
  cases ev Φ a ρ M with
  | bad => rfl
  | err x M1 => rfl
  | ok d M1 =>
    simp only [Res.bind_ok]
    cases e : d.truth M1 with
    | none => rfl
    | some k => cases k <;> simp [evT, e]
theorem evT_or {ρ : Ev} {M : Mem} : evT Φ (.or a b) ρ M = (evT Φ a ρ M).bind fun k M1 => if k = true then .ok true M1 else evT Φ b ρ M1 := by
  unfold evT
  rw [ev]
  cases ev Φ a ρ M with
  | bad => rfl
  | err x M1 => rfl
  | ok d M1 =>
    simp only [Res.bind_ok]
    cases e : d.truth M1 with
    | none => rfl
    | some k => cases k <;> simp [evT, e]
theorem evT_not {ρ : Ev} {M : Mem} : evT Φ (.not a) ρ M = (evT Φ a ρ M).bind fun k M1 => .ok (!k) M1 := by
  unfold evT
  rw [ev]
  cases ev Φ a ρ M with
  | bad => rfl
  | err x M1 => rfl
  | ok d M1 =>
    simp only [Res.bind_ok]
    cases e : d.truth M1 with
    | none => rfl
    | some k => cases k <;> simp [D.truth]
theorem s_andT {rest : List Expr} (ha : PT X x (tT X.K L W Φ a)) (hb : PW X (.BoolOp .And (y :: rest) pos) (tT X.K L W Φ b)) : PW X (.BoolOp .And (x :: y :: rest) pos) (tT X.K L W Φ (.and a b)) := by
  refine (pw_and ha hb).imp fun σ H Q ⟨fr, B, μ, oa, ρ, M, rel, h⟩ => ?_
  rw [evT_and] at h
  refine tT_first rel h fun H1 μ1 k M1 r1 e1 h1 => ?_
  cases k with
  | true => exact iteT ⟨fr, B, μ1, oa, ρ, M1, r1, h1⟩
  | false => exact iteF (Pst.fin r1 (Same.refl _) h1)
theorem s_orT {rest : List Expr} (ha : PT X x (tT X.K L W Φ a)) (hb : PW X (.BoolOp .Or (y :: rest) pos) (tT X.K L W Φ b)) : PW X (.BoolOp .Or (x :: y :: rest) pos) (tT X.K L W Φ (.or a b)) := by
  refine (pw_or ha hb).imp fun σ H Q ⟨fr, B, μ, oa, ρ, M, rel, h⟩ => ?_
  rw [evT_or] at h
  refine tT_first rel h fun H1 μ1 k M1 r1 e1 h1 => ?_
  cases k with
  | true => exact iteT (Pst.fin r1 (Same.refl _) h1)
  | false => exact iteF ⟨fr, B, μ1, oa, ρ, M1, r1, h1⟩
theorem s_notT (ha : PT X x (tT X.K L W Φ a)) : PT X (.UnaryOp .Not x pos) (tT X.K L W Φ (.not a)) := by
  refine (pt_not ha).imp fun σ H Q ⟨fr, B, μ, oa, ρ, M, rel, h⟩ => ?_
  rw [evT_not] at h
  exact tT_first rel h fun H1 μ1 k M1 r1 e1 h1 => Pst.fin r1 (Same.refl _) h1
/-- any other expression as a test -/
theorem s_truth (ha : PE X x (tE X.K L W Φ a)) (he : ∀ whole, isTrue x X.env whole = (do let v ← whole; standAt x.pos; holding [v] (truthy v))) : PT X x (tT X.K L W Φ a) := by
  refine (pt_truth ha he).imp fun σ H Q ⟨fr, B, μ, oa, ρ, M, rel, h⟩ => ?_
  unfold evT at h
  refine tE_first rel h fun H1 μ1 d1 M1 v1 r1 e1 p1 h1 => ?_
  obtain ⟨k, hk, h2⟩ := of_ok h1
  exact ⟨k, truV p1 hk (D.truth_str hk), Pst.fin r1 (Same.refl _) h2⟩
theorem s_ite {p : Pos} {cond : Expr} (hc : PT X cond (tT X.K L W Φ c)) (ha : PE X x (tE X.K L W Φ a)) (hb : PE X y (tE X.K L W Φ b)) : PE X (.IfExp cond x y p) (tE X.K L W Φ (.ite c a b)) := by
  refine (pe_ifExp hc ha hb).imp fun σ H Q ⟨fr, B, μ, oa, ρ, M, rel, h⟩ => ?_
  have e : ev Φ (.ite c a b) ρ M = (evT Φ c ρ M).bind fun k M1 => if k = true then ev Φ a ρ M1 else ev Φ b ρ M1 := by
    unfold evT
    rw [ev]
    cases ev Φ c ρ M with
    | bad => rfl
    | err x M1 => rfl
    | ok d M1 =>
      simp only [Res.bind_ok]
      cases e : d.truth M1 with
      | none => rfl
      | some k => cases k <;> simp
  rw [e] at h
  refine tT_first rel h fun H1 μ1 k M1 r1 e1 h1 => ?_
  cases k with
  | true => exact iteT ⟨fr, B, μ1, oa, ρ, M1, r1, h1⟩
  | false => exact iteF ⟨fr, B, μ1, oa, ρ, M1, r1, h1⟩
end
end PC

namespace PC
open PySem PySem.Spec PyProof.Rows L2
section
variable {K : PySem.W.Frag} {fr : Fr} {H H' H1 H2 : Hp} {B : Addr → Prop} {μ μ' : List Addr} {oa : Nat → Option Addr} {ρ : Ev} {M M' : Mem} {σ : L2.St}
theorem atI_len {α : Type} {xs : List α} {i : Int} {d : α} (h : atI xs i = some d) : ∃ j, ixN xs.length i = some j ∧ xs[j]? = some d := by
  unfold atI at h
  cases e : ixN xs.length i with
  | none => rw [e] at h; cases h
  | some j => rw [e] at h; exact ⟨j, rfl, h⟩
theorem Rps.at {ds : List D} {vs : List V} {i : Int} {d : D} (r : Rps K H B μ ds vs) (h : atI ds i = some d) : ∃ v, atI vs i = some v ∧ Rp K H B μ d v := by
  obtain ⟨j, h1, h2⟩ := atI_len h
  obtain ⟨v, h3, h4⟩ := r.get h2
  refine ⟨v, ?_, h4⟩
  unfold atI
  rw [← r.length, h1]
  exact h3
theorem Same.evo (k : Same H H') : Evo μ H μ H' := Evo.same k
theorem Rel.free_old (r : Rel K fr B μ oa ρ M σ H) {p : Addr} (hp : H p = none) : fr.H0 p = none ∧ ¬ fr.B0 p := by
  refine ⟨?_, fun b => r.bt p (r.b0 p b) hp⟩
  cases e : fr.H0 p with
  | none => rfl
  | some o =>
    by_cases hm : p ∈ fr.μ0
    · obtain ⟨t, ht, _⟩ := r.m0
      exact absurd hp (r.tr p (by rw [ht]; exact List.mem_append_left _ hm))
    · rw [r.ev p o e hm] at hp; cases hp
/-- behind a call: the cells are new, the slots stand -/
theorem Rel.after (r : Rl K fr B μ oa ρ M σ H) (e : Evo μ H μ' H') (c : Cs K H' (ban B μ') μ' M') (bt : ∀ a, ban B μ' a → H' a ≠ none) : Rl K fr B μ' oa ρ M' σ H' where
  cs := c
  b0 := fun a h => (r.b0 a h).elim .inl fun z => .inr (e.mem z)
  bt := bt
  bo := fun i a h => (r.bo i a h).elim .inl fun z => .inr (e.mem z)
  oi := r.oi
  on := fun i a h => by
    obtain ⟨h1, h2, h3⟩ := r.on i a h
    refine ⟨h1, h2, fun z => ?_⟩
    cases q : H a with
    | none => exact r.bt a (r.bo i a h) q
    | some o => exact h3 (e.old z q)
  sl := fun i s h => by
    have q := r.sl i s h
    cases s with
    | un => exact q
    | v d => obtain ⟨h1, v, h2, h3⟩ := q; exact ⟨h1, v, h2, h3.mono e.kp⟩
    | own ds =>
      obtain ⟨a, vs, h1, h2, h3, h4⟩ := q
      exact ⟨a, vs, h1, h2, e.keep a _ h3 (r.on i a h1).2.2, h4.mono e.kp⟩
  so := r.so
  ln := r.ln
  m0 := by
    obtain ⟨t, ht, h1⟩ := r.m0
    obtain ⟨u, hu, h2⟩ := e.pre
    refine ⟨t ++ u, by rw [hu, ht, List.append_assoc], fun a ha => ?_⟩
    rcases List.mem_append.mp ha with ha | ha
    · exact h1 a ha
    · exact r.free_old (h2 a ha)
  ev := fun a o h n => by
    refine e.keep a o (r.ev a o h n) fun z => ?_
    obtain ⟨t, ht, h1⟩ := r.m0
    rw [ht] at z
    rcases List.mem_append.mp z with z | z
    · exact n z
    · rw [(h1 a z).1] at h; cases h
/-- a new cell -/
theorem Rel.newCell (r : Rl K fr B μ oa ρ M σ H) {p : Addr} (hp : H p = none) {o : HO} {c : Cell} (hc : ∀ {H' : Hp} {B' : Addr → Prop} {μ' : List Addr}, Kp H H' (ban B μ) B' μ μ' → H' p = some o → CellR K H' B' μ' c p) :
    Rl K fr B (μ ++ [p]) oa ρ (M ++ [c]) σ (upd H p o) ∧ Evo μ H (μ ++ [p]) (upd H p o) := by
  have e : Evo μ H (μ ++ [p]) (upd H p o) := ⟨⟨[p], rfl, fun a h => by rw [List.mem_singleton.mp h]; exact hp⟩, fun a q h _ => same_upd hp a q h⟩
  have hpm : p ∉ μ := fun h => r.tr p h hp
  refine ⟨r.after e ⟨?_, ?_, fun a h => .inr h, fun n c' a h1 h2 => ?_⟩ fun a h => ?_, e⟩
  · rw [List.nodup_append]
    exact ⟨r.cs.nd, by simp, fun a h b h2 z => hpm (by rw [← List.mem_singleton.mp h2, ← z]; exact h)⟩
  · rw [List.length_append, List.length_append, r.cs.len]
    rfl
  · by_cases hn : n < μ.length
    · have h2' : μ[n]? = some a := by rw [List.getElem?_append_left hn] at h2; exact h2
      have h1' : M[n]? = some c' := by rw [List.getElem?_append_left (by rw [r.cs.len]; exact hn)] at h1; exact h1
      have q := r.cs.at_ n c' a h1' h2'
      cases c' with
      | lst ds =>
        obtain ⟨vs, q1, q2⟩ := q
        exact ⟨vs, same_upd hp a _ q1, q2.mono e.kp⟩
      | dict _ => exact q
      | ins _ _ => exact q
    · have hn' : n = μ.length := by
        have := (List.getElem?_eq_some_iff.mp h2).1
        rw [List.length_append, List.length_singleton] at this
        omega
      subst hn'
      have ea : p = a := by simpa using h2
      have ec : c = c' := by
        rw [← r.cs.len] at h1
        simpa using h1
      subst ea ec
      exact hc e.kp upd_same
  · rcases h with h | h
    · have q := r.bt a (.inl h)
      cases z : H a with
      | none => exact absurd z q
      | some x => rw [same_upd hp a x z]; exact fun w => nomatch w
    · rcases List.mem_append.mp h with h | h
      · have q := r.tr a h
        cases z : H a with
        | none => exact absurd z q
        | some x => rw [same_upd hp a x z]; exact fun w => nomatch w
      · rw [List.mem_singleton.mp h, upd_same]
        exact fun w => nomatch w
end
section
variable {X : Cx} {L : Lg} {W : WX} {Φ : Fns} {a b c i : E} {es : Es} {x y z : Expr} {xs : List Expr} {pos : Pos}
theorem s_nil : PA X [] (tEs X.K L W Φ .nil) := by
  refine pa_nil.imp fun σ H Q ⟨fr, B, μ, oa, ρ, M, rel, h⟩ => ?_
  rw [evs] at h
  exact Pst.fin rel (Same.refl H) h [] .nil
theorem s_cons (ha : PE X x (tE X.K L W Φ a)) (hr : PA X xs (tEs X.K L W Φ es)) (hs : starEach (x :: xs) X.env = (false, eval x X.env) :: starEach xs X.env) : PA X (x :: xs) (tEs X.K L W Φ (.cons a es)) := by
  refine (pa_cons ha hr hs).imp fun σ H Q ⟨fr, B, μ, oa, ρ, M, rel, h⟩ => ?_
  rw [evs] at h
  exact tE_first rel h fun H1 μ1 d1 M1 v1 r1 e1 p1 h1 => tEs_first r1 h1 fun H2 μ2 ds M2 vs r2 e2 p2 h2 => Pst.fin r2 (Same.refl _) h2 _ (.cons (p1.later e2) p2)
theorem s_tup {k : Nat} (hr : PA X xs (tEs X.K L W Φ es)) : PE X (.Tuple xs k pos) (tE X.K L W Φ (.tup es)) := by
  refine (pe_tup hr).imp fun σ H Q ⟨fr, B, μ, oa, ρ, M, rel, h⟩ => ?_
  rw [ev] at h
  refine tEs_first rel h fun H1 μ1 ds M1 vs r1 e1 p1 h1 => ?_
  split at h1
  · rename_i hz
    rw [p1.length] at hz
    exact ⟨hz, fun p hp => Pst.fin r1 (same_upd hp) h1 _ (new_tup r1.bt hp p1)⟩
  · exact h1.elim
theorem s_lst (hr : PA X xs (tEs X.K L W Φ es)) : PE X (.List xs pos) (tE X.K L W Φ (.lst es)) := by
  refine (pe_lst hr).imp fun σ H Q ⟨fr, B, μ, oa, ρ, M, rel, h⟩ => ?_
  rw [ev] at h
  refine tEs_first rel h fun H1 μ1 ds M1 vs r1 e1 p1 h1 => ?_
  split at h1
  · rename_i hz
    rw [p1.length] at hz
    exact ⟨hz, fun p hp => Pst.fin r1 (same_upd hp) h1 _ (new_lst r1.bt hp p1)⟩
  · exact h1.elim
theorem s_newL (hr : PA X xs (tEs X.K L W Φ es)) : PE X (.List xs pos) (tE X.K L W Φ (.newL es)) := by
  refine (pe_lst hr).imp fun σ H Q ⟨fr, B, μ, oa, ρ, M, rel, h⟩ => ?_
  rw [ev] at h
  refine tEs_first rel h fun H1 μ1 ds M1 vs r1 e1 p1 h1 => ?_
  split at h1
  · rename_i hz
    rw [p1.length] at hz
    refine ⟨hz, fun p hp => ?_⟩
    obtain ⟨r2, e2⟩ := r1.newCell hp (o := .lst vs) (c := .lst ds) fun k q => ⟨vs, q, p1.mono k⟩
    refine h1 _ _ e2 r2 _ (.cell ?_)
    rw [r1.cs.len, List.getElem?_append_right (Nat.le_refl _), Nat.sub_self]
    rfl
  · exact h1.elim
theorem plainIx (hs : ∀ l h p, y ≠ .Slice l h none p) : PlainIx y := by
  intro o i
  unfold subscripted
  split
  · exact absurd rfl (hs _ _ _)
  · rename_i e
    cases e
  · rfl
def rSub (K : PySem.W.Frag) : R2 := fun x y H Q => ∃ p vs i v, x = .ref p ∧ y = .int i ∧ (SqL K H p vs ∨ SqT K H p vs) ∧ atI vs i = some v ∧ Q v H
theorem ix_any : IxR X (rSub X.K) := by
  intro value slice pins s σ H x y v u Q I rx ry h hs
  obtain ⟨p, vs, i, z, hx, hy, hq | hq, ha, q⟩ := h
  · exact ix_list value slice pins s σ H x y v u Q I rx ry ⟨p, vs, i, z, hx, hy, hq, ha, q⟩ hs
  · exact ix_tup value slice pins s σ H x y v u Q I rx ry ⟨p, vs, i, z, hx, hy, hq, ha, q⟩ hs
theorem s_sub (ha : PE X x (tE X.K L W Φ a)) (hb : PE X y (tE X.K L W Φ i)) (hs : ∀ l h p, y ≠ .Slice l h none p) : PE X (.Subscript x y pos) (tE X.K L W Φ (.sub a i)) := by
  refine (pe_ix ix_any ha hb (plainIx hs)).imp fun σ H Q ⟨fr, B, μ, oa, ρ, M, rel, h⟩ => ?_
  rw [ev] at h
  refine tE_first rel h fun H1 μ1 d1 M1 v1 r1 e1 p1 h1 => tE_first r1 h1 fun H2 μ2 d2 M2 v2 r2 e2 p2 h2 => ?_
  obtain ⟨d, hd, h3⟩ := of_ok h2
  have p1' := p1.later e2
  cases p1' with
  | tup t rs =>
    cases p2 <;> simp only [subM, D.sub] at hd <;> try cases hd
    obtain ⟨v, h4, h5⟩ := rs.at hd
    exact ⟨_, _, _, v, rfl, rfl, .inr t.sq, h4, Pst.fin r2 (Same.refl _) h3 _ h5⟩
  | lst t rs =>
    cases p2 <;> simp only [subM, D.sub] at hd <;> try cases hd
    obtain ⟨v, h4, h5⟩ := rs.at hd
    exact ⟨_, _, _, v, rfl, rfl, .inl t.sq, h4, Pst.fin r2 (Same.refl _) h3 _ h5⟩
  | @cell n aa hm =>
    cases p2 <;> simp only [subM, D.sub] at hd <;> try cases hd
    rename_i j
    split at hd
    · rename_i ds hc
      obtain ⟨vs, q1, q2⟩ := r2.cs.at_ n _ aa hc hm
      obtain ⟨v, h4, h5⟩ := q2.at hd
      exact ⟨_, _, _, v, rfl, rfl, .inl (.of q1), h4, Pst.fin r2 (Same.refl _) h3 _ h5⟩
    · cases hd
  | non => cases d2 <;> cases hd
  | bl _ => cases d2 <;> cases hd
  | int _ => cases d2 <;> cases hd
  | str _ => cases d2 <;> cases hd
  | frz t rs => cases d2 <;> cases hd
def tP (K : PySem.W.Frag) (L : Lg) (W : WX) (Φ : Fns) (c : Pt) : TO := fun σ H Q => ∃ fr B μ oa ρ M, Rl K fr B μ oa ρ M σ H ∧
  Pst K L W fr B μ oa ρ σ H (evP Φ c ρ M) fun H' _ o _ => Q o H'
theorem s_pnone : PO X none (tP X.K L W Φ .none) := by
  refine ⟨fun pins s σ H Q I ⟨fr, B, μ, oa, ρ, M, rel, h⟩ => po_none.run pins s σ H Q I ?_⟩
  rw [evP] at h
  exact Pst.fin rel (Same.refl H) h
theorem s_psome (ha : PE X x (tE X.K L W Φ a)) : PO X (some x) (tP X.K L W Φ (.some a)) := by
  refine ⟨fun pins s σ H Q I ⟨fr, B, μ, oa, ρ, M, rel, h⟩ => (po_some ha).run pins s σ H Q I ?_⟩
  rw [evP] at h
  refine tE_first rel h fun H1 μ1 d1 M1 v1 r1 e1 p1 h1 => ?_
  cases p1 <;> try exact h1.elim
  exact ⟨_, rfl, Pst.fin r1 (Same.refl _) h1⟩
theorem tP_first {β : Type} {K : PySem.W.Frag} {fr : Fr} {H : Hp} {B : Addr → Prop} {μ : List Addr} {oa : Nat → Option Addr} {ρ : Ev} {M : Mem} {σ : L2.St} {c : Pt} {f : Option Int → Mem → Res β} {R : Hp → List Addr → β → Mem → Prop} {Q : Option Int → Hp → Prop}
    (rel : Rl K fr B μ oa ρ M σ H) (h : Pst K L W fr B μ oa ρ σ H ((evP Φ c ρ M).bind f) R)
    (g : ∀ H1 μ1 o M1, Rl K fr B μ1 oa ρ M1 σ H1 → Evo μ H μ1 H1 → Pst K L W fr B μ1 oa ρ σ H1 (f o M1) R → Q o H1) : tP K L W Φ c σ H Q :=
  ⟨fr, B, μ, oa, ρ, M, rel, (Pst.first rel h).imp fun H1 μ1 o M1 e1 r1 h1 => g H1 μ1 o M1 r1 e1 h1⟩
theorem cut_whole {α : Type} {xs : List α} {lo hi : Option Int} (h : HT.sIx xs.length 0 lo = 0 ∧ HT.sIx xs.length xs.length hi = xs.length) : cutD xs lo hi = xs := by
  unfold cutD
  rw [h.1, h.2]
  simp
theorem s_slice {lo hi : Pt} {xl xh : Option Expr} {p2 : Pos} (ha : PE X x (tE X.K L W Φ a)) (hl : PO X xl (tP X.K L W Φ lo)) (hh : PO X xh (tP X.K L W Φ hi)) : PE X (.Subscript x (.Slice xl xh none p2) pos) (tE X.K L W Φ (.slice a lo hi)) := by
  refine (pe_slice (SlR.or sl_list sl_tupA) ha hl hh).imp fun σ H Q ⟨fr, B, μ, oa, ρ, M, rel, h⟩ => ?_
  rw [ev] at h
  refine tE_first rel h fun H1 μ1 d1 M1 v1 r1 e1 p1 h1 => tP_first r1 h1 fun H2 μ2 o2 M2 r2 e2 h2 => tP_first r2 h2 fun H3 μ3 o3 M3 r3 e3 h3 => ?_
  obtain ⟨d, hd, h4⟩ := of_ok h3
  have p1' := (p1.later e2).later e3
  cases p1' with
  | tup t rs =>
    simp only [D.slice] at hd
    cases hd
    refine .inr ⟨_, _, rfl, t.sq, fun w => Pst.fin r3 (Same.refl _) h4 _ ?_, fun _ p hp => Pst.fin r3 (same_upd hp) h4 _ (new_tup r3.bt hp (rs.cut _ _))⟩
    rw [← rs.length] at w
    rw [cut_whole w]
    exact .tup t rs
  | lst t rs =>
    simp only [D.slice] at hd
    cases hd
    exact .inl ⟨_, _, rfl, t.sq, fun p hp => Pst.fin r3 (same_upd hp) h4 _ (new_lst r3.bt hp (rs.cut _ _))⟩
  | frz t rs =>
    simp only [D.slice] at hd
    cases hd
    exact .inl ⟨_, _, rfl, t.sq, fun p hp => Pst.fin r3 (same_upd hp) h4 _ (new_lst r3.bt hp (rs.cut _ _))⟩
  | non => cases hd
  | bl _ => cases hd
  | int _ => cases hd
  | str _ => cases hd
  | cell _ => cases hd

theorem slotO_eq {ρ : Ev} {i : Nat} {xs : List D} (h : slotO ρ i = some xs) : ρ[i]? = some (.own xs) := by
  unfold slotO at h
  split at h
  · rename_i e
    cases h
    exact e
  · cases h
theorem slotV_eq {ρ : Ev} {i : Nat} {d : D} (h : slotV ρ i = some d) : ρ[i]? = some (.v d) := by
  unfold slotV at h
  split at h
  · rename_i e
    cases h
    exact e
  · cases h
variable {n : Str} {p q : Pos} {j : Nat}
structure IsName (X : Cx) (j : Nat) (n : Str) : Prop where
  hN : X.N[j]? = some n
  hv : Vis X.env.scope n
  hd : (n == ("__debug__" : Str)) = false
  hc : (n == ("__classdict__" : Str)) = false
theorem s_lenO (hn : IsName X j n) (hg : Gl X "len") (hm : X.mg "len" = none) : PE X (.Call (.Name "len" p) [.Name n q] [] pos) (tE X.K L W Φ (.lenO j)) := by
  refine (pe_callB call_len_seq hg hm boot_len (pa_cons (pe_var hn.hN hn.hv hn.hd hn.hc) pa_nil)).imp fun σ H Q ⟨fr, B, μ, oa, ρ, M, rel, h⟩ => ?_
  rw [ev] at h
  obtain ⟨d, hd, h1⟩ := of_ok h
  cases e : slotO ρ j with
  | none => rw [e] at hd; cases hd
  | some xs =>
    rw [e] at hd
    cases hd
    obtain ⟨a, vs, q1, q2, q3, q4⟩ := rel.sl j _ (slotO_eq e)
    refine ⟨_, q2, a, vs, rfl, .inl (.of q3), ?_⟩
    rw [← q4.length]
    exact Pst.fin rel (Same.refl H) h1 _ (.int _)
theorem s_subO (hn : IsName X j n) (hb : PE X y (tE X.K L W Φ i)) (hs : ∀ l h p, y ≠ .Slice l h none p) : PE X (.Subscript (.Name n q) y pos) (tE X.K L W Φ (.subO j i)) := by
  refine (pe_ix ix_any (pe_var hn.hN hn.hv hn.hd hn.hc) hb (plainIx hs)).imp fun σ H Q ⟨fr, B, μ, oa, ρ, M, rel, h⟩ => ?_
  rw [ev] at h
  cases e : slotO ρ j with
  | none => rw [e] at h; exact h.elim
  | some xs =>
    rw [e] at h
    obtain ⟨a, vs, q1, q2, q3, q4⟩ := rel.sl j _ (slotO_eq e)
    refine ⟨_, q2, tE_first rel h fun H1 μ1 d1 M1 v1 r1 e1 p1 h1 => ?_⟩
    obtain ⟨d, hd, h2⟩ := of_ok h1
    cases p1 <;> simp only [D.sub] at hd <;> try cases hd
    have q4' := Rps.later e1 q4
    obtain ⟨v, h4, h5⟩ := q4'.at hd
    exact ⟨a, vs, _, v, rfl, rfl, .inl (.of (e1.keep a _ q3 (rel.on j a q1).2.2)), h4, Pst.fin r1 (Same.refl _) h2 _ h5⟩

def rBi (K : PySem.W.Frag) (b : Bi) : List V → Hp → VK → Prop := fun xs H Q => ∃ B μ M d d' v, Cs K H B μ M ∧ (∀ a, B a → H a ≠ none) ∧ Rp K H B μ d v ∧ xs = [v] ∧ lenM M b d = some d' ∧ ∀ v' H', Same H H' → Rp K H' B μ d' v' → Q v' H'
def biName : Bi → Str
  | .len => "len" | .int => "int" | .abs => "abs" | .tuple => "tuple" | .list => "list" | .sum => "sum" | .sorted => "sorted" | .all => "all" | .any => "any"
theorem c_len : CallR X (.builtin "len") (rBi X.K .len) := by
  intro pins s σ H xs us Q I r ⟨B, μ, M, d, d', v, cs, bt, rp, e, hd, q⟩
  cases rp with
  | tup t rs =>
    cases hd
    refine call_len_seq pins s σ H xs us Q I r ⟨_, _, e, .inr t.sq, ?_⟩
    rw [← rs.length]
    exact q _ _ (Same.refl H) (.int _)
  | lst t rs =>
    cases hd
    refine call_len_seq pins s σ H xs us Q I r ⟨_, _, e, .inl t.sq, ?_⟩
    rw [← rs.length]
    exact q _ _ (Same.refl H) (.int _)
  | @cell n a hm =>
    simp only [lenM] at hd
    split at hd
    · rename_i ds hc
      cases hd
      obtain ⟨vs, q1, q2⟩ := cs.at_ n _ a hc hm
      refine call_len_seq pins s σ H xs us Q I r ⟨_, _, e, .inl (.of q1), ?_⟩
      rw [← q2.length]
      exact q _ _ (Same.refl H) (.int _)
    · cases hd
  | str x =>
    simp only [lenM, Bi.run] at hd
    split at hd
    · cases hd
      exact call_len_str pins s σ H xs us Q I r ⟨_, e, by assumption, q _ _ (Same.refl H) (.int _)⟩
    · cases hd
  | non => cases hd
  | bl _ => cases hd
  | int _ => cases hd
  | frz t rs => cases hd
theorem c_int : CallR X (.type "int") (rBi X.K .int) := by
  intro pins s σ H xs us Q I r ⟨B, μ, M, d, d', v, cs, bt, rp, e, hd, q⟩
  cases rp <;> simp only [lenM, Bi.run] at hd <;> try cases hd
  · exact call_int1 pins s σ H xs us Q I r (.inr ⟨_, e, q _ _ (Same.refl H) (.int _)⟩)
  · exact call_int1 pins s σ H xs us Q I r (.inl ⟨_, e, q _ _ (Same.refl H) (.int _)⟩)
theorem c_abs : CallR X (.builtin "abs") (rBi X.K .abs) := by
  intro pins s σ H xs us Q I r ⟨B, μ, M, d, d', v, cs, bt, rp, e, hd, q⟩
  cases rp <;> simp only [lenM, Bi.run] at hd <;> try cases hd
  exact call_abs pins s σ H xs us Q I r ⟨_, e, q _ _ (Same.refl H) (.int _)⟩
theorem c_tuple : CallR X (.type "tuple") (rBi X.K .tuple) := by
  intro pins s σ H xs us Q I r ⟨B, μ, M, d, d', v, cs, bt, rp, e, hd, q⟩
  cases rp with
  | tup t rs =>
    cases hd
    exact call_tuple_of pins s σ H xs us Q I r ⟨_, _, e, .inr ⟨t.sq, q _ _ (Same.refl H) (.tup t rs)⟩⟩
  | lst t rs =>
    cases hd
    exact call_tuple_of pins s σ H xs us Q I r ⟨_, _, e, .inl ⟨t.sq, fun l hl => q _ _ (same_upd hl) (new_tup bt hl rs)⟩⟩
  | @cell n a hm => cases hd
  | str x => cases hd
  | non => cases hd
  | bl _ => cases hd
  | int _ => cases hd
  | frz t rs => cases hd
theorem c_list : CallR X (.type "list") (rBi X.K .list) := by
  intro pins s σ H xs us Q I r ⟨B, μ, M, d, d', v, cs, bt, rp, e, hd, q⟩
  cases rp with
  | tup t rs =>
    cases hd
    exact call_list_of pins s σ H xs us Q I r ⟨_, _, e, .inr t.sq, fun l hl => q _ _ (same_upd hl) (new_lst bt hl rs)⟩
  | lst t rs =>
    cases hd
    exact call_list_of pins s σ H xs us Q I r ⟨_, _, e, .inl t.sq, fun l hl => q _ _ (same_upd hl) (new_lst bt hl rs)⟩
  | @cell n a hm => cases hd
  | str x => cases hd
  | non => cases hd
  | bl _ => cases hd
  | int _ => cases hd
  | frz t rs => cases hd
theorem c_sum (hc : X.calm = true) : CallR X (.builtin "sum") (rBi X.K .sum) := by
  intro pins s σ H xs us Q I r ⟨B, μ, M, d, d', v, cs, bt, rp, e, hd, q⟩
  cases rp with
  | lst t rs =>
    simp only [lenM, Bi.run] at hd
    rename_i a vs ds
    cases e2 : D.ints ds with
    | none => rw [e2] at hd; cases hd
    | some is =>
      rw [e2] at hd
      cases hd
      have ev := rs.ints e2
      subst ev
      exact cr_sum hc pins s σ H xs us Q I r ⟨_, is, e, t.sq, q _ _ (Same.refl H) (.int _)⟩
  | tup t rs => cases hd
  | @cell n a hm => cases hd
  | str x => cases hd
  | non => cases hd
  | bl _ => cases hd
  | int _ => cases hd
  | frz t rs => cases hd
theorem Rps.bools {K : PySem.W.Frag} {H : Hp} {B : Addr → Prop} {μ : List Addr} : ∀ {ds : List D} {vs : List V} {bs : List Bool}, Rps K H B μ ds vs → D.bools ds = some bs → vs = bs.map V.bl
  | [], _, bs, .nil, h => by rw [D.bools] at h; cases h; rfl
  | d :: ds, _, bs, .cons h r, e => by
    cases h <;> simp only [D.bools] at e <;> try cases e
    rename_i b
    cases e2 : D.bools ds with
    | none => rw [e2] at e; cases e
    | some cs =>
      rw [e2] at e
      cases e
      rw [Rps.bools r e2]
      rfl
theorem c_all (hc : X.calm = true) : CallR X (.builtin "all") (rBi X.K .all) := by
  intro pins s σ H xs us Q I r ⟨B, μ, M, d, d', v, cs, bt, rp, e, hd, q⟩
  cases rp <;> simp only [lenM, Bi.run] at hd <;> try cases hd
  rename_i t rs
  cases e2 : D.bools _ with
  | none => rw [e2] at hd; cases hd
  | some bs =>
    rw [e2] at hd
    cases hd
    have ev := rs.bools e2
    subst ev
    exact cr_all hc pins s σ H xs us Q I r ⟨_, bs, e, t.sq, q _ _ (Same.refl H) (.bl _)⟩
theorem c_any (hc : X.calm = true) : CallR X (.builtin "any") (rBi X.K .any) := by
  intro pins s σ H xs us Q I r ⟨B, μ, M, d, d', v, cs, bt, rp, e, hd, q⟩
  cases rp <;> simp only [lenM, Bi.run] at hd <;> try cases hd
  rename_i t rs
  cases e2 : D.bools _ with
  | none => rw [e2] at hd; cases hd
  | some bs =>
    rw [e2] at hd
    cases hd
    have ev := rs.bools e2
    subst ev
    exact cr_any hc pins s σ H xs us Q I r ⟨_, bs, e, t.sq, q _ _ (Same.refl H) (.bl _)⟩
theorem s_bi {bi : Bi} (hp : ∀ {tt : TA}, PA X [x] tt → PE X (.Call (.Name (biName bi) p) [x] [] pos) (tCB (rBi X.K bi) tt)) (ha : PA X [x] (tCons (tE X.K L W Φ a) tNil)) : PE X (.Call (.Name (biName bi) p) [x] [] pos) (tE X.K L W Φ (.bi bi a)) := by
  refine (hp ha).imp fun σ H Q ⟨fr, B, μ, oa, ρ, M, rel, h⟩ => ?_
  rw [ev] at h
  refine tE_first rel h fun H1 μ1 d1 M1 v1 r1 e1 p1 h1 => ?_
  obtain ⟨d, hd, h2⟩ := of_ok h1
  exact ⟨ban B μ1, μ1, M1, d1, d, v1, r1.cs, r1.bt, p1, rfl, hd, fun v' H' k rv => Pst.fin r1 k h2 v' rv⟩
end
end PC

namespace PC
open PySem PySem.Spec PyProof.Rows L2
section
variable {prog : Program} {w : World} {A : Around} {E : Value → Shared → Prop} {s : Shared}
theorem applied_rev {sl : Addr} {vl vu vs : Value} {n : Nat} {Q : Int × Int × Nat → Shared → Prop} (hs : s.heap.IsSliceOf sl vl vu vs) (pl : IsPart vl none) (pu : IsPart vu none) (ps : IsPart vs (some (-1)))
    (h : Q ((n : Int) - 1, -1, n) s) : wpAny (model prog w) A (Builtin.Slice.sliceApplied (.ref sl) (pure (n : Int))) Q E s := by
  obtain ⟨os, hos, hcs, hds⟩ := id hs
  unfold Builtin.Slice.sliceApplied Builtin.Slice.sliceFields
  refine wpAny_bind (wpAny_bind (wpAny_field hos hds (x := vl) rfl (wpAny_bind (wpAny_field hos hds (x := vu) rfl (wpAny_bind (wpAny_field hos hds (x := vs) rfl (wpAny_pure ?_)))))))
  refine wpAny_bind (HT.slicePart_ ps ?_)
  show wpAny _ _ (if ((-1 : Int) == 0) = true then _ else _) _ _ s
  rw [if_neg (by decide)]
  refine wpAny_bind (HT.slicePart_ pl (wpAny_bind (HT.slicePart_ pu (wpAny_bind (wpAny_pure ?_)))))
  have e : Builtin.Slice.slicePlaces ((n : Int) - 1) (-1) (-1) = n := by
    unfold Builtin.Slice.slicePlaces
    rw [if_neg (by decide)]
    split
    · have : ((n : Int) - 1 - -1 - 1) / (- -1) = (n : Int) - 1 := by
        rw [show (- -1 : Int) = 1 by decide, Int.ediv_one]
        omega
      rw [this]
      omega
    · omega
  show wpAny _ _ (pure ((n : Int) - 1, (-1 : Int), Builtin.Slice.slicePlaces ((n : Int) - 1) (-1) (-1))) _ _ s
  rw [e]
  exact wpAny_pure h
theorem pick_rev (xs : Array Value) : ((List.range xs.size).filterMap fun (m : Nat) => xs[(((xs.size : Int) - 1) + (m : Int) * (-1)).toNat]?).toArray = xs.toList.reverse.toArray := by
  congr 1
  have e : (List.range xs.size).filterMap (fun (m : Nat) => xs[(((xs.size : Int) - 1) + (m : Int) * (-1)).toNat]?) = (List.range xs.size).filterMap (fun m => xs.toList.reverse[m]?) := by
    have key : ∀ m ∈ List.range xs.size, xs[(((xs.size : Int) - 1) + (m : Int) * (-1)).toNat]? = xs.toList.reverse[m]? := fun m hm => by
      have hm := List.mem_range.mp hm
      rw [List.getElem?_reverse (by simpa using hm), Array.length_toList]
      have : (((xs.size : Int) - 1) + (m : Int) * (-1)).toNat = xs.size - 1 - m := by omega
      rw [this]
      simp
    have gen : ∀ l : List Nat, (∀ m ∈ l, xs[(((xs.size : Int) - 1) + (m : Int) * (-1)).toNat]? = xs.toList.reverse[m]?) → l.filterMap (fun (m : Nat) => xs[(((xs.size : Int) - 1) + (m : Int) * (-1)).toNat]?) = l.filterMap (fun m => xs.toList.reverse[m]?) := by
      intro l
      induction l with
      | nil => intro _; rfl
      | cons a l ih =>
        intro h
        rw [List.filterMap_cons, List.filterMap_cons, h a List.mem_cons_self, ih fun m hm => h m (List.mem_cons_of_mem _ hm)]
    exact gen _ key
  rw [e]
  have := PySem.W.krv_all xs.toList.reverse.toArray
  simpa using this
theorem getItem_tuple_rev {t sl : Addr} {items : Array Value} {vl vu vs : Value} {Q : Value → Shared → Prop} (ht : IsTup s.heap t items) (hs : s.heap.IsSliceOf sl vl vu vs) (pl : IsPart vl none) (pu : IsPart vu none) (ps : IsPart vs (some (-1)))
    (h : Q (.ref s.heap.objs.size) { s with heap := s.heap.push { cls := .type "tuple", data := .seq items.toList.reverse.toArray } })
    (hsz : items.size ≤ sizeLine) : wpAny (model prog w) A (getItem (.ref t) (.ref sl)) Q E s := by
  have htake : sizeOk (.seq items.toList.reverse.toArray) := by
    show items.toList.reverse.toArray.size ≤ sizeLine
    rw [List.size_toArray, List.length_reverse, Array.length_toList]
    exact hsz
  obtain ⟨os, hos, hcs, hds⟩ := id hs
  have hTs : s.TypeIs (.ref sl) "slice" := ⟨os, hos, hcs⟩
  unfold getItem
  try with_reducible refine wpAny_holding ?_
  first | refine wpAny_bind (wpAny_pure ?_) | skip
  refine wpAny_bind (wpAny_sequenceKey ht.typeIs (by decide) ?_)
  refine wpAny_bind (wpAny_callSpecial?_slot (name := Str.ofString "__getitem__") ht.typeIs PyProof.Rows.slot_tuple_getitem
    (wpAny_call_entry PyProof.Rows.slot_tuple_getitem ht.typeIs entry_tuple_getitem ?_ (args_tuple_getitem _ _)))
  show wpAny _ _ (Builtin.Tuple.tupleItemsOf (.ref t) >>= _) _ _ s
  refine wpAny_bind (tupleItemsOf_ ht ?_)
  refine wpAny_bind (wpAny_typeOf hTs ?_)
  rw [if_pos (by decide)]
  refine wpAny_bind (applied_rev hs pl pu ps ?_)
  have hno : ¬ ((((items.size : Int) - 1) == 0 && (-1 : Int) == 1 && items.size == items.size) = true) := by
    intro q
    rw [Bool.and_eq_true, Bool.and_eq_true] at q
    exact absurd (eq_of_beq q.1.2) (by decide)
  show wpAny _ _ (if (((items.size : Int) - 1) == 0 && (-1 : Int) == 1 && items.size == items.size) = true then _ else _) _ _ s
  rw [if_neg hno, pick_rev]
  first
    | exact wpAny_bind (m := Builtin.Tuple.tupleExact _) (wpAny_newObj_type (wpAny_pure ⟨_, rfl, wpAny_pure h⟩) htake)
    | exact wpAny_bind (m := Builtin.Tuple.tupleExact _) (wpAny_newObj_type (wpAny_bind (wpAny_pure (wpAny_pure ⟨_, rfl, wpAny_pure h⟩))) htake)
    | exact wpAny_bind (wpAny_bind (m := Builtin.Tuple.tupleExact _) (wpAny_newObj_type (wpAny_pure (wpAny_pure ⟨_, rfl, wpAny_pure h⟩)) htake))
    | exact wpAny_bind (wpAny_bind (m := Builtin.Tuple.tupleExact _) (wpAny_newObj_type (wpAny_pure ⟨_, rfl, wpAny_pure h⟩) htake))
end
def tRevA (K : PySem.W.Frag) (te : TE) : TE := fun σ H Q => te σ H fun x H1 => ∃ a xs, x = .ref a ∧ ((SqL K H1 a xs ∧ ∀ p, H1 p = none → Q (.ref p) (upd H1 p (.lst xs.reverse))) ∨ (SqT K H1 a xs ∧ ∀ p, H1 p = none → Q (.ref p) (upd H1 p (.tup xs.reverse))))
theorem pe_revA {X : Cx} {e : Expr} {te : TE} {k : Nat} {p1 p2 p3 pos : Pos} (he : PE X e te) : PE X (.Subscript e (.Slice none none (some (.UnaryOp .USub (.Constant (.int 1) k p1) p2)) p3) pos) (tRevA X.K te) := by
  refine ⟨fun pins s σ H Q I h => ?_⟩
  refine Subscript_ (thn (he.run pins s σ H _ I h) fun v s1 ⟨x, H1, I1, r1, q1⟩ => ?_)
  obtain ⟨a, xs, ex, hx⟩ := q1
  subst ex
  cases r1
  have hst : PO X (some (.UnaryOp .USub (.Constant (.int 1) k p1) p2)) (tPart (tUn (rU fun i => .int (-i)) (tC (.int 1)))) := po_some (pe_un un_neg pe_int)
  refine wpAny_Slice (thn (po_none.run pins s1 σ H1 (fun o H2 => o = none ∧ H2 = H1) I1 ⟨rfl, rfl⟩) fun vl s2 ⟨l, H2, I2, pl, el, e2⟩ => ?_)
  subst el e2
  refine thn (po_none.run pins s2 σ H2 (fun o H3 => o = none ∧ H3 = H2) I2 ⟨rfl, rfl⟩) fun vu s3 ⟨u, H3, I3, pu, eu, e3⟩ => ?_
  subst eu e3
  refine thn (hst.run pins s3 σ H3 (fun o H4 => o = some (-1) ∧ H4 = H3) I3 ⟨1, rfl, -1, rfl, rfl, rfl⟩) fun vs s4 ⟨o, H4, I4, ps, eo, e4⟩ => ?_
  subst eo e4
  have I5 : Inv X pins σ H4 { s4 with heap := s4.heap.push { cls := .type "slice", data := .fields #[vl, vu, vs] } } := I4.kept (t' := s4.toks) fun b ob q => Heap.get?_push_of_some _ q
  show wpAny (model X.prog X.w) X.A (subscriptTail e (.Slice none none (some (.UnaryOp .USub (.Constant (.int 1) k p1) p2)) p3) (.ref a) (.ref s4.heap.objs.size)) (EP X pins σ Q) X.xe { s4 with heap := s4.heap.push { cls := .type "slice", data := .fields #[vl, vu, vs] } }
  rcases hx with ⟨hx, q⟩ | ⟨hx, q⟩
  · obtain ⟨its, r, ht, hz⟩ := I5.list hx
    have hlen := r.length
    refine tail_any (ops := [.ref a, .ref s4.heap.objs.size]) ht.isList.typeIs (PySem.slot_list_getitem.lookup) ?_ (by with_unfolding_all rfl)
    refine wpAny_getItem_list_slice ht.isList (Heap.IsSliceOf.new _ vl vu vs) pl pu ps (by decide) ?_ (by rw [List.size_toArray]; omega)
    rw [PySem.W.krv_pick]
    refine ⟨.ref _, _, I5.laid (t' := s4.toks) (o := .lst xs.reverse) (fun b ob q => Heap.get?_push_of_some _ q) (Nat.le_refl _) ?_, rfl, q _ (I5.hok.fresh (Nat.le_refl _))⟩
    exact ⟨by rw [List.length_reverse]; exact hz, _, 0, r.reverse, Heap.get?_push_size _ rfl⟩
  · obtain ⟨its, r, ht, hz⟩ := I5.tuple hx
    have hlen := r.length
    refine tail_any (ops := [.ref a, .ref s4.heap.objs.size]) ht.typeIs (PyProof.Rows.slot_tuple_getitem.lookup) ?_ (by with_unfolding_all rfl)
    refine getItem_tuple_rev ht (Heap.IsSliceOf.new _ vl vu vs) pl pu ps ?_ (by rw [List.size_toArray]; omega)
    refine ⟨.ref _, _, I5.laid (t' := s4.toks) (o := .tup xs.reverse) (fun b ob q => Heap.get?_push_of_some _ q) (Nat.le_refl _) ?_, rfl, q _ (I5.hok.fresh (Nat.le_refl _))⟩
    exact ⟨by rw [List.length_reverse]; exact hz, _, r.reverse, IsTup.new _ _⟩
theorem s_sliceRev {X : Cx} {L : Lg} {W : WX} {Φ : Fns} {a : E} {x : Expr} {k : Nat} {p1 p2 p3 pos : Pos} (ha : PE X x (tE X.K L W Φ a)) : PE X (.Subscript x (.Slice none none (some (.UnaryOp .USub (.Constant (.int 1) k p1) p2)) p3) pos) (tE X.K L W Φ (.sliceRev a)) := by
  refine (pe_revA ha).imp fun σ H Q ⟨fr, B, μ, oa, ρ, M, rel, h⟩ => ?_
  rw [ev] at h
  refine tE_first rel h fun H1 μ1 d1 M1 v1 r1 e1 p1 h1 => ?_
  obtain ⟨d, hd, h2⟩ := of_ok h1
  cases p1 with
  | tup t rs =>
    cases hd
    exact ⟨_, _, rfl, .inr ⟨t.sq, fun p hp => Pst.fin r1 (same_upd hp) h2 _ (new_tup r1.bt hp rs.reverse)⟩⟩
  | lst t rs =>
    cases hd
    exact ⟨_, _, rfl, .inl ⟨t.sq, fun p hp => Pst.fin r1 (same_upd hp) h2 _ (new_lst r1.bt hp rs.reverse)⟩⟩
  | non => cases hd
  | bl _ => cases hd
  | int _ => cases hd
  | str _ => cases hd
  | frz _ _ => cases hd
  | cell _ => cases hd
end PC

namespace PC
open PySem PySem.Spec PyProof.Rows L2
theorem D.ints_eq : ∀ {xs : List D} {r : List Int}, D.ints xs = some r → xs = r.map .int
  | [], r, h => by simp [D.ints] at h; subst h; rfl
  | d :: xs, r, h => by
    cases d <;> simp [D.ints] at h
    obtain ⟨r', h1, rfl⟩ := h
    rw [D.ints_eq h1]
    rfl
theorem D.ints_map : ∀ r : List Int, D.ints (r.map .int) = some r
  | [] => rfl
  | x :: r => by
    show (D.ints (r.map .int)).map (x :: ·) = _
    rw [D.ints_map r]
    rfl
theorem D.rows_eq : ∀ {xs : List D} {rs : List (List Int)}, D.rows xs = some rs → xs = rs.map fun r => .tup (r.map .int)
  | [], rs, h => by simp [D.rows] at h; subst h; rfl
  | d :: xs, rs, h => by
    cases d <;> simp only [D.rows] at h <;> try cases h
    rename_i ys
    cases e1 : D.ints ys with
    | none => rw [e1] at h; cases h
    | some a =>
      cases e2 : D.rows xs with
      | none => rw [e1, e2] at h; cases h
      | some b =>
        rw [e1, e2] at h
        cases h
        rw [D.rows_eq e2, D.ints_eq e1]
        rfl
def inlL (r : List Int) : List (Int ⊕ List Nat) := r.map Sum.inl
theorem ltI_lex : ∀ a b : List Int, D.ltI a b = lexLt itemOrd (inlL a) (inlL b)
  | [], [] => rfl
  | [], _ :: _ => rfl
  | _ :: _, [] => rfl
  | x :: a, y :: b => by
    show (decide (x < y) || (!decide (y < x) && D.ltI a b)) = (decide (x < y) || (!decide (y < x) && lexLt itemOrd (inlL a) (inlL b)))
    rw [ltI_lex a b]
/-- ordered: no later one is less -/
def Ord (l : List (List Int)) : Prop := l.Pairwise fun a b => D.ltI b a = false
theorem ltI_irr (a : List Int) : D.ltI a a = false := by rw [ltI_lex]; exact (listOrd itemOrd).irrefl _
theorem ltI_anti {a b : List Int} (h1 : D.ltI a b = false) (h2 : D.ltI b a = false) : a = b := by
  rw [ltI_lex] at h1 h2
  have e := (listOrd itemOrd).total _ _ h1 h2
  exact (List.map_inj_right fun x y h => Sum.inl.inj h).mp e
theorem ltI_neg {a b c : List Int} (h1 : D.ltI b a = false) (h2 : D.ltI c b = false) : D.ltI c a = false := by
  rw [ltI_lex] at h1 h2 ⊢
  cases e : lexLt itemOrd (inlL c) (inlL a) with
  | false => rfl
  | true =>
    rcases (listOrd itemOrd).negTrans _ (inlL b) _ e with h | h
    · have h' : lexLt itemOrd (inlL c) (inlL b) = true := h
      rw [h'] at h2; cases h2
    · have h' : lexLt itemOrd (inlL b) (inlL a) = true := h
      rw [h'] at h1; cases h1
theorem ltI_asym {a b : List Int} (h : D.ltI a b = true) : D.ltI b a = false := by
  cases e : D.ltI b a with
  | false => rfl
  | true =>
    rw [ltI_lex] at h e
    have := (listOrd itemOrd).trans _ _ _ h e
    rw [(listOrd itemOrd).irrefl] at this
    cases this
theorem ins_perm {α : Type} (lt : α → α → Bool) (x : α) : ∀ l : List α, (ins lt x l).Perm (x :: l)
  | [] => .refl _
  | y :: l => by
    unfold ins
    split
    · exact .refl _
    · exact ((ins_perm lt x l).cons y).trans (.swap x y l)
theorem isort_perm {α : Type} (lt : α → α → Bool) : ∀ l : List α, (isort lt l).Perm l
  | [] => .refl _
  | x :: l => (ins_perm lt x _).trans ((isort_perm lt l).cons x)
theorem ins_ord (x : List Int) : ∀ l : List (List Int), Ord l → Ord (ins D.ltI x l)
  | [], _ => by unfold ins Ord; exact List.pairwise_singleton _ _
  | y :: l, h => by
    have h' := List.pairwise_cons.mp h
    unfold ins
    split
    · rename_i hlt
      refine List.pairwise_cons.mpr ⟨fun z hz => ?_, h⟩
      rcases List.mem_cons.mp hz with rfl | hz
      · exact ltI_asym hlt
      · exact ltI_neg (ltI_asym hlt) (h'.1 z hz)
    · rename_i hlt
      refine List.pairwise_cons.mpr ⟨fun z hz => ?_, ins_ord x l h'.2⟩
      rcases List.mem_cons.mp ((ins_perm D.ltI x l).mem_iff.mp hz) with rfl | hz
      · exact Bool.eq_false_iff.mpr hlt
      · exact h'.1 z hz
theorem isort_ord : ∀ l : List (List Int), Ord (isort D.ltI l)
  | [] => List.Pairwise.nil
  | x :: l => ins_ord x _ (isort_ord l)
/-- two ordered lists of the same rows are one -/
theorem ord_uniq : ∀ {l m : List (List Int)}, Ord l → Ord m → l.Perm m → l = m
  | [], m, _, _, h => (List.nil_perm.mp h).symm
  | x :: l, [], _, _, h => absurd (List.perm_nil.mp h) (by simp)
  | x :: l, y :: m, hl, hm, h => by
    have hl' := List.pairwise_cons.mp hl
    have hm' := List.pairwise_cons.mp hm
    have e : x = y := by
      refine ltI_anti ?_ ?_
      · rcases List.mem_cons.mp (h.mem_iff.mp List.mem_cons_self) with e | hx
        · rw [e]; exact ltI_irr _
        · exact hm'.1 x hx
      · rcases List.mem_cons.mp (h.mem_iff.mpr List.mem_cons_self) with e | hy
        · rw [e]; exact ltI_irr _
        · exact hl'.1 y hy
    subst e
    rw [ord_uniq hl'.2 hm'.2 h.cons_inv]
theorem isort_eq {l m : List (List Int)} (ho : Ord l) (hp : l.Perm m) : l = isort D.ltI m := ord_uniq ho (isort_ord m) (hp.trans (isort_perm D.ltI m).symm)
def rowOf (h : Heap) (u : Value) : List Int := match G.tupKeyC h (fun _ => false) u with
  | some l => l.filterMap fun x => match x with | .inl i => some i | .inr _ => none
  | none => []
theorem rowOf_of {h : Heap} {u : Value} {r : List Int} (e : G.tupKeyC h (fun _ => false) u = some (inlL r)) : rowOf h u = r := by
  unfold rowOf
  rw [e]
  show (inlL r).filterMap _ = r
  unfold inlL
  rw [List.filterMap_map]
  clear e
  induction r with
  | nil => rfl
  | cons x r ih => simp [List.filterMap_cons, ih]
theorem tupItems_ints : ∀ {us : List Value} {ns : List Int} (i : Nat), IntsAre us ns → tupItems (fun _ => false) i us = some (inlL ns)
  | _, _, _, .nil => rfl
  | _, _, i, .cons n t r => by
    show (tupItems (fun _ => false) (i + 1) _).map _ = _
    rw [tupItems_ints (i + 1) r]
    rfl
section
variable {X : Cx}
theorem row_facts {pins : List (Addr × Obj)} {s : Shared} {σ : L2.St} {H : Hp} (I : Inv X pins σ H s) {a : Addr} {r : List Int} (h : SqT X.K H a (r.map V.int)) :
    G.tupKeyC s.heap (fun _ => false) (.ref a) = some (inlL r) ∧ (r ≠ [] → ∃ f, TupOf s.heap (fun _ => false) (.ref a) f) := by
  obtain ⟨its, rv, ⟨⟨cls, dd, data, sl⟩, ho, hc, n, hd⟩, hz⟩ := I.tuple h
  simp only at hc hd
  subst hc hd
  have hi := intsAre_of rv
  refine ⟨?_, fun hr => ?_⟩
  · unfold G.tupKeyC
    have h1 : G.isTupObj s.heap (.ref a) = true := by
      simp only [G.isTupObj, ho]
      rfl
    rw [if_pos h1]
    simp only [tupKey, ho]
    exact tupItems_ints 0 (by simpa using hi)
  · cases hi with
    | nil => exact absurd rfl hr
    | cons k t rest => exact ⟨.int k t, a, _, _, n, rfl, ho, rfl, rfl, rfl, fun _ => ⟨k, t, rfl⟩, fun z => by cases z⟩
theorem c_sorted : CallR X (.builtin "sorted") (rBi X.K .sorted) := by
  intro pins s σ H xs us Q I r ⟨B, μ, M, d, d', v, cs, bt, rp, e, hd, q⟩
  cases rp with
  | tup t rs => cases hd
  | @cell n a hm => cases hd
  | str x => cases hd
  | non => cases hd
  | bl _ => cases hd
  | int _ => cases hd
  | frz t rs => cases hd
  | @lst a vs ds t rs =>
    simp only [lenM, Bi.run] at hd
    cases er : D.rows ds with
    | none => rw [er] at hd; cases hd
    | some rows =>
      rw [er] at hd
      dsimp only at hd
      split at hd
      · rename_i hok
        cases hd
        obtain ⟨hsz, hne⟩ := hok
        have eds := D.rows_eq er
        subst eds
        subst e
        obtain ⟨u, rfl, ru⟩ := vals1 r
        obtain rfl : u = Value.ref a := ru
        obtain ⟨its, rv, hl, hz⟩ := I.list t.sq
        -- each item is a row
        have each : ∀ (i : Nat) (rw_ : List Int), rows[i]? = some rw_ → ∃ b, vs[i]? = some (.ref b) ∧ its[i]? = some (.ref b) ∧ SqT X.K H b (rw_.map V.int) ∧ Rp X.K H B μ (.tup (rw_.map .int)) (.ref b) := fun i rw_ hi => by
          have h1 : (rows.map fun r => D.tup (r.map .int))[i]? = some (.tup (rw_.map .int)) := by rw [List.getElem?_map, hi]; rfl
          obtain ⟨v, h2, h3⟩ := rs.get h1
          obtain ⟨u, h4, h5⟩ := rv.get h2
          cases h3 with
          | tup t2 rs2 =>
            have := rs2.ints (is := rw_) (D.ints_map rw_)
            subst this
            cases h5
            exact ⟨_, h2, h4, t2.sq, .tup t2 rs2⟩
        have hlen : rows.length = its.length := by rw [← rv.length, ← rs.length, List.length_map]
        have hits : ∀ u ∈ its, ∃ b rw_, u = .ref b ∧ SqT X.K H b (rw_.map V.int) ∧ Rp X.K H B μ (.tup (rw_.map .int)) (.ref b) ∧ rw_ ∈ rows := fun u hu => by
          obtain ⟨i, hi, e⟩ := List.getElem_of_mem hu
          have h1 : rows[i]? = some rows[i] := List.getElem?_eq_getElem (by omega)
          obtain ⟨b, _, h2, h3, h4⟩ := each i _ h1
          rw [List.getElem?_eq_getElem hi, e] at h2
          exact ⟨b, rows[i], Option.some.inj h2, h3, h4, List.getElem_mem _⟩
        have hrow : ∀ u ∈ its, Rp X.K H B μ (.tup ((rowOf s.heap u).map .int)) (backV u) ∧ (∃ b, u = .ref b) ∧ G.tupKeyC s.heap (fun _ => false) u = some (inlL (rowOf s.heap u)) := fun u hu => by
          obtain ⟨b, rw_, rfl, h1, h2, _⟩ := hits u hu
          have hk := (row_facts I h1).1
          rw [rowOf_of hk]
          exact ⟨h2, ⟨b, rfl⟩, hk⟩
        have hmap : its.map (rowOf s.heap) = rows := by
          apply List.ext_getElem?
          intro i
          rw [List.getElem?_map]
          by_cases hi : i < rows.length
          · obtain ⟨b, _, h2, h3, _⟩ := each i _ (List.getElem?_eq_getElem hi)
            rw [h2, List.getElem?_eq_getElem hi]
            exact congrArg some (rowOf_of (row_facts I h3).1)
          · rw [List.getElem?_eq_none (by omega), List.getElem?_eq_none (by omega)]
            rfl
        have keys : KeysOf (G.tupKindC s.heap fun _ => false) (pairsOf its) := G.tupKeys fun u hu => ⟨_, (hrow u hu).2.2⟩
        refine G.sortedG (κ := G.tupKindC s.heap fun _ => false) (kd := tuples' true) hl.isList keys (fun s₂ k => G.tupC_ltAt (s := s₂) true k) (fun h2 A' E' s₂ Q' k hq => ?_) (by rw [← hlen]; simpa using hsz) fun st' hperm hsort hstab => ?_
        · have hne' : ∀ r ∈ rows, r ≠ [] := by
            rcases hne with z | z
            · omega
            · intro r hr er
              have := (List.all_eq_true.mp z) r hr
              rw [er] at this
              cases this
          have ht : ∀ l : List Value, (∀ u ∈ l, u ∈ its) → ∃ fs, TupsOf s.heap (fun _ => false) l fs := fun l => by
            induction l with
            | nil => exact fun _ => ⟨[], .nil⟩
            | cons u l ih =>
              intro hm
              obtain ⟨fs, h1⟩ := ih fun u hu => hm u (List.mem_cons_of_mem _ hu)
              obtain ⟨b, rw_, rfl, h3, h4, h5⟩ := hits u (hm u List.mem_cons_self)
              obtain ⟨f, h6⟩ := (row_facts I h3).2 (hne' _ h5)
              exact ⟨f :: fs, .cons h6 h1⟩
          obtain ⟨fs, hfs⟩ := ht its fun _ h => h
          exact tup_kind (s := s₂) (by rw [G.TupsOf.length hfs]; omega) (G.TupsOf.keep k hfs) hq
        · -- the result
          have hmem : ∀ p ∈ (arrOf st').toList, p.1 = p.2 ∧ p.1 ∈ its := fun p hp => by
            have : p ∈ (pairsOf its).toList := (Array.perm_iff_toList_perm.mp hperm).mem_iff.mp hp
            rw [pairsOf_toList] at this
            exact mem_zip_self this
          have houtmem : ∀ u ∈ ((arrOf st').map (·.2)).toList, u ∈ its := fun u hu => by
            rw [Array.toList_map] at hu
            obtain ⟨p, hp, rfl⟩ := List.mem_map.mp hu
            obtain ⟨e1, e2⟩ := hmem p hp
            rw [← e1]; exact e2
          have hperm2 : ((arrOf st').map (·.2)).toList.Perm its := by
            rw [Array.toList_map]
            have h1 := (Array.perm_iff_toList_perm.mp hperm).map (·.2)
            rw [pairsOf_toList] at h1
            refine h1.trans ?_
            have : (its.zip its).map (·.2) = its := by
              clear h1
              have gen : ∀ l : List Value, (l.zip l).map (·.2) = l := fun l => by
                induction l with
                | nil => rfl
                | cons x l ih => simp [ih]
              exact gen its
            rw [this]
          have hout : ((arrOf st').map (·.2)).toList.map (rowOf s.heap) = isort D.ltI rows := by
            refine isort_eq ?_ (by rw [← hmap]; exact hperm2.map _)
            rw [Array.toList_map, List.map_map]
            unfold Ord
            rw [List.pairwise_iff_getElem]
            intro i j hi hj hij
            rw [List.getElem_map, List.getElem_map]
            rw [List.length_map] at hi hj
            have hsz2 : (arrOf st').size = (pairsOf its).size := hperm.size_eq
            have hs := hsort i j (Nat.le_of_lt hij) (by rw [← hsz2]; simpa using hj)
            have kk : ∀ (m : Nat) (hm : m < (arrOf st').toList.length), KK (G.tupKindC s.heap fun _ => false) (arrOf st') m = inlL (rowOf s.heap (arrOf st').toList[m].2) := fun m hm => by
              have hm' : m < (arrOf st').size := by simpa using hm
              have e1 : (arrOf st')[m]? = some (arrOf st').toList[m] := by simp [hm']
              obtain ⟨q1, q2⟩ := hmem _ (List.getElem_mem hm)
              show (match (arrOf st')[m]? with | some p => (G.tupKeyC s.heap (fun _ => false) p.1).getD [] | none => []) = _
              rw [e1]
              dsimp only
              rw [(hrow _ q2).2.2, q1]
              rfl
            rw [kk i hi, kk j hj] at hs
            show D.ltI (rowOf s.heap (arrOf st').toList[j].2) (rowOf s.heap (arrOf st').toList[i].2) = false
            rw [ltI_lex]
            exact hs
          have hrps : ∀ l : List Value, (∀ u ∈ l, u ∈ its) → Rps X.K H B μ (l.map fun u => .tup ((rowOf s.heap u).map .int)) (l.map backV) := fun l => by
            induction l with
            | nil => exact fun _ => .nil
            | cons u l ih => exact fun hm => .cons (hrow u (hm u List.mem_cons_self)).1 (ih fun u hu => hm u (List.mem_cons_of_mem _ hu))
          obtain ⟨n, hn⟩ := sortedAll_at s.heap its ((arrOf st').map (·.2))
          have hfr : H (s.heap.objs.size + 1) = none := I.hok.fresh (Nat.le_succ _)
          have R := hrps _ houtmem
          have eD : (((arrOf st').map (·.2)).toList.map fun u => D.tup ((rowOf s.heap u).map .int)) = (isort D.ltI rows).map fun r => .tup (r.map .int) := by
            rw [← hout, List.map_map]
            rfl
          rw [eD] at R
          have hlen2 : (((arrOf st').map (·.2)).toList.map backV).length ≤ sizeLine := by
            rw [List.length_map, hperm2.length_eq, ← hlen]
            simpa using hsz
          refine ⟨.ref (s.heap.objs.size + 1), upd H (s.heap.objs.size + 1) (.lst (((arrOf st').map (·.2)).toList.map backV)), I.laid (t' := s.toks) (fun b o e => sortedAll_old e) (Nat.le_succ _) ⟨hlen2, ((arrOf st').map (·.2)).toList, n, vals_back fun u hu => (hrow u (houtmem u hu)).2.1, ?_⟩, rfl, q _ _ (same_upd hfr) (new_lst bt hfr R)⟩
          rw [hn, Array.toArray_toList]
      · cases hd
end
end PC

namespace PC
open PySem PySem.Spec PyProof.Rows L2
section
variable {X : Cx} {L : Lg} {W : WX} {Φ : Fns} {a b c i : E} {es : Es} {x y z : Expr} {xs : List Expr} {pos : Pos}
def Ty.nm : Ty → String | .int => "int" | .bool => "bool" | .str => "str" | .tuple => "tuple" | .list => "list"
def D.tyN : D → String | .non => "NoneType" | .bl _ => "bool" | .int _ => "int" | .str _ => "str" | .tup _ => "tuple" | .lst _ => "list" | .frz _ => "list" | .cell _ => ""
theorem Ty.kit {K : PySem.W.Frag} {t : Ty} {d : D} {r : Bool} (h : t.is d = some r) : PySem.W.kitOne K (.type d.tyN) (.type t.nm) = some r := by
  refine kit_ty ?_
  cases t <;> cases d <;> simp only [Ty.is] at h <;> cases h <;> (dsimp only [D.tyN, Ty.nm]; decide +kernel)
theorem Rp.tyx {K : PySem.W.Frag} {H : Hp} {B : Addr → Prop} {μ : List Addr} {d : D} {v : V} {t : Ty} {r : Bool} (rp : Rp K H B μ d v) (h : t.is d = some r) : TyX K H v (.type d.tyN) := by
  cases rp with
  | non => exact .base .non
  | bl x => exact .base (.bl x)
  | int x => exact .base (.int x)
  | str x => exact .base (.str x)
  | tup t rs =>
    rcases t with ⟨h | ⟨o, h⟩, _⟩ | h
    · exact .base (.tup h)
    · exact .fTuple h
    · rcases h (fun _ => none) with (h | ⟨_, h⟩) | ⟨o, its, n, h, hc, _⟩
      · cases h
      · cases h
      · exact .kTuple h hc
  | lst t rs => exact .base (.lst t.1)
  | frz _ rs => cases t <;> simp [Ty.is] at h
  | cell _ => cases t <;> simp [Ty.is] at h
theorem Ty.kits {K : PySem.W.Frag} {d : D} : ∀ {ts : List Ty} {r : Bool}, Ty.any ts d = some r → PySem.W.kitAny K (.type d.tyN) (ts.map fun t => .type t.nm) = some r
  | [], r, h => by cases h; exact kitAny_nil
  | t :: ts, r, h => by
    simp only [Ty.any] at h
    cases e : t.is d with
    | none => rw [e] at h; cases h
    | some k =>
      rw [e] at h
      cases k with
      | true => cases h; exact kitAny_cons (Ty.kit e) (fun z => nomatch z) fun _ => rfl
      | false => exact kitAny_cons (Ty.kit e) (fun _ => Ty.kits h) fun z => nomatch z
def Ty.id (t : Ty) : Str := Str.ofString t.nm
theorem Ty.boot (t : Ty) : bootBuiltins t.id = some (.type t.nm) := by cases t <;> decide +kernel
theorem Ty.nn (t : Ty) : t.id ≠ "__name__" := by cases t <;> decide +kernel
theorem Ty.nd (t : Ty) : (t.id == ("__debug__" : Str)) = false := by cases t <;> decide +kernel
theorem s_isi {t : Ty} {p q : Pos} (hg : Gl X "isinstance") (hm : X.mg "isinstance" = none) (hgt : Gl X t.id) (hmt : X.mg t.id = none) (ha : PE X x (tE X.K L W Φ a))
    (hs : starEach [x, .Name t.id q] X.env = (false, eval x X.env) :: starEach [.Name t.id q] X.env) : PE X (.Call (.Name "isinstance" p) [x, .Name t.id q] [] pos) (tE X.K L W Φ (.isi a [t])) := by
  refine (pe_callB call_isi hg hm boot_isinstance (pa_cons ha (pa_cons (pe_bltn (v := .ty t.nm) hgt hmt t.boot rfl t.nn t.nd) pa_nil) hs) (by decide) (by decide) hs).imp fun σ H Q ⟨fr, B, μ, oa, ρ, M, rel, h⟩ => ?_
  rw [ev] at h
  refine tE_first rel h fun H1 μ1 d1 M1 v1 r1 e1 p1 h1 => ?_
  obtain ⟨d, hd, h2⟩ := of_ok h1
  simp only [Ty.any] at hd
  cases e : t.is d1 with
  | none => rw [e] at hd; cases hd
  | some k =>
    rw [e] at hd
    have hk : d = .bl k := by cases k <;> (cases hd; rfl)
    subst hk
    exact ⟨v1, .ty t.nm, .type d1.tyN, .type t.nm, k, rfl, .ty _, p1.tyx e, Ty.kit e, Pst.fin r1 (Same.refl _) h2 _ (.bl _)⟩
/-- the names of built-in types, as a tuple's items -/
inductive TyNames (X : Cx) : List Ty → List Expr → Prop
  | nil : TyNames X [] []
  | cons {t : Ty} {ts : List Ty} {q : Pos} {es : List Expr} : Gl X t.id → X.mg t.id = none → TyNames X ts es → TyNames X (t :: ts) (.Name t.id q :: es)
theorem TyNames.pa : ∀ {ts : List Ty} {es : List Expr}, TyNames X ts es → PA X es (fun _ H Q => Q (ts.map fun t => .ty t.nm) H)
  | _, _, .nil => pa_nil
  | t :: ts, _, .cons g m r => (pa_cons (pe_bltn (v := .ty t.nm) g m t.boot rfl t.nn t.nd) r.pa rfl).imp fun σ H Q h => h
theorem s_isiT {ts : List Ty} {tes : List Expr} {k : Nat} {p q : Pos} (hg : Gl X "isinstance") (hm : X.mg "isinstance" = none) (ht : TyNames X ts tes) (hn : ts.length ≤ 20) (hne : ts ≠ []) (ha : PE X x (tE X.K L W Φ a))
    (hs : starEach [x, .Tuple tes k q] X.env = (false, eval x X.env) :: starEach [.Tuple tes k q] X.env) : PE X (.Call (.Name "isinstance" p) [x, .Tuple tes k q] [] pos) (tE X.K L W Φ (.isi a ts)) := by
  refine (pe_callB call_isiT hg hm boot_isinstance (pa_cons ha (pa_cons (pe_tup ht.pa) pa_nil) hs) (by decide) (by decide) hs).imp fun σ H Q ⟨fr, B, μ, oa, ρ, M, rel, h⟩ => ?_
  rw [ev] at h
  refine tE_first rel h fun H1 μ1 d1 M1 v1 r1 e1 p1 h1 => ?_
  obtain ⟨d, hd, h2⟩ := of_ok h1
  cases e : Ty.any ts d1 with
  | none => rw [e] at hd; cases hd
  | some r =>
    rw [e] at hd
    cases hd
    refine ⟨by rw [List.length_map, sizeLine_eq]; omega, fun tp htp => ?_⟩
    have p2 := p1.mono (Same.kp (same_upd (o := .tup (ts.map fun t => V.ty t.nm)) htp))
    have tx : TyX X.K (upd H1 tp (.tup (ts.map fun t => V.ty t.nm))) v1 (.type d1.tyN) := by
      cases ts with
      | nil => exact absurd rfl hne
      | cons t ts =>
        simp only [Ty.any] at e
        cases e2 : t.is d1 with
        | none => rw [e2] at e; cases e
        | some k => exact p2.tyx e2
    have pc : ∀ ts : List Ty, Paired ClsV (ts.map fun t => V.ty t.nm) (ts.map fun t => Value.type t.nm) := fun ts => by
      induction ts with
      | nil => exact .nil
      | cons t ts ih => exact .cons (.ty _) ih
    exact ⟨v1, tp, _, .type d1.tyN, _, r, rfl, upd_same, pc ts, tx, Ty.kits e, Pst.fin r1 (same_upd htp) h2 _ (.bl _)⟩

/-- what a def of the core promises -/
def spD (K : PySem.W.Frag) (L : Lg) (Φ : Fns) (f n : Nat) : Sp := fun vs H Q E => ∃ B μ M ds, vs.length = n ∧ Cs K H (ban B μ) μ M ∧ (∀ a, ban B μ a → H a ≠ none) ∧ Rps K H (ban B μ) μ ds vs ∧
  match Φ f ds M with
  | .ok d M' => ∀ v H' μ', Evo μ H μ' H' → Cs K H' (ban B μ') μ' M' → (∀ a, ban B μ' a → H' a ≠ none) → Rp K H' (ban B μ') μ' d v → Q v H'
  | .err x M' => ∀ cls dd H' μ', Evo μ H μ' H' → Cs K H' (ban B μ') μ' M' → (∀ a, ban B μ' a → H' a ≠ none) → L.xr H' x cls dd → E cls dd H'
  | .bad => False
/-- a def of the table stands in the text and keeps its promise -/
structure DefOk (X : Cx) (L : Lg) (lv : Nat) (Φ : Fns) (f : Nat) (fd : FD) (ad : Addr) (fdat : FuncData) : Prop where
  mg : X.mg fd.name = some (.ref ad)
  kp : PySem.W.keepIn X.K (.ref ad) = true
  bd : Binds X.K fdat fd.ps []
  ok : FnOk X.prog X.w X.K X.mg X.base (L2.CX X.prog X.w) lv ad fdat fd.ps (spD X.K L Φ f fd.ps.length)
def TabOk (X : Cx) (L : Lg) (T : Nat → Option FD) (lv : Nat) (Φ : Fns) : Prop := ∀ f fd, T f = some fd → ∃ ad fdat, DefOk X L lv Φ f fd ad fdat
theorem sp_of_call {K : PySem.W.Frag} {fr : Fr} {H : Hp} {B : Addr → Prop} {μ : List Addr} {oa : Nat → Option Addr} {ρ : Ev} {M : Mem} {σ : L2.St} {f n : Nat} {ds : List D} {vs : List V} {R : Hp → List Addr → D → Mem → Prop} {Q : VK} (rel : Rl K fr B μ oa ρ M σ H) (hl : vs.length = n) (rs : Rps K H (ban B μ) μ ds vs)
    (h : Pst K L W fr B μ oa ρ σ H (Φ f ds M) R) (g : ∀ H' μ' d M' v, R H' μ' d M' → Rp K H' (ban B μ') μ' d v → Q v H') : spD K L Φ f n vs H Q (WE W σ) := by
  refine ⟨B, μ, M, ds, hl, rel.cs, rel.bt, rs, ?_⟩
  cases e : Φ f ds M with
  | ok d M' =>
    rw [e] at h
    exact fun v H' μ' ev cs bt rp => g H' μ' d M' v (h H' μ' ev (rel.after ev cs bt)) rp
  | err x M' =>
    rw [e] at h
    exact fun cls dd H' μ' ev cs bt hx => h cls dd H' μ' ev (rel.after ev cs bt) hx
  | bad =>
    rw [e] at h
    exact h
theorem pe_callS0 {CX : CXT} {k : Nat} {f : Addr} {fd : FuncData} {ps : List Str} {sp : Sp} {E : L2.St → XK} {n : Str} {p : Pos} (F : FnOk X.prog X.w X.K X.mg X.base CX k f fd ps sp) (hr : Room k X.A) (hg : Gl X n) (hm : X.mg n = some (.ref f)) (hk : PySem.W.keepIn X.K (.ref f) = true) (hb : Binds X.K fd ps []) (hx : ∀ σ, PassesAt CX X σ (E σ))
    (hdb : (n == ("__debug__" : Str)) = false) : PE X (.Call (.Name n p) [] [] pos) (tCallS sp E tNil) := by
  refine ⟨fun pins s σ H Q I h => ?_⟩
  refine wpAny_Call_Name_kw (ld_glob I hg hm ?_ hdb)
  exact PySem.W.callWith_K0 I.kIn hk (run_fnS (us := []) F hr hb (hx σ) I .nil h)
theorem s_call0 {lv f : Nat} {fd : FD} {ad : Addr} {fdat : FuncData} {p : Pos} (F : DefOk X L lv Φ f fd ad fdat) (hr : Room lv X.A) (hg : Gl X fd.name) (tk : Takes X W) (hn : fd.ps.length = 0) (hdb : (fd.name == ("__debug__" : Str)) = false) :
    PE X (.Call (.Name fd.name p) [] [] pos) (tE X.K L W Φ (.call f .nil)) := by
  refine (pe_callS0 F.ok hr hg F.mg F.kp F.bd (fun σ => passAt tk σ) hdb).imp fun σ H Q ⟨fr, B, μ, oa, ρ, M, rel, h⟩ => ?_
  rw [ev, evs] at h
  exact sp_of_call (vs := []) rel hn.symm .nil h fun H' μ' d M' v hR rp => hR v rp
theorem s_call {lv f : Nat} {fd : FD} {ad : Addr} {fdat : FuncData} {p : Pos} (F : DefOk X L lv Φ f fd ad fdat) (hr : Room lv X.A) (hg : Gl X fd.name) (tk : Takes X W) (hn : fd.ps.length = (x :: xs).length) (hdb : (fd.name == ("__debug__" : Str)) = false)
    (ha : PA X (x :: xs) (tEs X.K L W Φ es)) (hl : ∀ ρ M ds M', evs Φ es ρ M = .ok ds M' → ds.length = (x :: xs).length)
    (he : starEach (x :: xs) X.env = (false, eval x X.env) :: starEach xs X.env) (hpl : (backTo pos (starEach xs X.env)).any (·.1) = false) :
    PE X (.Call (.Name fd.name p) (x :: xs) [] pos) (tE X.K L W Φ (.call f es)) := by
  refine (pe_callS F.ok hr hg F.mg F.kp F.bd (fun σ => passAt tk σ) ha hdb he hpl).imp fun σ H Q ⟨fr, B, μ, oa, ρ, M, rel, h⟩ => ?_
  rw [ev] at h
  have hl' := hl ρ M
  cases e : evs Φ es ρ M with
  | bad => rw [e] at h; exact h.elim
  | err x1 M1 => 
    refine ⟨fr, B, μ, oa, ρ, M, rel, ?_⟩
    rw [e] at h ⊢
    exact h
  | ok ds M1 =>
    have hlen := hl' ds M1 e
    rw [e] at h
    refine ⟨fr, B, μ, oa, ρ, M, rel, ?_⟩
    rw [e]
    intro H1 μ1 e1 r1 vs p1
    have h1 : Pst X.K L W fr B μ1 oa ρ σ H1 (Φ f ds M1) _ := Pst.shift e1 rel.tr (r1.later_tr e1) h
    exact sp_of_call r1 (by rw [← p1.length, hlen, hn]) p1 h1 fun H' μ' d M' v hR rp => hR v rp
end
end PC

set_option maxHeartbeats 2000000
namespace PC
open PySem PySem.Spec PyProof.Rows L2
/-- a kind of iterator over a kind of sequence -/
structure ItKd (P : Program) (w : World) (It : Heap → Addr → Addr → Nat → Prop) (Sq : Heap → Addr → Array Value → Prop) : Prop where
  itB : ∀ {c : Addr} {h h' : Heap} {j l : Addr} {k : Nat}, It h j l k → Heap.ExtBut c h h' → j ≠ c → It h' j l k
  sqB : ∀ {c : Addr} {h h' : Heap} {l : Addr} {xs : Array Value}, Sq h l xs → Heap.ExtBut c h h' → l ≠ c → Sq h' l xs
  itA : ∀ {h h' : Heap} {j l : Addr} {k : Nat}, It h j l k → (∀ o, h.get? j = some o → h'.get? j = some o) → It h' j l k
  itO : ∀ {h : Heap} {j l : Addr} {k : Nat}, It h j l k → ∃ o fs, h.get? j = some o ∧ o.data = .fields fs
  nxt : ∀ {A : Around} {E : Value → Shared → Prop} {s : Shared} {j l : Addr} {k : Nat} {xs : Array Value} {x : Value} {Q : Value → Shared → Prop}, It s.heap j l k → Sq s.heap l xs → xs[k]? = some x →
    (∀ h', It h' j l (k + 1) → Heap.SameBut j s.heap h' → Q x { s with heap := h' }) → wpAny (model P w) A (Builtin.SmallTypes.nextOf (.ref j)) Q E s
  fin : ∀ {A : Around} {E : Value → Shared → Prop} {s : Shared} {j l : Addr} {k : Nat} {xs : Array Value} {Q : Value → Shared → Prop}, A.handled = none → It s.heap j l k → Sq s.heap l xs → xs[k]? = none →
    (∀ h' e, Heap.ExtBut j s.heap h' → (∃ o, h'.get? e = some o ∧ o.cls = .type "StopIteration") → E (.ref e) { s with heap := h' }) → wpAny (model P w) A (Builtin.SmallTypes.nextOf (.ref j)) Q E s
theorem kdL (P : Program) (w : World) : ItKd P w Heap.IsListIter Heap.IsList :=
  ⟨fun a b c => a.extBut b c, fun a b c => a.extBut b c, fun a b => a.at b, fun ⟨o, h1, _, h2⟩ => ⟨o, _, h1, h2⟩, fun a b c d => wpAny_nextOf_list_item a b c d, fun a b c d e => wpAny_nextOf_list_end a b c d e⟩
theorem kdT (P : Program) (w : World) : ItKd P w Heap.IsTupleIter Heap.IsTuple :=
  ⟨fun a b c => a.extBut b c, fun a b c => a.extBut b c, fun a b => a.at b, fun ⟨o, h1, _, h2⟩ => ⟨o, _, h1, h2⟩, fun a b c d => RZ.nextOf_tuple_item a b c d, fun a b c d e => RZ.nextOf_tuple_end a b c d e⟩
section
variable {P : Program} {w : World} {A : Around} {E : Value → Shared → Prop} {s : Shared} {I1 I2 : Heap → Addr → Addr → Nat → Prop} {S1 S2 : Heap → Addr → Array Value → Prop}
variable {c p q u v l m : Addr} {k k' : Nat} {xs ys : Array Value} {x y a b : Value}
theorem znext (d1 : ItKd P w I1 S1) (d2 : ItKd P w I2 S2) {Q : Value → Shared → Prop} (D : ZipApart c p q u v l m)
    (ec : IsZip s.heap c p q .none) (ep : IsPair s.heap p (.ref u) (.ref v)) (eq : IsPair s.heap q a b)
    (n1 : I1 s.heap u l k) (n2 : I2 s.heap v m k') (s1 : S1 s.heap l xs) (s2 : S2 s.heap m ys) (hx : xs[k]? = some x) (hy : ys[k']? = some y)
    (hQ : ∀ h', IsZip h' c p q (rawInt s.heap.objs.size) → IsPair h' q x y → I1 h' u l (k + 1) → I2 h' v m (k' + 1) → IsPair h' s.heap.objs.size x y → h'.objs.size = s.heap.objs.size + 1 →
      (∀ e o, e ≠ c → e ≠ q → e ≠ u → e ≠ v → s.heap.get? e = some o → h'.get? e = some o) → Q (.ref s.heap.objs.size) { s with heap := h' }) :
    wpAny (model P w) A (Builtin.«zip.__next__» ⟨[.ref c], []⟩) (fun f s' => ∃ r, f = .done (.ret r) ∧ Q r s') E s := by
  show wpAny _ _ (field (.ref _) 2 >>= _) _ _ _
  refine wpAny_bind (wpAny_field ec rfl (x := .bool false) rfl ?_); show wpAny _ _ (field (.ref _) 3 >>= _) _ _ _
  refine wpAny_bind (wpAny_field ec rfl (x := .ref _) rfl ?_); refine wpAny_bind (wpAny_seqItems ep rfl ?_)
  show wpAny _ _ (Builtin.SmallTypes.ownedTupleIsFree (.ref _) >>= _) _ _ _
  refine wpAny_bind ?_; unfold Builtin.SmallTypes.ownedTupleIsFree
  refine wpAny_bind (wpAny_field ec rfl (x := .none) rfl (wpAny_pure ?_)); simp only [if_true]; refine wpAny_bind (wpAny_rule ?_)
  refine wpAny_bind (wpAny_field ec rfl (x := .ref _) rfl ?_)
  refine wpAny_bind (wpAny_setField_rec ec (by simp) fun g1 ec1 k1 => ?_)
  have ec1 : IsZip g1 c p q .ellipsis := ec1
  refine wpAny_bind ?_; simp only [List.zipIdx_cons, List.zipIdx_nil, List.forIn_cons, List.forIn_nil]
  refine wpAny_bind (wpAny_bind (wpAny_onRaise ?_)); show wpAny _ _ (Builtin.SmallTypes.nextOf (.ref u) >>= _) _ _ _
  refine wpAny_bind (d1.nxt (d1.itB n1 k1.extBut D.i1z) (d1.sqB s1 k1.extBut D.l1z) hx fun g2 n1' k2 => wpAny_pure ?_)
  have eq2 : IsPair g2 q a b := k2.extBut _ _ D.TOi1 (k1.extBut _ _ D.TOz eq)
  refine wpAny_bind (wpAny_seqItems eq2 rfl ?_); refine wpAny_bind (wpAny_updateSeq_pair eq2 fun g3 eq3 k3 => ?_)
  have eq3 : IsPair g3 q x b := eq3
  refine wpAny_bind (wpAny_letGo (wpAny_pure ?_)); refine wpAny_bind (wpAny_bind (wpAny_onRaise ?_))
  show wpAny _ _ (Builtin.SmallTypes.nextOf (.ref v) >>= _) _ _ _
  refine wpAny_bind (d2.nxt (d2.itB (d2.itB (d2.itB n2 k1.extBut D.i2z) k2.extBut D.i12.symm) k3.extBut D.TOi2.symm) (d2.sqB (d2.sqB (d2.sqB s2 k1.extBut D.l2z) k2.extBut D.l2i1) k3.extBut D.l2TO) hy fun g4 n2' k4 => wpAny_pure ?_)
  have eq4 : IsPair g4 q x b := k4.extBut _ _ D.TOi2 eq3
  refine wpAny_bind (wpAny_seqItems eq4 rfl ?_); refine wpAny_bind (wpAny_updateSeq_pair eq4 fun g5 eq5 k5 => ?_)
  have eq5 : IsPair g5 q x y := eq5
  refine wpAny_bind (wpAny_letGo (wpAny_pure (wpAny_pure ?_))); refine wpAny_bind (wpAny_seqItems eq5 rfl ?_)
  refine wpAny_bind (wpAny_newTuple ?_)
  have zs : g5.objs.size = s.heap.objs.size := by rw [k5.1, k4.1, k3.1, k2.1, k1.1]
  have ec5 : IsZip g5 c p q .ellipsis := k5.extBut _ _ D.TOz.symm (k4.extBut _ _ D.i2z.symm (k3.extBut _ _ D.TOz.symm (k2.extBut _ _ D.i1z.symm ec1)))
  have kk : ∀ e o, e ≠ c → e ≠ q → e ≠ u → e ≠ v → s.heap.get? e = some o → g5.get? e = some o := fun e o e1 e2 e3 e4 z =>
    k5.extBut _ _ e2 (k4.extBut _ _ e4 (k3.extBut _ _ e2 (k2.extBut _ _ e3 (k1.extBut _ _ e1 z))))
  have m1 : I1 g5 u l (k + 1) := d1.itB (d1.itB (d1.itB n1' k3.extBut D.TOi1.symm) k4.extBut D.i12) k5.extBut D.TOi1.symm
  have m2 : I2 g5 v m (k' + 1) := d2.itB n2' k5.extBut D.TOi2.symm
  have lc : c < g5.objs.size := Heap.lt_size ec5
  show wpAny _ _ (Builtin.SmallTypes.ownedTupleHandOut (.ref c) (.ref g5.objs.size) >>= _) _ _ _
  refine wpAny_bind ?_; unfold Builtin.SmallTypes.ownedTupleHandOut
  have ec6 : IsZip (g5.push { cls := .type "tuple", data := .seq #[x, y] }) c p q .ellipsis := Heap.get?_push_of_some _ ec5
  refine wpAny_bind (wpAny_setField_rec ec6 (by simp) fun g7 ec7 k7 => ?_)
  have ec7 : IsZip g7 c p q (rawInt g5.objs.size) := ec7
  refine wpAny_setField_rec ec7 (by simp) fun g8 ec8 k8 => ?_
  have ec8 : IsZip g8 c p q (rawInt g5.objs.size) := ec8
  have up : ∀ e o, e ≠ c → g5.get? e = some o → g8.get? e = some o := fun e o e1 z => k8.extBut _ _ e1 (k7.extBut _ _ e1 (Heap.get?_push_of_some _ z))
  have tn : IsPair g8 g5.objs.size x y := k8.extBut _ _ (Nat.ne_of_gt lc) (k7.extBut _ _ (Nat.ne_of_gt lc) (Heap.get?_push_size _ rfl))
  have z8 : g8.objs.size = g5.objs.size + 1 := by rw [k8.1, k7.1, Heap.size_push]
  rw [zs] at ec8 tn z8
  refine wpAny_pure ⟨_, rfl, ?_⟩; show Q (.ref g5.objs.size) _
  rw [zs]
  exact hQ g8 ec8 (up _ _ D.TOz eq5) (d1.itA m1 fun o z => up _ o D.i1z z) (d2.itA m2 fun o z => up _ o D.i2z z) tn z8 fun e o e1 e2 e3 e4 z => up e o e1 (kk e o e1 e2 e3 e4 z)
theorem zstop (d1 : ItKd P w I1 S1) (d2 : ItKd P w I2 S2) {Q : Fin → Shared → Prop} (hh : A.handled = none) (D : ZipApart c p q u v l m)
    (ec : IsZip s.heap c p q .none) (ep : IsPair s.heap p (.ref u) (.ref v)) (eq : IsPair s.heap q a b)
    (n1 : I1 s.heap u l k) (n2 : I2 s.heap v m k') (s1 : S1 s.heap l xs) (s2 : S2 s.heap m ys) (he : xs[k]? = none ∨ ys[k']? = none)
    (hE : ∀ h' r, (∀ e o, e ≠ c → e ≠ q → e ≠ u → e ≠ v → s.heap.get? e = some o → h'.get? e = some o) → (∃ o, h'.get? r = some o ∧ o.cls = .type "StopIteration") → E (.ref r) { s with heap := h' }) :
    wpAny (model P w) A (Builtin.«zip.__next__» ⟨[.ref c], []⟩) Q E s := by
  show wpAny _ _ (field (.ref _) 2 >>= _) _ _ _
  refine wpAny_bind (wpAny_field ec rfl (x := .bool false) rfl ?_); show wpAny _ _ (field (.ref _) 3 >>= _) _ _ _
  refine wpAny_bind (wpAny_field ec rfl (x := .ref _) rfl ?_); refine wpAny_bind (wpAny_seqItems ep rfl ?_)
  show wpAny _ _ (Builtin.SmallTypes.ownedTupleIsFree (.ref _) >>= _) _ _ _
  refine wpAny_bind ?_; unfold Builtin.SmallTypes.ownedTupleIsFree
  refine wpAny_bind (wpAny_field ec rfl (x := .none) rfl (wpAny_pure ?_)); simp only [if_true]; refine wpAny_bind (wpAny_rule ?_)
  refine wpAny_bind (wpAny_field ec rfl (x := .ref _) rfl ?_)
  refine wpAny_bind (wpAny_setField_rec ec (by simp) fun g1 ec1 k1 => ?_)
  have ec1 : IsZip g1 c p q .ellipsis := ec1
  refine wpAny_bind ?_; simp only [List.zipIdx_cons, List.zipIdx_nil, List.forIn_cons, List.forIn_nil]
  refine wpAny_bind (wpAny_bind (wpAny_onRaise ?_)); show wpAny _ _ (Builtin.SmallTypes.nextOf (.ref u) >>= _) _ _ _
  cases hx : xs[k]? with
  | none =>
    refine wpAny_bind (d1.fin hh (d1.itB n1 k1.extBut D.i1z) (d1.sqB s1 k1.extBut D.l1z) hx fun g2 r k2 er => ?_)
    obtain ⟨oe, e1, e2⟩ := er
    have ec2 : IsZip g2 c p q .ellipsis := k2 _ _ D.i1z.symm ec1
    have ne : r ≠ c := fun z => by subst z; rw [ec2] at e1; cases e1; simp at e2
    refine wpAny_setField_rec ec2 (by simp) fun g3 _ k3 => hE g3 r (fun e o e1 _ e3 _ z => k3.extBut _ _ e1 (k2 _ _ e3 (k1.extBut _ _ e1 z))) ⟨oe, k3.extBut _ _ ne e1, e2⟩
  | some x =>
    have hy : ys[k']? = none := by rcases he with h | h; rw [hx] at h; cases h; exact h
    refine wpAny_bind (d1.nxt (d1.itB n1 k1.extBut D.i1z) (d1.sqB s1 k1.extBut D.l1z) hx fun g2 n1' k2 => wpAny_pure ?_)
    have eq2 : IsPair g2 q a b := k2.extBut _ _ D.TOi1 (k1.extBut _ _ D.TOz eq)
    refine wpAny_bind (wpAny_seqItems eq2 rfl ?_); refine wpAny_bind (wpAny_updateSeq_pair eq2 fun g3 eq3 k3 => ?_)
    refine wpAny_bind (wpAny_letGo (wpAny_pure ?_)); refine wpAny_bind (wpAny_bind (wpAny_onRaise ?_))
    show wpAny _ _ (Builtin.SmallTypes.nextOf (.ref v) >>= _) _ _ _
    refine wpAny_bind (d2.fin hh (d2.itB (d2.itB (d2.itB n2 k1.extBut D.i2z) k2.extBut D.i12.symm) k3.extBut D.TOi2.symm) (d2.sqB (d2.sqB (d2.sqB s2 k1.extBut D.l2z) k2.extBut D.l2i1) k3.extBut D.l2TO) hy fun g4 r k4 er => ?_)
    obtain ⟨oe, e1, e2⟩ := er
    have ec4 : IsZip g4 c p q .ellipsis := k4 _ _ D.i2z.symm (k3.extBut _ _ D.TOz.symm (k2.extBut _ _ D.i1z.symm ec1))
    have ne : r ≠ c := fun z => by subst z; rw [ec4] at e1; cases e1; simp at e2
    refine wpAny_setField_rec ec4 (by simp) fun g5 _ k5 => hE g5 r (fun e o e1 e2 e3 e4 z => k5.extBut _ _ e1 (k4 _ _ e4 (k3.extBut _ _ e2 (k2.extBut _ _ e3 (k1.extBut _ _ e1 z))))) ⟨oe, k5.extBut _ _ ne e1, e2⟩
theorem znextP (d1 : ItKd P w I1 S1) (d2 : ItKd P w I2 S2) {Q : Option Value → Shared → Prop} (D : ZipApart c p q u v l m)
    (ec : IsZip s.heap c p q .none) (ep : IsPair s.heap p (.ref u) (.ref v)) (eq : IsPair s.heap q a b)
    (n1 : I1 s.heap u l k) (n2 : I2 s.heap v m k') (s1 : S1 s.heap l xs) (s2 : S2 s.heap m ys) (hx : xs[k]? = some x) (hy : ys[k']? = some y)
    (hQ : ∀ h', IsZip h' c p q (rawInt s.heap.objs.size) → IsPair h' q x y → I1 h' u l (k + 1) → I2 h' v m (k' + 1) → IsPair h' s.heap.objs.size x y → h'.objs.size = s.heap.objs.size + 1 →
      (∀ e o, e ≠ c → e ≠ q → e ≠ u → e ≠ v → s.heap.get? e = some o → h'.get? e = some o) → Q (some (.ref s.heap.objs.size)) { s with heap := h' }) :
    wpAny (model P w) A (pyNext (.ref c)) Q E s := by
  have T : s.TypeIs (.ref c) "zip" := ⟨_, ec, rfl⟩
  unfold pyNext
  exact wpAny_bind (wpAny_attempt (wpAny_callSpecial?_slot (name := Str.ofString "__next__") T F.slot_zip_next (wpAny_call_entry F.slot_zip_next T F.entry_zip_next
      (znext d1 d2 D ec ep eq n1 n2 s1 s2 hx hy fun h' a1 a2 a3 a4 a5 a6 a7 => wpAny_pure (hQ h' a1 a2 a3 a4 a5 a6 a7)) (F.args_zip_next_1 _))))
theorem zstopP (d1 : ItKd P w I1 S1) (d2 : ItKd P w I2 S2) {Q : Option Value → Shared → Prop} (hh : A.handled = none) (D : ZipApart c p q u v l m)
    (ec : IsZip s.heap c p q .none) (ep : IsPair s.heap p (.ref u) (.ref v)) (eq : IsPair s.heap q a b)
    (n1 : I1 s.heap u l k) (n2 : I2 s.heap v m k') (s1 : S1 s.heap l xs) (s2 : S2 s.heap m ys) (he : xs[k]? = none ∨ ys[k']? = none)
    (hQ : ∀ h', (∀ e o, e ≠ c → e ≠ q → e ≠ u → e ≠ v → s.heap.get? e = some o → h'.get? e = some o) → Q none { s with heap := h' }) : wpAny (model P w) A (pyNext (.ref c)) Q E s := by
  have T : s.TypeIs (.ref c) "zip" := ⟨_, ec, rfl⟩
  unfold pyNext
  refine wpAny_bind (wpAny_attempt (wpAny_callSpecial?_slot (name := Str.ofString "__next__") T F.slot_zip_next (wpAny_call_entry F.slot_zip_next T F.entry_zip_next
      (zstop d1 d2 hh D ec ep eq n1 n2 s1 s2 he fun h' r kk er => ?_) (F.args_zip_next_1 _))))
  obtain ⟨o, e1, e2⟩ := er
  refine wpAny_bind (wpAny_isInstance (T := "StopIteration") (b := true) ⟨o, e1, e2⟩ isSubtype_stop ?_)
  exact wpAny_pure (hQ _ kk)
end
/-- the list at a and the tuple at b -/
def ItzM (K : PySem.W.Frag) (a b : Addr) : L2.It :=
  ⟨fun i H => ∃ (xs ys : List V) (x y : V), SqL K H a xs ∧ SqT K H b ys ∧ xs[i]? = some x ∧ ys[i]? = some y,
    fun i H r H' => ∃ N x y, r = .ref N ∧ H N = none ∧ H' = upd H N (.tup [x, y]) ∧ (∀ xs, SqL K H a xs → xs[i]? = some x) ∧ ∀ ys, SqT K H b ys → ys[i]? = some y,
    fun i H => ∃ xs ys : List V, SqL K H a xs ∧ SqT K H b ys ∧ (xs.length ≤ i ∨ ys.length ≤ i)⟩
theorem turnM {P : Program} {w : World} {K : PySem.W.Frag} {es : List Expr} {kk : Nat} {tp : Pos} {a b c p q u v : Addr} (D : ZipApart c p q u v a b) :
    Turn P w K (.Tuple es kk tp) (ItzM K a b) [c, p, q, u, v] c (fun i h => IsZip h c p q .none ∧ IsPair h p (.ref u) (.ref v) ∧ (∃ x y, IsPair h q x y) ∧ h.IsListIter u a i ∧ h.IsTupleIter v b i) where
  mem := by simp
  obj := fun i h st r hr => by
    obtain ⟨ec, ep, ⟨x, y, eq⟩, n1, n2⟩ := st
    obtain ⟨o1, f1, e1, d1⟩ := (kdL P w).itO n1
    obtain ⟨o2, f2, e2, d2⟩ := (kdT P w).itO n2
    have e' : r = c ∨ r = p ∨ r = q ∨ r = u ∨ r = v := by simpa using hr
    rcases e' with z | z | z | z | z <;> rw [z]
    · exact ⟨_, ec, fun _ n => nomatch n⟩
    · exact ⟨_, ep, fun _ n => nomatch n⟩
    · exact ⟨_, eq, fun _ n => nomatch n⟩
    · exact ⟨o1, e1, fun _ n => by rw [d1] at n; cases n⟩
    · exact ⟨o2, e2, fun _ n => by rw [d2] at n; cases n⟩
  keep := fun i h h' st kp => by
    obtain ⟨ec, ep, ⟨x, y, eq⟩, n1, n2⟩ := st
    exact ⟨kp c (by simp) _ ec, kp p (by simp) _ ep, ⟨x, y, kp q (by simp) _ eq⟩, n1.at fun o z => kp u (by simp) o z, n2.at fun o z => kp v (by simp) o z⟩
  item := by
    intro X hP hw hK hc i pins s σ H E I hf st hg
    subst hP hw hK
    obtain ⟨ec, ep, ⟨x0, y0, eq⟩, n1, n2⟩ := st
    obtain ⟨xs, ys, x, y, qx, qy, hx, hy⟩ := hg
    obtain ⟨us, r1, p1, _⟩ := I.list qx
    obtain ⟨ws, r2, p2, _⟩ := I.tuple qy
    obtain ⟨ux, hu, ru⟩ := r1.get hx
    obtain ⟨uy, hu2, ru2⟩ := r2.get hy
    have lc : c < s.heap.objs.size := Heap.lt_size ec
    have lall : ∀ r ∈ [c, p, q, u, v], r < s.heap.objs.size := fun r hr => by
      obtain ⟨_, _, e1, _⟩ := (kdL X.prog X.w).itO n1
      obtain ⟨_, _, e2, _⟩ := (kdT X.prog X.w).itO n2
      have e' : r = c ∨ r = p ∨ r = q ∨ r = u ∨ r = v := by simpa using hr
      rcases e' with z | z | z | z | z <;> rw [z]
      · exact lc
      · exact Heap.lt_size ep
      · exact Heap.lt_size eq
      · exact Heap.lt_size e1
      · exact Heap.lt_size e2
    refine znextP (kdL _ _) (kdT _ _) D ec ep eq n1 n2 p1.isList p2 (x := ux) (y := uy) (by simpa using hu) (by simpa using hu2) fun h' ec' eq' m1 m2 tn hz kk' => ?_
    refine ⟨_, rfl, wpAny_letOwnedTupleGo_zip (s := { s with heap := h' }) ec' fun h2 ec2 sb => ?_⟩
    have t2 : h2.get? s.heap.objs.size = some { cls := .type "tuple", data := .seq #[ux, uy] } := (sb.2 _ (Nat.ne_of_gt lc)).trans tn
    have new : ObjOk X.prog X.w (upd H s.heap.objs.size (.tup [x, y])) h2 s.heap.objs.size (.tup [x, y]) := ⟨(by show 2 ≤ sizeLine; decide), [ux, uy], .cons ru (.cons ru2 .nil), ⟨_, t2, rfl, _, rfl⟩⟩
    have J : Inv X pins σ (upd H s.heap.objs.size (.tup [x, y])) { s with heap := h2 } := by
      refine I.turnedNew (t' := s.toks) (ch := [c, p, q, u, v]) (fun r o hr z => ?_) hf (Nat.le_refl _) new
      simp only [List.mem_cons, List.not_mem_nil, or_false, not_or] at hr
      exact (sb.2 r hr.1).trans (kk' r o hr.1 hr.2.2.1 hr.2.2.2.1 hr.2.2.2.2 z)
    refine ⟨.ref s.heap.objs.size, _, J, rfl, ⟨_, x, y, rfl, I.hok.fresh (Nat.le_refl _), rfl, fun l hl => by rw [I.list_inj hl qx]; exact hx, fun l hl => by rw [I.tuple_inj hl qy]; exact hy⟩, ⟨ec2, ?_, ⟨ux, uy, ?_⟩, ?_, ?_⟩, fun r hr => ?_⟩
    · exact (sb.2 _ D.TIz).trans (kk' _ _ D.TIz D.TITO D.TIi1 D.TIi2 ep)
    · exact (sb.2 _ D.TOz).trans eq'
    · exact m1.at fun o z => (sb.2 _ D.i1z).trans z
    · exact m2.at fun o z => (sb.2 _ D.i2z).trans z
    · rw [upd_ne (Nat.ne_of_lt (lall r hr))]
      exact (hf r hr).1
  done := by
    intro X hP hw hK hc i pins s σ H E I hf st hg
    subst hP hw hK
    obtain ⟨ec, ep, ⟨x0, y0, eq⟩, n1, n2⟩ := st
    obtain ⟨xs, ys, qx, qy, he⟩ := hg
    obtain ⟨us, r1, p1, _⟩ := I.list qx
    obtain ⟨ws, r2, p2, _⟩ := I.tuple qy
    have l1 := r1.length
    have l2 := r2.length
    have he' : us.toArray[i]? = none ∨ ws.toArray[i]? = none := he.imp (fun z => by simp; omega) fun z => by simp; omega
    refine zstopP (kdL _ _) (kdT _ _) (I.ok.hd hc) D ec ep eq n1 n2 p1.isList p2 he' fun h' kk' => ⟨rfl, I.turnedL (t' := s.toks) (ch := [c, p, q, u, v]) (fun r o hr z => ?_) hf⟩
    simp only [List.mem_cons, List.not_mem_nil, or_false, not_or] at hr
    exact kk' r o hr.1 hr.2.2.1 hr.2.2.2.1 hr.2.2.2.2 z
  self := fun A i s Q E st h => wpAny_pyIter_zip st.1 h
theorem zip_newM (l m : Addr) (xs ys : Array Value) :
    Meets (Builtin.«zip.__new__» ⟨[.type "zip", .ref l, .ref m], []⟩) (fun _ R s => s.heap.IsList l xs ∧ s.heap.IsTuple m ys ∧
      ∀ h', IsZip h' (s.heap.objs.size + 4) (s.heap.objs.size + 2) (s.heap.objs.size + 3) .none → IsPair h' (s.heap.objs.size + 2) (.ref s.heap.objs.size) (.ref (s.heap.objs.size + 1)) →
      IsPair h' (s.heap.objs.size + 3) .none .none → h'.IsListIter s.heap.objs.size l 0 → h'.IsTupleIter (s.heap.objs.size + 1) m 0 →
      (∀ e o, s.heap.get? e = some o → h'.get? e = some o) → R (.ok (.ret (.ref (s.heap.objs.size + 4)))) { s with heap := h' }) :=
  .of_wp fun prog w A R s h => by
    obtain ⟨hp, g, d, tk, os⟩ := s; obtain ⟨e1, e2, h⟩ := h
    have sz := sub_zip
    have E1 : Heap.IsList (Shared.heap ⟨hp, g, d, tk, os⟩) l xs := e1
    have E2 : Heap.IsTuple (Shared.heap ⟨hp.push { cls := .type "list_iterator", data := .fields #[.ref l, .int 0 0] }, g, d, tk, os⟩) m ys := Heap.IsTuple.push e2 _
    wp_walk using wpAny_pyIter_list E1, wpAny_pyIter_tuple E2
    refine ⟨_, rfl, ?_⟩
    have zz := h ((((((hp.push { cls := .type "list_iterator", data := .fields #[.ref l, .int 0 0] }).push { cls := .type "tuple_iterator", data := .fields #[.ref m, .int 0 0] }).push { cls := .type "tuple", data := .seq #[.ref hp.objs.size, .ref (hp.objs.size + 1)] }).push { cls := .type "tuple", data := .seq #[.none, .none] }).push
      { cls := .type "zip", data := .fields #[.none, .bool false, .bool false, .ref (hp.objs.size + 2), .ref (hp.objs.size + 3)] })) (by heap_get) (by heap_get) (by heap_get) ⟨_, by heap_get, rfl, rfl⟩ ⟨_, by heap_get, rfl, rfl⟩
      (fun e o z => Heap.get?_push_of_some _ (Heap.get?_push_of_some _ (Heap.get?_push_of_some _ (Heap.get?_push_of_some _ (Heap.get?_push_of_some _ z)))))
    simp only [Heap.size_push] at zz ⊢
    exact zz
def iZipM (K : PySem.W.Frag) (ta : TA) : TI := fun σ H R => ta σ H fun vs H1 => ∃ a b xs ys, vs = [.ref a, .ref b] ∧ ((SqL K H1 a xs ∧ SqL K H1 b ys ∧ R (Itz K a b) H1) ∨ (SqT K H1 a xs ∧ SqT K H1 b ys ∧ R (RZ.ItzT K a b) H1) ∨ (SqL K H1 a xs ∧ SqT K H1 b ys ∧ R (ItzM K a b) H1))
theorem pi_zipM {X : Cx} {e e2 : Expr} {ta : TA} {p pos tpos : Pos} {elts : List Expr} {kk : Nat} (hg : Gl X "zip") (hm : X.mg "zip" = none) (ha : PA X [e, e2] ta)
    (hs : starEach [e, e2] X.env = (false, eval e X.env) :: starEach [e2] X.env) (hpl : (backTo pos (starEach [e2] X.env)).any (·.1) = false) :
    PI X (.Tuple elts kk tpos) (.Call (.Name "zip" p) [e, e2] [] pos) (iZipM X.K ta) := by
  refine ⟨fun pins s σ H R I h => Call_ (ld_blt I hg hm PyProof.Rows.boot_zip (PyProof.Rows.callWith_type1 (thn (ha.run pos pins s σ H _ I h) fun us s1 ⟨vs, H1, I1, r1, q1⟩ => ?_) hs hpl))⟩
  obtain ⟨a, b, xs, ys, ex, q1⟩ := q1
  subst ex
  cases r1 with
  | cons r rr =>
    cases rr with
    | cons r' rr =>
      cases rr
      cases r
      cases r'
      generalize hn : s1.heap.objs.size = n at *
      have five : ∀ c, c ∈ [n + 4, n + 2, n + 3, n, n + 1] → FpOk X pins H1 c := fun c hc => by
        have hle : n ≤ c := by
          simp only [List.mem_cons, List.not_mem_nil, or_false] at hc
          omega
        rw [← hn] at hle
        exact I1.fpOk hle (I1.hok.fresh hle)
      rcases q1 with ⟨q1, q2, qq⟩ | ⟨q1, q2, qq⟩ | ⟨q1, q2, qq⟩
      · obtain ⟨its, rv, p1, _⟩ := I1.list q1
        obtain ⟨its2, rv2, p2, _⟩ := I1.list q2
        have D := PySem.W.ktu_apart s1.heap.objs.size a b p1.lt p2.lt
        refine call_zip_2 p1.isList p2.isList fun h' z1 z2 z3 z4 z5 _ kp => wpAny_pyIter_zip z1 ?_
        rw [hn] at D z1 z2 z3 z4 z5 ⊢
        exact ⟨n + 4, [n + 4, n + 2, n + 3, n, n + 1], _, _, H1, rfl, I1.kept (t' := s1.toks) kp, turn_zip D, ⟨z1, z2, ⟨_, _, z3⟩, z4, z5⟩, five, qq⟩
      · obtain ⟨its, rv, p1, _⟩ := I1.tuple q1
        obtain ⟨its2, rv2, p2, _⟩ := I1.tuple q2
        obtain ⟨o1, o1e, _⟩ := id p1
        obtain ⟨o2, o2e, _⟩ := id p2
        have D := PySem.W.ktu_apart s1.heap.objs.size a b (Heap.lt_size o1e) (Heap.lt_size o2e)
        refine RZ.call_zipT (xs := its.toArray) (ys := its2.toArray) p1 p2 fun h' z1 z2 z3 z4 z5 _ kp => wpAny_pyIter_zip z1 ?_
        rw [hn] at D z1 z2 z3 z4 z5 ⊢
        exact ⟨n + 4, [n + 4, n + 2, n + 3, n, n + 1], _, _, H1, rfl, I1.kept (t' := s1.toks) kp, RZ.turn_zipT D, ⟨z1, z2, ⟨_, _, z3⟩, z4, z5⟩, five, qq⟩
      · obtain ⟨its, rv, p1, _⟩ := I1.list q1
        obtain ⟨its2, rv2, p2, _⟩ := I1.tuple q2
        obtain ⟨o2, o2e, _⟩ := id p2
        have D := PySem.W.ktu_apart s1.heap.objs.size a b p1.lt (Heap.lt_size o2e)
        refine callType_new F.called_zip (by decide) (F.typeCall_zip_2 _ _) (F.newCall_zip_2 _ _) (fun obj => F.args_object_init_3 obj _ _) F.entry_zip_new
          (zip_newM a b its.toArray its2.toArray) ⟨p1.isList, p2, fun h' z1 z2 z3 z4 z5 kp => ⟨⟨_, z1, rfl⟩, wpAny_pyIter_zip z1 ?_⟩⟩
        rw [hn] at D z1 z2 z3 z4 z5 ⊢
        exact ⟨n + 4, [n + 4, n + 2, n + 3, n, n + 1], _, _, H1, rfl, I1.kept (t' := s1.toks) kp, turnM D, ⟨z1, z2, ⟨_, _, z3⟩, z4, z5⟩, five, qq⟩
end PC

namespace PC
open PySem PySem.Spec PyProof.Rows L2

/-- the iterator J yields the data ds, wherever the state has come to -/
def ItAt (K : PySem.W.Frag) (J : L2.It) (ds : List D) (H : Hp) (B : Addr → Prop) (μ : List Addr) : Prop :=
  (∀ i d, ds[i]? = some d → J.go i H ∧ ∀ x H3, J.yld i H x H3 → Same H H3 ∧ Rp K H3 B μ d x) ∧ J.stop ds.length H
/-- for comprehensions: no list of one's own is changed -/
def ItC (K : PySem.W.Frag) (J : L2.It) (ds : List D) (H : Hp) (B : Addr → Prop) (μ : List Addr) : Prop :=
  ∀ H' B' μ', Kp H H' (ban B μ) B' μ μ' → (∀ a o, H a = some o → a ∉ μ → H' a = some o) → (∀ a, B' a → H' a ≠ none) → ItAt K J ds H' B' μ'
/-- for loops -/
def ItF (K : PySem.W.Frag) (J : L2.It) (ds : List D) (H : Hp) (B : Addr → Prop) (μ : List Addr) : Prop :=
  ∀ H' B' μ', Kp H H' (ban B μ) B' μ μ' → (∀ a, B' a → H' a ≠ none) → ItAt K J ds H' B' μ'
theorem ItF.c {K : PySem.W.Frag} {J : L2.It} {ds : List D} {H : Hp} {B : Addr → Prop} {μ : List Addr} (h : ItF K J ds H B μ) : ItC K J ds H B μ := fun H' B' μ' k _ => h H' B' μ' k
def tIC (K : PySem.W.Frag) (L : Lg) (W : WX) (Φ : Fns) (c : PC.It) : TI := fun σ H R => ∃ fr B μ oa ρ M, Rl K fr B μ oa ρ M σ H ∧
  Pst K L W fr B μ oa ρ σ H (evI Φ c ρ M) fun H' μ' ds _ => ∀ J, ItC K J ds H' B μ' → R J H'
def tIF (K : PySem.W.Frag) (L : Lg) (W : WX) (Φ : Fns) (c : PC.It) : TI := fun σ H R => ∃ fr B μ oa ρ M, Rl K fr B μ oa ρ M σ H ∧
  Pst K L W fr B μ oa ρ σ H (evI Φ c ρ M) fun H' μ' ds _ => ∀ J, ItF K J ds H' B μ' → R J H'
section
variable {X : Cx} {L : Lg} {W : WX} {Φ : Fns} {a b c : E} {it : PC.It} {x y z tg : Expr} {xs : List Expr} {p pos : Pos} {n : Str} {j : Nat}
theorem tIF_C (h : PI X tg x (tIF X.K L W Φ it)) : PI X tg x (tIC X.K L W Φ it) :=
  h.imp fun σ H R ⟨fr, B, μ, oa, ρ, M, rel, h⟩ => ⟨fr, B, μ, oa, ρ, M, rel, h.imp fun _ _ _ _ _ _ q J hJ => q J hJ.c⟩
/-- a list or a tuple -/
def iSeq (K : PySem.W.Frag) (tl : TE) : TI := fun σ H R => tl σ H fun x H1 => ∃ a, x = .ref a ∧ (((∃ xs, SqL K H1 a xs) ∧ R (Itl K a) H1) ∨ ((∃ xs, SqT K H1 a xs) ∧ R (Itt K a) H1))
theorem pi_seq {l : Expr} {tl : TE} (hl : PE X l tl) : PI X tg l (iSeq X.K tl) := by
  refine ⟨fun pins s σ H R I h => ?_⟩
  refine thn (hl.run pins s σ H _ I h) fun v s1 ⟨x, H1, I1, r1, q1⟩ => ?_
  obtain ⟨a, e, q⟩ := q1
  subst e
  cases r1
  rcases q with ⟨⟨xs, hq⟩, q⟩ | ⟨⟨xs, hq⟩, q⟩
  · obtain ⟨its, rv, pl, hz⟩ := I1.list hq
    refine wpAny_pyIter_list pl.isList ?_
    refine ⟨s1.heap.objs.size, [s1.heap.objs.size], _, _, H1, rfl, I1.kept (t' := s1.toks) fun b o e => Heap.get?_push_of_some _ e, turn_list a _, ⟨_, Heap.get?_push_size _ rfl, rfl, rfl⟩, fun b hb => ?_, q⟩
    have e : b = s1.heap.objs.size := by simpa using hb
    subst e
    exact I1.fpOk (Nat.le_refl _) (I1.hok.fresh (Nat.le_refl _))
  · obtain ⟨its, rv, pl, hz⟩ := I1.tuple hq
    refine wpAny_pyIter_tuple (show s1.heap.IsTuple a its.toArray from pl) ?_
    refine ⟨s1.heap.objs.size, [s1.heap.objs.size], _, _, H1, rfl, I1.kept (t' := s1.toks) fun b o e => Heap.get?_push_of_some _ e, turn_tuple a _, ⟨_, Heap.get?_push_size _ rfl, rfl, rfl⟩, fun b hb => ?_, q⟩
    have e : b = s1.heap.objs.size := by simpa using hb
    subst e
    exact I1.fpOk (Nat.le_refl _) (I1.hok.fresh (Nat.le_refl _))
theorem get_some_of {α : Type} {xs : List α} {i : Nat} {d : α} (h : xs[i]? = some d) : i < xs.length := (List.getElem?_eq_some_iff.mp h).1
theorem itt_at {K : PySem.W.Frag} {H : Hp} {B : Addr → Prop} {μ : List Addr} {ad : Addr} {vs : List V} {ds : List D} (h : SqT K H ad vs) (r : Rps K H B μ ds vs) : ItAt K (Itt K ad) ds H B μ := by
  refine ⟨fun i d hd => ?_, vs, h, by rw [r.length]; exact Nat.le_refl _⟩
  obtain ⟨v, h1, h2⟩ := r.get hd
  refine ⟨⟨vs, v, h, h1⟩, fun x H3 ⟨e, y⟩ => ?_⟩
  subst e
  have := (y vs h).symm.trans h1
  cases this
  exact ⟨Same.refl _, h2⟩
theorem itl_at {K : PySem.W.Frag} {H : Hp} {B : Addr → Prop} {μ : List Addr} {ad : Addr} {vs : List V} {ds : List D} (h : SqL K H ad vs) (r : Rps K H B μ ds vs) : ItAt K (Itl K ad) ds H B μ := by
  refine ⟨fun i d hd => ?_, vs, h, by rw [r.length]; exact Nat.le_refl _⟩
  obtain ⟨v, h1, h2⟩ := r.get hd
  refine ⟨⟨vs, v, h, h1⟩, fun x H3 ⟨e, y⟩ => ?_⟩
  subst e
  have := (y vs h).symm.trans h1
  cases this
  exact ⟨Same.refl _, h2⟩
theorem i_seq (ha : PE X x (tE X.K L W Φ a)) : PI X tg x (tIF X.K L W Φ (.seq a)) := by
  refine (pi_seq ha).imp fun σ H R ⟨fr, B, μ, oa, ρ, M, rel, h⟩ => ?_
  rw [evI] at h
  refine tE_first rel h fun H1 μ1 d1 M1 v1 r1 e1 p1 h1 => ?_
  obtain ⟨ds, hd, h2⟩ := of_ok h1
  cases p1 with
  | tup t rs =>
    cases hd
    exact ⟨_, rfl, .inr ⟨⟨_, t.sq⟩, Pst.fin r1 (Same.refl _) h2 _ fun H' B' μ' k _ => itt_at (t.mono k).sq (rs.mono k)⟩⟩
  | lst t rs =>
    cases hd
    exact ⟨_, rfl, .inl ⟨⟨_, t.sq⟩, Pst.fin r1 (Same.refl _) h2 _ fun H' B' μ' k _ => itl_at (t.mono k).sq (rs.mono k)⟩⟩
  | frz t rs =>
    cases hd
    exact ⟨_, rfl, .inl ⟨⟨_, t.sq⟩, Pst.fin r1 (Same.refl _) h2 _ fun H' B' μ' k _ => itl_at (t.mono k).sq (rs.mono k)⟩⟩
  | non => cases hd
  | bl _ => cases hd
  | int _ => cases hd
  | str _ => cases hd
  | cell _ => cases hd
theorem i_own (hn : IsName X j n) : PI X tg (.Name n p) (tIC X.K L W Φ (.own j)) := by
  refine (pi_list (pe_var hn.hN hn.hv hn.hd hn.hc)).imp fun σ H R ⟨fr, B, μ, oa, ρ, M, rel, h⟩ => ?_
  rw [evI] at h
  obtain ⟨ds, hd, h1⟩ := of_ok h
  obtain ⟨ad, vs, q1, q2, q3, q4⟩ := rel.sl j _ (slotO_eq hd)
  refine ⟨_, q2, ad, rfl, ⟨vs, .of q3⟩, Pst.fin rel (Same.refl _) h1 _ fun H' B' μ' k e _ => ?_⟩
  exact itl_at (.of (e ad _ q3 (rel.on j ad q1).2.2)) (q4.mono k)
theorem rangeL_get : ∀ (n : Nat) (lo : Int) (i : Nat) (d : D), (rangeL lo n)[i]? = some d → i < n ∧ d = .int (lo + i)
  | 0, _, _, _, h => by simp [rangeL] at h
  | n + 1, lo, 0, d, h => by
    simp [rangeL] at h
    exact ⟨Nat.succ_pos _, by rw [← h]; simp⟩
  | n + 1, lo, i + 1, d, h => by
    have h' : (rangeL (lo + 1) n)[i]? = some d := by simpa [rangeL] using h
    obtain ⟨h1, h2⟩ := rangeL_get n (lo + 1) i d h'
    refine ⟨Nat.succ_lt_succ h1, ?_⟩
    rw [h2]
    congr 1
    omega
theorem rangeL_length : ∀ (n : Nat) (lo : Int), (rangeL lo n).length = n
  | 0, _ => rfl
  | n + 1, lo => congrArg (· + 1) (rangeL_length n (lo + 1))
theorem itr_at {K : PySem.W.Frag} {H : Hp} {B : Addr → Prop} {μ : List Addr} (lo : Int) (n : Nat) : ItAt K (Itr lo n) (rangeL lo n) H B μ := by
  refine ⟨fun i d hd => ?_, by rw [rangeL_length]; exact Nat.le_refl _⟩
  obtain ⟨h1, h2⟩ := rangeL_get n lo i d hd
  refine ⟨h1, fun x H3 ⟨e, y⟩ => ?_⟩
  subst e y h2
  exact ⟨Same.refl _, .int _⟩
theorem i_range1 (hg : Gl X "range") (hm : X.mg "range" = none) (ha : PE X x (tE X.K L W Φ a)) (hs : starEach [x] X.env = [(false, eval x X.env)]) : PI X tg (.Call (.Name "range" p) [x] [] pos) (tIF X.K L W Φ (.range1 a)) := by
  refine (pi_range1 hg hm (pa_cons ha pa_nil hs) hs).imp fun σ H R ⟨fr, B, μ, oa, ρ, M, rel, h⟩ => ?_
  rw [evI] at h
  refine tE_first rel h fun H1 μ1 d1 M1 v1 r1 e1 p1 h1 => ?_
  cases p1 <;> try exact h1.elim
  rename_i k
  dsimp only at h1
  split at h1
  · rename_i hk
    obtain ⟨hk1, hk2⟩ := of_decide_eq_true hk
    exact ⟨k, rfl, hk1, hk2, Pst.fin r1 (Same.refl _) h1 _ fun _ _ _ _ _ => itr_at 0 _⟩
  · exact h1.elim
theorem i_range2 (hg : Gl X "range") (hm : X.mg "range" = none) (ha : PE X x (tE X.K L W Φ a)) (hb : PE X y (tE X.K L W Φ b)) (hs : starEach [x, y] X.env = [(false, eval x X.env), (false, eval y X.env)]) (hs2 : starEach [y] X.env = [(false, eval y X.env)]) :
    PI X tg (.Call (.Name "range" p) [x, y] [] pos) (tIF X.K L W Φ (.range2 a b)) := by
  refine (pi_range2 hg hm (pa_cons ha (pa_cons hb pa_nil hs2) (by rw [hs, hs2])) hs hs2).imp fun σ H R ⟨fr, B, μ, oa, ρ, M, rel, h⟩ => ?_
  rw [evI] at h
  refine tE_first rel h fun H1 μ1 d1 M1 v1 r1 e1 p1 h1 => tE_first r1 h1 fun H2 μ2 d2 M2 v2 r2 e2 p2 h2 => ?_
  have p1' := p1.later e2
  cases p1' <;> cases p2 <;> try exact h2.elim
  rename_i k l
  dsimp only at h2
  split at h2
  · rename_i hk
    rw [Bool.and_eq_true] at hk
    obtain ⟨hk1, hk2⟩ := of_decide_eq_true hk.1
    obtain ⟨hl1, hl2⟩ := of_decide_eq_true hk.2
    exact ⟨k, l, rfl, ⟨hk1, hk2, hl1, hl2⟩, Pst.fin r2 (Same.refl _) h2 _ fun _ _ _ _ _ => itr_at k _⟩
  · exact h2.elim

theorem zipL_get : ∀ (xs ys : List D) (i : Nat) (d : D), (zipL xs ys)[i]? = some d → ∃ x y, xs[i]? = some x ∧ ys[i]? = some y ∧ d = .tup [x, y]
  | [], _, _, _, h => by simp [zipL] at h
  | _ :: _, [], _, _, h => by simp [zipL] at h
  | x :: xs, y :: ys, 0, d, h => by
    simp [zipL] at h
    exact ⟨x, y, rfl, rfl, h.symm⟩
  | x :: xs, y :: ys, i + 1, d, h => by
    have h' : (zipL xs ys)[i]? = some d := by simpa [zipL] using h
    obtain ⟨a, b, h1, h2, h3⟩ := zipL_get xs ys i d h'
    exact ⟨a, b, by simpa using h1, by simpa using h2, h3⟩
theorem zipL_length : ∀ (xs ys : List D), (zipL xs ys).length = min xs.length ys.length
  | [], _ => by simp [zipL]
  | _ :: _, [] => by simp [zipL]
  | x :: xs, y :: ys => by simp [zipL, zipL_length xs ys]
theorem i_zip {tes : List Expr} {kk : Nat} {tpos : Pos} (hg : Gl X "zip") (hm : X.mg "zip" = none) (ha : PE X x (tE X.K L W Φ a)) (hb : PE X y (tE X.K L W Φ b)) (hs : starEach [x, y] X.env = (false, eval x X.env) :: starEach [y] X.env) (hs2 : starEach [y] X.env = (false, eval y X.env) :: starEach [] X.env) (hpl : (backTo pos (starEach [y] X.env)).any (·.1) = false) :
    PI X (.Tuple tes kk tpos) (.Call (.Name "zip" p) [x, y] [] pos) (tIF X.K L W Φ (.zip a b)) := by
  refine (pi_zipM hg hm (pa_cons ha (pa_cons hb pa_nil hs2) hs) hs hpl).imp fun σ H R ⟨fr, B, μ, oa, ρ, M, rel, h⟩ => ?_
  rw [evI] at h
  refine tE_first rel h fun H1 μ1 d1 M1 v1 r1 e1 p1 h1 => tE_first r1 h1 fun H2 μ2 d2 M2 v2 r2 e2 p2 h2 => ?_
  have p1' := p1.later e2
  have tt : ∀ {a1 a2 : Addr} {vs ws : List V} {ds es : List D}, TpAt X.K H2 (ban B μ2) a1 vs → Rps X.K H2 (ban B μ2) μ2 ds vs → TpAt X.K H2 (ban B μ2) a2 ws → Rps X.K H2 (ban B μ2) μ2 es ws → ItF X.K (RZ.ItzT X.K a1 a2) (zipL ds es) H2 B μ2 := fun {a1 a2 vs ws ds es} t1 q1 t2 q2 H' B' μ' k bt => by
    have s1 := (t1.mono k).sq
    have s2 := (t2.mono k).sq
    have q1 := q1.mono k
    have q2 := q2.mono k
    refine ⟨fun i d hd => ?_, vs, ws, s1, s2, ?_⟩
    · obtain ⟨dx, dy, g1, g2, rfl⟩ := zipL_get ds es i d hd
      obtain ⟨vx, w1, w2⟩ := q1.get g1
      obtain ⟨vy, w3, w4⟩ := q2.get g2
      refine ⟨⟨vs, ws, vx, vy, s1, s2, w1, w3⟩, fun v H3 ⟨TT, ux, uy, hv, hT, hH, f1, f2⟩ => ?_⟩
      subst hv hH
      cases (f1 vs s1).symm.trans w1
      cases (f2 ws s2).symm.trans w3
      exact ⟨same_upd hT, new_tup bt hT (.cons w2 (.cons w4 .nil))⟩
    · rw [zipL_length, q1.length, q2.length]
      omega
  have ll : ∀ {a1 a2 : Addr} {vs ws : List V} {ds es : List D}, LsAt X.K H2 (ban B μ2) a1 vs → Rps X.K H2 (ban B μ2) μ2 ds vs → LsAt X.K H2 (ban B μ2) a2 ws → Rps X.K H2 (ban B μ2) μ2 es ws → ItF X.K (Itz X.K a1 a2) (zipL ds es) H2 B μ2 := fun {a1 a2 vs ws ds es} t1 q1 t2 q2 H' B' μ' k bt => by
    have s1 := (t1.mono k).sq
    have s2 := (t2.mono k).sq
    have q1 := q1.mono k
    have q2 := q2.mono k
    refine ⟨fun i d hd => ?_, vs, ws, s1, s2, ?_⟩
    · obtain ⟨dx, dy, g1, g2, rfl⟩ := zipL_get ds es i d hd
      obtain ⟨vx, w1, w2⟩ := q1.get g1
      obtain ⟨vy, w3, w4⟩ := q2.get g2
      refine ⟨⟨vs, ws, vx, vy, s1, s2, w1, w3⟩, fun v H3 ⟨TT, ux, uy, hv, hT, hH, f1, f2⟩ => ?_⟩
      subst hv hH
      cases (f1 vs s1).symm.trans w1
      cases (f2 ws s2).symm.trans w3
      exact ⟨same_upd hT, new_tup bt hT (.cons w2 (.cons w4 .nil))⟩
    · rw [zipL_length, q1.length, q2.length]
      omega
  have lt : ∀ {a1 a2 : Addr} {vs ws : List V} {ds es : List D}, LsAt X.K H2 (ban B μ2) a1 vs → Rps X.K H2 (ban B μ2) μ2 ds vs → TpAt X.K H2 (ban B μ2) a2 ws → Rps X.K H2 (ban B μ2) μ2 es ws → ItF X.K (ItzM X.K a1 a2) (zipL ds es) H2 B μ2 := fun {a1 a2 vs ws ds es} t1 q1 t2 q2 H' B' μ' k bt => by
    have s1 := (t1.mono k).sq
    have s2 := (t2.mono k).sq
    have q1 := q1.mono k
    have q2 := q2.mono k
    refine ⟨fun i d hd => ?_, vs, ws, s1, s2, ?_⟩
    · obtain ⟨dx, dy, g1, g2, rfl⟩ := zipL_get ds es i d hd
      obtain ⟨vx, w1, w2⟩ := q1.get g1
      obtain ⟨vy, w3, w4⟩ := q2.get g2
      refine ⟨⟨vs, ws, vx, vy, s1, s2, w1, w3⟩, fun v H3 ⟨TT, ux, uy, hv, hT, hH, f1, f2⟩ => ?_⟩
      subst hv hH
      cases (f1 vs s1).symm.trans w1
      cases (f2 ws s2).symm.trans w3
      exact ⟨same_upd hT, new_tup bt hT (.cons w2 (.cons w4 .nil))⟩
    · rw [zipL_length, q1.length, q2.length]
      omega
  cases p1' <;> cases p2 <;> try exact h2.elim
  · rename_i t1 q1 _ _ _ t2 q2
    exact ⟨_, _, _, _, rfl, .inr (.inl ⟨t1.sq, t2.sq, Pst.fin r2 (Same.refl _) h2 _ (tt t1 q1 t2 q2)⟩)⟩
  · rename_i t1 q1 _ _ _ t2 q2
    exact ⟨_, _, _, _, rfl, .inr (.inr ⟨t1.sq, t2.sq, Pst.fin r2 (Same.refl _) h2 _ (lt t1 q1 t2 q2)⟩)⟩
  · rename_i t1 q1 _ _ _ t2 q2
    exact ⟨_, _, _, _, rfl, .inl ⟨t1.sq, t2.sq, Pst.fin r2 (Same.refl _) h2 _ (ll t1 q1 t2 q2)⟩⟩

theorem set_none_same {α : Type} (l : List α) (i : Nat) (v : α) (h : l.length ≤ i) : l.set i v = l := by
  apply List.ext_getElem?
  intro k
  rw [List.getElem?_set]
  split
  · rename_i e
    subst e
    rw [if_neg (by omega), List.getElem?_eq_none h]
  · rfl
/-- a slot gets a datum -/
theorem Rel.setv {K : PySem.W.Frag} {fr : Fr} {H : Hp} {B : Addr → Prop} {μ : List Addr} {oa : Nat → Option Addr} {ρ : Ev} {M : Mem} {σ : L2.St} {i : Nat} {d : D} {v : V} (r : Rel K fr B μ oa ρ M σ H) (h : Rp K H B μ d v) :
    Rel K fr B μ (fun k => if k = i then none else oa k) (ρ.set i (.v d)) M (σ.set i (some v)) H where
  cs := r.cs
  b0 := r.b0
  bt := r.bt
  bo := fun k a e => by
    split at e
    · cases e
    · exact r.bo k a e
  oi := fun k l a e e' => by
    split at e
    · cases e
    · split at e'
      · cases e'
      · exact r.oi k l a e e'
  on := fun k a e => by
    split at e
    · cases e
    · exact r.on k a e
  sl := fun k s e => by
    by_cases hk : k = i
    · subst hk
      rw [if_pos rfl]
      by_cases hl : k < ρ.length
      · rw [List.getElem?_set_self hl] at e
        cases e
        refine ⟨rfl, v, ?_, h⟩
        rw [List.getElem?_set_self (by rw [← r.ln]; exact hl)]
      · rw [set_none_same _ _ _ (by omega), List.getElem?_eq_none (by omega)] at e
        cases e
    · rw [if_neg hk, List.getElem?_set_ne (Ne.symm hk)]
      rw [List.getElem?_set_ne (Ne.symm hk)] at e
      exact r.sl k s e
  so := fun k e => by
    split
    · rfl
    · rename_i hk
      rw [List.getElem?_set_ne (Ne.symm hk)] at e
      exact r.so k e
  ln := by rw [List.length_set, List.length_set]; exact r.ln
  m0 := r.m0
  ev := r.ev
/-- a slot is forgotten -/
theorem Rel.setun {K : PySem.W.Frag} {fr : Fr} {H : Hp} {B : Addr → Prop} {μ : List Addr} {oa : Nat → Option Addr} {ρ : Ev} {M : Mem} {σ : L2.St} {i : Nat} {v : Option V} (r : Rel K fr B μ oa ρ M σ H) :
    Rel K fr B μ (fun k => if k = i then none else oa k) (ρ.set i .un) M (σ.set i v) H where
  cs := r.cs
  b0 := r.b0
  bt := r.bt
  bo := fun k a e => by
    split at e
    · cases e
    · exact r.bo k a e
  oi := fun k l a e e' => by
    split at e
    · cases e
    · split at e'
      · cases e'
      · exact r.oi k l a e e'
  on := fun k a e => by
    split at e
    · cases e
    · exact r.on k a e
  sl := fun k s e => by
    by_cases hk : k = i
    · subst hk
      rw [if_pos rfl]
      by_cases hl : k < ρ.length
      · rw [List.getElem?_set_self hl] at e
        cases e
        rfl
      · rw [set_none_same _ _ _ (by omega), List.getElem?_eq_none (by omega)] at e
        cases e
    · rw [if_neg hk, List.getElem?_set_ne (Ne.symm hk)]
      rw [List.getElem?_set_ne (Ne.symm hk)] at e
      exact r.sl k s e
  so := fun k e => by
    split
    · rfl
    · rename_i hk
      rw [List.getElem?_set_ne (Ne.symm hk)] at e
      exact r.so k e
  ln := by rw [List.length_set, List.length_set]; exact r.ln
  m0 := r.m0
  ev := r.ev
theorem Rel.wipe {K : PySem.W.Frag} {fr : Fr} {H : Hp} {B : Addr → Prop} {μ : List Addr} {oa : Nat → Option Addr} {ρ : Ev} {M : Mem} {σ : L2.St} (r : Rel K fr B μ oa ρ M σ H) : ∀ vs : List Nat, ∃ oa', Rel K fr B μ oa' (wipeE ρ vs) M (wipe σ vs) H
  | [] => ⟨oa, r⟩
  | v :: vs => by
    obtain ⟨oa', r'⟩ := r.wipe vs
    exact ⟨_, r'.setun⟩
/-- the slots of a target, by values -/
def setsV : List Nat → List V → L2.St → L2.St
  | [], _, σ => σ
  | _, [], σ => σ
  | i :: is, v :: vs, σ => setsV is vs (σ.set i (some v))
def gNm (is : List Nat) : TGs := fun vs σ H Q => vs.length = is.length ∧ Q (setsV is vs σ) H
theorem Rel.sets {K : PySem.W.Frag} {fr : Fr} {H : Hp} {B : Addr → Prop} {μ : List Addr} {M : Mem} : ∀ {is : List Nat} {ds : List D} {vs : List V} {oa : Nat → Option Addr} {ρ ρ' : Ev} {σ : L2.St}, Rel K fr B μ oa ρ M σ H → Rps K H B μ ds vs → setsL is ds ρ = some ρ' → vs.length = is.length ∧ ∃ oa', Rel K fr B μ oa' ρ' M (setsV is vs σ) H
  | [], [], _, oa, ρ, ρ', σ, r, rs, e => by
    cases rs
    cases e
    exact ⟨rfl, oa, r⟩
  | i :: is, d :: ds, _, oa, ρ, ρ', σ, r, rs, e => by
    cases rs with
    | cons h rs =>
      obtain ⟨h1, oa', h2⟩ := Rel.sets (r.setv (i := i) h) rs e
      exact ⟨congrArg (· + 1) h1, oa', h2⟩
  | [], _ :: _, _, _, _, _, _, _, _, e => by cases e
  | _ :: _, [], _, _, _, _, _, _, _, e => by cases e
/-- a target's names stand in the text -/
structure TgName (X : Cx) (i : Nat) (n : Str) : Prop where
  hN : X.N[i]? = some n
  hl : Loc X.env.scope n
  hf : X.fn n = true ∨ X.env.scope.names.lookup n = some .local
inductive TgNames (X : Cx) : List Nat → List Expr → Prop
  | nil : TgNames X [] []
  | cons {i : Nat} {is : List Nat} {n : Str} {q : Pos} {es : List Expr} : TgName X i n → TgNames X is es → TgNames X (i :: is) (.Name n q :: es)
theorem TgNames.pgs (hN : X.N.Nodup) : ∀ {is : List Nat} {es : List Expr}, TgNames X is es → PGs X es (gNm is)
  | _, _, .nil => ⟨fun pins s σ H vs us Q I r h => pgs_nil.run pins s σ H vs us Q I r (by
      obtain ⟨h1, h2⟩ := h
      exact ⟨List.eq_nil_of_length_eq_zero h1, h2⟩)⟩
  | i :: is, _, .cons hn rest => ⟨fun pins s σ H vs us Q I r h => (pgs_cons (pg_name hN hn.hN hn.hl hn.hf) (rest.pgs hN) rfl).run pins s σ H vs us Q I r (by
      obtain ⟨h1, h2⟩ := h
      cases vs with
      | nil => cases h1
      | cons v vs => exact ⟨v, vs, rfl, Nat.succ.inj h1, h2⟩)⟩
theorem TgNames.facts : ∀ {is : List Nat} {es : List Expr}, TgNames X is es → (assignEach es X.env).length = is.length ∧ (assignEach es X.env).findIdx? (·.1) = none
  | _, _, .nil => ⟨rfl, rfl⟩
  | _, _, .cons (q := q) (n := n) (es := es) hn rest => by
    obtain ⟨h1, h2⟩ := rest.facts
    have e : assignEach (.Name n q :: es) X.env = (false, assign (.Name n q) X.env) :: assignEach es X.env := rfl
    rw [e]
    refine ⟨congrArg (· + 1) h1, ?_⟩
    rw [List.findIdx?_cons, h2]
    rfl
/-- the target's reading: the datum put to its slots -/
def gT (K : PySem.W.Frag) (t : Tg) : TG := match t with
  | .name i => gName i
  | .tup is => gTup K is.length (gNm is)
inductive TgOk (X : Cx) : Tg → Expr → Prop
  | name {i : Nat} {n : Str} {q : Pos} : TgName X i n → TgOk X (.name i) (.Name n q)
  | tup {is : List Nat} {es : List Expr} {k : Nat} {q : Pos} : TgNames X is es → TgOk X (.tup is) (.Tuple es k q)
theorem TgOk.pg {t : Tg} (hc : X.calm = true) (hN : X.N.Nodup) (h : TgOk X t tg) : PG X tg (gT X.K t) := by
  cases h with
  | name hn => exact pg_name hN hn.hN hn.hl hn.hf
  | tup hn => exact pg_tup hc (hn.pgs hN) hn.facts.1 hn.facts.2
theorem gT_put {K : PySem.W.Frag} {fr : Fr} {H : Hp} {B : Addr → Prop} {μ : List Addr} {oa : Nat → Option Addr} {ρ ρ' : Ev} {M : Mem} {σ : L2.St} {t : Tg} {d : D} {v : V} {Q : L2.St → Hp → Prop} (r : Rel K fr B μ oa ρ M σ H) (h : Rp K H B μ d v) (e : t.put d ρ = some ρ')
    (q : ∀ σ' oa', Rel K fr B μ oa' ρ' M σ' H → (∀ k, k ∉ t.slots → σ'[k]? = σ[k]?) → σ'.length = σ.length → Q σ' H) : gT K t v σ H Q := by
  cases t with
  | name i =>
    cases e
    exact q _ _ (r.setv h) (fun k hk => List.getElem?_set_ne (fun z => hk (by rw [z]; exact List.mem_singleton.mpr rfl))) List.length_set
  | tup is =>
    cases h with
    | tup t rs =>
      obtain ⟨h1, oa', h2⟩ := r.sets rs e
      refine ⟨_, _, rfl, t.sq, h1, h1, q _ oa' h2 (fun k hk => ?_) ?_⟩
      · clear h2 h1 e
        have hk : k ∉ is := hk
        have : ∀ (is : List Nat) (vs : List V) (σ : L2.St), k ∉ is → (setsV is vs σ)[k]? = σ[k]? := by
          intro is
          induction is with
          | nil => intro vs σ _; rfl
          | cons i is ih =>
            intro vs σ hk
            cases vs with
            | nil => rfl
            | cons v vs =>
              rw [List.mem_cons, not_or] at hk
              show (setsV is vs (σ.set i (some v)))[k]? = _
              rw [ih vs _ hk.2, List.getElem?_set_ne (Ne.symm hk.1)]
        exact this is _ σ hk
      · have : ∀ (is : List Nat) (vs : List V) (σ : L2.St), (setsV is vs σ).length = σ.length := by
          intro is
          induction is with
          | nil => intro vs σ; rfl
          | cons i is ih =>
            intro vs σ
            cases vs with
            | nil => rfl
            | cons v vs => exact (ih vs _).trans List.length_set
        exact this is _ σ
    | non => cases e
    | bl _ => cases e
    | int _ => cases e
    | str _ => cases e
    | lst _ _ => cases e
    | frz _ _ => cases e
    | cell _ => cases e
end
end PC

namespace PC
open PySem PySem.Spec PyProof.Rows L2
abbrev W0 : WX := fun _ _ _ _ => False
def tTs (K : PySem.W.Frag) (L : Lg) (W : WX) (Φ : Fns) (c : Es) : TT := fun σ H Q => ∃ fr B μ oa ρ M, Rl K fr B μ oa ρ M σ H ∧
  Pst K L W fr B μ oa ρ σ H (tst Φ c ρ M) fun H' _ k _ => Q k H'
section
variable {K : PySem.W.Frag} {fr : Fr} {H H' : Hp} {B B' : Addr → Prop} {μ : List Addr} {oa : Nat → Option Addr} {ρ : Ev} {M : Mem} {σ : L2.St}
/-- the bans change, the heap but a little -/
theorem Rel.kp (r : Rel K fr B μ oa ρ M σ H) (k : Kp H H' B B' μ μ) (ko : ∀ i a, oa i = some a → H' a = H a) (kc : ∀ a ∈ μ, H' a = H a) (b0 : ∀ a, fr.B0 a → B' a) (bm : ∀ a ∈ μ, B' a) (bo : ∀ i a, oa i = some a → B' a) (bt : ∀ a, B' a → H' a ≠ none)
    (ev : ∀ a o, fr.H0 a = some o → a ∉ fr.μ0 → H' a = some o) : Rel K fr B' μ oa ρ M σ H' where
  cs := ⟨r.cs.nd, r.cs.len, bm, fun n c a h1 h2 => by
    have q := r.cs.at_ n c a h1 h2
    cases c with
    | lst ds =>
      obtain ⟨vs, q1, q2⟩ := q
      exact ⟨vs, by rw [kc a (List.mem_of_getElem? h2)]; exact q1, q2.mono k⟩
    | dict _ => exact q
    | ins _ _ => exact q⟩
  b0 := b0
  bt := bt
  bo := bo
  oi := r.oi
  on := r.on
  sl := fun i s h => by
    have q := r.sl i s h
    cases s with
    | un => exact q
    | v d => obtain ⟨h1, v, h2, h3⟩ := q; exact ⟨h1, v, h2, h3.mono k⟩
    | own ds =>
      obtain ⟨a, vs, h1, h2, h3, h4⟩ := q
      exact ⟨a, vs, h1, h2, by rw [ko i a h1]; exact h3, h4.mono k⟩
  so := r.so
  ln := r.ln
  m0 := r.m0
  ev := ev
end
theorem wipe_get (σ : L2.St) (k : Nat) : ∀ vs : List Nat, (wipe σ vs)[k]? = if k ∈ vs then (if k < σ.length then some none else none) else σ[k]?
  | [] => by rw [if_neg (List.not_mem_nil)]; rfl
  | v :: vs => by
    show ((wipe σ vs).set v none)[k]? = _
    by_cases h : v = k
    · subst h
      rw [if_pos List.mem_cons_self]
      by_cases hl : v < σ.length
      · rw [List.getElem?_set_self (by rw [wipe_length]; exact hl), if_pos hl]
      · rw [if_neg hl, List.getElem?_eq_none (by rw [List.length_set, wipe_length]; omega)]
    · rw [List.getElem?_set_ne h, wipe_get σ k vs]
      have e : (k ∈ v :: vs) = (k ∈ vs) := by
        rw [List.mem_cons]
        exact propext ⟨fun x => x.resolve_left (Ne.symm h), .inr⟩
      simp only [e]
theorem wipe_again {σ σ2 : L2.St} {vs : List Nat} (h : ∀ k, k ∉ vs → σ2[k]? = (wipe σ vs)[k]?) (hl : σ2.length = (wipe σ vs).length) : wipe σ2 vs = wipe σ vs := by
  rw [wipe_length] at hl
  apply List.ext_getElem?
  intro k
  rw [wipe_get, wipe_get]
  by_cases hk : k ∈ vs
  · rw [if_pos hk, if_pos hk, hl]
  · rw [if_neg hk, if_neg hk, h k hk, wipe_get, if_neg hk]
section
variable {K : PySem.W.Frag} {L : Lg} {W : WX} {Φ : Fns} {it : PC.It} {t : Tg} {ifs : Es} {elt : E} {fr : Fr} {H : Hp} {B : Addr → Prop} {μ : List Addr} {oa : Nat → Option Addr} {ρ : Ev} {M : Mem} {σ : L2.St} {R : Hp → List Addr → D → Mem → Prop} {Q : VK}
/-- one turn -/
def turnF (Φ : Fns) (t : Tg) (ifs : Es) (elt : E) (ρ : Ev) (d : D) (M2 : Mem) : Res (Option D) :=
  match t.put d (wipeE ρ t.slots) with
  | some ρ2 => (tst Φ ifs ρ2 M2).bind fun k M3 => if k = true then (ev Φ elt ρ2 M3).bind fun y M4 => .ok (some y) M4 else .ok none M3
  | none => .bad
structure LcInv (K : PySem.W.Frag) (fr : Fr) (B : Addr → Prop) (oa : Nat → Option Addr) (ρ : Ev) (σ : L2.St) (F : D → Mem → Res (Option D)) (ds : List D) (μ1 : List Addr) (M1 : Mem) (H1 : Hp) (Dd : Addr) (i : Nat) (Hh : Hp) (μi : List Addr) (Mi : Mem) (accD : List D) (accV : List V) : Prop where
  pre : ∃ tl, μi = μ1 ++ tl ∧ ∀ a ∈ tl, H1 a = none ∧ a ≠ Dd
  keep : ∀ a o, H1 a = some o → a ∉ μ1 → Hh a = some o
  at_ : Hh Dd = some (.lst accV)
  acc : Rps K Hh (ban (fun a => B a ∨ a = Dd) μi) μi accD accV
  rel : Rl K fr (fun a => B a ∨ a = Dd) μi oa ρ Mi σ Hh
  eq : cmpL F ds [] M1 = cmpL F (ds.drop i) accD Mi
theorem lc_read (rel : Rl K fr B μ oa ρ M σ H) (h : Pst K L W fr B μ oa ρ σ H (ev Φ (.comp it t ifs elt) ρ M) R)
    (g : ∀ H' μ' xs M' a vs, Rl K fr B μ' oa ρ M' σ H' → Evo μ H μ' H' → R H' μ' (.lst xs) M' → H a = none → H' a = some (.lst vs) → ¬ ban B μ' a → Rps K H' (ban B μ') μ' xs vs → Rl K fr (fun x => B x ∨ x = a) μ' oa ρ M' σ H' → Rps K H' (ban (fun x => B x ∨ x = a) μ') μ' xs vs → Q (.ref a) H') :
    tLc (tIC K L W Φ it) (gT K t) (tTs K L W0 Φ ifs) (tE K L W0 Φ elt) t.slots σ H Q := by
  rw [ev] at h
  refine ⟨fr, B, μ, oa, ρ, M, rel, (Pst.first rel h).imp fun H1 μ1 ds M1 e1 r1 h1 J hJ Dd hD => ?_⟩
  have h1 : Pst K L W fr B μ1 oa ρ σ H1 ((cmpL (turnF Φ t ifs elt ρ) ds [] M1).bind fun xs M4 => .ok (.lst xs) M4).calm R := h1
  have hDm : Dd ∉ μ1 := fun z => r1.tr Dd z hD
  have hoD : ∀ i a, oa i = some a → a ≠ Dd := fun i a e z => r1.bt a (r1.bo i a e) (by rw [z]; exact hD)
  obtain ⟨f0, fb⟩ := r1.free_old hD
  -- the whole evaluation is good
  have good : ∀ r, cmpL (turnF Φ t ifs elt ρ) ds [] M1 = r → r ≠ .bad ∧ ∀ x M', r ≠ .err x M' := fun r e => by
    rw [e] at h1
    refine ⟨fun z => ?_, fun x M' z => ?_⟩
    · subst z; exact h1
    · subst z; exact h1
  refine ⟨fun i m Hh => i ≤ ds.length ∧ m = ds.length - i ∧ ∃ μi Mi accD accV, LcInv K fr B oa ρ σ (turnF Φ t ifs elt ρ) ds μ1 M1 H1 Dd i Hh μi Mi accD accV, ⟨ds.length, Nat.zero_le _, rfl, μ1, M1, [], [], ?_⟩, ?_⟩
  · refine ⟨⟨[], by simp, by simp⟩, fun a o e _ => same_upd hD a o e, upd_same, .nil, ?_, rfl⟩
    refine r1.kp ⟨fun a o e b => ⟨same_upd hD a o e, fun z => ?_⟩, fun _ _ e => e⟩ (fun i a e => upd_ne (hoD i a e)) (fun a ha => upd_ne fun z => hDm (by rw [← z]; exact ha)) (fun a b => ?_) (fun a ha => .inr ha) (fun i a e => ?_) (fun a b => ?_) fun a o e n => same_upd hD a o (r1.ev a o e n)
    · rcases z with (z | z) | z
      · exact b (.inl z)
      · rw [z, hD] at e; cases e
      · exact b (.inr z)
    · exact (r1.b0 a b).elim (fun z => .inl (.inl z)) .inr
    · exact (r1.bo i a e).elim (fun z => .inl (.inl z)) .inr
    · have old : ban B μ1 a → upd H1 Dd (.lst []) a ≠ none := fun z => by
        cases q : H1 a with
        | none => exact absurd q (r1.bt a z)
        | some o => rw [same_upd hD a o q]; exact fun w => nomatch w
      rcases b with (z | z) | z
      · exact old (.inl z)
      · rw [z, upd_same]; exact fun w => nomatch w
      · exact old (.inr z)
  rintro i m Hh ⟨hi, rfl, μi, Mi, accD, accV, V⟩
  obtain ⟨tl, hμ, htl⟩ := V.pre
  have evo : Evo μ1 H1 μi Hh := ⟨⟨tl, hμ, fun a ha => (htl a ha).1⟩, V.keep⟩
  have kp : Kp H1 Hh (ban B μ1) (ban (fun a => B a ∨ a = Dd) μi) μ1 μi := by
    refine ⟨fun a o e b => ⟨V.keep a o e fun z => b (.inr z), fun z => ?_⟩, fun n a e => evo.get e⟩
    rcases z with (z | z) | z
    · exact b (.inl z)
    · rw [z, hD] at e; cases e
    · exact b (.inr (evo.old z e))
  obtain ⟨at1, at2⟩ := hJ Hh _ μi kp V.keep V.rel.bt
  have hDi : Dd ∉ μi := fun z => by
    rw [hμ] at z
    rcases List.mem_append.mp z with z | z
    · exact hDm z
    · exact (htl _ z).2 rfl
  by_cases hlt : i < ds.length
  · refine .inr ⟨(at1 i ds[i] (List.getElem?_eq_getElem hlt)).1, fun Hh => ∃ μi Mi accD accV, LcInv K fr B oa ρ σ (turnF Φ t ifs elt ρ) ds μ1 M1 H1 Dd (i + 1) Hh μi Mi accD accV, fun H' q => ⟨ds.length - (i + 1), by omega, hlt, rfl, q⟩, fun x H3 y => ?_⟩
    obtain ⟨s3, rx⟩ := (at1 i ds[i] (List.getElem?_eq_getElem hlt)).2 x H3 y
    have r3 := V.rel.same s3
    obtain ⟨oa', rw_⟩ := Rel.wipe r3 t.slots
    have hdrop : ds.drop i = ds[i] :: ds.drop (i + 1) := List.drop_eq_getElem_cons hlt
    have heq := V.eq
    rw [hdrop, cmpL] at heq
    unfold turnF at heq
    cases ep : t.put ds[i] (wipeE ρ t.slots) with
    | none =>
      rw [ep] at heq
      exact ((good _ heq).1 rfl).elim
    | some ρ2 =>
      rw [ep] at heq
      dsimp only at heq
      refine gT_put rw_ rx ep fun σ2 oa2 r2 hun hln => ⟨wipe_again hun hln, ?_⟩
      refine ⟨fr, _, μi, oa2, ρ2, Mi, r2, ?_⟩
      cases et : tst Φ ifs ρ2 Mi with
      | bad => rw [et] at heq; exact ((good _ heq).1 rfl).elim
      | err x M' => rw [et] at heq; exact ((good _ heq).2 x M' rfl).elim
      | ok k M3 =>
        rw [et] at heq
        simp only [Res.bind_ok] at heq
        intro H4 μ4 e4 r4
        have hD3 : H3 Dd = some (.lst accV) := s3 _ _ V.at_
        have hD4 : H4 Dd = some (.lst accV) := e4.keep _ _ hD3 hDi
        have e3 : Evo μi Hh μi H3 := Evo.same s3
        have e34 : Evo μi Hh μ4 H4 := e3.trans e4 V.rel.tr r3.tr
        have hD4m : Dd ∉ μ4 := fun z => hDi (e4.old z hD3)
        have fresh : ∀ {μx : List Addr} {Hx Hy : Hp}, Evo μi Hh μx Hx → ∃ tl', μx = μ1 ++ tl' ∧ ∀ a ∈ tl', H1 a = none ∧ a ≠ Dd := fun {μx Hx Hy} e => by
          obtain ⟨u, hu, hn⟩ := e.pre
          refine ⟨tl ++ u, by rw [hu, hμ, List.append_assoc], fun a ha => ?_⟩
          rcases List.mem_append.mp ha with ha | ha
          · exact htl a ha
          · refine ⟨?_, fun z => ?_⟩
            · cases q : H1 a with
              | none => rfl
              | some o =>
                by_cases ha1 : a ∈ μ1
                · exact absurd (hn a ha) (V.rel.tr a (evo.mem ha1))
                · have := V.keep a o q ha1
                  rw [hn a ha] at this
                  cases this
            · have := hn a ha
              rw [z, V.at_] at this
              cases this
        cases k with
        | false =>
          rw [if_neg Bool.false_ne_true] at heq
          refine iteF ?_
          refine ⟨μ4, M3, accD, accV, fresh (Hy := H4) e34, fun a o q hn => e34.keep a o (V.keep a o q hn) fun z => hn (evo.old z q), hD4, V.acc.mono e34.kp, V.rel.after e34 r4.cs r4.bt, heq⟩
        | true =>
          rw [if_pos rfl] at heq
          refine iteT ?_
          refine ⟨fr, _, μ4, oa2, ρ2, M3, r4, ?_⟩
          cases ee : ev Φ elt ρ2 M3 with
          | bad => rw [ee] at heq; exact ((good _ heq).1 rfl).elim
          | err x M' => rw [ee] at heq; exact ((good _ heq).2 x M' rfl).elim
          | ok yD M5 =>
            rw [ee] at heq
            simp only [Res.bind_ok] at heq
            intro H5 μ5 e5 r5 yV ry
            have hD5 : H5 Dd = some (.lst accV) := e5.keep _ _ hD4 hD4m
            have e45 : Evo μi Hh μ5 H5 := e34.trans e5 V.rel.tr fun a ha => r4.bt a (.inr (e4.mem ha))
            have hD5m : Dd ∉ μ5 := fun z => hD4m (e5.old z hD4)
            have hz : accD.length < sizeLine := by
              by_cases hz : accD.length < sizeLine
              · exact hz
              · rw [if_neg hz] at heq
                exact ((good _ heq).1 rfl).elim
            rw [if_pos hz] at heq
            refine ⟨accV, hD5, by rw [← V.acc.length]; exact hz, μ5, M5, accD ++ [yD], accV ++ [yV], ?_⟩
            have kD : Kp H5 (upd H5 Dd (.lst (accV ++ [yV]))) (ban (fun a => B a ∨ a = Dd) μ5) (ban (fun a => B a ∨ a = Dd) μ5) μ5 μ5 := ⟨fun a o e b => ⟨by rw [upd_ne fun z => b (.inl (.inr z))]; exact e, b⟩, fun _ _ e => e⟩
            refine ⟨fresh (Hy := H5) e45, fun a o q hn => ?_, upd_same, ?_, ?_, heq⟩
            · rw [upd_ne fun z => by rw [z, hD] at q; cases q]
              exact e45.keep a o (V.keep a o q hn) fun z => hn (evo.old z q)
            · exact ((V.acc.mono e45.kp).append (.cons ry .nil)).mono kD
            · have r5' := V.rel.after e45 r5.cs r5.bt
              refine r5'.kp kD (fun i a e => upd_ne (hoD i a e)) (fun a ha => upd_ne fun z => hD5m (by rw [← z]; exact ha)) r5'.b0 r5'.cs.ban r5'.bo (fun a b => ?_) fun a o e n => ?_
              · by_cases z : a = Dd
                · rw [z, upd_same]; exact fun w => nomatch w
                · rw [upd_ne z]; exact r5'.bt a b
              · rw [upd_ne fun z => by rw [z, f0] at e; cases e]
                exact r5'.ev a o e n
  · have ei : i = ds.length := by omega
    subst ei
    refine .inl ⟨at2, ?_⟩
    have heq := V.eq
    rw [List.drop_length, cmpL] at heq
    rw [heq] at h1
    have kS : Kp Hh Hh (ban (fun a => B a ∨ a = Dd) μi) (ban B μi) μi μi := ⟨fun a o e b => ⟨e, fun z => b (z.elim (fun w => .inl (.inl w)) .inr)⟩, fun _ _ e => e⟩
    have rB : Rl K fr B μi oa ρ Mi σ Hh := by
      refine V.rel.kp kS (fun _ _ _ => rfl) (fun _ _ => rfl) (fun a b => ?_) (fun a ha => .inr ha) (fun i a e => ?_) (fun a b => V.rel.bt a (b.elim (fun w => .inl (.inl w)) .inr)) V.rel.ev
      · exact (r1.b0 a b).elim .inl fun z => .inr (evo.mem z)
      · exact (r1.bo i a e).elim .inl fun z => .inr (evo.mem z)
    have HD : H Dd = none := by
      cases q : H Dd with
      | none => rfl
      | some o =>
        by_cases hm : Dd ∈ μ
        · exact absurd hD (r1.bt Dd (.inr (e1.mem hm)))
        · have := e1.keep Dd o q hm
          rw [hD] at this
          cases this
    refine g Hh μi accD Mi Dd accV rB (e1.trans evo rel.tr (r1.later_tr e1)) (h1 Hh μi evo rB) HD V.at_ (fun b => ?_) (V.acc.mono kS) V.rel V.acc
    rcases b with b | b
    · exact r1.bt Dd (.inl b) hD
    · exact hDi b
end
section
variable {X : Cx} {L : Lg} {W : WX} {Φ : Fns} {a : E} {x : Expr}
theorem ts_nil : PTs X [] (tTs X.K L W Φ .nil) := ⟨fun pins s σ H Q I ⟨fr, B, μ, oa, ρ, M, rel, h⟩ => pts_nil.run pins s σ H Q I (by
  rw [tst] at h
  exact Pst.fin rel (Same.refl H) h)⟩
theorem ts_one (ha : PT X x (tT X.K L W Φ a)) : PTs X [x] (tTs X.K L W Φ (.cons a .nil)) := ⟨fun pins s σ H Q I ⟨fr, B, μ, oa, ρ, M, rel, h⟩ => (pts_one ha).run pins s σ H Q I (by
  rw [tst] at h
  exact ⟨fr, B, μ, oa, ρ, M, rel, h⟩)⟩
end
end PC

namespace PC
open PySem PySem.Spec PyProof.Rows L2
theorem _root_.L2.PS.imp {X : Cx} {st : Stmt} {t t' : TS} (h : PS X st t) (f : ∀ D σ H, t' D σ H → t D σ H) : PS X st t' := ⟨fun pins s σ H D I w => h.run pins s σ H D I (f D σ H w)⟩
theorem _root_.L2.PSs.imp {X : Cx} {st : List Stmt} {t t' : TS} (h : PSs X st t) (f : ∀ D σ H, t' D σ H → t D σ H) : PSs X st t' := ⟨fun pins s σ H D I w => h.run pins s σ H D I (f D σ H w)⟩
section
variable {K : PySem.W.Frag} {L : Lg} {W : WX} {fr : Fr} {B B' : Addr → Prop} {μ μ' : List Addr} {oa oa' : Nat → Option Addr} {ρ ρ' : Ev} {M M' : Mem} {σ σ' : L2.St} {H H' H1 : Hp} {α : Type}
/-- what is wanted of a statement's end -/
def PostO (K : PySem.W.Frag) (L : Lg) (W : WX) (fr : Fr) (B : Addr → Prop) (μ : List Addr) (H : Hp) (o : Out) (De : Ends) : Prop :=
  match o with
  | .nx ρ' M' => ∀ B' μ' oa' σ' H', Kp H H' (ban B μ) (ban B' μ') μ μ' → Rl K fr B' μ' oa' ρ' M' σ' H' → De.nx σ' H'
  | .rt d M' => ∀ B' μ' oa' ρ' σ' H' v, Rl K fr B' μ' oa' ρ' M' σ' H' → Rp K H' (ban B' μ') μ' d v → De.rt v H'
  | .er x ρ' M' => ∀ B' μ' oa' σ' H' cls dd, Kp H H' (ban B μ) (ban B' μ') μ μ' → Rl K fr B' μ' oa' ρ' M' σ' H' → L.xr H' x cls dd → W cls dd σ' H'
  | .bad => False
theorem PostO.shift {o : Out} {De : Ends} (k : Kp H H1 (ban B μ) (ban B' μ') μ μ') (h : PostO K L W fr B μ H o De) : PostO K L W fr B' μ' H1 o De := by
  cases o with
  | nx ρ2 M2 => exact fun B2 μ2 oa2 σ2 H2 k2 r2 => h B2 μ2 oa2 σ2 H2 (k.trans k2) r2
  | rt d M2 => exact h
  | er x ρ2 M2 => exact fun B2 μ2 oa2 σ2 H2 cls dd k2 r2 hx => h B2 μ2 oa2 σ2 H2 cls dd (k.trans k2) r2 hx
  | bad => exact h
theorem PostO.first {r : Res α} {f : α → Mem → Out} {De : Ends} (h : PostO K L W fr B μ H (r.out ρ f) De) :
    Pst K L W fr B μ oa ρ σ H r (fun H1 μ1 a M1 => PostO K L W fr B μ1 H1 (f a M1) De) := by
  cases r with
  | ok a M2 => exact fun H1 μ1 e1 r1 => PostO.shift e1.kp h
  | err x M2 => exact fun cls dd H1 μ1 e1 r1 hx => h B μ1 oa σ H1 cls dd e1.kp r1 hx
  | bad => exact h
theorem PostO.first0 {r : Res α} {f : α → Mem → Out} {De : Ends} (h : PostO K L W fr B μ H (r.out ρ f) De) :
    Pst K L W fr B μ oa ρ σ H r (fun _ _ a M1 => PostO K L W fr B μ H (f a M1) De) := by
  cases r with
  | ok a M2 => exact fun H1 μ1 e1 r1 => h
  | err x M2 => exact fun cls dd H1 μ1 e1 r1 hx => h B μ1 oa σ H1 cls dd e1.kp r1 hx
  | bad => exact h
theorem PostO.then {o : Out} {f : Ev → Mem → Out} {De : Ends} (h : PostO K L W fr B μ H (o.then f) De) {N : L2.St → Hp → Prop}
    (g : ∀ B' μ' oa' ρ' M' σ' H', Kp H H' (ban B μ) (ban B' μ') μ μ' → Rl K fr B' μ' oa' ρ' M' σ' H' → PostO K L W fr B' μ' H' (f ρ' M') De → N σ' H') : PostO K L W fr B μ H o { De with nx := N } := by
  cases o with
  | nx ρ2 M2 => exact fun B2 μ2 oa2 σ2 H2 k2 r2 => g B2 μ2 oa2 ρ2 M2 σ2 H2 k2 r2 (PostO.shift k2 h)
  | rt d M2 => exact h
  | er x ρ2 M2 => exact h
  | bad => exact h
/-- the ends of a loop's body -/
theorem PostO.imp {o : Out} {De De' : Ends} (h : PostO K L W fr B μ H o De) (f : ∀ σ H, De.nx σ H → De'.nx σ H) (g : ∀ v H, De.rt v H → De'.rt v H := by intro _ _ q; exact q) : PostO K L W fr B μ H o De' := by
  cases o with
  | nx ρ2 M2 => exact fun B2 μ2 oa2 σ2 H2 k2 r2 => f _ _ (h B2 μ2 oa2 σ2 H2 k2 r2)
  | rt d M2 => exact fun B2 μ2 oa2 ρ2 σ2 H2 v r2 rv => g _ _ (h B2 μ2 oa2 ρ2 σ2 H2 v r2 rv)
  | er x ρ2 M2 => exact h
  | bad => exact h
theorem tE_out {Φ : Fns} {c : E} {f : D → Mem → Out} {De : Ends} {Q : VK} (rel : Rl K fr B μ oa ρ M σ H) (h : PostO K L W fr B μ H ((ev Φ c ρ M).out ρ f) De)
    (g : ∀ H1 μ1 d M1 v, Rl K fr B μ1 oa ρ M1 σ H1 → Evo μ H μ1 H1 → Rp K H1 (ban B μ1) μ1 d v → PostO K L W fr B μ1 H1 (f d M1) De → Q v H1) : tE K L W Φ c σ H Q :=
  ⟨fr, B, μ, oa, ρ, M, rel, (PostO.first h).imp fun H1 μ1 d M1 e1 r1 h1 v rv => g H1 μ1 d M1 v r1 e1 rv h1⟩
theorem tT_out {Φ : Fns} {c : E} {f : Bool → Mem → Out} {De : Ends} {Q : Bool → Hp → Prop} (rel : Rl K fr B μ oa ρ M σ H) (h : PostO K L W fr B μ H ((evT Φ c ρ M).out ρ f) De)
    (g : ∀ H1 μ1 d M1, Rl K fr B μ1 oa ρ M1 σ H1 → Evo μ H μ1 H1 → PostO K L W fr B μ1 H1 (f d M1) De → Q d H1) : tT K L W Φ c σ H Q :=
  ⟨fr, B, μ, oa, ρ, M, rel, (PostO.first h).imp fun H1 μ1 d M1 e1 r1 h1 => g H1 μ1 d M1 r1 e1 h1⟩
/-- at the end of a statement -/
theorem PostO.nx {De : Ends} (h : PostO K L W fr B μ H (.nx ρ M) De) (rel : Rl K fr B μ oa ρ M σ H) : De.nx σ H := h B μ oa σ H Kp.refl rel
theorem PostO.nx' {De : Ends} (h : PostO K L W fr B μ H (.nx ρ M) De) (k : Kp H H' (ban B μ) (ban B' μ') μ μ') (rel : Rl K fr B' μ' oa ρ M σ H') : De.nx σ H' := h B' μ' oa σ H' k rel
/-- a slot gets a list of its own, already banned -/
theorem Rel.setown {i : Nat} {a : Addr} {ds : List D} {vs : List V} (r : Rel K fr B μ oa ρ M σ H) (ha : B a) (hn : ∀ k, oa k ≠ some a) (h0 : fr.H0 a = none) (hb : ¬ fr.B0 a) (hm : a ∉ μ) (hH : H a = some (.lst vs)) (hr : Rps K H B μ ds vs) (hi : i < ρ.length) :
    Rel K fr B μ (fun k => if k = i then some a else oa k) (ρ.set i (.own ds)) M (σ.set i (some (.ref a))) H where
  cs := r.cs
  b0 := r.b0
  bt := r.bt
  bo := fun k b e => by
    split at e
    · cases e; exact ha
    · exact r.bo k b e
  oi := fun k l b e e' => by
    split at e
    · cases e
      split at e'
      · rename_i h1 h2
        rw [h1, h2]
      · exact absurd e' (hn l)
    · split at e'
      · cases e'
        exact absurd e (hn k)
      · exact r.oi k l b e e'
  on := fun k b e => by
    split at e
    · cases e; exact ⟨h0, hb, hm⟩
    · exact r.on k b e
  sl := fun k s e => by
    by_cases hk : k = i
    · subst hk
      rw [if_pos rfl]
      rw [List.getElem?_set_self hi] at e
      cases e
      refine ⟨a, vs, rfl, ?_, hH, hr⟩
      rw [List.getElem?_set_self (by rw [← r.ln]; exact hi)]
    · rw [if_neg hk, List.getElem?_set_ne (Ne.symm hk)]
      rw [List.getElem?_set_ne (Ne.symm hk)] at e
      exact r.sl k s e
  so := fun k e => by
    split
    · rename_i hk
      subst hk
      rw [List.getElem?_set_self hi] at e
      cases e
    · rename_i hk
      rw [List.getElem?_set_ne (Ne.symm hk)] at e
      exact r.so k e
  ln := by rw [List.length_set, List.length_set]; exact r.ln
  m0 := r.m0
  ev := r.ev
/-- a new list, banned at once -/
theorem Rel.lay {p : Addr} {o : HO} (r : Rl K fr B μ oa ρ M σ H) (hp : H p = none) : Rl K fr (fun x => B x ∨ x = p) μ oa ρ M σ (upd H p o) ∧ Kp H (upd H p o) (ban B μ) (ban (fun x => B x ∨ x = p) μ) μ μ := by
  have hpm : p ∉ μ := fun z => r.tr p z hp
  have kp : Kp H (upd H p o) (ban B μ) (ban (fun x => B x ∨ x = p) μ) μ μ := by
    refine ⟨fun a q e b => ⟨same_upd hp a q e, fun z => ?_⟩, fun _ _ e => e⟩
    rcases z with (z | z) | z
    · exact b (.inl z)
    · rw [z, hp] at e; cases e
    · exact b (.inr z)
  refine ⟨r.kp kp (fun i a e => upd_ne fun z => r.bt a (r.bo i a e) (by rw [z]; exact hp)) (fun a ha => upd_ne fun z => hpm (by rw [← z]; exact ha)) (fun a b => (r.b0 a b).elim (fun z => .inl (.inl z)) .inr) (fun a ha => .inr ha) (fun i a e => (r.bo i a e).elim (fun z => .inl (.inl z)) .inr) (fun a b => ?_) fun a q e n => same_upd hp a q (r.ev a q e n), kp⟩
  have old : ban B μ a → upd H p o a ≠ none := fun z => by
    cases q : H a with
    | none => exact absurd q (r.bt a z)
    | some u => rw [same_upd hp a u q]; exact fun w => nomatch w
  rcases b with (z | z) | z
  · exact old (.inl z)
  · rw [z, upd_same]; exact fun w => nomatch w
  · exact old (.inr z)
/-- a list of one's own is changed -/
theorem Rel.chg {i : Nat} {a : Addr} {ds : List D} {vs : List V} (r : Rl K fr B μ oa ρ M σ H) (ho : oa i = some a) (hi : σ[i]? = some (some (.ref a))) (hr : Rps K H (ban B μ) μ ds vs) :
    Rl K fr B μ oa (ρ.set i (.own ds)) M σ (upd H a (.lst vs)) ∧ Kp H (upd H a (.lst vs)) (ban B μ) (ban B μ) μ μ := by
  obtain ⟨h0, hb, hm⟩ := r.on i a ho
  have hba := r.bo i a ho
  have kp : Kp H (upd H a (.lst vs)) (ban B μ) (ban B μ) μ μ := ⟨fun b o e n => ⟨by rw [upd_ne fun z => n (by rw [z]; exact hba)]; exact e, n⟩, fun _ _ e => e⟩
  have hil : i < ρ.length := by
    rw [r.ln]
    exact (List.getElem?_eq_some_iff.mp hi).1
  refine ⟨?_, kp⟩
  refine { cs := ⟨r.cs.nd, r.cs.len, r.cs.ban, fun n c b h1 h2 => ?_⟩, b0 := r.b0, bt := fun b z => ?_, bo := r.bo, oi := r.oi, on := r.on, sl := fun k s e => ?_, so := fun k e => ?_, ln := by rw [List.length_set]; exact r.ln, m0 := r.m0, ev := fun b o e n => ?_ }
  · have q := r.cs.at_ n c b h1 h2
    cases c with
    | lst es =>
      obtain ⟨ws, q1, q2⟩ := q
      exact ⟨ws, by rw [upd_ne fun z => hm (by rw [← z]; exact List.mem_of_getElem? h2)]; exact q1, q2.mono kp⟩
    | dict _ => exact q
    | ins _ _ => exact q
  · by_cases e : b = a
    · rw [e, upd_same]; exact fun w => nomatch w
    · rw [upd_ne e]; exact r.bt b z
  · by_cases hk : k = i
    · subst hk
      rw [List.getElem?_set_self hil] at e
      cases e
      exact ⟨a, vs, ho, hi, upd_same, hr.mono kp⟩
    · rw [List.getElem?_set_ne (Ne.symm hk)] at e
      have q := r.sl k s e
      cases s with
      | un => exact q
      | v d => obtain ⟨h1, v, h2, h3⟩ := q; exact ⟨h1, v, h2, h3.mono kp⟩
      | own es =>
        obtain ⟨b, ws, h1, h2, h3, h4⟩ := q
        exact ⟨b, ws, h1, h2, by rw [upd_ne fun z => hk (r.oi k i a (by rw [← z]; exact h1) ho)]; exact h3, h4.mono kp⟩
  · by_cases hk : k = i
    · subst hk
      rw [List.getElem?_set_self hil] at e
      cases e
    · rw [List.getElem?_set_ne (Ne.symm hk)] at e
      exact r.so k e
  · rw [upd_ne fun z => by rw [z, h0] at e; cases e]
    exact r.ev b o e n
/-- a list of one's own becomes a value -/
theorem Rel.frz {i : Nat} {xs : List D} (r : Rl K fr B μ oa ρ M σ H) (hs : slotO ρ i = some xs) : ∃ B', Rl K fr B' μ (fun k => if k = i then none else oa k) (ρ.set i (.v (.lst xs))) M σ H ∧ Kp H H (ban B μ) (ban B' μ) μ μ := by
  obtain ⟨a, vs, q1, q2, q3, q4⟩ := r.sl i _ (slotO_eq hs)
  obtain ⟨h0, hb, hm⟩ := r.on i a q1
  have kp : Kp H H (ban B μ) (ban (fun x => B x ∧ x ≠ a) μ) μ μ := ⟨fun b o e n => ⟨e, fun z => n (z.elim (fun w => .inl w.1) .inr)⟩, fun _ _ e => e⟩
  refine ⟨fun x => B x ∧ x ≠ a, ?_, kp⟩
  have r' : Rl K fr (fun x => B x ∧ x ≠ a) μ (fun k => if k = i then none else oa k) (ρ.set i .un) M σ H := by
    have r1 := r.setun (i := i) (v := some (.ref a))
    have eσ : σ.set i (some (V.ref a)) = σ := by
      apply List.ext_getElem?
      intro k
      by_cases hk : k = i
      · subst hk
        rw [List.getElem?_set_self (List.getElem?_eq_some_iff.mp q2).1, q2]
      · rw [List.getElem?_set_ne (Ne.symm hk)]
    rw [eσ] at r1
    refine r1.kp kp (fun _ _ _ => rfl) (fun _ _ => rfl) (fun b z => ?_) (fun b z => .inr z) (fun k b e => ?_) (fun b z => r.bt b (z.elim (fun w => .inl w.1) .inr)) r.ev
    · exact (r.b0 b z).elim (fun w => .inl ⟨w, fun e => hb (by rw [← e]; exact z)⟩) .inr
    · split at e
      · cases e
      · rename_i hk
        exact (r.bo k b e).elim (fun w => .inl ⟨w, fun z => hk (r.oi k i a (by rw [← z]; exact e) q1)⟩) .inr
  have r2 := r'.setv (i := i) (d := .lst xs) (v := .ref a) (.lst ⟨q3, fun z => z.elim (fun w => w.2 rfl) hm⟩ (q4.mono kp))
  have eρ : (ρ.set i .un).set i (.v (.lst xs)) = ρ.set i (.v (.lst xs)) := List.set_set ..
  have eσ : σ.set i (some (V.ref a)) = σ := by
    apply List.ext_getElem?
    intro k
    by_cases hk : k = i
    · subst hk
      rw [List.getElem?_set_self (List.getElem?_eq_some_iff.mp q2).1, q2]
    · rw [List.getElem?_set_ne (Ne.symm hk)]
  rw [eρ, eσ] at r2
  have eo : (fun k => if k = i then none else (fun k => if k = i then none else oa k) k) = (fun k => if k = i then none else oa k) := by
    funext k
    by_cases hk : k = i <;> simp [hk]
  rw [eo] at r2
  exact r2
end
end PC

namespace PC
open PySem PySem.Spec PyProof.Rows L2
def tS (K : PySem.W.Frag) (L : Lg) (W : WX) (Φ : Fns) (c : S) : TS := fun De σ H => ∃ fr B μ oa ρ M, Rl K fr B μ oa ρ M σ H ∧ PostO K L W fr B μ H (ex Φ c ρ M) De
def tB (K : PySem.W.Frag) (L : Lg) (W : WX) (Φ : Fns) (c : PC.B) : TS := fun De σ H => ∃ fr B μ oa ρ M, Rl K fr B μ oa ρ M σ H ∧ PostO K L W fr B μ H (exs Φ c ρ M) De
section
variable {X : Cx} {L : Lg} {W : WX} {Φ : Fns} {a b c k : E} {s : S} {bl b1 b2 : PC.B} {it : PC.It} {t : Tg} {x y z tg : Expr} {xs : List Expr} {st : Stmt} {sts : List Stmt} {p q pos : Pos} {n : Str} {i j : Nat}
theorem b_nil : PSs X [] (tB X.K L W Φ .nil) := pss_nil.imp fun De σ H ⟨fr, B, μ, oa, ρ, M, rel, h⟩ => by
  rw [exs] at h
  exact h.nx rel
theorem b_cons (h1 : PS X st (tS X.K L W Φ s)) (h2 : PSs X sts (tB X.K L W Φ bl)) : PSs X (st :: sts) (tB X.K L W Φ (.cons s bl)) := (pss_cons h1 h2).imp fun De σ H ⟨fr, B, μ, oa, ρ, M, rel, h⟩ => by
  rw [exs] at h
  exact ⟨fr, B, μ, oa, ρ, M, rel, PostO.then h fun B' μ' oa' ρ' M' σ' H' _ r' h' => ⟨fr, B', μ', oa', ρ', M', r', h'⟩⟩
/-- the last statement (nothing behind it) -/
theorem b_one (h1 : PS X st (tS X.K L W Φ s)) : PSs X [st] (tB X.K L W Φ (.cons s .nil)) := b_cons h1 b_nil
/-- a list of one's own becomes a value: nothing in the text -/
theorem b_freeze (h2 : PSs X sts (tB X.K L W Φ bl)) : PSs X sts (tB X.K L W Φ (.cons (.freeze i) bl)) := h2.imp fun De σ H ⟨fr, B, μ, oa, ρ, M, rel, h⟩ => by
  rw [exs, ex] at h
  cases e : slotO ρ i with
  | none => rw [e] at h; exact h.elim
  | some xs =>
    rw [e] at h
    obtain ⟨B', r', k'⟩ := rel.frz e
    exact ⟨fr, B', μ, _, _, M, r', PostO.shift k' h⟩
theorem st_never : PS X st (tS X.K L W Φ .never) := ps_never.imp fun De σ H ⟨fr, B, μ, oa, ρ, M, rel, h⟩ => by
  rw [ex] at h
  exact h
theorem st_set (hN : X.N.Nodup) (hn : TgName X i n) (ha : PE X x (tE X.K L W Φ a)) (hs : swapsWith x (some (.Name n q)) pos.line X.env = pure false) : PS X (.Assign [.Name n q] x pos) (tS X.K L W Φ (.set i a)) := by
  refine (ps_set hN hn.hN hn.hl ha hs hn.hf).imp fun De σ H ⟨fr, B, μ, oa, ρ, M, rel, h⟩ => ?_
  rw [ex] at h
  exact tE_out rel h fun H1 μ1 d M1 v r1 e1 rv h1 => h1.nx (r1.setv rv)
/-- a comprehension -/
theorem st_setLc {ifs : Es} {eltc : E} (hps : PS X st (tAsg (tLc (tIC X.K L W Φ it) (gT X.K t) (tTs X.K L W0 Φ ifs) (tE X.K L W0 Φ eltc) t.slots) (gName i))) : PS X st (tS X.K L W Φ (.set i (.comp it t ifs eltc))) := by
  refine hps.imp fun De σ H ⟨fr, B, μ, oa, ρ, M, rel, h⟩ => ?_
  rw [ex] at h
  exact lc_read rel (PostO.first h) fun H' μ' xs M' a vs r' e' h' _ hH hb rs _ _ => h'.nx (r'.setv (.lst ⟨hH, hb⟩ rs))
theorem st_ownLc {ifs : Es} {eltc : E} (hps : PS X st (tAsg (tLc (tIC X.K L W Φ it) (gT X.K t) (tTs X.K L W0 Φ ifs) (tE X.K L W0 Φ eltc) t.slots) (gName i))) : PS X st (tS X.K L W Φ (.own i (.comp it t ifs eltc))) := by
  refine hps.imp fun De σ H ⟨fr, B, μ, oa, ρ, M, rel, h⟩ => ?_
  rw [ex] at h
  refine lc_read rel (PostO.first0 h) fun H' μ' xs M' a vs r' e' h' h0 hH hb rs rD rsD => ?_
  obtain ⟨f0, fb⟩ := rel.free_old h0
  have hna : ∀ k, oa k ≠ some a := fun k e => hb (r'.bo k a e)
  have hm : a ∉ μ' := fun z => hb (.inr z)
  have kp : Kp H H' (ban B μ) (ban (fun x => B x ∨ x = a) μ') μ μ' := by
    refine ⟨fun b o e nb => ⟨e'.keep b o e fun z => nb (.inr z), fun z => ?_⟩, fun _ _ e => e'.get e⟩
    rcases z with (z | z) | z
    · exact nb (.inl z)
    · rw [z, h0] at e; cases e
    · exact nb (.inr (e'.old z e))
  by_cases hi : i < ρ.length
  · exact h'.nx' kp (rD.setown (.inl (.inr rfl)) hna f0 fb hm hH rsD hi)
  · have e1 : ρ.set i (.own xs) = ρ := set_none_same _ _ _ (by omega)
    have e2 : σ.set i (some (V.ref a)) = σ := set_none_same _ _ _ (by rw [← rel.ln]; omega)
    have h' : PostO X.K L W fr B μ H (.nx (ρ.set i (.own xs)) M') De := h'
    rw [e1] at h'
    show De.nx (σ.set i (some (V.ref a))) H'
    rw [e2]
    exact h'.nx' kp rD
/-- a list display -/
theorem st_ownLst {es : Es} (hN : X.N.Nodup) (hn : TgName X i n) (ha : PA X xs (tEs X.K L W Φ es)) : PS X (.Assign [.Name n q] (.List xs p) pos) (tS X.K L W Φ (.own i (.lst es))) := by
  refine (ps_set (i := i) hN hn.hN hn.hl (pe_lst ha) rfl hn.hf).imp fun De σ H ⟨fr, B, μ, oa, ρ, M, rel, h⟩ => ?_
  rw [ex, ev] at h
  have h : PostO X.K L W fr B μ H ((evs Φ es ρ M).out ρ fun xs M1 => if xs.length ≤ sizeLine then .nx (ρ.set i (.own xs)) M1 else .bad) De := by
    cases e : evs Φ es ρ M with
    | bad => rw [e] at h; exact h
    | err x M1 => rw [e] at h; exact h
    | ok ds M1 =>
      rw [e] at h
      simp only [Res.bind_ok, Res.out_ok] at h ⊢
      by_cases hz : ds.length ≤ sizeLine
      · rw [if_pos hz] at h ⊢
        exact h
      · rw [if_neg hz] at h ⊢
        exact h
  refine ⟨fr, B, μ, oa, ρ, M, rel, (PostO.first h).imp fun H1 μ1 ds M1 e1 r1 h1 vs rs => ?_⟩
  split at h1
  · rename_i hz
    rw [rs.length] at hz
    refine ⟨hz, fun a ha => ?_⟩
    obtain ⟨f0, fb⟩ := r1.free_old ha
    obtain ⟨rD, kD⟩ := r1.lay (o := .lst vs) ha
    have hna : ∀ k, oa k ≠ some a := fun k e => r1.bt a (r1.bo k a e) ha
    have hm : a ∉ μ1 := fun z => r1.tr a z ha
    by_cases hi : i < ρ.length
    · exact h1.nx' kD (rD.setown (.inl (.inr rfl)) hna f0 fb hm upd_same (rs.mono kD) hi)
    · have e1 : ρ.set i (.own ds) = ρ := set_none_same _ _ _ (by omega)
      have e2 : σ.set i (some (V.ref a)) = σ := set_none_same _ _ _ (by rw [← rel.ln]; omega)
      rw [e1] at h1
      show De.nx (σ.set i (some (V.ref a))) _
      rw [e2]
      exact h1.nx' kD rD
  · exact h1.elim
theorem out_bind {α β : Type} {r : Res α} {g : α → Mem → Res β} {ρ : Ev} {f : β → Mem → Out} : (r.bind g).out ρ f = r.out ρ fun a M => (g a M).out ρ f := by cases r <;> rfl
theorem st_ownRep (hN : X.N.Nodup) (hn : TgName X i n) (ha : PE X x (tE X.K L W Φ a)) (hb : PE X y (tE X.K L W Φ b)) : PS X (.Assign [.Name n q] (.BinOp x .Mult y p) pos) (tS X.K L W Φ (.own i (.bin .mul a b))) := by
  refine (ps_set (i := i) hN hn.hN hn.hl (pe_op op_rep ha hb) rfl hn.hf).imp fun De σ H ⟨fr, B, μ, oa, ρ, M, rel, h⟩ => ?_
  rw [ex, ev] at h
  simp only [out_bind] at h
  refine tE_out rel h fun H1 μ1 d1 M1 v1 r1 e1 p1 h1 => tE_out r1 h1 fun H2 μ2 d2 M2 v2 r2 e2 p2 h2 => ?_
  have p1' := p1.later e2
  cases p1' <;> cases p2 <;> simp only [Bop.run] at h2 <;> try exact h2.elim
  · split at h2 <;> exact h2.elim
  · split at h2 <;> exact h2.elim
  · rename_i a1 vs1 ds1 t1 q1 k
    split at h2
    · rename_i hz
      obtain ⟨z0, z1, z2⟩ := hz
      rw [q1.length] at z2
      refine ⟨_, _, _, rfl, rfl, t1.1, by omega, by omega, by rw [Nat.mul_comm]; exact z2, fun a ha => ?_⟩
      obtain ⟨f0, fb⟩ := r2.free_old ha
      obtain ⟨rD, kD⟩ := r2.lay (o := .lst (List.replicate k.toNat vs1).flatten) ha
      have hna : ∀ k, oa k ≠ some a := fun k e => r2.bt a (r2.bo k a e) ha
      have hm : a ∉ μ2 := fun z => r2.tr a z ha
      have h2 : PostO X.K L W fr B μ2 H2 (.nx (ρ.set i (.own (rep k ds1))) M2) De := h2
      by_cases hi : i < ρ.length
      · exact h2.nx' kD (rD.setown (.inl (.inr rfl)) hna f0 fb hm upd_same ((q1.rep k.toNat).mono kD) hi)
      · have w1 : ρ.set i (.own (rep k ds1)) = ρ := set_none_same _ _ _ (by omega)
        have w2 : σ.set i (some (V.ref a)) = σ := set_none_same _ _ _ (by rw [← rel.ln]; omega)
        rw [w1] at h2
        show De.nx (σ.set i (some (V.ref a))) _
        rw [w2]
        exact h2.nx' kD rD
    · exact h2.elim
theorem st_unpack {is : List Nat} {tes : List Expr} {kk : Nat} (hc : X.calm = true) (hN : X.N.Nodup) (hn : TgNames X is tes) (ha : PE X x (tE X.K L W Φ a)) (hs : swapsWithSole [.Tuple tes kk q] x pos.line X.env = pure false) (hw : swappedStores [.Tuple tes kk q] x X.env = pure none) :
    PS X (.Assign [.Tuple tes kk q] x pos) (tS X.K L W Φ (.unpack is a)) := by
  refine (ps_asg ha (TgOk.pg hc hN (.tup hn)) hs hw rfl).imp fun De σ H ⟨fr, B, μ, oa, ρ, M, rel, h⟩ => ?_
  rw [ex] at h
  refine tE_out rel h fun H1 μ1 d M1 v r1 e1 rv h1 => ?_
  cases d with
  | tup ds =>
    dsimp only at h1
    cases e : setsL is ds ρ with
    | none => rw [e] at h1; exact h1.elim
    | some ρ2 =>
      rw [e] at h1
      exact gT_put (t := .tup is) r1 rv e fun σ' oa' r2 _ _ => h1.nx r2
  | non => exact h1.elim
  | bl _ => exact h1.elim
  | int _ => exact h1.elim
  | str _ => exact h1.elim
  | lst _ => exact h1.elim
  | frz _ => exact h1.elim
  | cell _ => exact h1.elim
theorem st_append {apos cpos : Pos} (hn : IsName X i n) (ha : PE X x (tE X.K L W Φ a)) (hline : (apos.endLine == cpos.line) = true) (hs : starEach [x] X.env = (false, eval x X.env) :: starEach [] X.env)
    (hfew : ((backTo cpos (starEach [x] X.env)).all (fun x => !x.1) && (backToKw cpos (keywordEach [] X.env)).all (fun x => x.1.isSome) && decide ([x].length + ([] : List Keyword).length + (if ([] : List Keyword).isEmpty then 0 else 1) < 30)) = true) :
    PS X (.Expr (.Call (.Attribute (.Name n q) "append" apos) [x] [] cpos) pos) (tS X.K L W Φ (.append i a)) := by
  refine (ps_expr (pe_bm F.plainAttrs_list F.slot_list_append F.type_list_append mt_append (pe_var hn.hN hn.hv hn.hd hn.hc) (pa_cons ha pa_nil hs) rfl hfew hline hs rfl) rfl).imp fun De σ H ⟨fr, B, μ, oa, ρ, M, rel, h⟩ => ?_
  rw [ex] at h
  cases e : slotO ρ i with
  | none => rw [e] at h; exact h.elim
  | some ds =>
    rw [e] at h
    obtain ⟨ad, vs, q1, q2, q3, q4⟩ := rel.sl i _ (slotO_eq e)
    refine ⟨_, q2, .inl ⟨rfl, vs, .of q3⟩, tE_out rel h fun H1 μ1 d M1 v r1 e1 rv h1 => ?_⟩
    split at h1
    · rename_i hz
      have q3' := e1.keep ad _ q3 (rel.on i ad q1).2.2
      refine ⟨ad, vs, v, rfl, rfl, q3', by rw [← q4.length]; exact hz, ?_⟩
      obtain ⟨r2, k2⟩ := r1.chg q1 q2 ((q4.mono e1.kp).append (.cons rv .nil))
      exact h1.nx' k2 r2
    · exact h1.elim
theorem st_popAt {apos cpos : Pos} {m : Str} (hN : X.N.Nodup) (hm : TgName X j m) (hn : IsName X i n) (ha : PE X x (tE X.K L W Φ a)) (hline : (apos.endLine == cpos.line) = true) (hs : starEach [x] X.env = (false, eval x X.env) :: starEach [] X.env)
    (hfew : ((backTo cpos (starEach [x] X.env)).all (fun x => !x.1) && (backToKw cpos (keywordEach [] X.env)).all (fun x => x.1.isSome) && decide ([x].length + ([] : List Keyword).length + (if ([] : List Keyword).isEmpty then 0 else 1) < 30)) = true) :
    PS X (.Assign [.Name m p] (.Call (.Attribute (.Name n q) "pop" apos) [x] [] cpos) pos) (tS X.K L W Φ (.popAt j i a)) := by
  refine (ps_set (i := j) hN hm.hN hm.hl (pe_bm F.plainAttrs_list F.slot_list_pop F.type_list_pop mt_popAt (pe_var hn.hN hn.hv hn.hd hn.hc) (pa_cons ha pa_nil hs) rfl hfew hline hs rfl) rfl hm.hf).imp fun De σ H ⟨fr, B, μ, oa, ρ, M, rel, h⟩ => ?_
  rw [ex] at h
  cases e : slotO ρ i with
  | none => rw [e] at h; exact h.elim
  | some ds =>
    rw [e] at h
    obtain ⟨ad, vs, q1, q2, q3, q4⟩ := rel.sl i _ (slotO_eq e)
    refine ⟨_, q2, .inl ⟨rfl, vs, .of q3⟩, tE_out rel h fun H1 μ1 d M1 v r1 e1 rv h1 => ?_⟩
    cases rv <;> try exact h1.elim
    rename_i z
    dsimp only at h1
    cases es : seqIndex? z ds.length with
    | none => rw [es] at h1; exact h1.elim
    | some mm =>
      rw [es] at h1
      dsimp only at h1
      cases ex : ds[mm]? with
      | none => rw [ex] at h1; exact h1.elim
      | some d =>
        rw [ex] at h1
        dsimp only at h1
        split at h1
        · rename_i hz
          obtain ⟨z1, z2, z3⟩ := hz
          have q3' := e1.keep ad _ q3 (rel.on i ad q1).2.2
          have q4' := Rps.later e1 q4
          obtain ⟨v, v1, v2⟩ := q4'.get ex
          refine ⟨ad, vs, z, mm, v, rfl, rfl, q3', z1, z2, by rw [← q4.length]; exact es, v1, ?_⟩
          obtain ⟨r2, k2⟩ := r1.chg q1 q2 (q4'.eraseIdx mm)
          exact h1.nx' k2 (r2.setv (v2.mono k2))
        · exact h1.elim
theorem st_setO {spos : Pos} (hn : IsName X i n) (ha : PE X x (tE X.K L W Φ a)) (hk : PE X y (tE X.K L W Φ k)) (hs : swapsWithSole [.Subscript (.Name n q) y spos] x pos.line X.env = pure false) (hw : swappedStores [.Subscript (.Name n q) y spos] x X.env = pure none) (hy : ∀ l h p, y ≠ .Slice l h none p)
    (hass : ∀ v, assign (.Subscript (.Name n q) y spos) X.env v = (do
      let ov ← holding [v] (eval (.Name n q) X.env)
      let iv ← holding [v, ov] (eval y X.env)
      standAt spos
      holding [v, ov, iv] (setItem ov iv v)
      release [v, ov, iv] [])) :
    PS X (.Assign [.Subscript (.Name n q) y spos] x pos) (tS X.K L W Φ (.setO i k a)) := by
  refine (ps_asg ha (pg_sub (pe_var hn.hN hn.hv hn.hd hn.hc) hk set_list hass) hs hw rfl).imp fun De σ H ⟨fr, B, μ, oa, ρ, M, rel, h⟩ => ?_
  rw [ex] at h
  cases e : slotO ρ i with
  | none => rw [e] at h; exact h.elim
  | some ds =>
    rw [e] at h
    obtain ⟨ad, vs, q1, q2, q3, q4⟩ := rel.sl i _ (slotO_eq e)
    refine tE_out rel h fun H1 μ1 d M1 v r1 e1 rv h1 => ⟨_, q2, tE_out r1 h1 fun H2 μ2 d2 M2 v2 r2 e2 rv2 h2 => ?_⟩
    cases rv2 <;> try exact h2.elim
    rename_i z
    dsimp only at h2
    cases es : ixN ds.length z with
    | none => rw [es] at h2; exact h2.elim
    | some mm =>
      rw [es] at h2
      have q3' := e2.keep ad _ (e1.keep ad _ q3 (rel.on i ad q1).2.2) (r1.on i ad q1).2.2
      have q4' := Rps.later e2 (Rps.later e1 q4)
      refine ⟨ad, vs, z, mm, rfl, rfl, q3', by rw [← q4.length]; exact es, ?_⟩
      obtain ⟨r3, k3⟩ := r2.chg q1 q2 (Rps.set (Rp.later e2 rv) mm q4')
      exact h2.nx' k3 r3
/-- a cell is changed -/
theorem Rel.chgCell {K : PySem.W.Frag} {fr : Fr} {H : Hp} {B : Addr → Prop} {μ : List Addr} {oa : Nat → Option Addr} {ρ : Ev} {M : Mem} {σ : L2.St} {m : Nat} {ad : Addr} {ds : List D} {vs : List V} (r : Rl K fr B μ oa ρ M σ H) (hm : μ[m]? = some ad) (hr : Rps K H (ban B μ) μ ds vs) :
    Rl K fr B μ oa ρ (M.set m (.lst ds)) σ (upd H ad (.lst vs)) ∧ Kp H (upd H ad (.lst vs)) (ban B μ) (ban B μ) μ μ := by
  have hmem : ad ∈ μ := List.mem_of_getElem? hm
  have hba := r.cs.ban ad hmem
  have kp : Kp H (upd H ad (.lst vs)) (ban B μ) (ban B μ) μ μ := ⟨fun b o e n => ⟨by rw [upd_ne fun z => n (by rw [z]; exact hba)]; exact e, n⟩, fun _ _ e => e⟩
  refine ⟨?_, kp⟩
  refine { cs := ⟨r.cs.nd, by rw [List.length_set]; exact r.cs.len, r.cs.ban, fun n c b h1 h2 => ?_⟩, b0 := r.b0, bt := fun b z => ?_, bo := r.bo, oi := r.oi, on := r.on, sl := fun k s e => ?_, so := r.so, ln := r.ln, m0 := r.m0, ev := fun b o e n => ?_ }
  · by_cases hnm : n = m
    · subst hnm
      rw [hm] at h2
      cases h2
      rw [List.getElem?_set_self (by rw [r.cs.len]; exact (List.getElem?_eq_some_iff.mp hm).1)] at h1
      cases h1
      exact ⟨vs, upd_same, hr.mono kp⟩
    · rw [List.getElem?_set_ne (Ne.symm hnm)] at h1
      have hne : b ≠ ad := fun z => by
        subst z
        exact hnm ((List.getElem?_inj (List.getElem?_eq_some_iff.mp h2).1 r.cs.nd).mp (h2.trans hm.symm))
      have q := r.cs.at_ n c b h1 h2
      cases c with
      | lst es =>
        obtain ⟨ws, q1, q2⟩ := q
        exact ⟨ws, by rw [upd_ne hne]; exact q1, q2.mono kp⟩
      | dict _ => exact q
      | ins _ _ => exact q
  · by_cases e : b = ad
    · rw [e, upd_same]; exact fun w => nomatch w
    · rw [upd_ne e]; exact r.bt b z
  · have q := r.sl k s e
    cases s with
    | un => exact q
    | v d => obtain ⟨h1, v, h2, h3⟩ := q; exact ⟨h1, v, h2, h3.mono kp⟩
    | own es =>
      obtain ⟨b, ws, h1, h2, h3, h4⟩ := q
      exact ⟨b, ws, h1, h2, by rw [upd_ne fun z => (r.on k b h1).2.2 (by rw [z]; exact hmem)]; exact h3, h4.mono kp⟩
  · have hne : b ≠ ad := fun z => by
      subst z
      obtain ⟨t, ht, h1⟩ := r.m0
      rw [ht] at hmem
      rcases List.mem_append.mp hmem with z | z
      · exact n z
      · rw [(h1 _ z).1] at e; cases e
    rw [upd_ne hne]
    exact r.ev b o e n
theorem st_setC {spos : Pos} (ho : PE X z (tE X.K L W Φ b)) (ha : PE X x (tE X.K L W Φ a)) (hk : PE X y (tE X.K L W Φ k)) (hs : swapsWithSole [.Subscript z y spos] x pos.line X.env = pure false) (hw : swappedStores [.Subscript z y spos] x X.env = pure none)
    (hass : ∀ v, assign (.Subscript z y spos) X.env v = (do
      let ov ← holding [v] (eval z X.env)
      let iv ← holding [v, ov] (eval y X.env)
      standAt spos
      holding [v, ov, iv] (setItem ov iv v)
      release [v, ov, iv] [])) :
    PS X (.Assign [.Subscript z y spos] x pos) (tS X.K L W Φ (.setC b k a)) := by
  refine (ps_asg ha (pg_sub ho hk set_list hass) hs hw rfl).imp fun De σ H ⟨fr, B, μ, oa, ρ, M, rel, h⟩ => ?_
  rw [ex] at h
  refine tE_out rel h fun H1 μ1 d M1 v r1 e1 rv h1 => tE_out r1 h1 fun H2 μ2 d2 M2 v2 r2 e2 rv2 h2 => tE_out r2 h2 fun H3 μ3 d3 M3 v3 r3 e3 rv3 h3 => ?_
  have rv2' := Rp.later e3 rv2
  cases rv2' <;> try exact h3.elim
  rename_i m ad hm
  cases rv3 <;> try exact h3.elim
  rename_i zz
  dsimp only at h3
  cases ec : M3[m]? with
  | none => rw [ec] at h3; exact h3.elim
  | some c =>
    rw [ec] at h3
    cases c with
    | lst ds =>
      dsimp only at h3
      cases es : ixN ds.length zz with
      | none => rw [es] at h3; exact h3.elim
      | some mm =>
        rw [es] at h3
        obtain ⟨vs, q1, q2⟩ := r3.cs.at_ m _ ad ec hm
        refine ⟨ad, vs, zz, mm, rfl, rfl, q1, by rw [← q2.length]; exact es, ?_⟩
        obtain ⟨r4, k4⟩ := r3.chgCell hm (Rps.set (Rp.later e3 (Rp.later e2 rv)) mm q2)
        exact h3.nx' k4 r4
    | dict _ => exact h3.elim
    | ins _ _ => exact h3.elim
theorem st_expr (ha : PE X x (tE X.K L W Φ a)) (hs : swapsWith x none pos.line X.env = pure false) : PS X (.Expr x pos) (tS X.K L W Φ (.expr a)) := by
  refine (ps_expr ha hs).imp fun De σ H ⟨fr, B, μ, oa, ρ, M, rel, h⟩ => ?_
  rw [ex] at h
  exact tE_out rel h fun H1 μ1 d M1 v r1 e1 rv h1 => h1.nx r1
theorem st_ret (ha : PE X x (tE X.K L W Φ a)) : PS X (.Return (some x) pos) (tS X.K L W Φ (.ret a)) := by
  refine (ps_ret ha).imp fun De σ H ⟨fr, B, μ, oa, ρ, M, rel, h⟩ => ?_
  rw [ex] at h
  exact tE_out rel h fun H1 μ1 d M1 v r1 e1 rv h1 => h1 B μ1 oa ρ σ H1 v r1 rv
theorem st_ite (hc : PT X x (tT X.K L W Φ c)) (h1 : PSs X xs1 (tB X.K L W Φ b1)) (h2 : PSs X xs2 (tB X.K L W Φ b2)) : PS X (.If x xs1 xs2 pos) (tS X.K L W Φ (.ite c b1 b2)) := by
  refine (ps_if hc h1 h2).imp fun De σ H ⟨fr, B, μ, oa, ρ, M, rel, h⟩ => ?_
  rw [ex] at h
  refine tT_out rel h fun H1 μ1 k M1 r1 e1 h1 => ?_
  cases k with
  | true => exact iteT ⟨fr, B, μ1, oa, ρ, M1, r1, h1⟩
  | false => exact iteF ⟨fr, B, μ1, oa, ρ, M1, r1, h1⟩
end
end PC

namespace PC
open PySem PySem.Spec PyProof.Rows L2
section
variable {X : Cx} {L : Lg} {W : WX} {Φ : Fns} {a b c k : E} {s : S} {bl b1 b2 : PC.B} {it : PC.It} {t : Tg} {x y z tg : Expr} {xs : List Expr} {st : Stmt} {sts : List Stmt} {p q pos : Pos} {n : Str} {i j : Nat}
theorem ps_while' {cc : Expr} {body : List Stmt} {tc : TT} {tb : TS} (hp : PassesOwn (model X.prog X.w) X.A X.env X.xe) (hc : PT X cc tc) (hb : PSs X body tb) : PS X (.While cc body [] pos) (tWhile tc tb) := ps_while hp hc hb
theorem st_whl {m : Nat} (hp : PassesOwn (model X.prog X.w) X.A X.env X.xe) (hc : PT X x (tT X.K L W Φ c)) (hb : PSs X sts (tB X.K L W Φ bl)) : PS X (.While x sts [] pos) (tS X.K L W Φ (.whl m c bl)) := by
  refine (ps_while hp hc hb).imp fun De σ H ⟨fr, B, μ, oa, ρ, M, rel, h⟩ => ?_
  rw [ex] at h
  refine ⟨fun f σ H => ∃ B μ oa ρ M, Rl X.K fr B μ oa ρ M σ H ∧ PostO X.K L W fr B μ H (whlL (evT Φ c) (exs Φ bl) f ρ M) De, ⟨m, B, μ, oa, ρ, M, rel, h⟩, ?_⟩
  rintro f σ H ⟨B, μ, oa, ρ, M, rel, h⟩
  cases f with
  | zero => exact h.elim
  | succ f =>
    rw [whlL] at h
    refine tT_out rel h fun H1 μ1 k M1 r1 e1 h1 => ?_
    cases k with
    | false => exact iteF (h1.nx r1)
    | true =>
      refine iteT ⟨_, fun σ' H' w => ⟨f, Nat.lt_succ_self f, w⟩, ?_⟩
      exact ⟨fr, B, μ1, oa, ρ, M1, r1, PostO.imp (PostO.then h1 fun B' μ' oa' ρ' M' σ' H' _ r' h' => ⟨B', μ', oa', ρ', M', r', h'⟩) fun _ _ q => q⟩
theorem st_for (hp : PassesOwn (model X.prog X.w) X.A X.env X.xe) (hc : X.calm = true) (hN : X.N.Nodup) (hi : PI X tg x (tIF X.K L W Φ it)) (ht : TgOk X t tg) (hb : PSs X sts (tB X.K L W Φ bl)) (hs : ∀ v, foldedSetIterable x X.env v = pure v) :
    PS X (.For tg x sts [] pos) (tS X.K L W Φ (.for_ it t bl)) := by
  refine (ps_for hp hc hi (ht.pg hc hN) hb hs).imp fun De σ H ⟨fr, B, μ, oa, ρ, M, rel, h⟩ => ?_
  rw [ex] at h
  refine ⟨fr, B, μ, oa, ρ, M, rel, (PostO.first h).imp fun H1 μ1 ds M1 e1 r1 h1 J hJ => ?_⟩
  refine ⟨fun i m σ H => i ≤ ds.length ∧ m = ds.length - i ∧ ∃ B' μ' oa' ρ' M', Kp H1 H (ban B μ1) (ban B' μ') μ1 μ' ∧ Rl X.K fr B' μ' oa' ρ' M' σ H ∧ PostO X.K L W fr B' μ' H (forL t (exs Φ bl) (ds.drop i) ρ' M') De,
    ⟨ds.length, Nat.zero_le _, rfl, B, μ1, oa, ρ, M1, Kp.refl, r1, h1⟩, ?_⟩
  rintro i m σ H ⟨hi, rfl, B', μ', oa', ρ', M', kp, r', h'⟩
  obtain ⟨at1, at2⟩ := hJ H _ μ' kp r'.bt
  by_cases hlt : i < ds.length
  · refine .inr ⟨(at1 i ds[i] (List.getElem?_eq_getElem hlt)).1, fun σ H => ∃ B' μ' oa' ρ' M', Kp H1 H (ban B μ1) (ban B' μ') μ1 μ' ∧ Rl X.K fr B' μ' oa' ρ' M' σ H ∧ PostO X.K L W fr B' μ' H (forL t (exs Φ bl) (ds.drop (i + 1)) ρ' M') De,
      fun σ' H' w => ⟨ds.length - (i + 1), by omega, hlt, rfl, w⟩, fun v H3 y => ?_⟩
    obtain ⟨s3, rv⟩ := (at1 i ds[i] (List.getElem?_eq_getElem hlt)).2 v H3 y
    have hdrop : ds.drop i = ds[i] :: ds.drop (i + 1) := List.drop_eq_getElem_cons hlt
    rw [hdrop, forL] at h'
    cases ep : t.put ds[i] ρ' with
    | none => rw [ep] at h'; exact h'.elim
    | some ρ2 =>
      rw [ep] at h'
      refine gT_put (r'.same s3) rv ep fun σ2 oa2 r2 _ _ => ⟨fr, B', μ', oa2, ρ2, M', r2, ?_⟩
      have h2 := PostO.shift (Same.kp s3 : Kp H H3 (ban B' μ') (ban B' μ') μ' μ') h'
      exact PostO.imp (PostO.then h2 fun B'' μ'' oa'' ρ'' M'' σ'' H'' k'' r'' h'' => ⟨B'', μ'', oa'', ρ'', M'', (kp.trans (Same.kp s3)).trans k'', r'', h''⟩) fun _ _ q => q
  · have ei : i = ds.length := by omega
    subst ei
    rw [List.drop_length, forL] at h'
    exact .inl ⟨at2, h'.nx r'⟩
end
end PC

namespace PC
open PySem PySem.Spec PyProof.Rows L2
section
variable {K : PySem.W.Frag} {fr : Fr} {H H' : Hp} {B B' : Addr → Prop} {μ μ' : List Addr} {oa : Nat → Option Addr} {ρ : Ev} {M M' : Mem} {σ : L2.St} {L : Lg} {W : WX}
theorem flat_rp {d : D} {v : V} (f : d.flat = true) (h : Rp K H B μ d v) : Rp K H' B' μ' d v := by
  cases h <;> first | exact .non | exact .bl _ | exact .int _ | exact .str _ | cases f
theorem flat_rps : ∀ {ds : List D} {vs : List V}, ds.all D.flat = true → Rps K H B μ ds vs → Rps K H' B' μ' ds vs
  | _, _, _, .nil => .nil
  | _, _, f, .cons h r => by
    rw [List.all_cons, Bool.and_eq_true] at f
    exact .cons (flat_rp f.1 h) (flat_rps f.2 r)
/-- the state with slot i lent -/
theorem lend (rel : Rl K fr B μ oa ρ M σ H) {i : Nat} {xs : List D} (hi : ρ[i]? = some (.own xs)) : ∃ a vs, oa i = some a ∧ σ[i]? = some (some (.ref a)) ∧ H a = some (.lst vs) ∧
    Rl K fr (fun x => B x ∧ x ≠ a) μ (fun j => if j = i then none else oa j) (ρ.set i (.v (.lst xs))) M σ H := by
  obtain ⟨a, vs, h1, h2, h3, h4⟩ := rel.sl i _ hi
  obtain ⟨o1, o2, o3⟩ := rel.on i a h1
  have kp : Kp H H (ban B μ) (ban (fun x => B x ∧ x ≠ a) μ) μ μ := ⟨fun x o e n => ⟨e, fun z => n (z.elim (fun z => .inl z.1) .inr)⟩, fun _ _ e => e⟩
  refine ⟨a, vs, h1, h2, h3, ⟨⟨rel.cs.nd, rel.cs.len, fun x h => .inr h, fun n c x q1 q2 => ?_⟩, fun x h => ?_, fun x h => rel.bt x (h.elim (fun z => .inl z.1) .inr), fun j x h => ?_, fun j k x p q => ?_, fun j x h => ?_, fun j s h => ?_, fun j h => ?_, ?_, rel.m0, rel.ev⟩⟩
  · have q := rel.cs.at_ n c x q1 q2
    cases c with
    | lst es => obtain ⟨ws, q1, q2⟩ := q; exact ⟨ws, q1, q2.mono kp⟩
    | dict _ => exact q
    | ins _ _ => exact q
  · rcases rel.b0 x h with z | z
    · exact .inl ⟨z, fun e => o2 (e ▸ h)⟩
    · exact .inr z
  · by_cases e : j = i
    · simp only [if_pos e] at h; cases h
    · simp only [if_neg e] at h
      rcases rel.bo j x h with z | z
      · exact .inl ⟨z, fun q => e (rel.oi j i a (q ▸ h) h1)⟩
      · exact .inr z
  · by_cases e : j = i
    · simp only [if_pos e] at p; cases p
    · by_cases e2 : k = i
      · simp only [if_pos e2] at q; cases q
      · simp only [if_neg e] at p
        simp only [if_neg e2] at q
        exact rel.oi j k x p q
  · by_cases e : j = i
    · simp only [if_pos e] at h; cases h
    · simp only [if_neg e] at h; exact rel.on j x h
  · by_cases e : j = i
    · subst e
      have hl : j < ρ.length := (List.getElem?_eq_some_iff.1 hi).1
      rw [List.getElem?_set_self hl] at h
      cases h
      refine ⟨if_pos rfl, .ref a, h2, .lst ⟨h3, fun z => ?_⟩ (h4.mono kp)⟩
      rcases z with z | z
      · exact z.2 rfl
      · exact o3 z
    · rw [List.getElem?_set_ne (fun z => e z.symm)] at h
      have q := rel.sl j s h
      simp only [if_neg e]
      cases s with
      | un => exact q
      | v d => obtain ⟨q1, v, q2, q3⟩ := q; exact ⟨q1, v, q2, q3.mono kp⟩
      | own ds => obtain ⟨b, ws, q1, q2, q3, q4⟩ := q; exact ⟨b, ws, q1, q2, q3, q4.mono kp⟩
  · by_cases e : j = i
    · exact if_pos e
    · simp only [if_neg e]
      refine rel.so j ?_
      rw [List.getElem?_set_ne (fun z => e z.symm)] at h
      exact h
  · rw [List.length_set]; exact rel.ln
/-- and given back -/
theorem unlend (rel : Rl K fr B μ oa ρ M σ H) {i : Nat} {xs : List D} {a : Addr} (hi : ρ[i]? = some (.own xs)) (ha : oa i = some a) (e : Evo μ H μ' H') {ρ' : Ev} {oa' : Nat → Option Addr}
    (r : Rl K fr (fun x => B x ∧ x ≠ a) μ' oa' ρ' M' σ H') (hm : Mem.flat M' = true) : Rl K fr B μ' oa ρ M' σ H' := by
  have keep : ∀ x o, H x = some o → x ∉ μ → H' x = some o := e.keep
  have notin : ∀ x o, H x = some o → x ∉ μ → x ∉ μ' := fun x o h n z => n (e.old z h)
  refine ⟨⟨r.cs.nd, r.cs.len, fun x h => .inr h, fun n c x q1 q2 => ?_⟩, fun x h => (rel.b0 x h).elim .inl fun z => .inr (e.mem z), fun x h => ?_, fun j x h => (rel.bo j x h).elim .inl fun z => .inr (e.mem z), rel.oi, fun j x h => ?_, fun j s h => ?_, rel.so, rel.ln, r.m0, r.ev⟩
  · have q := r.cs.at_ n c x q1 q2
    have f := List.all_eq_true.1 hm c (List.mem_of_getElem? q1)
    cases c with
    | lst es => obtain ⟨ws, q1, q2⟩ := q; exact ⟨ws, q1, flat_rps f q2⟩
    | dict _ => exact q
    | ins _ _ => exact q
  · rcases h with h | h
    · by_cases q : x = a
      · subst q
        obtain ⟨a', vs, h1, _, h3, _⟩ := rel.sl i _ hi
        rw [ha] at h1; cases h1
        rw [keep x _ h3 (rel.on i x ha).2.2]; exact fun z => nomatch z
      · exact r.bt x (.inl ⟨h, q⟩)
    · exact r.bt x (.inr h)
  · obtain ⟨o1, o2, o3⟩ := rel.on j x h
    refine ⟨o1, o2, fun z => ?_⟩
    cases q : H x with
    | none => exact rel.bt x (rel.bo j x h) q
    | some o => exact notin x o q o3 z
  · have q := rel.sl j s h
    cases s with
    | un => exact q
    | v d => obtain ⟨q1, v, q2, q3⟩ := q; exact ⟨q1, v, q2, q3.mono e.kp⟩
    | own ds =>
      obtain ⟨b, ws, q1, q2, q3, q4⟩ := q
      exact ⟨b, ws, q1, q2, keep b _ q3 (rel.on j b q1).2.2, q4.mono e.kp⟩
theorem slotO_own {ρ : Ev} {i : Nat} {xs : List D} (h : slotO ρ i = some xs) : ρ[i]? = some (.own xs) := by
  unfold slotO at h
  split at h
  · rename_i e; cases h; exact e
  · cases h
theorem e_borrow {X : Cx} {x : Expr} {Φ : Fns} {c : E} {i : Nat} (h : PE X x (tE X.K L W Φ c)) : PE X x (tE X.K L W Φ (.borrow i c)) := h.imp fun σ H Q ⟨fr, B, μ, oa, ρ, M, rel, hp⟩ => by
  simp only [ev] at hp
  cases es : slotO ρ i with
  | none => rw [es] at hp; exact hp.elim
  | some xs =>
    rw [es] at hp
    have hi := slotO_own es
    obtain ⟨a, vs, h1, h2, h3, rl⟩ := lend rel hi
    refine ⟨fr, _, μ, _, _, M, rl, ?_⟩
    simp only at hp
    cases e : ev Φ c (ρ.set i (.v (.lst xs))) M with
    | bad => rw [e] at hp; exact hp.elim
    | err x M1 => rw [e] at hp; exact hp.elim
    | ok d M1 =>
      rw [e] at hp
      simp only [Res.calm, Res.bind_ok] at hp
      by_cases hf : (d.flat && Mem.flat M1) = true
      · rw [if_pos hf] at hp
        rw [Bool.and_eq_true] at hf
        exact fun H' μ' ee r v rv => hp H' μ' ee (unlend rel hi h1 ee r hf.2) v (flat_rp hf.1 rv)
      · rw [if_neg hf] at hp; exact hp.elim
theorem t_borrow {X : Cx} {x : Expr} {Φ : Fns} {c : E} {i : Nat} (h : PT X x (tT X.K L W Φ c)) : PT X x (tT X.K L W Φ (.borrow i c)) := h.imp fun σ H Q ⟨fr, B, μ, oa, ρ, M, rel, hp⟩ => by
  unfold evT at hp
  simp only [ev] at hp
  cases es : slotO ρ i with
  | none => rw [es] at hp; exact hp.elim
  | some xs =>
    rw [es] at hp
    have hi := slotO_own es
    obtain ⟨a, vs, h1, h2, h3, rl⟩ := lend rel hi
    refine ⟨fr, _, μ, _, _, M, rl, ?_⟩
    simp only at hp
    unfold evT
    cases e : ev Φ c (ρ.set i (.v (.lst xs))) M with
    | bad => rw [e] at hp; exact hp.elim
    | err x M1 => rw [e] at hp; exact hp.elim
    | ok d M1 =>
      rw [e] at hp
      simp only [Res.calm, Res.bind_ok] at hp ⊢
      by_cases hf : (d.flat && Mem.flat M1) = true
      · rw [if_pos hf] at hp
        rw [Bool.and_eq_true] at hf
        simp only [Res.bind_ok] at hp
        cases et : d.truth M1 with
        | none => rw [et] at hp; exact hp.elim
        | some k =>
          rw [et] at hp
          exact fun H' μ' ee r => hp H' μ' ee (unlend rel hi h1 ee r hf.2)
      · rw [if_neg hf] at hp; exact hp.elim
end
end PC

set_option maxHeartbeats 2000000
namespace PC
open PySem PySem.Spec PyProof.Rows L2 PySem.W PySem.Calls
/-- what is told of the def and its class -/
structure InitIn (P : Program) (K : PySem.W.Frag) (mg : Str → Option Value) (C fI : Addr) (fd : FuncData) (x f : Str) (one : Bool) : Prop where
  oex : OexC K C
  hB : subIn K (.ref C) (.type "ValueError") = some true
  hm : ks_superIn K C C "__init__" = some (some (.builtin "ValueError.__init__"))
  hsub : mroIn K C (.ref C) = some true
  ho : nsIn K cStatics "thirdparty.any" = some none
  hno : findIn K (.ref C) f = some none
  hsu : mg "super" = none
  htop : (P.main.scope.names.lookup ("super" : Str)).isSome = false
  fn : ∃ name qual params scope dV kV doc pm an cda ct cc body oc od osl vs file tf ccl cdd ccs cl cld csl, fd = ksFn name qual params body scope dV kV doc pm an (.ref cda) ct cc ∧ K.lookup fI = some ⟨oc, od, .func fd, osl⟩ ∧ codeIn K (.ref cda) qual = true ∧
    K.lookup cda = some ⟨ccl, cdd, .fields vs, ccs⟩ ∧ vs[2]? = some (.str file tf) ∧ ((P.main.file : Str) == file) = true ∧ K.lookup cc = some ⟨cl, cld, .cell (some (.ref C)), csl⟩ ∧
    scope.names.lookup ("super" : Str) = some .globalImplicit ∧ scope.names.lookup ("__class__" : Str) = some .free ∧ scope.names.lookup ("self" : Str) = some .local ∧ scope.names.lookup x = some .local ∧ scope.kind = .function ∧ scope.isCoroutine = false ∧ scope.isGenerator = false ∧
    (∀ y ∈ scope.names, y.2 ≠ .cell) ∧ (∃ ar, (params.posonlyargs ++ params.args).head? = some ar ∧ ar.arg = "self") ∧ x ≠ "self" ∧ (x == ("__debug__" : Str)) = false ∧ (x == ("__classdict__" : Str)) = false ∧
    ∃ p0 p1 p2 p3 p4 p5 p6 p7 p8 ea, body = [.Expr (.Call (.Attribute (.Call (.Name "super" p0) [] [] p1) "__init__" p2) [ea] [] p3) p4, .Assign [.Attribute (.Name "self" p5) f p6] (.Name x p7) p8] ∧ (p2.endLine == p3.line) = true ∧
      ((one = true ∧ ∃ q, ea = .Name x q) ∨ (one = false ∧ ∃ y k q, ea = .Constant (.str y) k q))
def spXI (C : Addr) (f : Str) : Sp := fun vs H Q _ => ∃ a v, vs = [.ref a, v] ∧ H a = some (exo a C none) ∧ ∀ dx, H dx = none → dx ≠ a → Q .non (upd (upd H dx (exd dx [(f, v)])) a (exo a C (some dx)))
section
variable {P : Program} {w : World} {K : PySem.W.Frag} {mg : Str → Option Value} {base : Heap} {CX : CXT} {A : Around} {E : Value → Shared → Prop}
/-- the wrapper that super() gave, called -/
theorem call_wrap {h : Heap} {g : Array GenState} {d : Drawn} {t : Nat} {os : OsState} {nm q : Str} {C N : Addr} {bs bm : List Value} {hd : Bool} {sn : List Str} {sub : List Value} {ab : Bool} {col : Option Bool} {dd : Option Addr} {k0 k1 k2 k3 k5 : Option Value} {u e t0 : Addr} {rest : List Value} {Q : Value → Shared → Prop}
    (hC : h.get? C = some (excClassObj nm q C N bs bm hd sn sub ab col dd k0 k1 k2 k3 k5 "ValueError.__new__")) (he : h.get? e = some (excObj C t0 none .none)) (hu : h.get? u = some (kxs_mw "ValueError.__init__" e)) (hz : rest.length ≤ sizeLine)
    (hq : ∀ h' t1, (∀ b o, b ≠ e → h.get? b = some o → h'.get? b = some o) → h'.get? e = some (excObj C t1 none .none) → Q .none ⟨h', g, d, t, os⟩) :
    wpAny (model P w) A (call (.ref u) rest) Q E ⟨h, g, d, t, os⟩ := by
  have w1 : (Value.type "method-wrapper" == Value.type "method" || Value.type "method-wrapper" == Value.type "builtin_function_or_method" || Value.type "method-wrapper" == Value.type "method-wrapper") = true := by decide
  refine wpAny_call (codeAny_of_tree ?_); show wpAny _ A.in1 (callAny (.ref u) ⟨rest, []⟩) _ _ _
  simp only [callAny]
  refine wpAny_bind (wpAny_load hu ?_); simp only [kxs_mw, w1, if_true]
  refine KFB.if_so (by decide) (wpAny_bind (check_bound_init F.excBase_ValueError.toExcCallFacts hC he rfl (wpAny_bind (wpAny_pure (wpAny_pure ?_)))))
  refine ⟨plainId_quiet F.excBase_ValueError.init.plain _, codeAny_builtin F.excBase_ValueError.initEntry ?_⟩
  exact exc_init_tree (cls := .ref C) (t0 := t0) (dv := none) (c2 := .none) (c3 := .none) (b4 := .bool false) he hz fun h' k e1 _ => hq h' _ k e1
/-- behind the call: the exception has its dict -/
theorem made_ce {outer : List Env} {s s' : Shared} {H : Hp} {Q : VK} {a C dx : Addr} {f : Str} {v : V} {u : Value} {t1 : Addr} (hok : HOk P w H s.heap) (ha : H a = some (exo a C none)) (os : s'.os = s.os) (bare : AllBare s'.gens) (ru : RelV v u)
    (k : ∀ b o, b ≠ a → s.heap.get? b = some o → s'.heap.get? b = some o) (hx : s'.heap.get? a = some ({ cls := .ref C, dict := some dx, data := .fields #[.ref t1, .none, .none, .none, .bool false, .none] } : Obj))
    (hn : s'.heap.Ns1 dx (fun y => if y = f then some u else none)) (hd : s.heap.objs.size ≤ dx) (q : ∀ dx, H dx = none → dx ≠ a → Q .non (upd (upd H dx (exd dx [(f, v)])) a (exo a C (some dx)))) : CE outer P w H s Q .none s' := by
  have nd : ∀ {b : Addr} {o : Obj}, s.heap.get? b = some o → b ≠ dx := fun z => Nat.ne_of_lt (Nat.lt_of_lt_of_le (Heap.lt_size z) hd)
  have hnd : H dx = none := hok.fresh hd
  have na : ∀ {b : Addr}, H b = none → b ≠ a := fun n z => by rw [z, ha] at n; cases n
  have dne : dx ≠ a := na hnd
  refine ⟨.non, _, os, bare, ?_, fun b o z => ?_, rfl, q dx hnd dne⟩
  · exact {
      keep := fun b o z n _ _ => k b o (na n) z
      slot := fun b o z n _ _ => ⟨o.slots, k b o (na n) z⟩
      free := fun b o z n _ => by rw [upd_ne (na n), upd_ne (nd z)]; exact n
      there := fun b o z _ => by
        by_cases e : b = a
        · exact ⟨_, e ▸ hx⟩
        · exact ⟨o, k b o e z⟩
      tups := fun b xs z => by rw [upd_ne (at_ne ha z exo_tup), upd_ne (ne_of_none z hnd)]; exact z
      frzs := fun b o y z => by rw [upd_ne (at_ne ha z exo_frz), upd_ne (ne_of_none z hnd)]; exact z
      tbls := fun b ps z => ⟨#[], by rw [upd_ne (at_ne ha z exo_tbl), upd_ne (ne_of_none z hnd), z]; simp⟩ }
  · by_cases e : b = a
    · subst e
      rw [upd_same] at z
      cases z
      exact exo_ok hx
    · rw [upd_ne e] at z
      by_cases e2 : b = dx
      · subst e2
        rw [upd_same] at z
        cases z
        exact exd_ok hn (relO_put (fs := []) ru fun _ => True.intro)
      · rw [upd_ne e2] at z
        refine (hok b o z).stay (fun c y hc z2 => k c y ?_ z2) (fun c hc => ?_) (fun c xs hc => ?_)
        · rcases hc with hc | hc
          · exact hc ▸ e
          · exact at_ne ha hc exo_own
        · rw [upd_ne (at_ne ha hc exo_own), upd_ne (ne_of_none hc hnd)]; exact hc
        · rw [upd_ne (at_ne ha hc exo_tup), upd_ne (ne_of_none hc hnd)]; exact hc
/-- self.f = x, behind the call of the wrapper -/
theorem second {env : Env} {outer : List Env} {s0 s3 : Shared} {H : Hp} {Q : VK} {a C L : Addr} {x f : Str} {v : V} {u z : Value} {h1 h2 : Heap} {p5 p6 p7 p8 : Pos} {m : Str → Option Value} (T : OexC K C) (hno : findIn K (.ref C) f = some none)
    (hk : env.scope.kind = .function) (hs : env.kindOf "self" = some .local) (hx : env.kindOf x = some .local) (xd : (x == ("__debug__" : Str)) = false) (hL : env.locals = L) (ns1 : h1.Ns L m) (ms : m "self" = some (.ref a)) (mx : m x = some u)
    (e0 : Env0 P w K mg base A outer s0 H) (ha : H a = some (exo a C none)) (ru : RelV v u) (nL : s0.heap.objs.size = L) (k1 : ∀ b o, s0.heap.get? b = some o → h1.get? b = some o) (k2 : ∀ b o, h1.get? b = some o → h2.get? b = some o)
    (q : ∀ dx, H dx = none → dx ≠ a → Q .non (upd (upd H dx (exd dx [(f, v)])) a (exo a C (some dx)))) (eh : s3.heap = h2.push (kxs_mw "ValueError.__init__" a)) (eg : s3.gens = s0.gens) (eo : s3.os = s0.os) {A' : Around} :
    wpAny (model P w) A' (call (.ref h2.objs.size) [z]) (fun _ s4 => wpAny (model P w) A' (exec (.Assign [.Attribute (.Name "self" p5) f p6] (.Name x p7) p8) env) (fun fl s5 => fl = .next ∧ CE outer P w H s0 Q .none s5) E s4) E s3 := by
  have KX : K.In s0.heap := e0.mod.kin.keeps fun b o e => (e0.bs b o e).1
  obtain ⟨nm, qn, N, bs, bm, sn, sub, ab, col, dd, w0, w1, w2, w3, w5, lC, hbm⟩ := T.cls
  have hcl : clsIn K C = some { name := nm, bases := bs, mro := .ref C :: bm, ns := N, qualname := qn, hasDict := true, slotNames := sn, subclasses := sub, abstract := ab, collection := col, hasDel := false } := by unfold clsIn; rw [lC] <;> rfl
  obtain ⟨t0, hoa⟩ := exo_at e0.hok ha
  have K1 : K.In h1 := KX.keeps k1
  have oa2 := k2 _ _ (k1 _ _ hoa)
  have pw : (h2.push (kxs_mw "ValueError.__init__" a)).get? h2.objs.size = some (kxs_mw "ValueError.__init__" a) := Heap.get?_push_size h2 rfl
  have k3 : ∀ b o, h2.get? b = some o → (h2.push (kxs_mw "ValueError.__init__" a)).get? b = some o := fun b o z => Heap.get?_push_of_some _ z
  obtain ⟨h3, g3, d3, t3, os3⟩ := s3
  dsimp only at eh eg eo
  subst eh eg eo hL
  refine call_wrap (k3 _ _ (k2 _ _ (K1 _ _ lC))) (k3 _ _ oa2) pw (by rw [sizeLine_eq]; show 1 ≤ _; omega) fun h4 t1 k4 e4 => ?_
  have kk : ∀ b o, h1.get? b = some o → b ≠ a → h4.get? b = some o := fun b o y ne => k4 b o ne (k3 b o (k2 b o y))
  have K4 : K.In h4 := fun b o y => by
    refine kk b o (K1 _ _ y) fun e => ?_
    subst e
    obtain ⟨o', q2⟩ : ∃ o', base.get? b = some o' := ⟨_, e0.mod.kin _ _ y⟩
    rw [(e0.bs _ _ q2).2] at ha
    cases ha
  have neL : env.locals ≠ a := by rw [← nL]; exact Nat.ne_of_gt (Heap.lt_size hoa)
  obtain ⟨oL, es, ep, hoL, r⟩ := id ns1
  have ns4 : h4.Ns env.locals m := ⟨oL, es, ep, kk _ _ hoL neL, r⟩
  refine plainObj_wpAny_Assign_Attribute (wpAny_Name (wpAny_loadName_local hk hx ns4 mx (wpAny_Name (wpAny_loadName_local hk hs ns4 ms ?_) (by decide))) xd) rfl
  refine set_plain K4 (ox := { cls := .ref C, dict := none, data := .fields #[.ref t1, .none, .none, .none, .bool false, .none] }) (od := none) ⟨e4, rfl, rfl, trivial⟩ T.sa ?_
  refine PySem.HandSPX.exc_osa K4 e4 hcl (show PySem.HandSPX.refsVE (.ref C :: bm) = true from hbm) rfl hno (fun h5 tk' dx k5 dn dne hx hn => ?_)
  have sz : s0.heap.objs.size ≤ dx := by
    have z1 : h2.objs.size < h4.objs.size := Heap.lt_size (k4 h2.objs.size _ (Nat.ne_of_gt (Heap.lt_size oa2)) pw)
    have z2 : env.locals < h2.objs.size := Heap.lt_size (k2 _ _ hoL)
    rw [nL]
    exact Nat.le_of_lt (Nat.lt_of_lt_of_le (Nat.lt_trans z2 z1) dn)
  exact ⟨rfl, made_ce (s' := ⟨h5, s0.gens, d3, tk', s0.os⟩) e0.hok ha rfl e0.bare ru (fun b o ne y => k5 b o ne (kk b o (k1 b o y) ne)) hx hn sz q⟩
theorem exinit_ok {C fI : Addr} {fd : FuncData} {x f : Str} {one : Bool} (J : InitIn P K mg C fI fd x f one) : FnOk P w K mg base CX 1 fI fd ["self", x] (spXI C f) := by
  refine ⟨fun vs H Q E h => by obtain ⟨_, _, rfl, _⟩ := h; rfl, fun A outer s H args us vs Q E hr e0 hb rv hsp => ?_⟩
  obtain ⟨a, v, rfl, ha, q⟩ := hsp
  cases rv with
  | @cons _ u0 _ ur r0 rv =>
  cases rv with
  | @cons _ u _ ur ru rv =>
  cases rv
  obtain rfl : u0 = Value.ref a := r0
  obtain ⟨name, qual, params, scope, dV, kV, doc, pm, an, cda, ct, cc, body, oc, od, osl, cvs, file, tf, ccl, cdd, ccs, cl, cld, csl, rfl, lk, hcd, lcd, hvs, hfile, lcc, n1, n2, n3, n4, kd, co, gen, nocell, ⟨ar, hp, har⟩, xs, xd, xc, p0, p1, p2, p3, p4, p5, p6, p7, p8, ea, rfl, hline, hea⟩ := J.fn
  obtain ⟨skind, nms, sgen, sco, more⟩ := scope
  dsimp only at n1 n2 n3 n4 kd co gen nocell
  subst kd co gen
  have KX : K.In s.heap := e0.mod.kin.keeps fun b o e => (e0.bs b o e).1
  have lim : s.heap.NoLimit := e0.mod.nolimit.keeps fun b o e => (e0.bs b o e).1
  obtain ⟨nm, qn, N, bs, bm, sn, sub, ab, col, dd, w0, w1, w2, w3, w5, lC, hbm⟩ := J.oex.cls
  have hcl : clsIn K C = some { name := nm, bases := bs, mro := .ref C :: bm, ns := N, qualname := qn, hasDict := true, slotNames := sn, subclasses := sub, abstract := ab, collection := col, hasDel := false } := by unfold clsIn; rw [lC] <;> rfl
  obtain ⟨t0, hoa⟩ := exo_at e0.hok ha
  obtain ⟨mb, b1, b2⟩ := e0.mod.blt
  have mro : alongIn K "__init__" (((.ref C :: bm : List Value).dropWhile (· != .ref C)).drop 1) = some (some (.builtin "ValueError.__init__")) := by
    have z := J.hm
    unfold ks_superIn at z
    rw [hcl] at z
    exact z
  obtain ⟨sh, sg, sd, st, sos⟩ := s
  have lself : ([("self", Value.ref a), (x, u)] : List (Str × Value)).reverse.lookup ("self" : Str) = some (.ref a) := by
    have e : (("self" : Str) == x) = false := by
      rw [beq_eq_false_iff_ne]; exact fun z => xs z.symm
    show List.lookup ("self" : Str) ([(x, u), ("self", Value.ref a)] : List (Str × Value)) = _
    simp [List.lookup, e]
  have lx : ([("self", Value.ref a), (x, u)] : List (Str × Value)).reverse.lookup x = some u := by
    show List.lookup x ([(x, u), ("self", Value.ref a)] : List (Str × Value)) = _
    simp [List.lookup]
  rcases hea with ⟨rfl, qq, rfl⟩ | ⟨rfl, y, kk, qq, rfl⟩
  all_goals
    refine ks_codeAny_call_defAt (binds := [("self", .ref a), (x, u)]) hr.depth (KX _ _ lk) rfl lim (codeRec_of KX hcd) rfl hb nocell (fun y hy => ?_) (fun h1 ns1 k1 => ?_) rfl rfl rfl
    · rcases List.mem_cons.1 hy with rfl | hy
      · exact n3
      · rw [List.mem_singleton.1 hy]; exact n4
    have gl : h1.Ns mainGlobals mg := (e0.mod.glob.keeps fun b o e => (e0.bs b o e).1).keeps k1
    have bl : h1.Ns builtinsNs mb := (b1.keeps fun b o e => (e0.bs b o e).1).keeps k1
    have K1 : K.In h1 := KX.keeps k1
    refine ks_wpAt_execs_cons (ks_wpAt_Expr_any (ks_wpAt_MethodCall ?_ (by
      show (attributeBase _ _ _ _ >>= fun ov => standAt _ >>= fun _ => methodCall _ _ _ _ _ ov _ _ _) = _
      unfold methodCall methodCallPos
      simp only [hline, Bool.or_true, if_true, pure_bind]
      rfl)))
    refine ks_wpAt_super_base (ar := ar) n1 n2 (by decide) rfl (K1 _ _ lk) rfl hp rfl (K1 _ _ lcd) rfl hvs hfile J.htop ?_
    refine ks_loadName_global rfl n1 (loadGlobal_builtin gl J.hsu bl ((b2 _ (by decide)).trans (by decide +kernel)) ⟨rfl, ?_⟩)
    refine wpAny_loadName_free rfl n2 rfl ⟨_, K1 _ _ lcc, rfl⟩ ?_
    rw [har]
    refine wpAny_loadName_local rfl n3 ns1 lself ?_
    refine ks_wpAny_isType_cls (K1 _ _ lC) rfl ⟨rfl, ?_⟩
    refine ks_wpAny_call_super (K1 _ _ lC) rfl (k1 _ _ hoa) rfl (fun c z => nomatch z) (looks_mroIn K1 J.hsub) (fun h2 e2 k2 => ?_)
    have K2 := K1.keeps k2
    have oa2 := k2 _ _ (k1 _ _ hoa)
    have I2 : InstAt h2 a _ C none := ⟨oa2, rfl, rfl, trivial⟩
    refine kxs_getMethod kxs_ValueError e2 (looks_opaque K2 J.ho) (l₀ := .ref C :: bm) (fun A Q E s k q => wpAny_bind ((looks_clsIn K2 hcl) A _ E s k (wpAny_pure q))) rfl K2 mro (I2.type.andThen (looks_subIn K2 J.hB)) (ks_ne K2 I2 hcl) (by decide) ?_
    have pw : (h2.push (kxs_mw "ValueError.__init__" a)).get? h2.objs.size = some (kxs_mw "ValueError.__init__" a) := Heap.get?_push_size h2 rfl
    refine kxs_callWith (i := "ValueError.__init__") (x := a) rfl (evalArgs_plain (spliced_cons ?_))
  · obtain ⟨oL, es, ep, hoL, r⟩ := id ns1
    refine wpAny_Name (wpAny_loadName_local rfl (show Env.kindOf _ x = some .local from n4) (⟨oL, es, ep, Heap.get?_push_of_some _ (k2 _ _ hoL), r⟩ : Heap.Ns _ sh.objs.size _) lx (spliced_nil ⟨pw, ?_⟩)) xd
    refine wpAny_mono (second (s0 := ⟨sh, sg, sd, st, sos⟩) (h1 := h1) (env := callEnv (ksFn name qual params [.Expr (.Call (.Attribute (.Call (.Name "super" p0) [] [] p1) "__init__" p2) [.Name x qq] [] p3) p4, .Assign [.Attribute (.Name "self" p5) f p6] (.Name x p7) p8] ⟨.function, nms, false, false, more⟩ dV kV doc pm an (.ref cda) ct cc) sh.objs.size fI) (p5 := p5) (p6 := p6) (p7 := p7) (p8 := p8) J.oex J.hno rfl n3 n4 xd rfl ns1 lself lx e0 ha ru rfl k1 k2 q ?e1 ?e2 ?e3) (fun _ s4 z => ?_) fun _ _ z => z
    case e1 => rfl
    case e2 => rfl
    case e3 => rfl
    refine ks_wpAt_execs_cons (wpAt_of_wpAny (wpAny_mono z (fun fl s5 z => ?_) fun _ _ z => z))
    obtain ⟨rfl, z⟩ := z
    exact wpAt_of_wpAny (wpAny_execs_nil z)
  · refine Constant_str (x := y) (k := kk) (pos := qq) (spliced_nil ⟨pw, ?_⟩)
    refine wpAny_mono (second (z := .str y (st + [(("self" : Str), Value.ref a), (x, u)].length + 1)) (s0 := ⟨sh, sg, sd, st, sos⟩) (h1 := h1) (env := callEnv (ksFn name qual params [.Expr (.Call (.Attribute (.Call (.Name "super" p0) [] [] p1) "__init__" p2) [.Constant (.str y) kk qq] [] p3) p4, .Assign [.Attribute (.Name "self" p5) f p6] (.Name x p7) p8] ⟨.function, nms, false, false, more⟩ dV kV doc pm an (.ref cda) ct cc) sh.objs.size fI) (p5 := p5) (p6 := p6) (p7 := p7) (p8 := p8) J.oex J.hno rfl n3 n4 xd rfl ns1 lself lx e0 ha ru rfl k1 k2 q ?e1 ?e2 ?e3) (fun _ s4 z => ?_) fun _ _ z => z
    case e1 => rfl
    case e2 => rfl
    case e3 => rfl
    refine ks_wpAt_execs_cons (wpAt_of_wpAny (wpAny_mono z (fun fl s5 z => ?_) fun _ _ z => z))
    obtain ⟨rfl, z⟩ := z
    exact wpAt_of_wpAny (wpAny_execs_nil z)
end
end PC

set_option maxHeartbeats 2000000
namespace PC
open PySem PySem.Spec PyProof.Rows L2
abbrev SuT := Addr → Value → Option Addr → TS
def inσ (i : Option Nat) (σ : L2.St) (a : Addr) : L2.St := match i with | none => σ | some k => σ.set k (some (.ref a))
def ouσ (i : Option Nat) (σ : L2.St) : L2.St := match i with | none => σ | some k => σ.set k none
def ouD (i : Option Nat) (D : Ends) : Ends := { nx := fun σ H => D.nx (ouσ i σ) H, rt := D.rt, bk := fun σ H => D.bk (ouσ i σ) H, ct := fun σ H => D.ct (ouσ i σ) H }
/-- what the clauses wish of the body's exceptions -/
def wG (K : PySem.W.Frag) (Wo : WX) (D : Ends) : List (Value × Option Nat × SuT) → WX
  | [] => Wo
  | (c, i, ts) :: r => fun cls d σ H => ∃ b, PySem.W.exmOne K cls c = some b ∧ (b = true → ∀ a, H a = none → ts a cls d (ouD i D) (inσ i σ a) H) ∧ (b = false → wG K Wo D r cls d σ H)
/-- a clause's name -/
def NmOk (X : Cx) : Option Str → Option Nat → Prop
  | none, none => True
  | some n, some k => X.N[k]? = some n ∧ X.env.kindOf n = some .local
  | _, _ => False
inductive HdG (X : Cx) : List ExceptHandler → List (Value × Option Nat × SuT) → Prop
  | nil : HdG X [] []
  | cons {x : Str} {c : Value} {i : Option Nat} {n : Option Str} {ts : SuT} {st : Stmt} {sts : List Stmt} {p q : Pos} {hds : List ExceptHandler} {l : List (Value × Option Nat × SuT)} (nm : Names X x c) (no : NmOk X n i)
      (su : ∀ (a : Addr) (oe : Obj) (cls : Value) (d : Option Addr) (pn : List (Addr × Obj)), Zc cls d oe → (∃ vs, oe.data = .fields vs) → PSs (X.suite a ((a, oe) :: pn)) (st :: sts) (ts a cls d)) (r : HdG X hds l) :
      HdG X (.ExceptHandler (some (.Name x p)) n (st :: sts) q :: hds) ((c, i, ts) :: l)
section
variable {X : Cx} {body : List Stmt} {h₀ : ExceptHandler} {hds : List ExceptHandler} {l : List (Value × Option Nat × SuT)} {pos : Pos} {tb : WX → TS} {Wo : WX}
theorem ps_tryG (sk : X.stack = X.env :: X.outer) (fr : X.env.frame = some X.env.locals) (nd : X.N.Nodup) (tk : Takes X Wo)
    (bd : ∀ (W : WX) (pn : List (Addr × Obj)) (xe : Value → Shared → Prop), Takes (X.tr pn xe) W → PassesOwn (model X.prog X.w) X.A X.env xe → PSs (X.tr pn xe) body (tb W))
    (hh : HdG X (h₀ :: hds) l) : PS X (.Try body (h₀ :: hds) [] [] pos) (fun D σ H => tb (wG X.K Wo D l) D σ H) := by
  refine ⟨fun pins s σ H D I h => wpAny_Try_except ?_⟩
  have ok := I.ok
  have frs' : X.A.frames = some (X.env :: X.outer) := by rw [ok.frames, sk]
  refine wpAny_mono ((bd (wG X.K Wo D l) (X.pn ++ pins) (fun e t1 => wpAny (model X.prog X.w) X.A (noteFrame e X.env) (fun _ t2 => wpAny (model X.prog X.w) X.A (setFlight e none) (fun _ t3 =>
    wpAny (model X.prog X.w) X.A (handleBy e X.env (h₀ :: hds)) (SP X pins D) X.xe t3) X.xe t2) X.xe t1) (fun u t xx => ?_) PassesOwn.looking).run [] s σ H D (I.toTry _) h) (fun f t sp => ?_) (fun e t z => z)
  · obtain ⟨a, G, sI, pins', τ, H1, cls, d, rfl, Jt, nb, up, sky, na, os, ag, w⟩ := xx
    have J : Inv X pins τ H1 sI := Jt.ofTry ok
    have sky' : Sky G (X.env :: X.outer) a (Zc cls d) X.env.locals t.heap := by rw [← sk]; exact sky
    show wpAny (model X.prog X.w) X.A (noteFrame (.ref a) X.env) _ _ _
    refine Sky.land Zc.steady frs' fr sky' fun g3 fl3 up3 => ?_
    have J3 : Inv X pins τ H1 { t with heap := g3 } := J.landed nb fl3.1 (up.trans up3) os ag
    obtain ⟨o3, vs3, e3, z3, d3⟩ := fl3.there
    have nfr : a ∉ frs (X.env :: X.outer) := fun hm => by
      obtain ⟨_, o', e', hnf⟩ := fl3.2.2.1.mem hm
      rw [e3] at e'; cases e'
      exact hnf _ d3
    have nL : a ≠ X.env.locals := fun z => nfr (List.mem_filterMap.mpr ⟨X.env, List.mem_cons_self, by rw [fr, z]⟩)
    have nF : a ∉ X.fs := fun hm => by
      obtain ⟨e, he, q⟩ := List.mem_filterMap.mp hm
      exact nfr (List.mem_filterMap.mpr ⟨e, List.mem_cons_of_mem _ he, q⟩)
    have S3 := J3.suite e3 d3 na nL nF
    have LT : PySem.W.Looks (model X.prog X.w) g3 (typeOf (.ref a)) cls := fun A Q E s k q => wpAny_typeOf_ref (k _ _ e3) (by rw [z3.1]; exact q)
    have walk : ∀ {hs : List ExceptHandler} {ls : List (Value × Option Nat × SuT)}, HdG X hs ls → wG X.K Wo D ls cls d τ H1 → wpAny (model X.prog X.w) X.A (handleBy (.ref a) X.env hs) (SP X pins D) X.xe { t with heap := g3 } := by
      intro hs ls hk
      induction hk with
      | nil =>
        intro w
        obtain ⟨k1, k2, k3, oe, vs, T, oT, ts', he, hz, hd, q1, hr⟩ := id fl3
        refine wpAny_handleBy_nil ?_; unfold PySem.passOn
        refine wpAny_bind (wpAny_field he hd q1 ?_)
        rw [if_neg (show ¬ ((Value.ref T == Value.none) = true) by simp)]
        have out : wpAny (model X.prog X.w) X.A (setFlight (.ref a) X.env.frame) (fun _ t4 => wpAny (model X.prog X.w) X.A (throw (.ref a) : Sem Flow) (SP X pins D) X.xe t4) X.xe { t with heap := g3 } := by
          rw [fr]
          exact HandSPX.setFlight_upZ fl3 fun g4 hh4 up4 => wpAny_throw (tk _ _ ⟨a, G, sI, pins, τ, H1, cls, d, rfl, J, nb, (up.trans up3).trans up4, .inr (.inr (by rw [sk]; exact hh4)), na, os, ag, w⟩)
        first
          | exact wpAny_bind (wpAny_pure (wpAny_bind out))
          | exact wpAny_bind out
      | @cons x c i n ts st sts p q hds2 l2 nm no su r ih =>
        intro w
        obtain ⟨b, hb, yes, nay⟩ := w
        refine wpAny_handleBy_cons (codeAny_handlers_test ?_) (by intro q; cases q)
        have LM := PySem.W.exm_one (M := model X.prog X.w) (J3.kIn) LT hb
        have tst : ∀ {Q : Value → Shared → Prop} {E : Value → Shared → Prop}, Q c { t with heap := g3 } → wpAny (model X.prog X.w) (X.A.mark (some (.ref a))) (eval (.Name x p) X.env) Q E { t with heap := g3 } := fun {Q E} q => by
          obtain ⟨hg, hdb, hm | ⟨hm, hv, hn⟩⟩ := nm
          · exact ld_glob (X := X.suite a ((a, o3) :: (X.pn ++ pins))) S3 hg hm q hdb
          · exact ld_blt (X := X.suite a ((a, o3) :: (X.pn ++ pins))) S3 hg hm hv q hn hdb
        refine tst (LM.here ?_)
        cases b with
        | false => exact ih (nay rfl)
        | true =>
          have land4 : ∀ g4, HandSPX.FlyingZ G (X.env :: X.outer) a (Zc cls d) g4 → g3.UpToSlots g4 → ∃ o4, Zc cls d o4 ∧ (∃ vs, o4.data = .fields vs) ∧ Inv (X.suite a ((a, o4) :: (X.pn ++ pins))) [] τ H1 { t with heap := g4 } := fun g4 fl4 up4 => by
            have J4 : Inv X pins τ H1 { t with heap := g4 } := J.landed nb fl4.1 ((up.trans up3).trans up4) os ag
            obtain ⟨o4, vs4, e4, z4, d4⟩ := fl4.there
            exact ⟨o4, z4, ⟨_, d4⟩, J4.suite e4 d4 na nL nF⟩
          cases i with
          | none =>
            cases n with
            | some _ => exact no.elim
            | none =>
            refine codeAny_handlers_suite (HandSPX.lands_againZ fl3 fun g4 fl4 up4 => ?_)
            obtain ⟨o4, z4, d4, S4⟩ := land4 g4 fl4 up4
            refine wpAny_mono ((su a o4 cls d (X.pn ++ pins) z4 d4).run [] _ _ H1 _ S4 (yes rfl a na)) (fun f t6 sp => ?_) (fun _ _ z => False.elim z)
            cases f with
            | ret u => obtain ⟨v6, σ6, H6, S6, r6, q6⟩ := sp; exact ⟨_, _, _, S6.unsuite ok, r6, q6⟩
            | next => obtain ⟨σ6, H6, S6, q6⟩ := sp; exact ⟨_, _, S6.unsuite ok, q6⟩
            | brk => obtain ⟨σ6, H6, S6, q6⟩ := sp; exact ⟨_, _, S6.unsuite ok, q6⟩
            | cont => obtain ⟨σ6, H6, S6, q6⟩ := sp; exact ⟨_, _, S6.unsuite ok, q6⟩
          | some k =>
            cases n with
            | none => exact no.elim
            | some n =>
            obtain ⟨hi, hl⟩ := no
            refine codeAny_handlers_suite_as (HandSPX.lands_againZ fl3 fun g4 fl4 up4 => ?_)
            obtain ⟨o4, z4, d4, S4⟩ := land4 g4 fl4 up4
            refine store_ok (X := X.suite a ((a, o4) :: (X.pn ++ pins))) (v := .ref a) S4 nd hi (.inl hl) rfl (fun t5 S5 => ?_) (.inr hl)
            refine wpAny_mono ((su a o4 cls d (X.pn ++ pins) z4 d4).run [] t5 _ H1 _ S5 (yes rfl a na)) (fun f t6 sp => ?_) (fun _ _ z => False.elim z)
            have gone : ∀ {σ6 : L2.St} {H6 : Hp} {Q : Shared → Prop}, Inv (X.suite a ((a, o4) :: (X.pn ++ pins))) [] σ6 H6 t6 → (∀ t7, Inv X pins (σ6.set k none) H6 t7 → Q t7) →
                wpAny (model X.prog X.w) X.A (do bindName X.env n .none; unbindBehindTheSuite X.env n q) (fun _ t7 => Q t7) X.xe t6 := fun {σ6 H6 Q} S6 hq => gone_ok (S6.unsuite ok) nd hi hl hq
            cases f with
            | ret u => obtain ⟨v6, σ6, H6, S6, r6, q6⟩ := sp; exact gone S6 fun t7 J7 => ⟨_, _, _, J7, r6, q6⟩
            | next => obtain ⟨σ6, H6, S6, q6⟩ := sp; exact gone S6 fun t7 J7 => ⟨_, _, J7, q6⟩
            | brk => obtain ⟨σ6, H6, S6, q6⟩ := sp; exact gone S6 fun t7 J7 => ⟨_, _, J7, q6⟩
            | cont => obtain ⟨σ6, H6, S6, q6⟩ := sp; exact gone S6 fun t7 J7 => ⟨_, _, J7, q6⟩
    exact walk hh w
  · cases f with
    | ret u => obtain ⟨v, σ', H', J', r, q⟩ := sp; exact ⟨v, σ', H', J'.ofTry ok, r, q⟩
    | next => obtain ⟨σ', H', J', q⟩ := sp; exact wpAny_execs_nil ⟨σ', H', J'.ofTry ok, q⟩
    | brk => obtain ⟨σ', H', J', q⟩ := sp; exact ⟨σ', H', J'.ofTry ok, q⟩
    | cont => obtain ⟨σ', H', J', q⟩ := sp; exact ⟨σ', H', J'.ofTry ok, q⟩
end
end PC

set_option maxHeartbeats 1000000
namespace PC
open PySem PySem.Spec PyProof.Rows L2
/-- an exception class of the text -/
structure XC where
  name : Str
  anc : List Str
  /-- the parameter of __init__, the field, is it handed on -/
  ini : Option (Str × Str × Bool)
def vtail : List Value := [.type "ValueError", .type "Exception", .type "BaseException", .type "object"]
def XAt (K : PySem.W.Frag) (x : Str) (C : Addr) : Prop := PySem.W.nsIn K mainGlobals x = some (some (.ref C))
/-- what the world tells of such a class -/
structure XcK (K : PySem.W.Frag) (xs : List XC) (c : XC) (C : Addr) : Prop where
  at_ : XAt K c.name C
  xf : XfC K C
  no : ∀ x f o, c.ini = some (x, f, o) → PySem.W.findIn K (.ref C) f = some none
  ex : ∀ c' ∈ xs, ∃ C', XAt K c'.name C' ∧ PySem.W.exmOne K (.ref C) (.ref C') = some (c.anc.contains c'.name)
/-- what is told of such a class -/
structure XcOk (P : Program) (K : PySem.W.Frag) (mg : Str → Option Value) (xs : List XC) (c : XC) (C : Addr) : Prop extends XcK K xs c C where
  gm : mg c.name = some (.ref C)
  kp : PySem.W.keepIn K (.ref C) = true
  be : PySem.W.subIn K (.ref C) (.type "BaseException") = some true
  ty : PySem.W.typeIn K (.ref C) = some (.type "type")
  mke : match c.ini with
    | none => PySem.W.excIn K C vtail "ValueError.__new__" = true
    | some (x, f, o) => ∃ fI fd, InitIn P K mg C fI fd x f o ∧ PySem.W.findIn K (.ref C) "__init__" = some (some (.ref fI)) ∧ PySem.W.typeIn K (.ref fI) = some (.type "function") ∧ Binds K fd ["self", x] []
def D.flatV : D → V | .non => .non | .bl b => .bl b | .int i => .int i | .str x => .str x | _ => .non
theorem flatV_rp {K : PySem.W.Frag} {H : Hp} {B : Addr → Prop} {μ : List Addr} {d : D} (h : d.flat = true) : Rp K H B μ d d.flatV := by
  cases d <;> first | exact .non | exact .bl _ | exact .int _ | exact .str _ | cases h
theorem flatV_eq {K : PySem.W.Frag} {H : Hp} {B : Addr → Prop} {μ : List Addr} {d : D} {v : V} (h : d.flat = true) (r : Rp K H B μ d v) : v = d.flatV := by
  cases r <;> first | rfl | cases h
/-- the fields of an exception, in its dict -/
def xfr (H : Hp) (x : Exc) (dd : Option Addr) : Prop := (x.fs = [] ∧ dd = none) ∨ ∃ a f d, dd = some a ∧ x.fs = [(f, d)] ∧ d.flat = true ∧ H a = some (.xd [(f, d.flatV)])
def lgx (K : PySem.W.Frag) (xs : List XC) : Lg := ⟨fun H x cls dd => ∃ c ∈ xs, ∃ C, c.name = x.cls ∧ c.anc = x.anc ∧ XcK K xs c C ∧ cls = .ref C ∧ xfr H x dd ∧ ∀ p ∈ x.fs, ∃ y o, c.ini = some (y, p.1, o)⟩
section
variable {X : Cx} {L : Lg} {W : WX} {Φ : Fns} {xs : List XC} {c : XC} {C : Addr}
theorem xc_raises (k : XcOk X.prog X.K X.mg xs c C) : Raises X (.ref C) := raises_own k.be k.ty
/-- raise c('..') of a class without an __init__ of its own -/
theorem st_raise0 {m : Str} {j : Nat} {p p2 p3 pos : Pos} (hL : L = lgx X.K xs) (hc : X.calm = true) (tk : Takes X W) (hx : c ∈ xs) (k : XcOk X.prog X.K X.mg xs c C) (hi : c.ini = none) (hg : Gl X c.name) (hd : (c.name == ("__debug__" : Str)) = false) :
    PS X (.Raise (some (.Call (.Name c.name p) [.Constant (.str m) j p2] [] p3)) none pos) (tS X.K L W Φ (.raise_ c.name c.anc none (.str m))) := by
  have k2 := k.mke
  rw [hi] at k2
  refine (ps_raise hc tk (pmk_own F.excBase_ValueError k2 k.gm k.kp (xc_raises k) hg hd)).imp fun De σ H ⟨fr, B, μ, oa, ρ, M, rel, h⟩ => ?_
  simp only [ex, ev, Res.out_ok] at h
  refine h B μ oa σ H _ none Kp.refl rel ?_
  rw [hL]
  exact ⟨c, hx, C, rfl, rfl, k.toXcK, rfl, .inl ⟨rfl, rfl⟩, fun p hp => nomatch hp⟩
theorem cx_none {P : Program} {w : World} {l : List Env} {H : Hp} {s : Shared} {e : Value} {s' : Shared} (z : L2.CX P w l H s (fun _ _ _ => False) e s') : False := by
  obtain ⟨_, _, _, _, _, _, _, _, _, _, _, _, z⟩ := z
  exact z
/-- raise c(e), the argument kept in a field -/
theorem st_raise1 {a : E} {x : Expr} {y f : Str} {o : Bool} {p p3 pos : Pos} (hL : L = lgx X.K xs) (hc : X.calm = true) (tk : Takes X W) (hr : Room 2 X.A) (hx : c ∈ xs) (k : XcOk X.prog X.K X.mg xs c C) (hi : c.ini = some (y, f, o)) (hg : Gl X c.name) (hd : (c.name == ("__debug__" : Str)) = false)
    (ha : PE X x (tE X.K L W Φ a)) (hs : starEach [x] X.env = (false, eval x X.env) :: starEach [] X.env) : PS X (.Raise (some (.Call (.Name c.name p) [x] [] p3)) none pos) (tS X.K L W Φ (.raise_ c.name c.anc (some f) a)) := by
  have k2 := k.mke
  rw [hi] at k2
  obtain ⟨fI, fd, J, iC, tI, bi⟩ := k2
  refine (ps_raise hc tk (pmk_oex (CX := L2.CX X.prog X.w) (k := 1) (dvs := []) J.oex iC tI (exinit_ok J) hr bi .nil (fun _ _ _ _ _ _ _ z => (cx_none z).elim) hg k.gm (pa_cons ha pa_nil hs) hd hs rfl)).imp fun De σ H ⟨fr, B, μ, oa, ρ, M, rel, h⟩ => ?_
  rw [ex] at h
  refine tE_out rel h fun H1 μ1 d M1 v r1 e1 rv h1 => ?_
  dsimp only at h1
  cases hf : d.flat with
  | false => rw [hf] at h1; exact h1.elim
  | true =>
    rw [hf, if_pos rfl] at h1
    have ev := flatV_eq hf rv
    subst ev
    refine ⟨by simp, fun e hne => ⟨e, _, rfl, upd_same, fun dx hdx dne => ⟨rfl, dx, [(f, d.flatV)], upd_same, ?_, ?_, ?_⟩⟩⟩
    · rw [upd_ne dne, upd_same]
    · rw [upd_ne dne] at hdx; exact hdx
    · have hdx' : H1 dx = none := by rw [upd_ne dne] at hdx; exact hdx
      have hH : upd (del (upd (upd (upd H1 e (exo e C none)) dx (exd dx [(f, d.flatV)])) e (exo e C (some dx))) e) dx (.xd [(f, d.flatV)]) = upd H1 dx (.xd [(f, d.flatV)]) := by
        funext b
        by_cases q : b = dx
        · subst q; rw [upd_same, upd_same]
        · rw [upd_ne q, upd_ne q]
          by_cases q2 : b = e
          · subst q2; rw [del_same, hne]
          · rw [del_ne q2, upd_ne q2, upd_ne q, upd_ne q2]
      rw [hH]
      refine h1 B μ1 oa σ _ _ (some dx) (Same.kp (same_upd hdx')) (r1.same (same_upd hdx')) ?_
      rw [hL]
      exact ⟨c, hx, C, rfl, rfl, k.toXcK, rfl, .inr ⟨dx, f, d, rfl, rfl, hf, upd_same⟩, fun q hq => ⟨y, o, by rw [List.mem_singleton.1 hq]; exact hi⟩⟩
def notStarE : Expr → Bool | .Starred .. => false | _ => true
/-- what an except clause gives back, in the text -/
inductive HEx (X : Cx) (i : Option Nat) : HE → Expr → Prop
  | non {k : Nat} {p : Pos} : HEx X i (.con .non) (.Constant .none k p)
  | bl {b : Bool} {k : Nat} {p : Pos} : HEx X i (.con (.bl b)) (.Constant (.bool b) k p)
  | int {b : Int} {k : Nat} {p : Pos} : HEx X i (.con (.int b)) (.Constant (.int b) k p)
  | str {b : Str} {k : Nat} {p : Pos} : HEx X i (.con (.str b)) (.Constant (.str b) k p)
  | fld {f n : Str} {k : Nat} {p q : Pos} : i = some k → IsName X k n → HEx X i (.fld f) (.Attribute (.Name n p) f q)
  | pair {a b : HE} {x y : Expr} {k : Nat} {p : Pos} : HEx X i a x → HEx X i b y → notStarE x = true → notStarE y = true → HEx X i (.pair a b) (.Tuple [x, y] k p)
def tHE (K : PySem.W.Frag) (e : HE) (i : Option Nat) (a : Addr) (cls : Value) (d : Option Addr) : TE := fun σ H Q => ∃ B μ x C dv, (∀ z : Addr, B z → H z ≠ none) ∧ cls = .ref C ∧ XfC K C ∧ (∀ p ∈ x.fs, PySem.W.findIn K (.ref C) p.1 = some none) ∧ (∀ k, i = some k → σ[k]? = some (some (.ref a))) ∧ xfr H x d ∧
  e.ev x = some dv ∧ ∀ v H', Same H H' → Rp K H' B μ dv v → Q v H'
theorem xfr_same {H H' : Hp} {x : Exc} {d : Option Addr} (s : Same H H') (h : xfr H x d) : xfr H' x d := by
  rcases h with h | ⟨a, f, d, h1, h2, h3, h4⟩
  · exact .inl h
  · exact .inr ⟨a, f, d, h1, h2, h3, s _ _ h4⟩
theorem he_ok {i : Option Nat} : ∀ {e : HE} {x : Expr}, HEx X i e x → ∀ {a : Addr} {oe : Obj} {cls : Value} {d : Option Addr} {pn : List (Addr × Obj)}, Zc cls d oe → (∃ vs, oe.data = .fields vs) → PE (X.suite a ((a, oe) :: pn)) x (tHE X.K e i a cls d)
  | _, _, .non, a, oe, cls, d, pn, hz, hf => (pe_non (X := X.suite a ((a, oe) :: pn))).imp fun σ H Q ⟨B, μ, x, C, dv, bt, _, _, _, _, _, he, q⟩ => by cases he; exact q _ H (Same.refl H) .non
  | _, _, .bl, a, oe, cls, d, pn, hz, hf => (pe_bl (X := X.suite a ((a, oe) :: pn))).imp fun σ H Q ⟨B, μ, x, C, dv, bt, _, _, _, _, _, he, q⟩ => by cases he; exact q _ H (Same.refl H) (.bl _)
  | _, _, .int, a, oe, cls, d, pn, hz, hf => (pe_int (X := X.suite a ((a, oe) :: pn))).imp fun σ H Q ⟨B, μ, x, C, dv, bt, _, _, _, _, _, he, q⟩ => by cases he; exact q _ H (Same.refl H) (.int _)
  | _, _, .str, a, oe, cls, d, pn, hz, hf => (pe_str (X := X.suite a ((a, oe) :: pn))).imp fun σ H Q ⟨B, μ, x, C, dv, bt, _, _, _, _, _, he, q⟩ => by cases he; exact q _ H (Same.refl H) (.str _)
  | _, _, .fld (f := f) (n := n) (k := k) hi hn, a, oe, cls, d, pn, hz, hf => ⟨fun pins s σ H Q I ⟨B, μ, x, C, dv, bt, ec, xf, no, sl, xr, he, q⟩ => by
      subst hi ec
      rcases xr with ⟨h1, _⟩ | ⟨dd, f', d', rfl, h2, h3, h4⟩
      · simp only [HE.ev, h1] at he; cases he
      · simp only [HE.ev, h2] at he
        by_cases ef : f = f'
        · subst ef
          have : dv = d' := by simpa [List.lookup] using he.symm
          subst this
          refine (pe_xf xf (no (f, dv) (by rw [h2]; simp)) hz hf (pe_var (X := X.suite a ((a, oe) :: pn)) hn.hN hn.hv hn.hd hn.hc)).run pins s σ H Q I ?_
          exact ⟨_, sl _ rfl, rfl, rfl, dd, _, _, rfl, h4, by simp [List.lookup], q _ H (Same.refl H) (flatV_rp h3)⟩
        · have : (f == f') = false := by simpa using ef
          simp [List.lookup, this] at he⟩
  | _, _, .pair (x := x) (y := y) h1 h2 s1 s2, a, oe, cls, d, pn, hz, hf => (pe_tup (X := X.suite a ((a, oe) :: pn)) (pa_cons (he_ok h1 hz hf) (pa_cons (he_ok h2 hz hf) pa_nil (by cases y <;> first | rfl | cases s2)) (by cases x <;> first | rfl | cases s1))).imp
      fun σ H Q ⟨B, μ, x, C, dv, bt, ec, xf, no, sl, xr, he, q⟩ => by
    simp only [HE.ev] at he
    split at he
    · rename_i u v hu hv
      cases he
      refine ⟨B, μ, x, C, u, bt, ec, xf, no, sl, xr, hu, fun vu Hu su ru => ?_⟩
      have bt' : ∀ z, B z → Hu z ≠ none := fun z hz => by
        cases e : H z with
        | none => exact absurd e (bt z hz)
        | some o => rw [su z o e]; exact fun w => nomatch w
      refine ⟨B, μ, x, C, v, bt', ec, xf, no, sl, xfr_same su xr, hv, fun vv Hv sv rv => ⟨by rw [sizeLine_eq]; show 2 ≤ _; omega, fun p hp => q _ _ (fun b o e => same_upd hp b o (sv b o (su b o e))) ?_⟩⟩
      have bt2 : ∀ z, B z → Hv z ≠ none := fun z hz => by
        cases e : Hu z with
        | none => exact absurd e (bt' z hz)
        | some o => rw [sv z o e]; exact fun w => nomatch w
      exact new_tup bt2 hp (.cons (ru.mono (Same.kp sv)) (.cons rv .nil))
    · cases he
/-- the clauses stand in the text -/
inductive HdlsX (X : Cx) (xs : List XC) : List Hdl → List ExceptHandler → Prop
  | nil : HdlsX X xs [] []
  | cons {h : Hdl} {c : XC} {n : Option Str} {x : Expr} {p q r : Pos} {hs : List Hdl} {es : List ExceptHandler} : c ∈ xs → c.name = h.cls → Gl X h.cls → (h.cls == ("__debug__" : Str)) = false → NmOk X n h.slot → HEx X h.slot h.e x → HdlsX X xs hs es →
      HdlsX X xs (h :: hs) (.ExceptHandler (some (.Name h.cls p)) n [.Return (some x) q] r :: es)
def tsH (K : PySem.W.Frag) (h : Hdl) : SuT := fun a cls d De σ H => tHE K h.e h.slot a cls d σ H De.rt
theorem hdls_ok (k : ∀ c ∈ xs, ∃ C, XcOk X.prog X.K X.mg xs c C) : ∀ {hs : List Hdl} {es : List ExceptHandler}, HdlsX X xs hs es → ∃ l, HdG X es l ∧ l.map (fun z => z.2.1) = hs.map (·.slot) ∧
    (∀ (Wo : WX) (De : Ends) (x : Exc) (c : XC) (C : Addr) (d : Option Addr) (σ : L2.St) (H : Hp), c ∈ xs → XcK X.K xs c C → c.anc = x.anc →
      (∀ h, hs.find? (fun h => x.anc.contains h.cls) = some h → ∀ a, H a = none → tHE X.K h.e h.slot a (.ref C) d (inσ h.slot σ a) H De.rt) →
      (hs.find? (fun h => x.anc.contains h.cls) = none → Wo (.ref C) d σ H) → wG X.K Wo De l (.ref C) d σ H)
  | _, _, .nil => ⟨[], .nil, rfl, fun Wo De x c C d σ H _ _ _ _ h2 => h2 rfl⟩
  | _, _, .cons (h := h) (c := c0) hc0 hn hg hdb no he r => by
    obtain ⟨l, h1, h2, h3⟩ := hdls_ok k r
    obtain ⟨C0, k0⟩ := k c0 hc0
    refine ⟨(.ref C0, h.slot, tsH X.K h) :: l, .cons ⟨hg, hdb, .inl (by rw [← hn]; exact k0.gm)⟩ no (fun a oe cls d pn hz hf => pss_one (ps_ret (he_ok he hz hf))) h1, by simp [h2], fun Wo De x c C d σ H hc kc ea f1 f2 => ?_⟩
    obtain ⟨C', a1, a3⟩ := kc.ex c0 hc0
    have eC : C' = C0 := by
      have := a1.symm.trans k0.at_
      cases this; rfl
    subst eC
    rw [ea, hn] at a3
    refine ⟨_, a3, fun hb a ha => f1 h (by simp only [List.find?, hb]) a ha, fun hb => h3 Wo De x c C d σ H hc kc ea (fun h' e => f1 h' (by simp only [List.find?, hb]; exact e)) fun e => f2 (by simp only [List.find?, hb]; exact e)⟩
theorem st_try {b : PC.B} {hs : List Hdl} {body : List Stmt} {e0 : ExceptHandler} {es : List ExceptHandler} {pos : Pos} (hL : L = lgx X.K xs) (sk : X.stack = X.env :: X.outer) (fr' : X.env.frame = some X.env.locals) (nd : X.N.Nodup) (tk : Takes X W)
    (k : ∀ c ∈ xs, ∃ C, XcOk X.prog X.K X.mg xs c C) (hh : HdlsX X xs hs (e0 :: es))
    (bd : ∀ (W : WX) (pn : List (Addr × Obj)) (xe : Value → Shared → Prop), Takes (X.tr pn xe) W → PassesOwn (model X.prog X.w) X.A X.env xe → PSs (X.tr pn xe) body (tB X.K L W Φ b)) :
    PS X (.Try body (e0 :: es) [] [] pos) (tS X.K L W Φ (.try_ b hs)) := by
  obtain ⟨l, h1, h2, h3⟩ := hdls_ok k hh
  refine (ps_tryG sk fr' nd tk bd h1).imp fun De σ H ⟨fr, B, μ, oa, ρ, M, rel, h⟩ => ⟨fr, B, μ, oa, ρ, M, rel, ?_⟩
  rw [ex] at h
  cases e : exs Φ b ρ M with
  | nx ρ1 M1 => rw [e] at h; exact h
  | rt d M1 => rw [e] at h; exact h
  | bad => rw [e] at h; exact h
  | er x ρ1 M1 =>
    rw [e] at h
    dsimp only at h
    intro B' μ' oa' σ' H' cls dd kp r hx
    have hx0 := hx
    rw [hL] at hx
    obtain ⟨c, hc, C, n1, n2, kc, rfl, xr, fld⟩ := hx
    refine h3 W De x c C dd σ' H' hc kc n2 (fun hd e2 a ha => ?_) fun e2 => ?_
    · rw [e2] at h
      dsimp only at h
      cases ee : hd.e.ev x with
      | none => rw [ee] at h; exact h.elim
      | some dv =>
        rw [ee] at h
        cases el : hd.slot.all fun k => decide (k < ρ1.length) with
        | false => rw [el] at h; exact h.elim
        | true =>
        rw [el] at h
        refine ⟨ban B' μ', μ', x, C, dv, r.bt, rfl, kc.xf, fun p hp => ?_, fun k hk => ?_, xr, ee, fun v H2 s2 rv => h B' μ' oa' ρ1 σ' H2 v (r.same s2) rv⟩
        · obtain ⟨y, o, ei⟩ := fld p hp
          exact kc.no y p.1 o ei
        · rw [hk]
          have hk2 : k < σ'.length := by rw [← r.ln]; rw [hk] at el; simpa using el
          show (σ'.set k (some (.ref a)))[k]? = _
          rw [List.getElem?_set_self hk2]
    · rw [e2] at h
      exact h B' μ' oa' σ' H' _ dd kp r hx0
end
end PC

namespace PC
open PySem PySem.Spec PyProof.Rows L2
mutual
def D.same : D → D → Bool
  | .non, .non => true
  | .bl a, .bl b => decide (a = b)
  | .int a, .int b => decide (a = b)
  | .str a, .str b => decide (a = b)
  | .tup xs, .tup ys => D.sames xs ys
  | _, _ => false
def D.sames : List D → List D → Bool
  | [], [] => true
  | x :: xs, y :: ys => D.same x y && D.sames xs ys
  | _, _ => false
end
mutual
theorem D.same_eq : ∀ (a b : D), D.same a b = true → a = b
  | .non, b, h => by cases b <;> simp [D.same] at h; rfl
  | .bl a, b, h => by cases b <;> simp [D.same] at h; rw [h]
  | .int a, b, h => by cases b <;> simp [D.same] at h; rw [h]
  | .str a, b, h => by cases b <;> simp [D.same] at h; rw [h]
  | .tup xs, b, h => by
    cases b <;> simp [D.same] at h
    rw [D.sames_eq _ _ h]
  | .lst xs, b, h => by cases b <;> simp [D.same] at h
  | .cell n, b, h => by cases b <;> simp [D.same] at h
  | .frz n, b, h => by cases b <;> simp [D.same] at h
theorem D.sames_eq : ∀ (a b : List D), D.sames a b = true → a = b
  | [], [], _ => rfl
  | [], _ :: _, h => by simp [D.sames] at h
  | _ :: _, [], h => by simp [D.sames] at h
  | x :: xs, y :: ys, h => by
    simp [D.sames] at h
    rw [D.same_eq x y h.1, D.sames_eq xs ys h.2]
end
def kG (sc : Scope) (x : Str) : Bool := match sc.names.lookup x with | some .globalImplicit => true | _ => false
def kV (sc : Scope) (x : Str) : Bool := match sc.names.lookup x with | some .local => true | some .cell => true | some .free => true | _ => false
def kL (sc : Scope) (x : Str) : Bool := match sc.names.lookup x with | some .local => true | some .cell => true | _ => false
def kLoc (sc : Scope) (x : Str) : Bool := match sc.names.lookup x with | some .local => true | _ => false
def okName (x : Str) : Bool := !(x == ("__debug__" : Str)) && !(x == ("__classdict__" : Str))
def testable : Expr → Bool | .IfExp .. => false | _ => true
def notSlice : Expr → Bool | .Slice .. => false | _ => true
def notStar : Expr → Bool | .Starred .. => false | _ => true
def Es.len : Es → Nat | .nil => 0 | .cons _ r => r.len + 1
def chkTgs (N : List Str) (sc : Scope) : List Nat → List Expr → Bool
  | [], [] => true
  | i :: is, .Name n _ :: es => decide (N[i]? = some n) && kL sc n && chkTgs N sc is es
  | _, _ => false
def chkTg (N : List Str) (sc : Scope) : Tg → Expr → Bool
  | .name i, .Name n _ => decide (N[i]? = some n) && kL sc n
  | .tup is, .Tuple es _ _ => chkTgs N sc is es
  | _, _ => false
def tgOwn : Tg → Expr → List (Str × Nat)
  | .name i, .Name n _ => [(n, i)]
  | .tup is, .Tuple es _ _ => (is.zip es).filterMap fun (i, e) => match e with | .Name n _ => some (n, i) | _ => none
  | _, _ => []
def chkTys (sc : Scope) : List Ty → List Expr → Bool
  | [], [] => true
  | t :: ts, .Name n _ :: es => decide (n = t.id) && kG sc n && chkTys sc ts es
  | _, _ => false
def isIfs : Es → List Expr → Bool
  | .nil, [] => true
  | .cons _ .nil, [_] => true
  | _, _ => false
/-- the tables that a check leans on: the defs, the module's constants -/
structure Tbl where
  T : Nat → Option FD
  G : List (Str × D)
  X : List XC := []
def Tbl.g (t : Tbl) (x : Str) (d : D) : Bool := match t.G.lookup x with | some d' => D.same d d' | none => false
mutual
def chkE (T : Tbl) (N : List Str) : E → Scope → Expr → Bool
  | .var i, sc, e => match e with | .Name n _ => decide (N[i]? = some n) && kV sc n && okName n | _ => false
  | .non, _, e => match e with | .Constant .none _ _ => true | _ => false
  | .bl b, _, e => match e with | .Constant (.bool c) _ _ => decide (c = b) | _ => false
  | .int i, _, e => match e with | .Constant (.int c) _ _ => decide (c = i) | _ => false
  | .str x, _, e => match e with | .Constant (.str c) _ _ => decide (c = x) | _ => false
  | .glob x d, sc, e => match e with | .Name n _ => decide (n = x) && kG sc n && T.g x d && okName n | _ => false
  | .bin o a b, sc, e => match e with | .BinOp x o' y _ => decide (o' = bopOf o) && chkE T N a sc x && chkE T N b sc y | _ => false
  | .neg a, sc, e => match e with | .UnaryOp .USub x _ => chkE T N a sc x | _ => false
  | .not a, sc, e => match e with | .UnaryOp .Not x _ => testable x && chkE T N a sc x | _ => false
  | .cmp o a b, sc, e => match e with | .Compare x [o'] [y] _ => decide (o' = copOf o) && !behindInMarks o' y && chkE T N a sc x && chkE T N b sc y | _ => false
  | .chain o o2 a b c, sc, e => match e with | .Compare x [o', o2'] [y, z] _ => decide (o' = copOf o) && decide (o2' = copOf o2) && !lastMarks [o', o2'] [y, z] && chkE T N a sc x && chkE T N b sc y && chkE T N c sc z | _ => false
  | .isN a, sc, e => match e with | .Compare x [.Is] [.Constant .none _ _] _ => chkE T N a sc x | _ => false
  | .notN a, sc, e => match e with | .Compare x [.IsNot] [.Constant .none _ _] _ => chkE T N a sc x | _ => false
  | .isB a b, sc, e => match e with | .Compare x [.Is] [.Constant (.bool c) _ _] _ => decide (c = b) && chkE T N a sc x | _ => false
  | .notB a b, sc, e => match e with | .Compare x [.IsNot] [.Constant (.bool c) _ _] _ => decide (c = b) && chkE T N a sc x | _ => false
  | .and a b, sc, e => match e with
    | .BoolOp .And [x, y] _ => testable x && testable y && chkE T N a sc x && chkE T N b sc y
    | .BoolOp .And (x :: y :: z :: r) p => testable x && chkE T N a sc x && chkE T N b sc (.BoolOp .And (y :: z :: r) p)
    | _ => false
  | .or a b, sc, e => match e with
    | .BoolOp .Or [x, y] _ => testable x && testable y && chkE T N a sc x && chkE T N b sc y
    | .BoolOp .Or (x :: y :: z :: r) p => testable x && chkE T N a sc x && chkE T N b sc (.BoolOp .Or (y :: z :: r) p)
    | _ => false
  | .ite c a b, sc, e => match e with | .IfExp t x y _ => testable t && chkE T N c sc t && chkE T N a sc x && chkE T N b sc y | _ => false
  | .tup es, sc, e => match e with | .Tuple xs _ _ => chkEs T N es sc xs | _ => false
  | .lst es, sc, e => match e with | .List xs _ => chkEs T N es sc xs | _ => false
  | .newL es, sc, e => match e with | .List xs _ => chkEs T N es sc xs | _ => false
  | .sub a i, sc, e => match e with | .Subscript x y _ => notSlice y && chkE T N a sc x && chkE T N i sc y | _ => false
  | .slice a lo hi, sc, e => match e with | .Subscript x (.Slice l h none _) _ => chkE T N a sc x && chkP T N lo sc l && chkP T N hi sc h | _ => false
  | .sliceRev a, sc, e => match e with | .Subscript x (.Slice none none (some (.UnaryOp .USub (.Constant (.int 1) _ _) _)) _) _ => chkE T N a sc x | _ => false
  | .lenO i, sc, e => match e with | .Call (.Name f _) [.Name n _] [] _ => decide (f = "len") && kG sc "len" && decide (N[i]? = some n) && kV sc n && okName n | _ => false
  | .subO i k, sc, e => match e with | .Subscript (.Name n _) y _ => decide (N[i]? = some n) && kV sc n && okName n && notSlice y && chkE T N k sc y | _ => false
  | .call f es, sc, e => match e with
    | .Call (.Name n _) args [] _ => (match T.T f with
      | some fd => decide (n = fd.name) && kG sc n && okName n && decide (fd.ps.length = args.length) && chkEs T N es sc args
      | none => false)
    | _ => false
  | .bi b a, sc, e => match e with | .Call (.Name n _) [x] [] _ => decide (n = biName b) && kG sc n && chkE T N a sc x | _ => false
  | .isi a ts, sc, e => match e with
    | .Call (.Name f _) [x, .Name n _] [] _ => (match ts with | [t] => decide (f = "isinstance") && kG sc "isinstance" && decide (n = t.id) && kG sc n && chkE T N a sc x | _ => false)
    | .Call (.Name f _) [x, .Tuple tes _ _] [] _ => decide (f = "isinstance") && kG sc "isinstance" && chkTys sc ts tes && decide (ts.length ≤ 20) && !ts.isEmpty && chkE T N a sc x
    | _ => false
  | .comp it t ifs elt, sc, e => match e with
    | .ListComp el [⟨tg, iter, ife, 0⟩] scope _ => chkI T N it sc true tg iter && blkC N sc scope (tgOwn t tg) && decide ((tgOwn t tg).map (·.2) = t.slots) && chkTg N scope t tg && isIfs ifs ife && ife.all testable && chkEs T N ifs (relS scope sc) ife && chkE T N elt (relS scope sc) el
    | _ => false
  | .borrow _ a, sc, e => (match e with | .Call .. => true | .Compare .. => true | .UnaryOp .Not .. => true | _ => false) && chkE T N a sc e
def chkEs (T : Tbl) (N : List Str) : Es → Scope → List Expr → Bool
  | .nil, _, es => es.isEmpty
  | .cons a r, sc, es => match es with | x :: xs => chkE T N a sc x && chkEs T N r sc xs | [] => false
def chkP (T : Tbl) (N : List Str) : Pt → Scope → Option Expr → Bool
  | .none, _, o => o.isNone
  | .some a, sc, o => match o with | some x => chkE T N a sc x | none => false
/-- comp: within a comprehension -/
def chkI (T : Tbl) (N : List Str) : PC.It → Scope → Bool → Expr → Expr → Bool
  | .seq a, sc, _, _, e => chkE T N a sc e
  | .own i, sc, comp, _, e => comp && (match e with | .Name n _ => decide (N[i]? = some n) && kV sc n && okName n | _ => false)
  | .range1 a, sc, _, _, e => match e with | .Call (.Name f _) [x] [] _ => decide (f = "range") && kG sc "range" && chkE T N a sc x | _ => false
  | .range2 a b, sc, _, _, e => match e with | .Call (.Name f _) [x, y] [] _ => decide (f = "range") && kG sc "range" && chkE T N a sc x && chkE T N b sc y | _ => false
  | .zip a b, sc, _, tg, e => match tg, e with | .Tuple _ _ _, .Call (.Name f _) [x, y] [] _ => decide (f = "zip") && kG sc "zip" && chkE T N a sc x && chkE T N b sc y | _, _ => false
end
def isLst : E → Bool | .lst _ => true | _ => false
def isRep : E → Bool | .bin .mul _ _ => true | _ => false
def isComp : E → Bool | .comp .. => true | _ => false
/-- a comprehension's name on its own line: it is stored within the comprehension's frame -/
def lcSame (sc : Scope) (n : Str) (q : Pos) : Expr → Bool
  | .ListComp _ _ scope cp => kLoc sc n && (q.line == cp.line) && !(scope.names.any fun (m, k) => m == n && (k == .local || k == .cell))
  | _ => false
def notComp : Expr → Bool | .ListComp .. => false | .SetComp .. => false | .DictComp .. => false | _ => true
def notTuple : Expr → Bool | .Tuple .. => false | _ => true
def notSet : Expr → Bool | .Set .. => false | _ => true
def chkHE (N : List Str) (sc : Scope) (i : Option Nat) : HE → Expr → Bool
  | .con d, e => match d, e with
    | .non, .Constant .none _ _ => true
    | .bl b, .Constant (.bool c) _ _ => decide (c = b)
    | .int b, .Constant (.int c) _ _ => decide (c = b)
    | .str b, .Constant (.str c) _ _ => decide (c = b)
    | _, _ => false
  | .fld f, e => match e, i with
    | .Attribute (.Name n _) g _, some k => decide (g = f) && decide (N[k]? = some n) && kV sc n && okName n
    | _, _ => false
  | .pair a b, e => match e with
    | .Tuple [x, y] _ _ => chkHE N sc i a x && chkHE N sc i b y && notStarE x && notStarE y
    | _ => false
def chkNm (N : List Str) (sc : Scope) : Option Str → Option Nat → Bool
  | none, none => true
  | some n, some k => decide (N[k]? = some n) && kLoc sc n
  | _, _ => false
def chkHs (T : Tbl) (N : List Str) (sc : Scope) : List Hdl → List ExceptHandler → Bool
  | [], [] => true
  | h :: hs, .ExceptHandler (some (.Name c _)) n [.Return (some x) _] _ :: es => decide (c = h.cls) && kG sc c && okName c && (T.X.any fun z => decide (z.name = h.cls)) && chkNm N sc n h.slot && chkHE N sc h.slot h.e x && chkHs T N sc hs es
  | _, _ => false
def strE : E → Bool | .str _ => true | _ => false
def chkX (T : Tbl) (c : Str) (anc : List Str) (f : Option Str) (e : E) : Bool := T.X.any fun z => decide (z.name = c) && decide (z.anc = anc) && (match z.ini, f with
  | none, none => strE e
  | some (_, g, _), some f => decide (g = f)
  | _, _ => false)
mutual
def chkS (T : Tbl) (N : List Str) (sc : Scope) : S → Stmt → Bool
  | .set i e, st => match st with | .Assign [.Name n q] x _ => decide (N[i]? = some n) && kL sc n && (notComp x || isComp e) && chkE T N e sc x | _ => false
  | .own i e, st => match st with | .Assign [.Name n q] x _ => decide (N[i]? = some n) && kL sc n && (isLst e || isComp e || isRep e) && chkE T N e sc x | _ => false
  | .freeze _, _ => false
  | .unpack is e, st => match st with | .Assign [.Tuple es _ _] x _ => chkTgs N sc is es && notComp x && notTuple x && chkE T N e sc x | _ => false
  | .append i e, st => match st with | .Expr (.Call (.Attribute (.Name n _) m ap) [x] [] cp) _ => decide (m = "append") && decide (N[i]? = some n) && kV sc n && okName n && (ap.endLine == cp.line) && chkE T N e sc x | _ => false
  | .popAt j i k, st => match st with | .Assign [.Name m _] (.Call (.Attribute (.Name n _) f ap) [x] [] cp) _ => decide (f = "pop") && decide (N[j]? = some m) && kL sc m && decide (N[i]? = some n) && kV sc n && okName n && (ap.endLine == cp.line) && chkE T N k sc x | _ => false
  | .setO i k e, st => match st with | .Assign [.Subscript (.Name n _) y _] x _ => decide (N[i]? = some n) && kV sc n && okName n && notSlice y && notComp x && chkE T N k sc y && chkE T N e sc x | _ => false
  | .setC a k e, st => match st with | .Assign [.Subscript z y _] x _ => notSlice y && notComp x && chkE T N a sc z && chkE T N k sc y && chkE T N e sc x | _ => false
  | .expr e, st => match st with | .Expr x _ => notComp x && chkE T N e sc x | _ => false
  | .ret e, st => match st with | .Return (some x) _ => chkE T N e sc x | _ => false
  | .ite c a b, st => match st with | .If x s1 s2 _ => testable x && chkE T N c sc x && chkB T N sc a s1 && chkB T N sc b s2 | _ => false
  | .whl _ c b, st => match st with | .While x s1 [] _ => testable x && chkE T N c sc x && chkB T N sc b s1 | _ => false
  | .for_ it t b, st => match st with | .For tg x s1 [] _ => chkI T N it sc false tg x && chkTg N sc t tg && notSet x && chkB T N sc b s1 | _ => false
  | .never, _ => true
  | .raise_ c anc f e, st => match st with | .Raise (some (.Call (.Name n _) [x] [] _)) none _ => decide (n = c) && kG sc c && okName c && chkE T N e sc x && chkX T c anc f e | _ => false
  | .try_ b hs, st => match st with | .Try body (h0 :: hds) [] [] _ => chkB T N sc b body && chkHs T N sc hs (h0 :: hds) | _ => false
def chkB (T : Tbl) (N : List Str) (sc : Scope) : PC.B → List Stmt → Bool
  | .nil, ss => ss.isEmpty
  | .cons s b, ss => match s with
    | .freeze _ => chkB T N sc b ss
    | s => match ss with | x :: xs => chkS T N sc s x && chkB T N sc b xs | [] => false
end
/-- is a core def the text's? -/
def chkF (T : Tbl) (fd : FD) (st : Stmt) : Bool :=
  chkB T fd.N (defScope st) fd.body (defBody st)
def bltNames : List Str := ["len", "int", "abs", "tuple", "list", "sum", "sorted", "all", "any", "range", "zip", "isinstance", "bool", "str"]

/-- a body's surroundings -/
structure Good (T : Tbl) (lv : Nat) (Φ : Fns) (N : List Str) (L : Lg) (X : Cx) (W : WX) : Prop where
  hN : X.N = N
  nd : N.Nodup
  calm : X.calm = true
  room : Room lv X.A
  tk : Takes X W
  kind : X.env.scope.kind = .function
  tab : TabOk X L T.T lv Φ
  blt : ∀ x ∈ bltNames, X.mg x = none
  gl : ∀ x d, T.G.lookup x = some d → ∃ v u, X.mg x = some u ∧ RelV v u ∧ ∀ H B μ, Rp X.K H B μ d v
  lg : L = lgx X.K T.X
  xc : ∀ c ∈ T.X, ∃ C, XcOk X.prog X.K X.mg T.X c C
  hl : 2 ≤ lv
theorem kG_gl {X : Cx} {x : Str} (h : kG X.env.scope x = true) : Gl X x := by
  unfold kG at h
  split at h
  · rename_i e; exact e
  · cases h
theorem kV_vis {sc : Scope} {x : Str} (h : kV sc x = true) : Vis sc x := by
  unfold kV at h
  split at h
  · rename_i e; exact .inl e
  · rename_i e; exact .inr (.inl e)
  · rename_i e; exact .inr (.inr e)
  · cases h
theorem okName_d {x : Str} (h : okName x = true) : (x == ("__debug__" : Str)) = false ∧ (x == ("__classdict__" : Str)) = false := by
  unfold okName at h
  rw [Bool.and_eq_true, Bool.not_eq_true', Bool.not_eq_true'] at h
  exact h
theorem star_of {X : Cx} {x : Expr} {xs : List Expr} (h : notStar x = true) : starEach (x :: xs) X.env = (false, eval x X.env) :: starEach xs X.env := by
  cases x <;> first | rfl | (simp [notStar] at h)
theorem chkE_star {T : Tbl} {N : List Str} {sc : Scope} : ∀ {c : E} {e : Expr}, chkE T N c sc e = true → notStar e = true ∧ notSlice e = true ∧ notSet e = true := by
  intro c e h
  cases e <;> first
    | exact ⟨rfl, rfl, rfl⟩
    | (cases c <;> simp [chkE] at h)
end PC

set_option maxHeartbeats 4000000
namespace PC
open PySem PySem.Spec PyProof.Rows L2
def isBool : Expr → Bool | .BoolOp .. => true | _ => false
structure Snd (X : Cx) (L : Lg) (W : WX) (Φ : Fns) (e : Expr) (c : E) : Prop where
  pe : PE X e (tE X.K L W Φ c)
  pt : testable e = true → PT X e (tT X.K L W Φ c)
  pw : isBool e = true → PW X e (tT X.K L W Φ c)
section
variable {T : Tbl} {lv : Nat} {Φ : Fns} {N : List Str} {L : Lg} {X : Cx} {W : WX}
theorem Good.hu (g : Good T lv Φ N L X W) : X.A.units + 65 < cLine := by
  have := g.room.un
  omega
theorem Good.mb (g : Good T lv Φ N L X W) {x : Str} (h : x ∈ bltNames) : X.mg x = none := g.blt x h
theorem Good.isName (g : Good T lv Φ N L X W) {i : Nat} {n : Str} (h1 : N[i]? = some n) (h2 : kV X.env.scope n = true) (h3 : okName n = true) : IsName X i n :=
  ⟨by rw [g.hN]; exact h1, kV_vis h2, (okName_d h3).1, (okName_d h3).2⟩
theorem Good.blk (g : Good T lv Φ N L X W) {s : Shared} {H : Hp} {scope : Scope} {C : Addr} {cl : List (Str × Addr)} {fp : List Addr} (hk : scope.kind = .function) : Good T lv Φ N L (X.blk s H scope (compEnvC scope cl C X.env) fp) W0 where
  hN := g.hN
  nd := g.nd
  calm := g.calm
  room := g.room
  tk := takes0
  kind := hk
  tab := fun f fd h => by
    obtain ⟨ad, fdat, q⟩ := g.tab f fd h
    exact ⟨ad, fdat, q.mg, q.kp, q.bd, q.ok⟩
  blt := g.blt
  gl := g.gl
  lg := g.lg
  xc := g.xc
  hl := g.hl
theorem plainTest {e : Expr} {c : E} (h : PE X e (tE X.K L W Φ c)) (hb : isBool e = false) (ht : testable e = true → PT X e (tT X.K L W Φ c)) : Snd X L W Φ e c := ⟨h, ht, fun z => by rw [hb] at z; cases z⟩
theorem tgNames_of (hN : X.N = N) (hl : ∀ n, kL sc n = true → Loc X.env.scope n ∧ (X.fn n = true ∨ X.env.scope.names.lookup n = some .local)) : ∀ {is : List Nat} {es : List Expr}, chkTgs N sc is es = true → TgNames X is es
  | [], [], _ => .nil
  | i :: is, e :: es, h => by
    cases e <;> simp [chkTgs] at h
    obtain ⟨⟨h1, h2⟩, h3⟩ := h
    exact .cons ⟨by rw [hN]; exact h1, (hl _ h2).1, (hl _ h2).2⟩ (tgNames_of hN hl h3)
  | [], _ :: _, h => by simp [chkTgs] at h
  | _ :: _, [], h => by simp [chkTgs] at h
theorem tgOk_of (hN : X.N = N) (hl : ∀ n, kL sc n = true → Loc X.env.scope n ∧ (X.fn n = true ∨ X.env.scope.names.lookup n = some .local)) {t : Tg} {e : Expr} (h : chkTg N sc t e = true) : TgOk X t e := by
  cases t with
  | name i =>
    cases e <;> simp [chkTg] at h
    exact .name ⟨by rw [hN]; exact h.1, (hl _ h.2).1, (hl _ h.2).2⟩
  | tup is =>
    cases e <;> simp [chkTg] at h
    exact .tup (tgNames_of hN hl h)
theorem kL_loc {sc : Scope} {n : Str} (h : kL sc n = true) : Loc sc n := by
  unfold kL at h
  split at h
  · rename_i e; exact .inl e
  · rename_i e; exact .inr e
  · cases h
theorem blk_loc {X : Cx} {s : Shared} {H : Hp} {scope : Scope} {C : Addr} {cl : List (Str × Addr)} {fp : List Addr} (n : Str) (h : kL scope n = true) :
    Loc (X.blk s H scope (compEnvC scope cl C X.env) fp).env.scope n ∧ ((X.blk s H scope (compEnvC scope cl C X.env) fp).fn n = true ∨ (X.blk s H scope (compEnvC scope cl C X.env) fp).env.scope.names.lookup n = some .local) := by
  have keep : ∀ k, k ≠ NameKind.free → scope.names.lookup n = some k → (relS scope X.env.scope).names.lookup n = some k := fun k hk e => lookup_relS_keep hk e
  rcases kL_loc h with e | e
  · exact ⟨.inl (keep _ (by decide) e), .inr (keep _ (by decide) e)⟩
  · refine ⟨.inr (keep _ (by decide) e), .inl ?_⟩
    show (scope.names.lookup n == some .cell) = true
    rw [e]
    rfl
theorem Ty.blt (t : Ty) : t.id ∈ bltNames := by cases t <;> decide +kernel
theorem tyNames_of (g : Good T lv Φ N L X W) : ∀ {ts : List Ty} {es : List Expr}, chkTys X.env.scope ts es = true → TyNames X ts es
  | [], [], _ => .nil
  | t :: ts, e :: es, h => by
    cases e <;> simp [chkTys] at h
    obtain ⟨⟨h1, h2⟩, h3⟩ := h
    subst h1
    exact .cons (kG_gl h2) (g.mb (by cases t <;> decide +kernel)) (tyNames_of g h3)
  | [], _ :: _, h => by simp [chkTys] at h
  | _ :: _, [], h => by simp [chkTys] at h
theorem evs_len : ∀ (es : Es) {ρ : Ev} {M M' : Mem} {ds : List D}, evs Φ es ρ M = .ok ds M' → ds.length = es.len
  | .nil, _, _, _, _, h => by rw [evs] at h; cases h; rfl
  | .cons e es, ρ, M, M', ds, h => by
    rw [evs] at h
    cases e1 : ev Φ e ρ M with
    | bad => rw [e1] at h; cases h
    | err x M1 => rw [e1] at h; cases h
    | ok d M1 =>
      rw [e1] at h
      simp only [Res.bind_ok] at h
      cases e2 : evs Φ es ρ M1 with
      | bad => rw [e2] at h; cases h
      | err x M2 => rw [e2] at h; cases h
      | ok ds2 M2 =>
        rw [e2] at h
        cases h
        exact congrArg (· + 1) (evs_len es e2)
theorem chkEs_len {sc : Scope} : ∀ {es : Es} {xs : List Expr}, chkEs T N es sc xs = true → es.len = xs.length
  | .nil, xs, h => by
    rw [chkEs] at h
    rw [List.isEmpty_iff.mp h]
    rfl
  | .cons e es, [], h => by rw [chkEs] at h; cases h
  | .cons e es, x :: xs, h => by
    rw [chkEs, Bool.and_eq_true] at h
    exact congrArg (· + 1) (chkEs_len h.2)
theorem chkEs_star {sc : Scope} : ∀ {es : Es} {xs : List Expr}, chkEs T N es sc xs = true → (starEach xs X.env).any (·.1) = false
  | .nil, xs, h => by
    rw [chkEs] at h
    rw [List.isEmpty_iff.mp h]
    rfl
  | .cons e es, [], h => by rw [chkEs] at h; cases h
  | .cons e es, x :: xs, h => by
    rw [chkEs, Bool.and_eq_true] at h
    rw [star_of (chkE_star h.1).1, List.any_cons, chkEs_star h.2]
    rfl
theorem backTo_any {pos : Pos} {l : List (Bool × Sem Value)} (h : l.any (·.1) = false) : (backTo pos l).any (·.1) = false := by
  unfold backTo
  rw [List.any_map]
  exact h
/-- a plain expression: its test is its truth -/
theorem Snd.plain {e : Expr} {c : E} (h : PE X e (tE X.K L W Φ c)) (hb : isBool e = false) (he : ∀ whole, isTrue e X.env whole = (do let v ← whole; standAt e.pos; holding [v] (truthy v))) : Snd X L W Φ e c := plainTest h hb fun _ => s_truth h he
theorem foldSet {e : Expr} (h : notSet e = true) (v : Value) : foldedSetIterable e X.env v = pure v := by
  cases e <;> first | rfl | (simp [notSet] at h)
theorem chkI_set {sc : Scope} {k : Bool} {it : PC.It} {tg e : Expr} (h : chkI T N it sc k tg e = true) : notSet e = true := by
  cases e <;> first
    | rfl
    | (cases it <;> simp [chkI] at h <;> first | exact (chkE_star h).2.2 | skip)
mutual
theorem sE : ∀ (c : E) {X : Cx} {W : WX} {e : Expr}, Good T lv Φ N L X W → chkE T N c X.env.scope e = true → Snd X L W Φ e c
  | .var i, X, W, e, g, h => by
    cases e <;> simp [chkE] at h
    obtain ⟨⟨h1, h2⟩, h3⟩ := h
    have hn := g.isName h1 h2 h3
    exact .plain (s_var hn.hN hn.hv hn.hd hn.hc) rfl fun _ => rfl
  | .non, X, W, e, g, h => by
    unfold chkE at h
    split at h
    · exact .plain (s_const pe_non (fun _ _ => by rw [ev]) fun _ _ _ => .non) rfl fun _ => rfl
    · cases h
  | .bl b, X, W, e, g, h => by
    unfold chkE at h
    split at h
    · cases of_decide_eq_true h
      exact .plain (s_const pe_bl (fun _ _ => by rw [ev]) fun _ _ _ => .bl _) rfl fun _ => rfl
    · cases h
  | .int i, X, W, e, g, h => by
    unfold chkE at h
    split at h
    · cases of_decide_eq_true h
      exact .plain (s_const pe_int (fun _ _ => by rw [ev]) fun _ _ _ => .int _) rfl fun _ => rfl
    · cases h
  | .str x, X, W, e, g, h => by
    unfold chkE at h
    split at h
    · cases of_decide_eq_true h
      exact .plain (s_const pe_str (fun _ _ => by rw [ev]) fun _ _ _ => .str _) rfl fun _ => rfl
    · cases h
  | .glob x d, X, W, e, g, h => by
    cases e <;> simp [chkE] at h
    obtain ⟨⟨⟨h1, h2⟩, h3⟩, h4⟩ := h
    subst h1
    unfold Tbl.g at h3
    split at h3
    · rename_i d' e'
      have := D.same_eq _ _ h3
      subst this
      obtain ⟨v, u, q1, q2, q3⟩ := g.gl _ _ e'
      exact .plain (s_const (pe_glob (kG_gl h2) q1 q2 (okName_d h4).1) (fun _ _ => by rw [ev]) q3) rfl fun _ => rfl
    · cases h3
  | .bin o a b, X, W, e, g, h => by
    cases e <;> simp [chkE] at h
    obtain ⟨⟨h1, h2⟩, h3⟩ := h
    subst h1
    exact .plain (s_bin o (sE a g h2).pe (sE b g h3).pe) rfl fun _ => rfl
  | .neg a, X, W, e, g, h => by
    cases e <;> simp [chkE] at h
    rename_i op x p
    cases op <;> simp at h
    exact .plain (s_neg (sE a g h).pe) rfl fun _ => rfl
  | .not a, X, W, e, g, h => by
    cases e <;> simp [chkE] at h
    rename_i op x p
    cases op <;> simp at h
    exact plainTest (s_not (sE a g h.2).pe) rfl fun _ => s_notT ((sE a g h.2).pt h.1)
  | .cmp o a b, X, W, e, g, h => by
    unfold chkE at h
    split at h
    · simp at h
      obtain ⟨⟨⟨h1, h2⟩, h3⟩, h4⟩ := h
      subst h1
      exact plainTest (s_cmp g.hu o (sE a g h3).pe (sE b g h4).pe h2) rfl fun _ => s_cmpT g.hu o (sE a g h3).pe (sE b g h4).pe h2
    · cases h
  | .chain o o2 a b c, X, W, e, g, h => by
    unfold chkE at h
    split at h
    · simp at h
      obtain ⟨⟨⟨⟨⟨h1, h2⟩, h3⟩, h4⟩, h5⟩, h6⟩ := h
      subst h1 h2
      exact plainTest (s_chain g.hu o o2 (sE a g h4).pe (sE b g h5).pe (sE c g h6).pe h3) rfl fun _ => s_chainT g.hu o o2 (sE a g h4).pe (sE b g h5).pe (sE c g h6).pe h3
    · cases h
  | .isN a, X, W, e, g, h => by
    unfold chkE at h
    split at h
    · exact plainTest (s_isN (sE a g h).pe) rfl fun _ => s_isNT (sE a g h).pe
    · cases h
  | .notN a, X, W, e, g, h => by
    unfold chkE at h
    split at h
    · exact plainTest (s_notN (sE a g h).pe) rfl fun _ => s_notNT (sE a g h).pe
    · cases h
  | .isB a b, X, W, e, g, h => by
    unfold chkE at h
    split at h
    · simp at h
      obtain ⟨h1, h2⟩ := h
      subst h1
      exact plainTest (s_isB (sE a g h2).pe) rfl fun _ => s_isBT (sE a g h2).pe
    · cases h
  | .notB a b, X, W, e, g, h => by
    unfold chkE at h
    split at h
    · simp at h
      obtain ⟨h1, h2⟩ := h
      subst h1
      exact plainTest (s_notB (sE a g h2).pe) rfl fun _ => s_notBT (sE a g h2).pe
    · cases h
  | .and a b, X, W, e, g, h => by
    unfold chkE at h
    split at h
    · simp at h
      obtain ⟨⟨⟨h1, h2⟩, h3⟩, h4⟩ := h
      have pa := sE a g h3
      have pb := sE b g h4
      exact ⟨s_and pa.pe (pe_one pb.pe), fun _ => (s_andT (pa.pt h1) (pw_and1 (pb.pt h2))).pt, fun _ => s_andT (pa.pt h1) (pw_and1 (pb.pt h2))⟩
    · simp at h
      obtain ⟨⟨h1, h3⟩, h4⟩ := h
      have pa := sE a g h3
      have pb := sE b g h4
      exact ⟨s_and pa.pe pb.pe, fun _ => (s_andT (pa.pt h1) (pb.pw rfl)).pt, fun _ => s_andT (pa.pt h1) (pb.pw rfl)⟩
    · cases h
  | .or a b, X, W, e, g, h => by
    unfold chkE at h
    split at h
    · simp at h
      obtain ⟨⟨⟨h1, h2⟩, h3⟩, h4⟩ := h
      have pa := sE a g h3
      have pb := sE b g h4
      exact ⟨s_or pa.pe (pe_one pb.pe), fun _ => (s_orT (pa.pt h1) (pw_or1 (pb.pt h2))).pt, fun _ => s_orT (pa.pt h1) (pw_or1 (pb.pt h2))⟩
    · simp at h
      obtain ⟨⟨h1, h3⟩, h4⟩ := h
      have pa := sE a g h3
      have pb := sE b g h4
      exact ⟨s_or pa.pe pb.pe, fun _ => (s_orT (pa.pt h1) (pb.pw rfl)).pt, fun _ => s_orT (pa.pt h1) (pb.pw rfl)⟩
    · cases h
  | .ite c a b, X, W, e, g, h => by
    cases e <;> simp [chkE] at h
    obtain ⟨⟨⟨h1, h2⟩, h3⟩, h4⟩ := h
    exact plainTest (s_ite ((sE c g h2).pt h1) (sE a g h3).pe (sE b g h4).pe) rfl fun z => by cases z
  | .tup es, X, W, e, g, h => by
    cases e <;> simp [chkE] at h
    exact .plain (s_tup (sEs es g h)) rfl fun _ => rfl
  | .lst es, X, W, e, g, h => by
    cases e <;> simp [chkE] at h
    exact .plain (s_lst (sEs es g h)) rfl fun _ => rfl
  | .newL es, X, W, e, g, h => by
    cases e <;> simp [chkE] at h
    exact .plain (s_newL (sEs es g h)) rfl fun _ => rfl
  | .sub a i, X, W, e, g, h => by
    cases e <;> simp [chkE] at h
    obtain ⟨⟨h1, h2⟩, h3⟩ := h
    exact .plain (s_sub (sE a g h2).pe (sE i g h3).pe fun l hh p z => by rw [z] at h1; cases h1) rfl fun _ => rfl
  | .slice a lo hi, X, W, e, g, h => by
    unfold chkE at h
    split at h
    · simp at h
      obtain ⟨⟨h1, h2⟩, h3⟩ := h
      exact .plain (s_slice (sE a g h1).pe (sP lo g h2) (sP hi g h3)) rfl fun _ => rfl
    · cases h
  | .sliceRev a, X, W, e, g, h => by
    unfold chkE at h
    split at h
    · exact .plain (s_sliceRev (sE a g h).pe) rfl fun _ => rfl
    · cases h
  | .lenO i, X, W, e, g, h => by
    unfold chkE at h
    split at h
    · simp at h
      obtain ⟨⟨⟨⟨h1, h2⟩, h3⟩, h4⟩, h5⟩ := h
      subst h1
      exact .plain (s_lenO (g.isName h3 h4 h5) (kG_gl h2) (g.mb (by decide +kernel))) rfl fun _ => rfl
    · cases h
  | .subO i k, X, W, e, g, h => by
    unfold chkE at h
    split at h
    · simp at h
      obtain ⟨⟨⟨⟨h1, h2⟩, h3⟩, h4⟩, h5⟩ := h
      exact .plain (s_subO (g.isName h1 h2 h3) (sE k g h5).pe fun l hh p z => by rw [z] at h4; cases h4) rfl fun _ => rfl
    · cases h
  | .call f es, X, W, e, g, h => by
    unfold chkE at h
    split at h
    · rename_i n p args' pos
      split at h
      · rename_i fd hf
        simp at h
        obtain ⟨⟨⟨⟨h1, h2⟩, h3⟩, h4⟩, h5⟩ := h
        subst h1
        obtain ⟨ad, fdat, F⟩ := g.tab f fd hf
        have pa := sEs es g h5
        have hl := chkEs_len h5
        cases args' with
        | nil =>
          have e0 : es = .nil := by
            cases es with
            | nil => rfl
            | cons _ _ => cases hl
          subst e0
          exact .plain (s_call0 F g.room (kG_gl h2) g.tk h4 (okName_d h3).1) rfl fun _ => rfl
        | cons x xs =>
          refine .plain (s_call F g.room (kG_gl h2) g.tk h4 (okName_d h3).1 pa (fun ρ M ds M' q => (evs_len es q).trans hl) ?_ ?_) rfl fun _ => rfl
          · cases es with
            | nil => cases hl
            | cons e1 es =>
              rw [chkEs, Bool.and_eq_true] at h5
              exact star_of (chkE_star h5.1).1
          · cases es with
            | nil => cases hl
            | cons e1 es =>
              rw [chkEs, Bool.and_eq_true] at h5
              exact backTo_any (chkEs_star h5.2)
      · cases h
    · cases h
  | .bi b a, X, W, e, g, h => by
    unfold chkE at h
    split at h
    · simp at h
      obtain ⟨⟨h1, h2⟩, h4⟩ := h
      subst h1
      have pa := (sE a g h4).pe
      have hs := star_of (X := X) (xs := []) (chkE_star h4).1
      rename_i p x pos
      have hp : ∀ {tt : TA}, PA X [x] tt → PE X (.Call (.Name (biName b) p) [x] [] pos) (tCB (rBi X.K b) tt) := fun {tt} ha => by
        cases b with
        | len => exact pe_callB c_len (kG_gl h2) (g.mb (by decide +kernel)) boot_len ha (by decide) (by decide) hs rfl
        | int => exact pe_callTy c_int (kG_gl h2) (g.mb (by decide +kernel)) (by decide +kernel) ha (by decide) (by decide) hs rfl
        | abs => exact pe_callB c_abs (kG_gl h2) (g.mb (by decide +kernel)) (by decide +kernel) ha (by decide) (by decide) hs rfl
        | tuple => exact pe_callTy c_tuple (kG_gl h2) (g.mb (by decide +kernel)) (by decide +kernel) ha (by decide) (by decide) hs rfl
        | list => exact pe_callTy c_list (kG_gl h2) (g.mb (by decide +kernel)) (by decide +kernel) ha (by decide) (by decide) hs rfl
        | sum => exact pe_callB (c_sum g.calm) (kG_gl h2) (g.mb (by decide +kernel)) (by decide +kernel) ha (by decide) (by decide) hs rfl
        | all => exact pe_callB (c_all g.calm) (kG_gl h2) (g.mb (by decide +kernel)) (by decide +kernel) ha (by decide) (by decide) hs rfl
        | any => exact pe_callB (c_any g.calm) (kG_gl h2) (g.mb (by decide +kernel)) (by decide +kernel) ha (by decide) (by decide) hs rfl
        | sorted => exact pe_callB c_sorted (kG_gl h2) (g.mb (by decide +kernel)) (by decide +kernel) ha (by decide) (by decide) hs rfl
      exact .plain (s_bi hp (pa_cons pa pa_nil hs)) rfl fun _ => rfl
    · cases h
  | .isi a ts, X, W, e, g, h => by
    unfold chkE at h
    split at h
    · split at h
      · simp at h
        obtain ⟨⟨⟨⟨h1, h2⟩, h3⟩, h4⟩, h5⟩ := h
        subst h1 h3
        rename_i t
        exact .plain (s_isi (kG_gl h2) (g.mb (by decide +kernel)) (kG_gl h4) (g.mb (Ty.blt t)) (sE a g h5).pe (star_of (chkE_star h5).1)) rfl fun _ => rfl
      · cases h
    · simp at h
      obtain ⟨⟨⟨⟨⟨h1, h2⟩, h3⟩, h4⟩, h5⟩, h6⟩ := h
      subst h1
      exact .plain (s_isiT (kG_gl h2) (g.mb (by decide +kernel)) (tyNames_of g h3) h4 (by simpa using h5) (sE a g h6).pe (star_of (chkE_star h6).1)) rfl fun _ => rfl
    · cases h
  | .comp it t ifs elt, X, W, e, g, h => by
    unfold chkE at h
    split at h
    · rename_i el tg iter ife scope pos
      simp only [Bool.and_eq_true, decide_eq_true_eq] at h
      obtain ⟨⟨⟨⟨⟨⟨⟨h1, h2⟩, h3⟩, h4⟩, h5⟩, h6⟩, h7⟩, h8⟩ := h
      have ok := blkOk_by h2
      have gb : ∀ (s : Shared) (H : Hp) (C : Addr) (cl : List (Str × Addr)) (fp : List Addr), Good T lv Φ N L (X.blk s H scope (compEnvC scope cl C X.env) fp) W0 := fun s H C cl fp => g.blk ok.kind
      have ok' : BlkOk X.N X.env.scope scope (tgOwn t tg) := by rw [g.hN]; exact ok
      have fs := foldSet (X := X) (chkI_set h1)
      refine .plain ?_ rfl fun _ => rfl
      have hgb : ∀ (s : Shared) (H : Hp) (C : Addr) (cl : List (Str × Addr)) (fp : List Addr), PG (X.blk s H scope (compEnvC scope cl C X.env) fp) tg (gT X.K t) := fun s H C cl fp =>
        TgOk.pg (X := X.blk s H scope (compEnvC scope cl C X.env) fp) g.calm (by show X.N.Nodup; rw [g.hN]; exact g.nd) (tgOk_of (X := X.blk s H scope (compEnvC scope cl C X.env) fp) g.hN blk_loc h4)
      have htb : ∀ (s : Shared) (H : Hp) (C : Addr) (cl : List (Str × Addr)) (fp : List Addr), PTs (X.blk s H scope (compEnvC scope cl C X.env) fp) ife (tTs X.K L W0 Φ ifs) := fun s H C cl fp => sTs ifs (gb s H C cl fp) h7 h6
      have heb : ∀ (s : Shared) (H : Hp) (C : Addr) (cl : List (Str × Addr)) (fp : List Addr), PE (X.blk s H scope (compEnvC scope cl C X.env) fp) el (tE X.K L W0 Φ elt) := fun s H C cl fp => (sE elt (gb s H C cl fp) h8).pe
      refine (pe_lc g.calm (by rw [g.hN]; exact g.nd) (sIC it g h1) ok' hgb htb heb fs).imp fun σ H Q ⟨fr, B, μ, oa, ρ, M, rel, h⟩ => ?_
      rw [h3]
      exact lc_read rel h fun H' μ' xs M' a vs r' e' h' _ hH hb rs _ _ => h' _ (.lst ⟨hH, hb⟩ rs)
    · cases h
  | .borrow i a, X, W, e, g, h => by
    unfold chkE at h
    rw [Bool.and_eq_true] at h
    have q := sE a g h.2
    refine plainTest (e_borrow q.pe) ?_ fun z => t_borrow (q.pt z)
    have h1 := h.1
    cases e <;> first | rfl | (simp at h1)
theorem sEs : ∀ (es : Es) {X : Cx} {W : WX} {xs : List Expr}, Good T lv Φ N L X W → chkEs T N es X.env.scope xs = true → PA X xs (tEs X.K L W Φ es)
  | .nil, X, W, xs, g, h => by
    rw [chkEs] at h
    rw [List.isEmpty_iff.mp h]
    exact s_nil
  | .cons e es, X, W, [], g, h => by rw [chkEs] at h; cases h
  | .cons e es, X, W, x :: xs, g, h => by
    rw [chkEs, Bool.and_eq_true] at h
    exact s_cons (sE e g h.1).pe (sEs es g h.2) (star_of (chkE_star h.1).1)
theorem sTs : ∀ (es : Es) {X : Cx} {W : WX} {xs : List Expr}, Good T lv Φ N L X W → chkEs T N es X.env.scope xs = true → xs.all testable = true → PTs X xs (tTs X.K L W Φ es)
  | .nil, X, W, xs, g, h, _ => by
    rw [chkEs] at h
    rw [List.isEmpty_iff.mp h]
    exact ts_nil
  | .cons e .nil, X, W, [], g, h, _ => by rw [chkEs] at h; cases h
  | .cons e .nil, X, W, x :: xs, g, h, ht => by
    rw [chkEs, Bool.and_eq_true, chkEs] at h
    have e0 := List.isEmpty_iff.mp h.2
    subst e0
    rw [List.all_cons, Bool.and_eq_true] at ht
    exact ts_one ((sE e g h.1).pt ht.1)
  | .cons e (.cons e2 es), X, W, xs, g, h, _ => ⟨fun pins s σ H Q I ⟨fr, B, μ, oa, ρ, M, rel, hq⟩ => by
    rw [tst] at hq
    exact hq.elim⟩
theorem sP : ∀ (o : Pt) {X : Cx} {W : WX} {x : Option Expr}, Good T lv Φ N L X W → chkP T N o X.env.scope x = true → PO X x (tP X.K L W Φ o)
  | .none, X, W, x, g, h => by
    unfold chkP at h
    cases x with
    | none => exact s_pnone
    | some _ => cases h
  | .some e, X, W, x, g, h => by
    unfold chkP at h
    cases x with
    | none => cases h
    | some x => exact s_psome (sE e g h).pe
theorem sIC : ∀ (it : PC.It) {X : Cx} {W : WX} {tg e : Expr}, Good T lv Φ N L X W → chkI T N it X.env.scope true tg e = true → PI X tg e (tIC X.K L W Φ it)
  | .own i, X, W, tg, e, g, h => by
    unfold chkI at h
    rw [Bool.true_and] at h
    cases e <;> simp at h
    obtain ⟨⟨h1, h2⟩, h3⟩ := h
    exact i_own (g.isName h1 h2 h3)
  | .seq a, X, W, tg, e, g, h => tIF_C (sIF (.seq a) g (by unfold chkI at h ⊢; exact h))
  | .range1 a, X, W, tg, e, g, h => tIF_C (sIF (.range1 a) g (by unfold chkI at h ⊢; exact h))
  | .range2 a b, X, W, tg, e, g, h => tIF_C (sIF (.range2 a b) g (by unfold chkI at h ⊢; exact h))
  | .zip a b, X, W, tg, e, g, h => tIF_C (sIF (.zip a b) g (by unfold chkI at h ⊢; exact h))
theorem sIF : ∀ (it : PC.It) {X : Cx} {W : WX} {tg e : Expr}, Good T lv Φ N L X W → chkI T N it X.env.scope false tg e = true → PI X tg e (tIF X.K L W Φ it)
  | .own i, X, W, tg, e, g, h => by
    unfold chkI at h
    cases h
  | .seq a, X, W, tg, e, g, h => by
    rw [chkI] at h
    exact i_seq (sE a g h).pe
  | .range1 a, X, W, tg, e, g, h => by
    unfold chkI at h
    split at h
    · simp at h
      obtain ⟨⟨h1, h2⟩, h3⟩ := h
      subst h1
      exact i_range1 (kG_gl h2) (g.mb (by decide +kernel)) (sE a g h3).pe (star_of (chkE_star h3).1)
    · cases h
  | .range2 a b, X, W, tg, e, g, h => by
    unfold chkI at h
    split at h
    · simp at h
      obtain ⟨⟨⟨h1, h2⟩, h3⟩, h4⟩ := h
      subst h1
      exact i_range2 (kG_gl h2) (g.mb (by decide +kernel)) (sE a g h3).pe (sE b g h4).pe (by rw [star_of (chkE_star h3).1, star_of (chkE_star h4).1]; rfl) (star_of (chkE_star h4).1)
    · cases h
  | .zip a b, X, W, tg, e, g, h => by
    unfold chkI at h
    split at h
    · simp at h
      obtain ⟨⟨⟨h1, h2⟩, h3⟩, h4⟩ := h
      subst h1
      have s2 := star_of (X := X) (xs := []) (chkE_star h4).1
      exact i_zip (kG_gl h2) (g.mb (by decide +kernel)) (sE a g h3).pe (sE b g h4).pe (star_of (chkE_star h3).1) s2 (backTo_any (by rw [s2]; rfl))
    · cases h
end
end
end PC

set_option maxHeartbeats 4000000
namespace PC
open PySem PySem.Spec PyProof.Rows L2
section
variable {T : Tbl} {lv : Nat} {Φ : Fns} {N : List Str} {L : Lg} {X : Cx} {W : WX}
/-- a def's body -/
structure GoodB (T : Tbl) (lv : Nat) (Φ : Fns) (N : List Str) (L : Lg) (X : Cx) (W : WX) : Prop extends Good T lv Φ N L X W where
  po : PassesOwn (model X.prog X.w) X.A X.env X.xe
  fn : ∀ n, X.fn n = true
  sk : X.stack = X.env :: X.outer
  fr : X.env.frame = some X.env.locals
theorem GoodB.tr (g : GoodB T lv Φ N L X W) {W' : WX} {pn : List (Addr × Obj)} {xe : Value → Shared → Prop} (tk : Takes (X.tr pn xe) W') (po : PassesOwn (model X.prog X.w) X.A X.env xe) : GoodB T lv Φ N L (X.tr pn xe) W' where
  hN := g.hN
  nd := g.nd
  calm := g.calm
  room := g.room
  tk := tk
  kind := g.kind
  tab := fun f fd h => by
    obtain ⟨ad, fdat, q⟩ := g.tab f fd h
    exact ⟨ad, fdat, q.mg, q.kp, q.bd, q.ok⟩
  blt := g.blt
  gl := g.gl
  lg := g.lg
  xc := g.xc
  hl := g.hl
  po := po
  fn := g.fn
  sk := g.sk
  fr := g.fr
theorem chkHE_x (hN : X.N = N) : ∀ {e : HE} {i : Option Nat} {x : Expr}, chkHE N X.env.scope i e x = true → HEx X i e x
  | .con d, i, x, h => by
    unfold chkHE at h
    split at h
    · exact .non
    · cases of_decide_eq_true h; exact .bl
    · cases of_decide_eq_true h; exact .int
    · cases of_decide_eq_true h; exact .str
    · cases h
  | .fld f, i, x, h => by
    unfold chkHE at h
    split at h
    · simp only [Bool.and_eq_true, decide_eq_true_eq] at h
      obtain ⟨⟨⟨rfl, h2⟩, h3⟩, h4⟩ := h
      exact .fld rfl ⟨by rw [hN]; exact h2, kV_vis h3, (okName_d h4).1, (okName_d h4).2⟩
    · cases h
  | .pair a b, i, x, h => by
    unfold chkHE at h
    split at h
    · simp only [Bool.and_eq_true] at h
      obtain ⟨⟨⟨h1, h2⟩, h3⟩, h4⟩ := h
      exact .pair (chkHE_x hN h1) (chkHE_x hN h2) h3 h4
    · cases h
theorem chkNm_ok (hN : X.N = N) {n : Option Str} {k : Option Nat} (h : chkNm N X.env.scope n k = true) : NmOk X n k := by
  unfold chkNm at h
  split at h
  · exact True.intro
  · rename_i n k
    rw [Bool.and_eq_true, decide_eq_true_eq] at h
    refine ⟨by rw [hN]; exact h.1, ?_⟩
    have h2 := h.2
    unfold kLoc at h2
    unfold Env.kindOf
    split at h2
    · assumption
    · cases h2
  · cases h
theorem chkHs_x (hN : X.N = N) : ∀ {hs : List Hdl} {es : List ExceptHandler}, chkHs T N X.env.scope hs es = true → HdlsX X T.X hs es
  | [], [], _ => .nil
  | [], _ :: _, h => by simp [chkHs] at h
  | h0 :: hs, [], h => by simp [chkHs] at h
  | h0 :: hs, e0 :: es, h => by
    unfold chkHs at h
    split at h
    · rename_i e; cases e
    · rename_i e1 e2
      cases e1; cases e2
      simp only [Bool.and_eq_true, decide_eq_true_eq, List.any_eq_true] at h
      obtain ⟨⟨⟨⟨⟨⟨rfl, h2⟩, h3⟩, c, h4, h5⟩, h6⟩, h7⟩, h8⟩ := h
      exact .cons h4 h5 (kG_gl h2) (okName_d h3).1 (chkNm_ok hN h6) (chkHE_x hN h7) (chkHs_x hN h8)
    · cases h
theorem swaps_not {e : Expr} {t : Option Expr} {l : Nat} (h : notComp e = true) : swapsWith e t l X.env = pure false := by
  cases e <;> first | rfl | (simp [notComp] at h)
theorem swapsSole_not {e t : Expr} {l : Nat} (h : notComp e = true) : swapsWithSole [t] e l X.env = pure false := swaps_not h
theorem stores_not {e t : Expr} (h : notTuple e = true) : swappedStores [t] e X.env = pure none := by
  cases e <;> first | (cases t <;> rfl) | (simp [notTuple] at h)
theorem stores_sub {e o i : Expr} {p : Pos} : swappedStores [.Subscript o i p] e X.env = pure none := by
  cases e <;> rfl
theorem pure_inj_false {b : Bool} (h : b = false) : (pure b : Sem Bool) = pure false := by rw [h]
theorem swaps_lc {elt : Expr} {gs : List Comprehension} {scope : Scope} {cp q : Pos} {n : Str} {l : Nat} (hk : X.env.scope.kind = .function) : swapsWith (.ListComp elt gs scope cp) (some (.Name n q)) l X.env = pure (lcSame X.env.scope n q (.ListComp elt gs scope cp)) := by
  have hb : X.env.blockKind = .function := by unfold Env.blockKind; rw [hk]; rfl
  unfold swapsWith
  have e1 : (X.env.kindOf n == some NameKind.local) = kLoc X.env.scope n := by
    unfold kLoc Env.kindOf
    cases X.env.scope.names.lookup n with
    | none => rfl
    | some k => cases k <;> rfl
  simp only [hb, e1, Expr.pos]
  rfl
theorem GoodB.loc (g : GoodB T lv Φ N L X W) (n : Str) (h : kL X.env.scope n = true) : Loc X.env.scope n ∧ (X.fn n = true ∨ X.env.scope.names.lookup n = some .local) := ⟨kL_loc h, .inl (g.fn n)⟩
theorem GoodB.tgn (g : GoodB T lv Φ N L X W) {i : Nat} {n : Str} (h1 : N[i]? = some n) (h2 : kL X.env.scope n = true) : TgName X i n := ⟨by rw [g.hN]; exact h1, kL_loc h2, .inl (g.fn n)⟩
theorem GoodB.nd' (g : GoodB T lv Φ N L X W) : X.N.Nodup := by rw [g.hN]; exact g.nd
/-- name = [..] -/
theorem lc_store (g : GoodB T lv Φ N L X W) {it : PC.It} {t : Tg} {ifs : Es} {elt : E} {x : Expr} {i : Nat} {n : Str} {q pos : Pos} (h1 : N[i]? = some n) (h2 : kL X.env.scope n = true) (h : chkE T N (.comp it t ifs elt) X.env.scope x = true) :
    PS X (.Assign [.Name n q] x pos) (tAsg (tLc (tIC X.K L W Φ it) (gT X.K t) (tTs X.K L W0 Φ ifs) (tE X.K L W0 Φ elt) t.slots) (gName i)) := by
  unfold chkE at h
  split at h
  · rename_i el tg iter ife scope cp
    simp only [Bool.and_eq_true, decide_eq_true_eq] at h
    obtain ⟨⟨⟨⟨⟨⟨⟨c1, c2⟩, c3⟩, c4⟩, c5⟩, c6⟩, c7⟩, c8⟩ := h
    have ok := blkOk_by c2
    have gb : ∀ (s : Shared) (H : Hp) (C : Addr) (cl : List (Str × Addr)) (fp : List Addr), Good T lv Φ N L (X.blk s H scope (compEnvC scope cl C X.env) fp) W0 := fun s H C cl fp => g.toGood.blk ok.kind
    have ok' : BlkOk X.N X.env.scope scope (tgOwn t tg) := by rw [g.hN]; exact ok
    have fs := foldSet (X := X) (chkI_set c1)
    have hgb : ∀ (s : Shared) (H : Hp) (C : Addr) (cl : List (Str × Addr)) (fp : List Addr), PG (X.blk s H scope (compEnvC scope cl C X.env) fp) tg (gT X.K t) := fun s H C cl fp =>
      TgOk.pg (X := X.blk s H scope (compEnvC scope cl C X.env) fp) g.calm (by show X.N.Nodup; rw [g.hN]; exact g.nd) (tgOk_of (X := X.blk s H scope (compEnvC scope cl C X.env) fp) g.hN blk_loc c4)
    have htb : ∀ (s : Shared) (H : Hp) (C : Addr) (cl : List (Str × Addr)) (fp : List Addr), PTs (X.blk s H scope (compEnvC scope cl C X.env) fp) ife (tTs X.K L W0 Φ ifs) := fun s H C cl fp => sTs ifs (gb s H C cl fp) c7 c6
    have heb : ∀ (s : Shared) (H : Hp) (C : Addr) (cl : List (Str × Addr)) (fp : List Addr), PE (X.blk s H scope (compEnvC scope cl C X.env) fp) el (tE X.K L W0 Φ elt) := fun s H C cl fp => (sE elt (gb s H C cl fp) c8).pe
    rw [← c3]
    have hw := swaps_lc (X := X) (elt := el) (gs := [⟨tg, iter, ife, 0⟩]) (scope := scope) (cp := cp) (q := q) (n := n) (l := pos.line) g.kind
    have hn := g.tgn h1 h2
    cases e : lcSame X.env.scope n q (.ListComp el [⟨tg, iter, ife, 0⟩] scope cp) with
    | true =>
      rw [e] at hw
      have hloc : X.env.scope.names.lookup n = some .local := by
        unfold lcSame at e
        rw [Bool.and_eq_true, Bool.and_eq_true] at e
        have q := e.1.1
        unfold kLoc at q
        split at q
        · assumption
        · cases q
      exact ps_setLc g.calm g.nd' hn.hN hloc hw (sIC it g.toGood c1) ok' hgb htb heb fs
    | false =>
      rw [e] at hw
      exact ps_set g.nd' hn.hN hn.hl (pe_lc g.calm g.nd' (sIC it g.toGood c1) ok' hgb htb heb fs) hw hn.hf
  · cases h
theorem few1 {x : Expr} {cp : Pos} (h : starEach [x] X.env = (false, eval x X.env) :: starEach [] X.env) : ((backTo cp (starEach [x] X.env)).all (fun x => !x.1) && (backToKw cp (keywordEach [] X.env)).all (fun x => x.1.isSome) && decide ([x].length + ([] : List Keyword).length + (if ([] : List Keyword).isEmpty then 0 else 1) < 30)) = true := by
  rw [h]
  rfl
theorem assign_sub {o i : Expr} {p : Pos} (h : notSlice i = true) (v : Value) : assign (.Subscript o i p) X.env v = (do
      let ov ← holding [v] (eval o X.env)
      let iv ← holding [v, ov] (eval i X.env)
      standAt p
      holding [v, ov, iv] (setItem ov iv v)
      release [v, ov, iv] []) := by
  cases i <;> first | rfl | (simp [notSlice] at h)
mutual
theorem sS : ∀ (s : S) {X : Cx} {W : WX} {st : Stmt}, GoodB T lv Φ N L X W → chkS T N X.env.scope s st = true → PS X st (tS X.K L W Φ s)
  | .set i e, X, W, st, g, h => by
    unfold chkS at h
    split at h
    · simp only [Bool.and_eq_true, decide_eq_true_eq, Bool.or_eq_true] at h
      obtain ⟨⟨⟨h1, h2⟩, h3⟩, h4⟩ := h
      rcases h3 with h3 | h3
      · exact st_set g.nd' (g.tgn h1 h2) (sE e g.toGood h4).pe (swaps_not h3)
      · cases e <;> first
          | exact st_setLc (lc_store g h1 h2 h4)
          | cases h3
    · cases h
  | .own i e, X, W, st, g, h => by
    unfold chkS at h
    split at h
    · simp only [Bool.and_eq_true, decide_eq_true_eq, Bool.or_eq_true] at h
      obtain ⟨⟨⟨h1, h2⟩, h3⟩, h4⟩ := h
      rcases h3 with (h3 | h3) | h3
      rotate_left
      rotate_left
      · cases e <;> try cases h3
        rename_i o a b
        cases o <;> try cases h3
        unfold chkE at h4
        split at h4
        · rename_i x o' y p
          simp only [Bool.and_eq_true, decide_eq_true_eq] at h4
          obtain ⟨⟨w1, w2⟩, w3⟩ := h4
          subst w1
          exact st_ownRep g.nd' (g.tgn h1 h2) (sE a g.toGood w2).pe (sE b g.toGood w3).pe
        · cases h4
      · cases e <;> first
          | (unfold chkE at h4
             split at h4
             · exact st_ownLst g.nd' (g.tgn h1 h2) (sEs _ g.toGood h4)
             · cases h4)
          | cases h3
      · cases e <;> first
          | exact st_ownLc (lc_store g h1 h2 h4)
          | cases h3
    · cases h
  | .freeze i, X, W, st, g, h => by
    unfold chkS at h
    cases h
  | .unpack is e, X, W, st, g, h => by
    unfold chkS at h
    split at h
    · simp only [Bool.and_eq_true] at h
      obtain ⟨⟨⟨h1, h2⟩, h3⟩, h4⟩ := h
      exact st_unpack g.calm g.nd' (tgNames_of g.hN g.loc h1) (sE e g.toGood h4).pe (swapsSole_not h2) (stores_not h3)
    · cases h
  | .append i e, X, W, st, g, h => by
    unfold chkS at h
    split at h
    · simp only [Bool.and_eq_true, decide_eq_true_eq] at h
      obtain ⟨⟨⟨⟨⟨h1, h2⟩, h3⟩, h4⟩, h5⟩, h6⟩ := h
      subst h1
      have s1 := star_of (X := X) (xs := []) (chkE_star h6).1
      exact st_append (g.toGood.isName h2 h3 h4) (sE e g.toGood h6).pe h5 s1 (few1 s1)
    · cases h
  | .popAt j i k, X, W, st, g, h => by
    unfold chkS at h
    split at h
    · simp only [Bool.and_eq_true, decide_eq_true_eq] at h
      obtain ⟨⟨⟨⟨⟨⟨⟨h1, h2⟩, h3⟩, h4⟩, h5⟩, h6⟩, h7⟩, h8⟩ := h
      subst h1
      have s1 := star_of (X := X) (xs := []) (chkE_star h8).1
      exact st_popAt g.nd' (g.tgn h2 h3) (g.toGood.isName h4 h5 h6) (sE k g.toGood h8).pe h7 s1 (few1 s1)
    · cases h
  | .setO i k e, X, W, st, g, h => by
    unfold chkS at h
    split at h
    · simp only [Bool.and_eq_true, decide_eq_true_eq] at h
      obtain ⟨⟨⟨⟨⟨⟨h1, h2⟩, h3⟩, h4⟩, h5⟩, h6⟩, h7⟩ := h
      exact st_setO (g.toGood.isName h1 h2 h3) (sE e g.toGood h7).pe (sE k g.toGood h6).pe (swapsSole_not h5) stores_sub (fun l hh p z => by rw [z] at h4; cases h4) (assign_sub h4)
    · cases h
  | .setC a k e, X, W, st, g, h => by
    unfold chkS at h
    split at h
    · simp only [Bool.and_eq_true] at h
      obtain ⟨⟨⟨⟨h1, h2⟩, h3⟩, h4⟩, h5⟩ := h
      exact st_setC (sE a g.toGood h3).pe (sE e g.toGood h5).pe (sE k g.toGood h4).pe (swapsSole_not h2) stores_sub (assign_sub h1)
    · cases h
  | .expr e, X, W, st, g, h => by
    unfold chkS at h
    split at h
    · simp only [Bool.and_eq_true] at h
      exact st_expr (sE e g.toGood h.2).pe (swaps_not h.1)
    · cases h
  | .ret e, X, W, st, g, h => by
    unfold chkS at h
    split at h
    · exact st_ret (sE e g.toGood h).pe
    · cases h
  | .ite c a b, X, W, st, g, h => by
    unfold chkS at h
    split at h
    · simp only [Bool.and_eq_true] at h
      obtain ⟨⟨⟨h1, h2⟩, h3⟩, h4⟩ := h
      exact st_ite ((sE c g.toGood h2).pt h1) (sB a g h3) (sB b g h4)
    · cases h
  | .whl m c b, X, W, st, g, h => by
    unfold chkS at h
    split at h
    · simp only [Bool.and_eq_true] at h
      obtain ⟨⟨h1, h2⟩, h3⟩ := h
      exact st_whl g.po ((sE c g.toGood h2).pt h1) (sB b g h3)
    · cases h
  | .for_ it t b, X, W, st, g, h => by
    unfold chkS at h
    split at h
    · simp only [Bool.and_eq_true] at h
      obtain ⟨⟨⟨h1, h2⟩, h3⟩, h4⟩ := h
      exact st_for g.po g.calm g.nd' (sIF it g.toGood h1) (tgOk_of g.hN g.loc h2) (sB b g h4) (foldSet h3)
    · cases h
  | .never, X, W, st, g, h => st_never
  | .raise_ c anc f e, X, W, st, g, h => by
    unfold chkS at h
    split at h
    · rename_i n p x p3 pos
      simp only [Bool.and_eq_true, decide_eq_true_eq] at h
      obtain ⟨⟨⟨⟨rfl, h2⟩, h3⟩, h4⟩, h5⟩ := h
      unfold chkX at h5
      rw [List.any_eq_true] at h5
      obtain ⟨z, hz, h5⟩ := h5
      simp only [Bool.and_eq_true, decide_eq_true_eq] at h5
      obtain ⟨⟨rfl, rfl⟩, h6⟩ := h5
      obtain ⟨C, kc⟩ := g.xc z hz
      cases hi : z.ini with
      | none =>
        rw [hi] at h6
        cases f with
        | some f => cases h6
        | none =>
          cases e <;> try cases h6
          unfold chkE at h4
          split at h4
          · cases of_decide_eq_true h4
            exact st_raise0 g.lg g.calm g.tk hz kc hi (kG_gl h2) (okName_d h3).1
          · cases h4
      | some q =>
        obtain ⟨y, g1, o⟩ := q
        rw [hi] at h6
        cases f with
        | none => cases h6
        | some f =>
          have := of_decide_eq_true h6
          subst this
          exact st_raise1 g.lg g.calm g.tk (g.room.mono g.hl) hz kc hi (kG_gl h2) (okName_d h3).1 (sE e g.toGood h4).pe (star_of (chkE_star h4).1)
    · cases h
  | .try_ b hs, X, W, st, g, h => by
    unfold chkS at h
    split at h
    · rw [Bool.and_eq_true] at h
      exact st_try g.lg g.sk g.fr g.nd' g.tk g.xc (chkHs_x g.hN h.2) fun W' pn xe tk po => sB b (g.tr tk po) h.1
    · cases h
theorem sB : ∀ (b : PC.B) {X : Cx} {W : WX} {ss : List Stmt}, GoodB T lv Φ N L X W → chkB T N X.env.scope b ss = true → PSs X ss (tB X.K L W Φ b)
  | .nil, X, W, ss, g, h => by
    unfold chkB at h
    rw [List.isEmpty_iff.mp h]
    exact b_nil
  | .cons s b, X, W, ss, g, h => by
    unfold chkB at h
    split at h
    · exact b_freeze (sB b g h)
    · split at h
      · rw [Bool.and_eq_true] at h
        exact b_cons (sS s g h.1) (sB b g h.2)
      · cases h
end
end
end PC

namespace PC
open PySem PySem.Spec PyProof.Rows L2
section
variable {P : Program} {w : World} {K : PySem.W.Frag} {mg : Str → Option Value} {base : Heap} {L : Lg} {T : Tbl}
def TabP (P : Program) (w : World) (K : PySem.W.Frag) (mg : Str → Option Value) (base : Heap) (L : Lg) (T : Tbl) (lv : Nat) (Φ : Fns) : Prop :=
  ∀ f fd, T.T f = some fd → ∃ ad fdat, mg fd.name = some (.ref ad) ∧ PySem.W.keepIn K (.ref ad) = true ∧ Binds K fdat fd.ps [] ∧ FnOk P w K mg base (L2.CX P w) lv ad fdat fd.ps (spD K L Φ f fd.ps.length)
/-- a def of the table stands in the text -/
structure Stands (K : PySem.W.Frag) (mg : Str → Option Value) (T : Tbl) (fd : FD) (st : Stmt) (ad : Addr) (fdat : FuncData) : Prop where
  mg : mg fd.name = some (.ref ad)
  fn : Fun K fd.name fd.name st ad fdat
  bd : Binds K fdat fd.ps []
  sc : FnScope fd.N fd.ps (defScope st)
  ck : chkF T fd st = true
structure Mods (P : Program) (K : PySem.W.Frag) (mg : Str → Option Value) (T : Tbl) : Prop where
  blt : ∀ x ∈ bltNames, mg x = none
  gl : ∀ x d, T.G.lookup x = some d → ∃ v u, mg x = some u ∧ RelV v u ∧ ∀ H B μ, Rp K H B μ d v
  defs : ∀ f fd, T.T f = some fd → ∃ st ad fdat, Stands K mg T fd st ad fdat
  xc : ∀ c ∈ T.X, ∃ C, XcOk P K mg T.X c C
theorem start_slot {N : List Str} {H : Hp} {B : Addr → Prop} {μ : List Addr} {ds : List D} {vs : List V} (rs : Rps K H B μ ds vs) (i : Nat) (s : Slot) (h : (startE N ds)[i]? = some s) : SlotR K H B μ none (L2.start N vs)[i]? s := by
  unfold startE at h
  unfold L2.start
  by_cases hi : i < ds.length
  · rw [List.getElem?_append_left (by rw [List.length_map]; exact hi), List.getElem?_map] at h
    cases e : ds[i]? with
    | none => rw [e] at h; cases h
    | some d =>
      rw [e] at h
      cases h
      obtain ⟨v, h1, h2⟩ := rs.get e
      refine ⟨rfl, v, ?_, h2⟩
      rw [List.getElem?_append_left (by rw [List.length_map, ← rs.length]; exact hi), List.getElem?_map, h1]
      rfl
  · rw [List.getElem?_append_right (by rw [List.length_map]; omega)] at h
    have : s = .un := by
      have := List.mem_of_getElem? h
      exact List.eq_of_mem_replicate this
    subst this
    rfl
theorem rel_start {N : List Str} {H : Hp} {B : Addr → Prop} {μ : List Addr} {M : Mem} {ds : List D} {vs : List V} (cs : Cs K H (ban B μ) μ M) (bt : ∀ a, ban B μ a → H a ≠ none) (rs : Rps K H (ban B μ) μ ds vs) : Rl K ⟨H, B, μ⟩ B μ (fun _ => none) (startE N ds) M (L2.start N vs) H where
  cs := cs
  b0 := fun a h => .inl h
  bt := bt
  bo := fun _ _ h => nomatch h
  oi := fun _ _ _ h => nomatch h
  on := fun _ _ h => nomatch h
  sl := start_slot rs
  so := fun _ _ => rfl
  ln := by
    unfold startE L2.start
    rw [List.length_append, List.length_append, List.length_map, List.length_map, List.length_replicate, List.length_replicate, rs.length]
  m0 := ⟨[], by simp, by simp⟩
  ev := fun a o h _ => h
/-- what a body leaves, for its caller -/
theorem rel_end {fr : Fr} {B : Addr → Prop} {μ : List Addr} {oa : Nat → Option Addr} {ρ : Ev} {M : Mem} {σ : L2.St} {H : Hp} (r : Rl K fr B μ oa ρ M σ H) (tr : ∀ a ∈ fr.μ0, fr.H0 a ≠ none) :
    Evo fr.μ0 fr.H0 μ H ∧ Cs K H (ban fr.B0 μ) μ M ∧ (∀ a, ban fr.B0 μ a → H a ≠ none) ∧ ∀ {d : D} {v : V}, Rp K H (ban B μ) μ d v → Rp K H (ban fr.B0 μ) μ d v := by
  have sub : ∀ a, ban fr.B0 μ a → ban B μ a := fun a h => h.elim (r.b0 a) .inr
  have kp : Kp H H (ban B μ) (ban fr.B0 μ) μ μ := ⟨fun a o e n => ⟨e, fun z => n (sub a z)⟩, fun _ _ e => e⟩
  obtain ⟨t, ht, hn⟩ := r.m0
  refine ⟨⟨⟨t, ht, fun a h => (hn a h).1⟩, r.ev⟩, ⟨r.cs.nd, r.cs.len, fun a h => .inr h, fun n c a h1 h2 => ?_⟩, fun a h => r.bt a (sub a h), fun rp => rp.mono kp⟩
  have q := r.cs.at_ n c a h1 h2
  cases c with
  | lst es => obtain ⟨ws, q1, q2⟩ := q; exact ⟨ws, q1, q2.mono kp⟩
  | dict _ => exact q
  | ins _ _ => exact q
theorem def_ok {lv f : Nat} (hlv : 2 ≤ lv) (hL : L = lgx K T.X) {Φ Φ' : Fns} {fd : FD} {st : Stmt} {ad : Addr} {fdat : FuncData} (m : Mods P K mg T) (tab : TabP P w K mg base L T lv Φ) (s : Stands K mg T fd st ad fdat) (hΦ : ∀ ds M, Φ' f ds M = fd.run Φ ds M) :
    FnOk P w K mg base (L2.CX P w) (lv + 1) ad fdat fd.ps (spD K L Φ' f fd.ps.length) := by
  refine s.fn.okX s.sc (fun vs H Q E h => ?_) fun cdv A outer sh H vs Q E hr h => ?_
  · obtain ⟨_, _, _, _, hl, _⟩ := h
    exact hl
  · obtain ⟨B, μ, M, ds, hl, cs, bt, rs, hq⟩ := h
    have g : GoodB T lv Φ fd.N L (cxOf (L2.CX P w) P w K mg base fd.N fd.name (defScope st) ad cdv A outer sh H E) (fun cls d _ H' => E cls d H') :=
      { hN := rfl, nd := s.sc.nd, calm := rfl, room := hr, tk := takes_of rfl rfl rfl rfl, kind := s.sc.kind,
        tab := fun f' fd' hf => by
          obtain ⟨ad', fdat', h1, h2, h3, h4⟩ := tab f' fd' hf
          exact ⟨ad', fdat', h1, h2, h3, h4⟩,
        blt := m.blt, gl := m.gl, lg := hL, xc := m.xc, hl := hlv, po := passes_of rfl, fn := fun _ => rfl, sk := rfl, fr := rfl }
    refine ⟨_, sB fd.body g s.ck, ⟨H, B, μ⟩, B, μ, fun _ => none, startE fd.N ds, M, rel_start cs bt rs, ?_⟩
    rw [hΦ] at hq
    unfold FD.run at hq
    have tr : ∀ a ∈ μ, H a ≠ none := fun a h => bt a (.inr h)
    by_cases hlen : ds.length = fd.ps.length
    · rw [if_pos hlen] at hq
      cases e : exs Φ fd.body (startE fd.N ds) M with
      | nx ρ' M' =>
        rw [e] at hq
        intro B' μ' oa' σ' H' _ r'
        obtain ⟨e1, e2, e3, e4⟩ := rel_end r' tr
        exact hq .non H' μ' e1 e2 e3 .non
      | rt d M' =>
        rw [e] at hq
        intro B' μ' oa' ρ' σ' H' v r' rv
        obtain ⟨e1, e2, e3, e4⟩ := rel_end r' tr
        exact hq v H' μ' e1 e2 e3 (e4 rv)
      | er x ρ' M' =>
        rw [e] at hq
        intro B' μ' oa' σ' H' cls dd _ r' hx
        obtain ⟨e1, e2, e3, e4⟩ := rel_end r' tr
        exact hq cls dd H' μ' e1 e2 e3 hx
      | bad =>
        rw [e] at hq
        exact hq
    · rw [if_neg hlen] at hq
      exact hq.elim
theorem tab_ok (hL : L = lgx K T.X) (m : Mods P K mg T) : ∀ n, TabP P w K mg base L T (n + 3) (callN T.T n)
  | 0 => fun f fd h => by
    obtain ⟨st, ad, fdat, s⟩ := m.defs f fd h
    refine ⟨ad, fdat, s.mg, s.fn.kp, s.bd, ⟨fun vs H Q E q => ?_, fun A outer sh H args us vs Q E _ _ _ _ q => ?_⟩⟩
    · obtain ⟨_, _, _, _, hl, _⟩ := q
      exact hl
    · obtain ⟨_, _, _, _, _, _, _, _, hq⟩ := q
      exact hq.elim
  | n + 1 => fun f fd h => by
    obtain ⟨st, ad, fdat, s⟩ := m.defs f fd h
    exact ⟨ad, fdat, s.mg, s.fn.kp, s.bd, def_ok (by omega) hL m (tab_ok hL m n) s fun ds M => by rw [callN, h]⟩
/-- a law's end -/
theorem law_end {n f : Nat} {H : Hp} {a : Addr} {ns : List Int} {M' : Mem} (h : callN T.T n f [.frz (ns.map .int)] [] = .ok (.bl true) M') (hS : SqL K H a (ns.map V.int)) :
    spD K L (callN T.T n) f 1 [.ref a] H (fun v _ => v = .bl true) fun _ _ _ => False := by
  refine ⟨fun _ => False, [], [], [.frz (ns.map .int)], rfl, ⟨List.nodup_nil, rfl, fun a h => (nomatch h), fun n c a h => (nomatch h)⟩, fun a h => (by rcases h with h | h; exact h.elim; cases h), .cons (.frz ?_ (Rps.of_ints ns)) .nil, ?_⟩
  · rcases hS with q | q
    · exact .inl ⟨q, fun z => by rcases z with z | z; exact z; cases z⟩
    · exact .inr fun H' => .inr q
  · rw [h]
    intro v H' μ' _ _ _ rp
    cases rp
    rfl
/-- how a def without defaults binds -/
theorem binds_of {x qual : Str} {st : Stmt} {f : Addr} {fd : FuncData} {ps : List Str} (F : Fun K x qual st f fd)
    (h : ∀ (kV doc pm : Value) (an : Option Addr) (cdv ct : Value) (us : List Value), us.length = ps.length → bindArgs (PySem.W.fnOf x qual (defArgs st) (defBody st) (defScope st) .none kV doc pm an cdv ct) ⟨us, []⟩ = pure (ps.zip us)) : Binds K fd ps [] := F.binds h
end
/-- no exception is told of -/
def Lg0 : Lg := ⟨fun _ _ _ _ => False⟩
theorem cx_no {P : Program} {w : World} {H : Hp} {s : Shared} {e : Value} {s' : Shared} (z : L2.CX P w [] H s (fun _ _ _ => False) e s') : False := by
  obtain ⟨_, _, _, _, _, _, _, _, _, _, _, _, z⟩ := z
  exact z
/-- the law's own def -/
theorem law_fn {P : Program} {w : World} {K : PySem.W.Frag} {mg : Str → Option Value} {base : Heap} {L : Lg} {T : Tbl} {n f : Nat} {fd : FD} {st : Stmt} {ad : Addr} {fdat : FuncData} (hL : L = lgx K T.X) (m : Mods P K mg T) (hf : T.T f = some fd) (F : Fun K fd.name fd.name st ad fdat) (hm : mg fd.name = some (.ref ad))
    (sc : FnScope fd.N fd.ps (defScope st)) (ck : chkF T fd st = true) (hn : 0 < n) (b : Binds K fdat fd.ps []) : FnOk P w K mg base (L2.CX P w) (n + 3) ad fdat fd.ps (spD K L (callN T.T n) f fd.ps.length) := by
  cases n with
  | zero => cases hn
  | succ n => exact def_ok (by omega) hL m (tab_ok hL m n) ⟨hm, F, b, sc, ck⟩ fun ds M => by rw [callN, hf]
/-- the scope's conditions, as a test -/
def scC (N ps : List Str) (sc : Scope) : Bool :=
  (match sc.kind with | .function => true | _ => false) && (sc.isCoroutine == false) && (sc.isGenerator == false) && decide N.Nodup && decide (N.take ps.length = ps) &&
    (ps.all fun x => kL sc x) && (sc.names.all fun y => match y.2 with | .free => false | _ => true)
theorem sc_of {N ps : List Str} {sc : Scope} (h : scC N ps sc = true) : FnScope N ps sc := by
  unfold scC at h
  simp only [Bool.and_eq_true, decide_eq_true_eq, List.all_eq_true, beq_iff_eq] at h
  obtain ⟨⟨⟨⟨⟨⟨h1, h2⟩, h3⟩, h4⟩, h5⟩, h6⟩, h7⟩ := h
  refine ⟨?_, h2, h3, h4, h5, fun x hx => kL_loc (h6 x hx), fun y hy e => ?_⟩
  · split at h1
    · assumption
    · cases h1
  · have := h7 y hy
    rw [e] at this
    cases this
end PC

namespace PC
open PySem PySem.Spec PyProof.Rows L2 PySem.W PySem.Calls
/-- a law's promise -/
def spL (K : Frag) (T : Tbl) (n f : Nat) : Sp := spD K (lgx K T.X) (callN T.T n) f 1
def clsBody : Stmt → List Stmt | .ClassDef _ _ _ b _ _ _ _ _ _ _ => b | _ => []
/-- is it __init__ with super().__init__(..) and one field? -/
def chkIni (st : Stmt) (x f : Str) (one : Bool) : Bool :=
  (match defBody st with
    | [.Expr (.Call (.Attribute (.Call (.Name s _) [] [] _) i p2) [ea] [] p3) _, .Assign [.Attribute (.Name se _) g _] (.Name y _) _] =>
      decide (s = "super") && decide (i = "__init__") && decide (se = "self") && decide (g = f) && decide (y = x) && (p2.endLine == p3.line) &&
        (match ea with | .Name z _ => one && decide (z = x) | .Constant (.str _) _ _ => !one | _ => false)
    | _ => false) &&
  decide ((defScope st).names.lookup ("super" : Str) = some .globalImplicit) && decide ((defScope st).names.lookup ("__class__" : Str) = some .free) && decide ((defScope st).names.lookup ("self" : Str) = some .local) && decide ((defScope st).names.lookup x = some .local) &&
  decide ((defScope st).kind = .function) && decide ((defScope st).isCoroutine = false) && decide ((defScope st).isGenerator = false) && ((defScope st).names.all fun y => decide (y.2 ≠ .cell)) &&
  (match ((defArgs st).posonlyargs ++ (defArgs st).args).head? with | some ar => decide (ar.arg = "self") | none => false) && decide (x ≠ "self") && !(x == ("__debug__" : Str)) && !(x == ("__classdict__" : Str))
section
variable {P : Program} {K : Frag} {mg : Str → Option Value} {C fI : Addr}
theorem initIn_of {st : Stmt} {x f : Str} {one : Bool} (h : chkIni st x f one = true) {name qual : Str} {kV doc pm : Value} {an : Option Addr} {cda : Addr} {ct : Value} {cc : Addr} {oc : Value} {od : Option Addr} {osl : Array (Option Value)} {vs : Array Value} {file : Str} {tf : Tok} {ccl : Value} {cdd : Option Addr} {ccs : Array (Option Value)} {cl : Value} {cld : Option Addr} {csl : Array (Option Value)}
    (oex : OexC K C) (hB : subIn K (.ref C) (.type "ValueError") = some true) (hm : ks_superIn K C C "__init__" = some (some (.builtin "ValueError.__init__"))) (hsub : mroIn K C (.ref C) = some true) (ho : nsIn K cStatics "thirdparty.any" = some none) (hno : findIn K (.ref C) f = some none)
    (hsu : mg "super" = none) (htop : (P.main.scope.names.lookup ("super" : Str)).isSome = false)
    (l : K.lookup fI = some ⟨oc, od, .func (ksFn name qual (defArgs st) (defBody st) (defScope st) .none kV doc pm an (.ref cda) ct cc), osl⟩) (hc : codeIn K (.ref cda) qual = true) (lc : K.lookup cda = some ⟨ccl, cdd, .fields vs, ccs⟩) (hv : vs[2]? = some (.str file tf)) (hf : ((P.main.file : Str) == file) = true)
    (lcc : K.lookup cc = some ⟨cl, cld, .cell (some (.ref C)), csl⟩) : InitIn P K mg C fI (ksFn name qual (defArgs st) (defBody st) (defScope st) .none kV doc pm an (.ref cda) ct cc) x f one := by
  unfold chkIni at h
  simp only [Bool.and_eq_true, decide_eq_true_eq, Bool.not_eq_true', List.all_eq_true] at h
  obtain ⟨⟨⟨⟨⟨⟨⟨⟨⟨⟨⟨⟨hb, s1⟩, s2⟩, s3⟩, s4⟩, s5⟩, s6⟩, s7⟩, s8⟩, s9⟩, s10⟩, s11⟩, s12⟩ := h
  refine ⟨oex, hB, hm, hsub, ho, hno, hsu, htop, name, qual, _, _, _, kV, doc, pm, an, cda, ct, cc, _, oc, od, osl, vs, file, tf, ccl, cdd, ccs, cl, cld, csl, rfl, l, hc, lc, hv, hf, lcc, s1, s2, s3, s4, s5, s6, s7, fun y hy => s8 y hy, ?_, s10, s11, s12, ?_⟩
  · split at s9
    · rename_i ar e
      exact ⟨ar, e, of_decide_eq_true s9⟩
    · cases s9
  · split at hb
    · rename_i s p0 p1 i p2 ea p3 p4 se p5 g p6 y p7 p8 e
      simp only [Bool.and_eq_true, decide_eq_true_eq] at hb
      obtain ⟨⟨⟨⟨⟨⟨rfl, rfl⟩, rfl⟩, rfl⟩, rfl⟩, h6⟩, h7⟩ := hb
      refine ⟨p0, p1, p2, p3, p4, p5, p6, p7, p8, ea, e, h6, ?_⟩
      split at h7
      · rw [Bool.and_eq_true, decide_eq_true_eq] at h7
        obtain ⟨h8, rfl⟩ := h7
        exact .inl ⟨h8, _, rfl⟩
      · exact .inr ⟨by simpa using h7, _, _, _, rfl⟩
      · cases h7
    · cases hb
theorem exm_by {C' : Addr} {b : Bool} (h1 : subIn K (.ref C') (.type "BaseException") = some true) (h2 : isClsIn K C' = true) (h3 : typeIn K (.ref C') = some (.type "type")) (h4 : subIn K (.ref C) (.ref C') = some b) : exmOne K (.ref C) (.ref C') = some b := by
  unfold exmOne
  rw [h1]
  simp only [beq_self_eq_true, if_true]
  unfold kitCls
  simp only
  rw [h3]
  have : (clsIn K C').isSome = true := h2
  rw [this]
  simpa using h4
/-- a constant of the module -/
def GlobOk (K : Frag) (x : Str) (d : D) : Prop := ∃ u, nsIn K mainGlobals x = some (some u) ∧ ∃ v, RelV v u ∧ ∀ H B μ, Rp K H B μ d v
theorem glob_ok {h : Heap} (X : K.In h) (G : h.Ns mainGlobals mg) {x : Str} {d : D} (g : GlobOk K x d) : ∃ v u, mg x = some u ∧ RelV v u ∧ ∀ H B μ, Rp K H B μ d v := by
  obtain ⟨u, h1, v, h2, h3⟩ := g
  exact ⟨v, u, mg_of X G h1, h2, h3⟩
theorem globs_of {h : Heap} (X : K.In h) (hG : h.Ns mainGlobals mg) {G : List (Str × D)} (g : ∀ y d, (y, d) ∈ G → GlobOk K y d) {x : Str} {d : D} (hx : G.lookup x = some d) : ∃ v u, mg x = some u ∧ RelV v u ∧ ∀ H B μ, Rp K H B μ d v := by
  refine glob_ok X hG (g x d ?_)
  induction G with
  | nil => cases hx
  | cons y r ih =>
    obtain ⟨y, e⟩ := y
    rw [List.lookup] at hx
    by_cases q : (x == y) = true
    · rw [q] at hx
      cases hx
      rw [beq_iff_eq.mp q]
      exact List.mem_cons_self
    · rw [Bool.not_eq_true] at q
      rw [q] at hx
      exact List.mem_cons_of_mem _ (ih (fun y d hy => g y d (List.mem_cons_of_mem _ hy)) hx)
end
end PC

namespace PC
open PySem L2
def rng1 (x : D) (M : Mem) : Res (List D) := match x with
  | .int j => if rngOk j then .ok (rangeL 0 j.toNat) M else .bad
  | _ => .bad
def rng2 (x y : D) (M : Mem) : Res (List D) := match x, y with
  | .int i, .int j => if rngOk i && rngOk j then .ok (rangeL i (j - i).toNat) M else .bad
  | _, _ => .bad
theorem rngOk_of {i : Int} (h : -1000000000 ≤ i ∧ i ≤ 1000000000) : rngOk i = true := by
  unfold rngOk; exact decide_eq_true ⟨by omega, by omega⟩
theorem rng1_int {i : Int} {M : Mem} (h : -1000000000 ≤ i ∧ i ≤ 1000000000) : rng1 (.int i) M = .ok (rangeL 0 i.toNat) M := by
  unfold rng1; exact if_pos (rngOk_of h)
theorem rng1_nat {n : Nat} {M : Mem} (h : n ≤ 1000000000) : rng1 (.int n) M = .ok (rangeL 0 n) M := by
  have := rng1_int (i := n) (M := M) (by omega)
  rwa [Int.toNat_natCast] at this
theorem rng2_int {i j : Int} {M : Mem} (h : -1000000000 ≤ i ∧ i ≤ 1000000000) (k : -1000000000 ≤ j ∧ j ≤ 1000000000) : rng2 (.int i) (.int j) M = .ok (rangeL i (j - i).toNat) M := by
  unfold rng2; exact if_pos (by rw [rngOk_of h, rngOk_of k]; rfl)
def popD (xs : List D) (y : D) (j i : Nat) (ρ : Ev) (M1 : Mem) : Out := match y with
  | .int z => match seqIndex? z xs.length with
    | some m => match xs[m]? with
      | some x => if -(2 ^ 63) ≤ z ∧ z < 2 ^ 63 ∧ j ≠ i then .nx ((ρ.set i (.own (xs.eraseIdx m))).set j (.v x)) M1 else .bad
      | none => .bad
    | none => .bad
  | _ => .bad
theorem popD_nat {xs : List D} {k j i : Nat} {ρ : Ev} {M : Mem} (h : k < xs.length) (hl : xs.length ≤ 1000000000) (ne : j ≠ i) : popD xs (.int k) j i ρ M = .nx ((ρ.set i (.own (xs.eraseIdx k))).set j (.v xs[k])) M := by
  have e : seqIndex? (k : Int) xs.length = some k := (L2.ixN_seq (i := (k : Int)) (j := k) (by simp [L2.ixN, h])).1
  have e2 : xs[k]? = some xs[k] := by simp [h]
  unfold popD
  simp only [e, e2]
  exact if_pos ⟨by omega, by omega, ne⟩
section
variable {Φ : Fns} {ρ : Ev} {M : Mem}
@[simp] theorem ev_var (i : Nat) : ev Φ (.var i) ρ M = .of (slotV ρ i) M := (rfl)
@[simp] theorem ev_non : ev Φ .non ρ M = .ok .non M := (rfl)
@[simp] theorem ev_bl (b : Bool) : ev Φ (.bl b) ρ M = .ok (.bl b) M := (rfl)
@[simp] theorem ev_int (i : Int) : ev Φ (.int i) ρ M = .ok (.int i) M := (rfl)
@[simp] theorem ev_str (x : Str) : ev Φ (.str x) ρ M = .ok (.str x) M := (rfl)
@[simp] theorem ev_glob (x : Str) (d : D) : ev Φ (.glob x d) ρ M = .ok d M := (rfl)
@[simp] theorem ev_bin (o : Bop) (a b : E) : ev Φ (.bin o a b) ρ M = (ev Φ a ρ M).bind fun x M1 => (ev Φ b ρ M1).bind fun y M2 => .of (o.run x y) M2 := (rfl)
@[simp] theorem ev_neg (a : E) : ev Φ (.neg a) ρ M = (ev Φ a ρ M).bind fun x M1 => match x with | .int i => .ok (.int (-i)) M1 | _ => .bad := (rfl)
@[simp] theorem ev_not (a : E) : ev Φ (.not a) ρ M = (ev Φ a ρ M).bind fun x M1 => .of ((x.truth M1).map fun k => .bl (!k)) M1 := (rfl)
@[simp] theorem ev_cmp (o : Cop) (a b : E) : ev Φ (.cmp o a b) ρ M = (ev Φ a ρ M).bind fun x M1 => (ev Φ b ρ M1).bind fun y M2 => .of ((o.run x y).map .bl) M2 := (rfl)
@[simp] theorem ev_chain (o o' : Cop) (a b c : E) : ev Φ (.chain o o' a b c) ρ M = (ev Φ a ρ M).bind fun x M1 => (ev Φ b ρ M1).bind fun y M2 => match o.run x y with
    | some true => (ev Φ c ρ M2).bind fun z M3 => .of ((o'.run y z).map .bl) M3
    | some false => .ok (.bl false) M2
    | none => .bad := (rfl)
@[simp] theorem ev_isN (a : E) : ev Φ (.isN a) ρ M = (ev Φ a ρ M).bind fun x M1 => .ok (.bl (isNon x)) M1 := (rfl)
@[simp] theorem ev_notN (a : E) : ev Φ (.notN a) ρ M = (ev Φ a ρ M).bind fun x M1 => .ok (.bl (!isNon x)) M1 := (rfl)
@[simp] theorem ev_and (a b : E) : ev Φ (.and a b) ρ M = (ev Φ a ρ M).bind fun x M1 => match x.truth M1 with
    | some true => ev Φ b ρ M1
    | some false => .ok x M1
    | none => .bad := (rfl)
@[simp] theorem ev_or (a b : E) : ev Φ (.or a b) ρ M = (ev Φ a ρ M).bind fun x M1 => match x.truth M1 with
    | some true => .ok x M1
    | some false => ev Φ b ρ M1
    | none => .bad := (rfl)
@[simp] theorem ev_ite (c a b : E) : ev Φ (.ite c a b) ρ M = (ev Φ c ρ M).bind fun x M1 => match x.truth M1 with
    | some true => ev Φ a ρ M1
    | some false => ev Φ b ρ M1
    | none => .bad := (rfl)
@[simp] theorem ev_tup (es : Es) : ev Φ (.tup es) ρ M = (evs Φ es ρ M).bind fun xs M1 => if xs.length ≤ sizeLine then .ok (.tup xs) M1 else .bad := (rfl)
@[simp] theorem ev_lst (es : Es) : ev Φ (.lst es) ρ M = (evs Φ es ρ M).bind fun xs M1 => if xs.length ≤ sizeLine then .ok (.lst xs) M1 else .bad := (rfl)
@[simp] theorem ev_newL (es : Es) : ev Φ (.newL es) ρ M = (evs Φ es ρ M).bind fun xs M1 => if xs.length ≤ sizeLine then .ok (.cell M1.length) (M1 ++ [.lst xs]) else .bad := (rfl)
@[simp] theorem ev_sub (a i : E) : ev Φ (.sub a i) ρ M = (ev Φ a ρ M).bind fun x M1 => (ev Φ i ρ M1).bind fun y M2 => .of (subM M2 x y) M2 := (rfl)
@[simp] theorem ev_slice (a : E) (lo hi : Pt) : ev Φ (.slice a lo hi) ρ M = (ev Φ a ρ M).bind fun x M1 => (evP Φ lo ρ M1).bind fun y M2 => (evP Φ hi ρ M2).bind fun z M3 => .of (x.slice y z) M3 := (rfl)
@[simp] theorem ev_sliceRev (a : E) : ev Φ (.sliceRev a) ρ M = (ev Φ a ρ M).bind fun x M1 => .of x.rev M1 := (rfl)
@[simp] theorem ev_lenO (i : Nat) : ev Φ (.lenO i) ρ M = .of ((slotO ρ i).map fun xs => .int xs.length) M := (rfl)
@[simp] theorem ev_subO (i : Nat) (k : E) : ev Φ (.subO i k) ρ M = match slotO ρ i with
    | some xs => (ev Φ k ρ M).bind fun y M1 => .of (D.sub (.lst xs) y) M1
    | none => .bad := (rfl)
@[simp] theorem ev_call (f : Nat) (es : Es) : ev Φ (.call f es) ρ M = (evs Φ es ρ M).bind fun xs M1 => Φ f xs M1 := (rfl)
@[simp] theorem ev_bi (b : Bi) (e : E) : ev Φ (.bi b e) ρ M = (ev Φ e ρ M).bind fun x M1 => .of (lenM M1 b x) M1 := (rfl)
@[simp] theorem ev_isi (a : E) (ts : List Ty) : ev Φ (.isi a ts) ρ M = (ev Φ a ρ M).bind fun x M1 => .of ((Ty.any ts x).map .bl) M1 := (rfl)
theorem ev_comp (it : It) (t : Tg) (ifs : Es) (elt : E) : ev Φ (.comp it t ifs elt) ρ M = (evI Φ it ρ M).bind fun ds M1 =>
      ((cmpL (fun d M2 => match t.put d (wipeE ρ t.slots) with
        | some ρ2 => (tst Φ ifs ρ2 M2).bind fun k M3 => if k = true then (ev Φ elt ρ2 M3).bind fun y M4 => .ok (some y) M4 else .ok none M3
        | none => .bad) ds [] M1).bind fun xs M4 => .ok (.lst xs) M4).calm := (rfl)
@[simp] theorem ev_borrow (i : Nat) (e : E) : ev Φ (.borrow i e) ρ M = match slotO ρ i with
    | some xs => (ev Φ e (ρ.set i (.v (.lst xs))) M).calm.bind fun x M1 => if x.flat && Mem.flat M1 then .ok x M1 else .bad
    | none => .bad := (rfl)
@[simp] theorem evs_nil : evs Φ .nil ρ M = .ok [] M := (rfl)
@[simp] theorem evs_cons (e : E) (es : Es) : evs Φ (.cons e es) ρ M = (ev Φ e ρ M).bind fun x M1 => (evs Φ es ρ M1).bind fun xs M2 => .ok (x :: xs) M2 := (rfl)
@[simp] theorem evP_none : evP Φ .none ρ M = .ok Option.none M := (rfl)
@[simp] theorem evP_some (e : E) : evP Φ (.some e) ρ M = (ev Φ e ρ M).bind fun x M1 => match x with
    | .int i => .ok (Option.some i) M1
    | _ => .bad := (rfl)
@[simp] theorem tst_nil : tst Φ .nil ρ M = .ok true M := (rfl)
@[simp] theorem tst_one (e : E) : tst Φ (.cons e .nil) ρ M = (ev Φ e ρ M).bind fun x M1 => .of (x.truth M1) M1 := (rfl)
@[simp] theorem evI_seq (e : E) : evI Φ (.seq e) ρ M = (ev Φ e ρ M).bind fun x M1 => .of x.items M1 := (rfl)
@[simp] theorem evI_own (i : Nat) : evI Φ (.own i) ρ M = .of (slotO ρ i) M := (rfl)
theorem evI_range1' (e : E) : evI Φ (.range1 e) ρ M = (ev Φ e ρ M).bind fun x M1 => match x with
    | .int j => if rngOk j then .ok (rangeL 0 j.toNat) M1 else .bad
    | _ => .bad := (rfl)
@[simp] theorem evI_range1 (e : E) : evI Φ (.range1 e) ρ M = (ev Φ e ρ M).bind rng1 := (rfl)
@[simp] theorem evI_range2 (a b : E) : evI Φ (.range2 a b) ρ M = (ev Φ a ρ M).bind fun x M1 => (ev Φ b ρ M1).bind fun y M2 => rng2 x y M2 := (rfl)
@[simp] theorem evI_zip (a b : E) : evI Φ (.zip a b) ρ M = (ev Φ a ρ M).bind fun x M1 => (ev Φ b ρ M1).bind fun y M2 => match x, y with
    | .tup xs, .tup ys => .ok (zipL xs ys) M2
    | .lst xs, .lst ys => .ok (zipL xs ys) M2
    | .lst xs, .tup ys => .ok (zipL xs ys) M2
    | _, _ => .bad := (rfl)
@[simp] theorem ex_set (i : Nat) (e : E) : ex Φ (.set i e) ρ M = (ev Φ e ρ M).out ρ fun x M1 => .nx (ρ.set i (.v x)) M1 := (rfl)
@[simp] theorem ex_own (i : Nat) (e : E) : ex Φ (.own i e) ρ M = (ev Φ e ρ M).out ρ fun x M1 => match x with
    | .lst xs => .nx (ρ.set i (.own xs)) M1
    | _ => .bad := (rfl)
@[simp] theorem ex_freeze (i : Nat) : ex Φ (.freeze i) ρ M = match slotO ρ i with
    | some xs => .nx (ρ.set i (.v (.lst xs))) M
    | none => .bad := (rfl)
@[simp] theorem ex_unpack (is : List Nat) (e : E) : ex Φ (.unpack is e) ρ M = (ev Φ e ρ M).out ρ fun x M1 => match x with
    | .tup ds => match setsL is ds ρ with | some ρ2 => .nx ρ2 M1 | none => .bad
    | _ => .bad := (rfl)
@[simp] theorem ex_append (i : Nat) (e : E) : ex Φ (.append i e) ρ M = match slotO ρ i with
    | some xs => (ev Φ e ρ M).out ρ fun x M1 => if xs.length < sizeLine then .nx (ρ.set i (.own (xs ++ [x]))) M1 else .bad
    | none => .bad := (rfl)
@[simp] theorem ex_popAt (j i : Nat) (k : E) : ex Φ (.popAt j i k) ρ M = match slotO ρ i with
    | some xs => (ev Φ k ρ M).out ρ fun y M1 => popD xs y j i ρ M1
    | none => .bad := (rfl)
@[simp] theorem ex_setO (i : Nat) (k e : E) : ex Φ (.setO i k e) ρ M = match slotO ρ i with
    | some xs => (ev Φ e ρ M).out ρ fun x M1 => (ev Φ k ρ M1).out ρ fun y M2 => match y with
      | .int z => match ixN xs.length z with
        | some m => .nx (ρ.set i (.own (xs.set m x))) M2
        | none => .bad
      | _ => .bad
    | none => .bad := (rfl)
@[simp] theorem ex_setC (a k e : E) : ex Φ (.setC a k e) ρ M = (ev Φ e ρ M).out ρ fun x M1 => (ev Φ a ρ M1).out ρ fun o M2 => (ev Φ k ρ M2).out ρ fun y M3 => match o, y with
    | .cell n, .int z => match M3[n]? with
      | some (.lst xs) => match ixN xs.length z with
        | some m => .nx ρ (M3.set n (.lst (xs.set m x)))
        | none => .bad
      | _ => .bad
    | _, _ => .bad := (rfl)
@[simp] theorem ex_expr (e : E) : ex Φ (.expr e) ρ M = (ev Φ e ρ M).out ρ fun _ M1 => .nx ρ M1 := (rfl)
@[simp] theorem ex_ret (e : E) : ex Φ (.ret e) ρ M = (ev Φ e ρ M).out ρ fun x M1 => .rt x M1 := (rfl)
@[simp] theorem ex_ite (c : E) (a b : B) : ex Φ (.ite c a b) ρ M = (evT Φ c ρ M).out ρ fun k M1 => if k = true then exs Φ a ρ M1 else exs Φ b ρ M1 := (rfl)
@[simp] theorem ex_for (it : It) (t : Tg) (b : B) : ex Φ (.for_ it t b) ρ M = (evI Φ it ρ M).out ρ fun ds M1 => forL t (exs Φ b) ds ρ M1 := (rfl)
def tryO (hs : List Hdl) (o : Out) : Out := match o with
  | .er x ρ1 M1 => match hs.find? fun h => x.anc.contains h.cls with
    | some h => match h.e.ev x, h.slot.all fun k => decide (k < ρ1.length) with
      | some d, true => .rt d M1
      | _, _ => .bad
    | none => .er x ρ1 M1
  | o => o
@[simp] theorem tryO_nx (hs : List Hdl) (ρ1 : Ev) (M1 : Mem) : tryO hs (.nx ρ1 M1) = .nx ρ1 M1 := (rfl)
@[simp] theorem tryO_rt (hs : List Hdl) (d : D) (M1 : Mem) : tryO hs (.rt d M1) = .rt d M1 := (rfl)
theorem ex_try (b : B) (hs : List Hdl) : ex Φ (.try_ b hs) ρ M = tryO hs (exs Φ b ρ M) := (rfl)
@[simp] theorem ex_raise (c f : Str) (anc : List Str) (e : E) : ex Φ (.raise_ c anc (some f) e) ρ M = (ev Φ e ρ M).out ρ fun x M1 => if x.flat = true then .er ⟨c, anc, [(f, x)]⟩ ρ M1 else .bad := (rfl)
@[simp] theorem ex_raise0 (c : Str) (anc : List Str) (e : E) : ex Φ (.raise_ c anc none e) ρ M = (ev Φ e ρ M).out ρ fun x M1 => .er ⟨c, anc, []⟩ ρ M1 := (rfl)
@[simp] theorem exs_nil : exs Φ .nil ρ M = .nx ρ M := (rfl)
@[simp] theorem exs_cons (s : S) (b : B) : exs Φ (.cons s b) ρ M = (ex Φ s ρ M).then fun ρ1 M1 => exs Φ b ρ1 M1 := (rfl)
@[simp] theorem evT_def (c : E) : evT Φ c ρ M = (ev Φ c ρ M).bind fun x M1 => .of (x.truth M1) M1 := (rfl)
@[simp] theorem slotV_0 (d : D) (r : Ev) : slotV (.v d :: r) 0 = some d := (rfl)
@[simp] theorem slotV_s (s : Slot) (r : Ev) (i : Nat) : slotV (s :: r) (i + 1) = slotV r i := (rfl)
@[simp] theorem slotO_0 (xs : List D) (r : Ev) : slotO (.own xs :: r) 0 = some xs := (rfl)
@[simp] theorem slotO_s (s : Slot) (r : Ev) (i : Nat) : slotO (s :: r) (i + 1) = slotO r i := (rfl)
@[simp] theorem truth_bl (b : Bool) : (D.bl b).truth M = some b := (rfl)
@[simp] theorem truth_int (i : Int) : (D.int i).truth M = some (i != 0) := (rfl)
@[simp] theorem truth_tup (xs : List D) : (D.tup xs).truth M = some (!xs.isEmpty) := (rfl)
@[simp] theorem truth_lst (xs : List D) : (D.lst xs).truth M = some (!xs.isEmpty) := (rfl)
@[simp] theorem calm_ok {α : Type} (a : α) (M : Mem) : (Res.ok a M).calm = .ok a M := (rfl)
end
/-- a def's end -/
def endR (o : Out) : Res D := match o with
  | .nx _ M1 => .ok .non M1
  | .rt d M1 => .ok d M1
  | .er x _ M1 => .err x M1
  | .bad => .bad
@[simp] theorem endR_nx (ρ : Ev) (M : Mem) : endR (.nx ρ M) = .ok .non M := (rfl)
@[simp] theorem endR_rt (d : D) (M : Mem) : endR (.rt d M) = .ok d M := (rfl)
@[simp] theorem endR_er (x : Exc) (ρ : Ev) (M : Mem) : endR (.er x ρ M) = .err x M := (rfl)
@[simp] theorem endR_bad : endR .bad = .bad := (rfl)
theorem cmpL_some {f : D → Mem → Res (Option D)} {g : D → D} {M : Mem} : ∀ (ds acc : List D), (∀ d ∈ ds, f d M = .ok (some (g d)) M) → acc.length + ds.length ≤ sizeLine → cmpL f ds acc M = .ok (acc ++ ds.map g) M
  | [], acc, _, _ => by simp [cmpL]
  | d :: ds, acc, h, hl => by
    simp only [List.length_cons] at hl
    rw [cmpL, h d (List.mem_cons_self ..), Res.bind_ok]
    simp only
    rw [if_pos (by omega), cmpL_some ds _ (fun x hx => h x (List.mem_cons_of_mem _ hx)) (by simp; omega)]
    simp
theorem cmpL_filter {f : D → Mem → Res (Option D)} {g : D → Option D} {M : Mem} : ∀ (ds acc : List D), (∀ d ∈ ds, f d M = .ok (g d) M) → acc.length + ds.length ≤ sizeLine → cmpL f ds acc M = .ok (acc ++ ds.filterMap g) M
  | [], acc, _, _ => by simp [cmpL]
  | d :: ds, acc, h, hl => by
    simp only [List.length_cons] at hl
    rw [cmpL, h d (List.mem_cons_self ..), Res.bind_ok]
    cases e : g d with
    | none =>
      simp only
      rw [cmpL_filter ds _ (fun x hx => h x (List.mem_cons_of_mem _ hx)) (by omega)]
      simp [e]
    | some y =>
      simp only
      rw [if_pos (by omega), cmpL_filter ds _ (fun x hx => h x (List.mem_cons_of_mem _ hx)) (by simp; omega)]
      simp [e]
/-- a comprehension whose element moves the memory -/
theorem cmpL_inv {f : D → Mem → Res (Option D)} {I : Mem → Prop} {Q : D → Prop} : ∀ (ds acc : List D) (M : Mem), (∀ d ∈ ds, ∀ M, I M → ∃ y M', f d M = .ok (some y) M' ∧ I M' ∧ Q y) → acc.length + ds.length ≤ sizeLine → I M →
    ∃ ys M', cmpL f ds acc M = .ok (acc ++ ys) M' ∧ I M' ∧ ys.length = ds.length ∧ ∀ y ∈ ys, Q y
  | [], acc, M, _, _, i => ⟨[], M, by simp [cmpL], i, rfl, by simp⟩
  | d :: ds, acc, M, h, hl, i => by
    simp only [List.length_cons] at hl
    obtain ⟨y, M1, e1, e2, e3⟩ := h d (List.mem_cons_self ..) M i
    obtain ⟨ys, M2, q1, q2, q3, q4⟩ := cmpL_inv ds (acc ++ [y]) M1 (fun x hx => h x (List.mem_cons_of_mem _ hx)) (by simp; omega) e2
    refine ⟨y :: ys, M2, ?_, q2, by simp [q3], ?_⟩
    · rw [cmpL, e1, Res.bind_ok]
      simp only
      rw [if_pos (by omega), q1]
      simp
    · intro z hz
      rcases List.mem_cons.1 hz with rfl | hz
      · exact e3
      · exact q4 z hz
abbrev IL (v : List Int) : List D := v.map .int
abbrev TI (v : List Int) : D := .tup (v.map .int)
abbrev TIs (vs : List (List Int)) : List D := vs.map TI
theorem rangeL_eq : ∀ (n : Nat) (lo : Int), rangeL lo n = (List.range n).map fun k => .int (lo + k)
  | 0, lo => rfl
  | n + 1, lo => by
    rw [rangeL, rangeL_eq n (lo + 1), List.range_succ_eq_map]
    simp [Function.comp_def]
    intro a _; omega
theorem rangeL_0 (n : Nat) : rangeL 0 n = (List.range n).map fun k => .int k := by rw [rangeL_eq]; simp
theorem forL_inv {t : Tg} {f : Ev → Mem → Out} {α : Type} (w : α → D) (I : List α → Ev → Mem → Prop) : ∀ (xs done : List α) (ρ : Ev) (M : Mem),
    (∀ a b ρ M x, xs = a ++ x :: b → I (done ++ a) ρ M → ∃ ρ1 ρ2 M2, t.put (w x) ρ = some ρ1 ∧ f ρ1 M = .nx ρ2 M2 ∧ I (done ++ a ++ [x]) ρ2 M2) → I done ρ M →
    ∃ ρ2 M2, forL t f (xs.map w) ρ M = .nx ρ2 M2 ∧ I (done ++ xs) ρ2 M2
  | [], done, ρ, M, _, i => ⟨ρ, M, rfl, by simpa using i⟩
  | x :: xs, done, ρ, M, h, i => by
    obtain ⟨ρ1, ρ2, M2, h1, h2, h3⟩ := h [] xs ρ M x rfl (by simpa using i)
    obtain ⟨ρ3, M3, q1, q2⟩ := forL_inv w I xs (done ++ [x]) ρ2 M2 (fun a b ρ M y e q => by
      obtain ⟨r1, r2, r3, e1, e2, e3⟩ := h (x :: a) b ρ M y (by rw [e]; rfl) (by simpa using q)
      exact ⟨r1, r2, r3, e1, e2, by simpa using e3⟩) (by simpa using h3)
    refine ⟨ρ3, M3, ?_, by simpa using q2⟩
    rw [List.map_cons, forL, h1]
    simp only
    rw [h2, Out.then_nx, q1]
theorem forL_range {t : Tg} {f : Ev → Mem → Out} (I : Nat → Ev → Mem → Prop) (n : Nat) (ρ : Ev) (M : Mem)
    (h : ∀ k, k < n → ∀ ρ M, I k ρ M → ∃ ρ1 ρ2 M2, t.put (.int k) ρ = some ρ1 ∧ f ρ1 M = .nx ρ2 M2 ∧ I (k + 1) ρ2 M2) (i : I 0 ρ M) :
    ∃ ρ2 M2, forL t f (rangeL 0 n) ρ M = .nx ρ2 M2 ∧ I n ρ2 M2 := by
  rw [rangeL_0]
  obtain ⟨ρ2, M2, h1, h2⟩ := forL_inv (t := t) (f := f) (fun k : Nat => D.int k) (fun done ρ M => done = List.range done.length ∧ I done.length ρ M) (List.range n) [] ρ M
    (fun a b ρ M x e q => by
      obtain ⟨q1, q2⟩ := q
      simp only [List.nil_append] at q1 q2 ⊢
      have hx : x = a.length ∧ a.length < n := by
        have h1 := congrArg (·[a.length]?) e
        have h2 := congrArg List.length e
        simp at h2
        simp at h1
        rw [List.getElem?_range (by omega)] at h1
        cases h1
        exact ⟨rfl, by omega⟩
      obtain ⟨rfl, hlt⟩ := hx
      obtain ⟨ρ1, ρ2, M2, e1, e2, e3⟩ := h a.length hlt ρ M q2
      refine ⟨ρ1, ρ2, M2, e1, e2, ?_, by simpa using e3⟩
      rw [List.length_append]
      show _ = List.range (a.length + 1)
      rw [List.range_succ, ← q1]) ⟨rfl, i⟩
  refine ⟨ρ2, M2, h1, ?_⟩
  simpa using h2.2
end PC

namespace PC
open PySem L2
section
variable {Φ : Fns} {ρ : Ev} {M M1 : Mem} {it : It} {t : Tg} {elt c : E} {α : Type} {w g : α → D}
theorem cmp_inv {I : Mem → Prop} {Q : D → Prop} {ds : List D} (hi : evI Φ it ρ M = .ok ds M1) (h : ∀ d ∈ ds, ∀ M2, I M2 → ∃ ρ2 y M3, t.put d (wipeE ρ t.slots) = some ρ2 ∧ ev Φ elt ρ2 M2 = .ok y M3 ∧ I M3 ∧ Q y) (hl : ds.length ≤ sizeLine) (i : I M1) :
    ∃ ys M', ev Φ (.comp it t .nil elt) ρ M = .ok (.lst ys) M' ∧ I M' ∧ ys.length = ds.length ∧ ∀ y ∈ ys, Q y := by
  obtain ⟨ys, M', h1, h2, h3, h4⟩ := cmpL_inv (I := I) (Q := Q) (f := fun d M2 => match t.put d (wipeE ρ t.slots) with
        | some ρ2 => (tst Φ .nil ρ2 M2).bind fun k M3 => if k = true then (ev Φ elt ρ2 M3).bind fun y M4 => .ok (some y) M4 else .ok none M3
        | none => .bad) ds [] M1 (fun d hd M2 hM => by
    obtain ⟨ρ2, y, M3, e1, e2, e3, e4⟩ := h d hd M2 hM
    exact ⟨y, M3, by simp only [e1, tst_nil, Res.bind_ok, if_true, e2], e3, e4⟩) (by simpa using hl) i
  refine ⟨ys, M', ?_, h2, h3, h4⟩
  rw [ev, hi, Res.bind_ok]
  exact congrArg (fun r : Res (List D) => (r.bind fun xs M4 => Res.ok (D.lst xs) M4).calm) h1
theorem cmpL_mapG {w g : α → D} {f : D → Mem → Res (Option D)} {M : Mem} : ∀ (xs : List α) (acc : List D), (∀ x ∈ xs, f (w x) M = .ok (some (g x)) M) → acc.length + xs.length ≤ sizeLine → cmpL f (xs.map w) acc M = .ok (acc ++ xs.map g) M
  | [], acc, _, _ => by simp [cmpL]
  | x :: xs, acc, h, hl => by
    rw [List.length_cons] at hl
    rw [List.map_cons, cmpL, h x (List.mem_cons_self ..), Res.bind_ok]
    simp only
    rw [if_pos (by omega), cmpL_mapG xs _ (fun y hy => h y (List.mem_cons_of_mem _ hy)) (by simp; omega)]
    simp
theorem cmpL_filtG {w : α → D} (q : α → Bool) {g : α → D} {f : D → Mem → Res (Option D)} {M : Mem} : ∀ (xs : List α) (acc : List D), (∀ x ∈ xs, f (w x) M = .ok (if q x = true then some (g x) else none) M) → acc.length + xs.length ≤ sizeLine → cmpL f (xs.map w) acc M = .ok (acc ++ (xs.filter q).map g) M
  | [], acc, _, _ => by simp [cmpL]
  | x :: xs, acc, h, hl => by
    rw [List.length_cons] at hl
    rw [List.map_cons, cmpL, h x (List.mem_cons_self ..), Res.bind_ok, List.filter_cons]
    cases e : q x with
    | true =>
      simp only [if_true]
      rw [if_pos (by omega), cmpL_filtG q xs _ (fun y hy => h y (List.mem_cons_of_mem _ hy)) (by simp; omega)]
      simp
    | false =>
      simp only [Bool.false_eq_true, if_false]
      rw [cmpL_filtG q xs _ (fun y hy => h y (List.mem_cons_of_mem _ hy)) (by omega)]
theorem cmp_map (xs : List α) (hi : evI Φ it ρ M = .ok (xs.map w) M1) (h : ∀ x ∈ xs, ∃ ρ2, t.put (w x) (wipeE ρ t.slots) = some ρ2 ∧ ev Φ elt ρ2 M1 = .ok (g x) M1) (hl : xs.length ≤ sizeLine) :
    ev Φ (.comp it t .nil elt) ρ M = .ok (.lst (xs.map g)) M1 := by
  rw [ev, hi, Res.bind_ok, cmpL_mapG (g := g) xs [] (fun x hx => by
    obtain ⟨ρ2, e1, e2⟩ := h x hx
    simp only [e1, tst_nil, Res.bind_ok, if_true, e2]) (by simpa using hl)]
  rfl
/-- the test tells q, then the element g -/
theorem cmp_filt (q : α → Bool) (xs : List α) (hi : evI Φ it ρ M = .ok (xs.map w) M1) (h : ∀ x ∈ xs, ∃ ρ2, t.put (w x) (wipeE ρ t.slots) = some ρ2 ∧ evT Φ c ρ2 M1 = .ok (q x) M1 ∧ (q x = true → ev Φ elt ρ2 M1 = .ok (g x) M1)) (hl : xs.length ≤ sizeLine) :
    ev Φ (.comp it t (.cons c .nil) elt) ρ M = .ok (.lst ((xs.filter q).map g)) M1 := by
  rw [ev, hi, Res.bind_ok, cmpL_filtG q (g := g) xs [] (fun x hx => by
    obtain ⟨ρ2, e1, e2, e3⟩ := h x hx
    unfold evT at e2
    simp only [e1, tst_one, e2, Res.bind_ok]
    cases z : q x with
    | true => simp only [if_true, e3 z, Res.bind_ok]
    | false => simp) (by simpa using hl)]
  rfl
end
end PC

namespace PC
open PySem L2
mutual
def D.fine : Nat → D → Bool
  | _, .int _ => true
  | k + 1, .tup xs => D.fines k xs
  | k + 1, .lst xs => D.fines k xs
  | _, _ => false
def D.fines : Nat → List D → Bool
  | _, [] => true
  | k, x :: xs => D.fine k x && D.fines k xs
end
theorem fines_iff {k : Nat} : ∀ {xs : List D}, D.fines k xs = true ↔ ∀ x ∈ xs, D.fine k x = true
  | [] => by simp [D.fines]
  | x :: xs => by simp [D.fines, fines_iff]
mutual
theorem fine_py : ∀ (k : Nat) (d : D), D.fine k d = true → ∃ q, d.py = some q ∧ q.canLay0 = true ∧ q.depth ≤ k
  | k, .int i, _ => ⟨.int i, rfl, rfl, by simp [PyData.depth]⟩
  | k + 1, .tup xs, h => by
    obtain ⟨qs, h1, h2, h3⟩ := fines_py k xs (by simpa [D.fine] using h)
    exact ⟨.tuple qs, by simp [D.py, h1], by simpa [PyData.canLay0] using h2, by simpa [PyData.depth] using h3⟩
  | k + 1, .lst xs, h => by
    obtain ⟨qs, h1, h2, h3⟩ := fines_py k xs (by simpa [D.fine] using h)
    exact ⟨.list qs, by simp [D.py, h1], by simpa [PyData.canLay0] using h2, by simpa [PyData.depth] using h3⟩
  | 0, .tup xs, h => by simp [D.fine] at h
  | 0, .lst xs, h => by simp [D.fine] at h
  | _, .non, h => by simp [D.fine] at h
  | _, .bl _, h => by simp [D.fine] at h
  | _, .str _, h => by simp [D.fine] at h
  | _, .cell _, h => by simp [D.fine] at h
  | _, .frz _, h => by simp [D.fine] at h
theorem fines_py : ∀ (k : Nat) (ds : List D), D.fines k ds = true → ∃ qs, D.pys ds = some qs ∧ PyData.canLayAll0 qs = true ∧ PyData.depthAll qs ≤ k
  | k, [], _ => ⟨[], rfl, rfl, by simp [PyData.depthAll]⟩
  | k, x :: xs, h => by
    simp only [D.fines, Bool.and_eq_true] at h
    obtain ⟨q, h1, h2, h3⟩ := fine_py k x h.1
    obtain ⟨qs, k1, k2, k3⟩ := fines_py k xs h.2
    refine ⟨q :: qs, by simp [D.pys, h1, k1], by simp [PyData.canLayAll0, h2, k2], ?_⟩
    simp only [PyData.depthAll]
    omega
end
theorem fines_eq (k : Nat) (ih : ∀ (a b : D) (p q : PyData), D.fine k a = true → D.fine k b = true → a.py = some p → b.py = some q → (PyData.eqv p q = true ↔ a = b)) :
    ∀ (a b : List D) (p q : List PyData), D.fines k a = true → D.fines k b = true → D.pys a = some p → D.pys b = some q → (PyData.eqvAll p q = true ↔ a = b)
  | [], [], p, q, _, _, h1, h2 => by
    cases h1; cases h2; simp [PyData.eqvAll]
  | [], y :: ys, p, q, _, hb, h1, h2 => by
    obtain ⟨qs, e2, _, _⟩ := fines_py k (y :: ys) hb
    cases h1
    simp only [D.fines, Bool.and_eq_true] at hb
    obtain ⟨q1, f1, _, _⟩ := fine_py k y hb.1
    obtain ⟨q2, f2, _, _⟩ := fines_py k ys hb.2
    simp only [D.pys, f1, f2, Option.some.injEq] at h2
    subst h2; simp [PyData.eqvAll]
  | x :: xs, [], p, q, ha, _, h1, h2 => by
    simp only [D.fines, Bool.and_eq_true] at ha
    obtain ⟨q1, f1, _, _⟩ := fine_py k x ha.1
    obtain ⟨q2, f2, _, _⟩ := fines_py k xs ha.2
    cases h2
    simp only [D.pys, f1, f2, Option.some.injEq] at h1
    subst h1; simp [PyData.eqvAll]
  | x :: xs, y :: ys, p, q, ha, hb, h1, h2 => by
    simp only [D.fines, Bool.and_eq_true] at ha hb
    obtain ⟨p1, f1, _, _⟩ := fine_py k x ha.1
    obtain ⟨p2, f2, _, _⟩ := fines_py k xs ha.2
    obtain ⟨q1, g1, _, _⟩ := fine_py k y hb.1
    obtain ⟨q2, g2, _, _⟩ := fines_py k ys hb.2
    simp only [D.pys, f1, f2, g1, g2, Option.some.injEq] at h1 h2
    subst h1 h2
    have e1 := ih x y p1 q1 ha.1 hb.1 f1 g1
    have e2 := fines_eq k ih xs ys p2 q2 ha.2 hb.2 f2 g2
    simp [PyData.eqvAll, e1, e2]
theorem fine_cases {k : Nat} {d : D} (h : D.fine k d = true) : (∃ i, d = .int i) ∨ (∃ j xs, k = j + 1 ∧ D.fines j xs = true ∧ (d = .tup xs ∨ d = .lst xs)) := by
  cases d with
  | int i => exact .inl ⟨i, rfl⟩
  | tup xs => cases k with
    | zero => simp [D.fine] at h
    | succ j => exact .inr ⟨j, xs, rfl, by simpa [D.fine] using h, .inl rfl⟩
  | lst xs => cases k with
    | zero => simp [D.fine] at h
    | succ j => exact .inr ⟨j, xs, rfl, by simpa [D.fine] using h, .inr rfl⟩
  | _ => cases k <;> simp [D.fine] at h
theorem fine_eq : ∀ (k : Nat) (a b : D) (p q : PyData), D.fine k a = true → D.fine k b = true → a.py = some p → b.py = some q → (PyData.eqv p q = true ↔ a = b)
  | 0, a, b, p, q, ha, hb, h1, h2 => by
    rcases fine_cases ha with ⟨i, rfl⟩ | ⟨_, _, z, _⟩
    · rcases fine_cases hb with ⟨j, rfl⟩ | ⟨_, _, z, _⟩
      · cases h1; cases h2; simp [PyData.eqv]
      · cases z
    · cases z
  | k + 1, a, b, p, q, ha, hb, h1, h2 => by
    rcases fine_cases ha with ⟨i, rfl⟩ | ⟨_, xs, z, hx, e⟩
    · cases h1
      rcases fine_cases hb with ⟨j, rfl⟩ | ⟨_, ys, z, hy, e⟩
      · cases h2; simp [PyData.eqv]
      · cases z
        obtain ⟨qs, e2, _, _⟩ := fines_py k ys hy
        rcases e with rfl | rfl <;> simp only [D.py, e2, Option.some.injEq] at h2 <;> subst h2 <;> simp [PyData.eqv]
    · cases z
      obtain ⟨ps, e1, _, _⟩ := fines_py k xs hx
      rcases fine_cases hb with ⟨j, rfl⟩ | ⟨_, ys, z, hy, e'⟩
      · cases h2
        rcases e with rfl | rfl <;> simp only [D.py, e1, Option.some.injEq] at h1 <;> subst h1 <;> simp [PyData.eqv]
      · cases z
        obtain ⟨qs, e2, _, _⟩ := fines_py k ys hy
        have := fines_eq k (fine_eq k) xs ys ps qs hx hy e1 e2
        rcases e with rfl | rfl <;> rcases e' with rfl | rfl <;> simp only [D.py, e1, e2, Option.some.injEq] at h1 h2 <;> subst h1 h2 <;> simp [PyData.eqv, this]
theorem fine_shaped {k : Nat} (hk : k ≤ 64) {d : D} (h : D.fine k d = true) : ∃ q, d.py = some q ∧ SeqAt.shaped q = true := by
  obtain ⟨q, h1, h2, h3⟩ := fine_py k d h
  refine ⟨q, h1, ?_⟩
  simp only [SeqAt.shaped, h2, Bool.true_and, decide_eq_true_eq]
  omega
open Classical in
theorem eqv_fine (k : Nat) (hk : k ≤ 64) {a b : D} (ha : D.fine k a = true) (hb : D.fine k b = true) : D.eqv? a b = some (decide (a = b)) := by
  obtain ⟨p, h1, h2⟩ := fine_shaped hk ha
  obtain ⟨q, k1, k2⟩ := fine_shaped hk hb
  unfold D.eqv?
  rw [h1, k1]
  simp only [h2, k2, Bool.and_self, if_true, Option.some.injEq]
  have := fine_eq k a b p q ha hb h1 k1
  cases e : PyData.eqv p q with
  | true => rw [decide_eq_true (this.1 e)]
  | false => rw [decide_eq_false fun z => by rw [this.2 z] at e; cases e]
theorem has_any (k : Nat) {x : D} {p : PyData} (hx : D.fine k x = true) (h1 : x.py = some p) : ∀ (ys : List D) (qs : List PyData), D.fines k ys = true → D.pys ys = some qs → ((qs.any fun z => PyData.eqv z p) = true ↔ x ∈ ys)
  | [], qs, _, h => by cases h; simp
  | y :: ys, qs, hy, h => by
    simp only [D.fines, Bool.and_eq_true] at hy
    obtain ⟨q1, g1, _, _⟩ := fine_py k y hy.1
    obtain ⟨q2, g2, _, _⟩ := fines_py k ys hy.2
    simp only [D.pys, g1, g2, Option.some.injEq] at h
    subst h
    have e1 := fine_eq k y x q1 p hy.1 hx g1 h1
    rw [List.any_cons, Bool.or_eq_true, has_any k hx h1 ys q2 hy.2 g2, e1, List.mem_cons, eq_comm]
open Classical in
theorem has_fine (k : Nat) (hk : k < 64) {x : D} {ys : List D} (hx : D.fine k x = true) (hy : D.fines k ys = true) : D.has? x (.lst ys) = some (decide (x ∈ ys)) := by
  obtain ⟨p, h1, h2⟩ := fine_shaped (Nat.le_of_lt hk) hx
  obtain ⟨qs, k1, k2, k3⟩ := fines_py k ys hy
  have hs : SeqAt.shaped (.list qs) = true := by
    have : (PyData.list qs).depth ≤ 64 := by simp only [PyData.depth]; omega
    simp only [SeqAt.shaped, PyData.canLay0, k2, Bool.true_and, decide_eq_true_eq]
    exact this
  unfold D.has?
  have e : D.py (.lst ys) = some (.list qs) := by simp [D.py, k1]
  rw [h1, e]
  simp only [h2, hs, Bool.and_self, if_true, Option.some.injEq]
  have := has_any k hx h1 ys qs hy k1
  cases e : (qs.any fun z => PyData.eqv z p) with
  | true => rw [decide_eq_true (this.1 e)]
  | false => rw [decide_eq_false fun z => by rw [this.2 z] at e; cases e]
@[simp] theorem run_eq_int (i j : Int) : Cop.run .eq (.int i) (.int j) = some (decide (i = j)) := by
  show D.eqv? (.int i) (.int j) = _
  have := eqv_fine 0 (by omega) (a := .int i) (b := .int j) (by simp [D.fine]) (by simp [D.fine])
  rw [this]; congr 1; rw [Bool.eq_iff_iff]; simp
@[simp] theorem run_ne_int (i j : Int) : Cop.run .ne (.int i) (.int j) = some (decide (i ≠ j)) := by
  show (D.eqv? (.int i) (.int j)).map _ = _
  have := run_eq_int i j
  change D.eqv? (.int i) (.int j) = _ at this
  rw [this]; simp
@[simp] theorem run_lt_int (i j : Int) : Cop.run .lt (.int i) (.int j) = some (decide (i < j)) := (rfl)
@[simp] theorem run_le_int (i j : Int) : Cop.run .le (.int i) (.int j) = some (decide (i ≤ j)) := (rfl)
@[simp] theorem run_gt_int (i j : Int) : Cop.run .gt (.int i) (.int j) = some (decide (j < i)) := (rfl)
@[simp] theorem run_ge_int (i j : Int) : Cop.run .ge (.int i) (.int j) = some (decide (j ≤ i)) := (rfl)
@[simp] theorem run_eq_bl (a b : Bool) : Cop.run .eq (.bl a) (.bl b) = some (a == b) := by cases a <;> cases b <;> decide
theorem TI_inj {v w : List Int} : (TI v = TI w) ↔ v = w := by
  constructor
  · intro h
    injection h with h
    exact List.map_inj_right (fun a b h => by injection h) |>.1 h
  · rintro rfl; rfl
theorem fines_IL (k : Nat) (v : List Int) : D.fines k (IL v) = true := by
  rw [fines_iff]
  intro x hx
  obtain ⟨i, _, rfl⟩ := List.mem_map.1 hx
  cases k <;> simp [D.fine]
theorem fine_TI (k : Nat) (v : List Int) : D.fine (k + 1) (TI v) = true := by simp only [D.fine]; exact fines_IL k v
theorem fines_TIs (k : Nat) (vs : List (List Int)) : D.fines (k + 1) (TIs vs) = true := by
  rw [fines_iff]
  intro x hx
  obtain ⟨v, _, rfl⟩ := List.mem_map.1 hx
  exact fine_TI k v
theorem mem_TIs {v : List Int} {vs : List (List Int)} : TI v ∈ TIs vs ↔ v ∈ vs := by
  constructor
  · intro h
    obtain ⟨w, hw, e⟩ := List.mem_map.1 h
    rwa [← TI_inj.1 e]
  · intro h; exact List.mem_map.2 ⟨v, h, rfl⟩
theorem TIs_inj {v w : List (List Int)} : (TIs v = TIs w) ↔ v = w := by
  constructor
  · intro h
    exact List.map_inj_right (fun a b h => TI_inj.1 h) |>.1 h
  · rintro rfl; rfl
theorem atI_nat {α : Type} {xs : List α} {k : Nat} (h : k < xs.length) : L2.atI xs (k : Int) = some xs[k] := by
  simp [L2.atI, L2.ixN, h]
@[simp] theorem sub_tup (xs : List D) (i : Int) : D.sub (.tup xs) (.int i) = L2.atI xs i := (rfl)
@[simp] theorem sub_lst (xs : List D) (i : Int) : D.sub (.lst xs) (.int i) = L2.atI xs i := (rfl)
theorem subM_tup (M : Mem) (xs : List D) (i : D) : subM M (.tup xs) i = D.sub (.tup xs) i := (rfl)
theorem subM_lst (M : Mem) (xs : List D) (i : D) : subM M (.lst xs) i = D.sub (.lst xs) i := (rfl)
theorem atI_IL {v : List Int} {k : Nat} (h : k < v.length) : L2.atI (IL v) (k : Int) = some (.int (v.getD k 0)) := by
  rw [atI_nat (by simpa using h)]; simp [h]
theorem atI_TIs {vs : List (List Int)} {k : Nat} (h : k < vs.length) : L2.atI (TIs vs) (k : Int) = some (TI vs[k]) := by
  rw [atI_nat (by simpa using h)]; simp
end PC

namespace PC
abbrev Row := List Int
def e_ (v : Row) (i : Nat) : Int := v.getD i 0
def Vc (p : Int) (n : Nat) (v : Row) : Prop := v.length = n ∧ ∀ x ∈ v, 0 ≤ x ∧ x < p
def axp (p : Int) (a : Int) (v r : Row) : Row := List.zipWith (fun x y => (x + a * y) % p) v r
theorem Vc.get {p : Int} {n : Nat} {v : Row} (h : Vc p n v) {i : Nat} (hi : i < n) : 0 ≤ e_ v i ∧ e_ v i < p := by
  have hl : i < v.length := by rw [h.1]; exact hi
  have := h.2 (v[i]) (List.getElem_mem hl)
  simpa [e_, hl] using this
theorem Vc.ext {p : Int} {n : Nat} {v w : Row} (h : Vc p n v) (k : Vc p n w) (e : ∀ i, i < n → e_ v i = e_ w i) : v = w := by
  apply List.ext_getElem (h.1.trans k.1.symm)
  intro i h1 h2
  have := e i (h.1 ▸ h1)
  simpa [e_, h1, h2] using this
theorem Vc.emod {p : Int} {n : Nat} {v : Row} (h : Vc p n v) {i : Nat} (hi : i < n) : e_ v i % p = e_ v i := by
  obtain ⟨h1, h2⟩ := h.get hi
  exact Int.emod_eq_of_lt h1 h2
theorem vc_zero {p : Int} {n : Nat} (hp : 0 < p) : Vc p n (List.replicate n 0) := ⟨by simp, fun x hx => by obtain ⟨_, rfl⟩ := List.mem_replicate.1 hx; omega⟩
theorem e_zero (n i : Nat) : e_ (List.replicate n 0) i = 0 := by
  simp only [e_, List.getD_eq_getElem?_getD, List.getElem?_replicate]; split <;> rfl
theorem axp_len {p a : Int} {n : Nat} {v r : Row} (h : v.length = n) (k : r.length = n) : (axp p a v r).length = n := by simp [axp, h, k]
theorem e_axp {p a : Int} {n : Nat} {v r : Row} (h : v.length = n) (k : r.length = n) {i : Nat} (hi : i < n) : e_ (axp p a v r) i = (e_ v i + a * e_ r i) % p := by
  have h1 : i < v.length := by omega
  have h2 : i < r.length := by omega
  have h3 : i < (axp p a v r).length := by rw [axp_len h k]; exact hi
  simp [e_, h1, h2, axp, List.getElem?_zipWith]
theorem vc_axp {p a : Int} {n : Nat} {v r : Row} (hp : 0 < p) (h : v.length = n) (k : r.length = n) : Vc p n (axp p a v r) := by
  refine ⟨axp_len h k, fun x hx => ?_⟩
  obtain ⟨i, hi, rfl⟩ := List.mem_iff_getElem.1 hx
  simp only [axp, List.getElem_zipWith]
  exact ⟨Int.emod_nonneg _ (by omega), Int.emod_lt_of_pos _ hp⟩
/-- the tool for equal rows -/
theorem axp_eq {p : Int} {n : Nat} {v w : Row} (h : Vc p n v) (k : Vc p n w) (e : ∀ i, i < n → (e_ v i - e_ w i) % p = 0) : v = w :=
  h.ext k fun i hi => by
    have := Int.emod_eq_emod_iff_emod_sub_eq_zero.2 (e i hi)
    rwa [h.emod hi, k.emod hi] at this
inductive Sp (p : Int) (n : Nat) (R : List Row) : Row → Prop
  | zero : Sp p n R (List.replicate n 0)
  | step (a : Int) {v r : Row} : Sp p n R v → r ∈ R → Sp p n R (axp p a v r)
def Vcs (p : Int) (n : Nat) (R : List Row) : Prop := ∀ r ∈ R, Vc p n r
section
variable {p : Int} {n : Nat} {R R' : List Row}
theorem Sp.vc (hp : 0 < p) (hR : Vcs p n R) {v : Row} (h : Sp p n R v) : Vc p n v := by
  induction h with
  | zero => exact vc_zero hp
  | step a _ hr ih => exact vc_axp hp ih.1 (hR _ hr).1
theorem axp_zero (hp : 0 < p) {b : Int} {v : Row} (hv : Vc p n v) : axp p b v (List.replicate n 0) = v := by
  have hz := vc_zero (n := n) hp
  exact (vc_axp hp hv.1 hz.1).ext hv fun i hi => by rw [e_axp hv.1 hz.1 hi, e_zero]; simpa using hv.emod hi
theorem zero_axp (hp : 0 < p) {v : Row} (hv : Vc p n v) : axp p 1 (List.replicate n 0) v = v := by
  have hz := vc_zero (n := n) hp
  exact (vc_axp hp hz.1 hv.1).ext hv fun i hi => by rw [e_axp hz.1 hv.1 hi, e_zero]; simpa using hv.emod hi
theorem emod_cg {a b : Int} (k : Int) (h : a = b + p * k) : a % p = b % p := by
  rw [h]; simp
theorem axp_axp (hp : 0 < p) {a b : Int} {v w r : Row} (hv : Vc p n v) (hw : Vc p n w) (hr : Vc p n r) : axp p b v (axp p a w r) = axp p (b * a) (axp p b v w) r := by
  have h1 := vc_axp (a := a) hp hw.1 hr.1
  have h2 := vc_axp (a := b) hp hv.1 hw.1
  refine (vc_axp hp hv.1 h1.1).ext (vc_axp hp h2.1 hr.1) fun i hi => ?_
  rw [e_axp hv.1 h1.1 hi, e_axp hw.1 hr.1 hi, e_axp h2.1 hr.1 hi, e_axp hv.1 hw.1 hi]
  rw [Int.emod_add_emod, Int.add_emod, Int.mul_emod, Int.emod_emod, ← Int.mul_emod, ← Int.add_emod]
  congr 1
  grind
theorem axp_swap (hp : 0 < p) {a b : Int} {v r s : Row} (hv : Vc p n v) (hr : Vc p n r) (hs : Vc p n s) : axp p a (axp p b v s) r = axp p b (axp p a v r) s := by
  have h1 := vc_axp (a := b) hp hv.1 hs.1
  have h2 := vc_axp (a := a) hp hv.1 hr.1
  refine (vc_axp hp h1.1 hr.1).ext (vc_axp hp h2.1 hs.1) fun i hi => ?_
  rw [e_axp h1.1 hr.1 hi, e_axp hv.1 hs.1 hi, e_axp h2.1 hs.1 hi, e_axp hv.1 hr.1 hi, Int.emod_add_emod, Int.emod_add_emod]
  congr 1
  omega
theorem axp_same (hp : 0 < p) {a b : Int} {v r : Row} (hv : Vc p n v) (hr : Vc p n r) : axp p a (axp p b v r) r = axp p (a + b) v r := by
  have h1 := vc_axp (a := b) hp hv.1 hr.1
  refine (vc_axp hp h1.1 hr.1).ext (vc_axp hp hv.1 hr.1) fun i hi => ?_
  rw [e_axp h1.1 hr.1 hi, e_axp hv.1 hr.1 hi, e_axp hv.1 hr.1 hi, Int.emod_add_emod]
  congr 1
  grind
theorem axp_mod (hp : 0 < p) {a : Int} {v r : Row} (hv : Vc p n v) (hr : Vc p n r) : axp p (a % p) v r = axp p a v r := by
  refine (vc_axp hp hv.1 hr.1).ext (vc_axp hp hv.1 hr.1) fun i hi => ?_
  rw [e_axp hv.1 hr.1 hi, e_axp hv.1 hr.1 hi, Int.add_emod, Int.mul_emod, Int.emod_emod, ← Int.mul_emod, ← Int.add_emod]
theorem axp_none (hp : 0 < p) {v r : Row} (hv : Vc p n v) (hr : Vc p n r) : axp p 0 v r = v := by
  refine (vc_axp hp hv.1 hr.1).ext hv fun i hi => ?_
  rw [e_axp hv.1 hr.1 hi]
  simpa using hv.emod hi
theorem Sp.add (hp : 0 < p) (hR : Vcs p n R) {v w : Row} (b : Int) (hv : Sp p n R v) (hw : Sp p n R w) : Sp p n R (axp p b v w) := by
  induction hw with
  | zero => rw [axp_zero hp (hv.vc hp hR)]; exact hv
  | step a h1 hr ih =>
    rw [axp_axp hp (hv.vc hp hR) (h1.vc hp hR) (hR _ hr)]
    exact .step _ ih hr
theorem Sp.of_mem (hp : 0 < p) (hR : Vcs p n R) {r : Row} (h : r ∈ R) : Sp p n R r := by
  have := Sp.step (p := p) (n := n) 1 .zero h
  rwa [zero_axp hp (hR r h)] at this
theorem Sp.sub (hp : 0 < p) (hR' : Vcs p n R') (h : ∀ r ∈ R, Sp p n R' r) {v : Row} (hv : Sp p n R v) : Sp p n R' v := by
  induction hv with
  | zero => exact .zero
  | step a _ hr ih => exact ih.add hp hR' _ (h _ hr)
theorem Sp.mono (h : ∀ r ∈ R, r ∈ R') {v : Row} (hv : Sp p n R v) : Sp p n R' v := by
  induction hv with
  | zero => exact .zero
  | step a _ hr ih => exact .step a ih (h _ hr)
theorem Sp.nil_iff {v : Row} (hv : Sp p n [] v) : v = List.replicate n 0 := by
  cases hv with
  | zero => rfl
  | step a _ hr => cases hr
theorem Sp.cons_out (hp : 0 < p) {r : Row} (hr : Vc p n r) (hR : Vcs p n R) {v : Row} (hv : Sp p n (r :: R) v) : ∃ a w, 0 ≤ a ∧ a < p ∧ Sp p n R w ∧ v = axp p a w r := by
  induction hv with
  | zero => exact ⟨0, _, by omega, hp, .zero, by rw [axp_none hp (vc_zero hp) hr]⟩
  | step b h1 hs ih =>
    obtain ⟨a, w, h2, h3, h4, rfl⟩ := ih
    rcases List.mem_cons.1 hs with rfl | hs
    · refine ⟨(b + a) % p, w, Int.emod_nonneg _ (by omega), Int.emod_lt_of_pos _ hp, h4, ?_⟩
      rw [axp_same hp (h4.vc hp hR) hr, axp_mod hp (h4.vc hp hR) hr]
    · exact ⟨a, _, h2, h3, .step b h4 hs, by rw [axp_swap hp (h4.vc hp hR) (hR _ hs) hr]⟩
theorem Sp.cons_in {r : Row} {a : Int} {w : Row} (h : Sp p n R w) : Sp p n (r :: R) (axp p a w r) := .step a (h.mono fun _ h => List.mem_cons_of_mem _ h) (List.mem_cons_self ..)
/-- what vanishes on the rows vanishes on the span -/
theorem Sp.van (hp : 0 < p) (hR : Vcs p n R) {c : Nat} (hc : c < n) (h : ∀ r ∈ R, e_ r c = 0) {v : Row} (hv : Sp p n R v) : e_ v c = 0 := by
  induction hv with
  | zero => exact e_zero _ _
  | step a h1 hr ih => rw [e_axp (h1.vc hp hR).1 (hR _ hr).1 hc, ih, h _ hr]; simp
end
def Fld (p : Int) : Prop := 1 < p ∧ ∀ k : Nat, k < p.toNat → k ≠ 0 → ∃ c, c < p.toNat ∧ (k * c) % p.toNat = 1
theorem Fld.pos {p : Int} (h : Fld p) : 0 < p := by have := h.1; omega
theorem Fld.inv {p : Int} (h : Fld p) {a : Int} (ha : a % p ≠ 0) : ∃ c, 0 < c ∧ c < p ∧ (a * c) % p = 1 := by
  have hp := h.pos
  have h0 := Int.emod_nonneg a (by omega : p ≠ 0)
  have h1 := Int.emod_lt_of_pos a hp
  obtain ⟨c, c1, c2⟩ := h.2 (a % p).toNat (by omega) (by omega)
  have e : ((a % p).toNat : Int) = a % p := by omega
  have ep : ((p.toNat : Nat) : Int) = p := by omega
  have c3 : (a * c) % p = 1 := by
    have := congrArg (Nat.cast (R := Int)) c2
    simp only [Int.natCast_emod, Int.natCast_mul, e, ep] at this
    rw [Int.mul_emod, Int.emod_emod, ← Int.mul_emod] at this
    exact this
  refine ⟨c, ?_, by omega, c3⟩
  have : c ≠ 0 := by
    intro z
    rw [z] at c3
    simp at c3
  omega
section
variable {p : Int} {n : Nat} {R R' : List Row}
/-- two ways to a word -/
theorem two_ways (hf : Fld p) (hR : Vcs p n R) {r w w' : Row} {a b : Int} (hr : Vc p n r) (hw : Sp p n R w) (hw' : Sp p n R w') (hn : ¬ Sp p n R r) (ha : 0 ≤ a ∧ a < p) (hb : 0 ≤ b ∧ b < p)
    (e : axp p a w r = axp p b w' r) : a = b ∧ w = w' := by
  have hp := hf.pos
  have vw := hw.vc hp hR
  have vw' := hw'.vc hp hR
  have key : ∀ i, i < n → (e_ w i + a * e_ r i) % p = (e_ w' i + b * e_ r i) % p := fun i hi => by
    rw [← e_axp vw.1 hr.1 hi, ← e_axp vw'.1 hr.1 hi, e]
  by_cases hab : a = b
  · subst hab
    refine ⟨rfl, axp_eq vw vw' fun i hi => ?_⟩
    have := Int.emod_eq_emod_iff_emod_sub_eq_zero.1 (key i hi)
    rw [← this]; congr 1; omega
  · exfalso
    apply hn
    have hne : (a - b) % p ≠ 0 := fun z => by
      have := Int.emod_eq_emod_iff_emod_sub_eq_zero.2 z
      rw [Int.emod_eq_of_lt ha.1 ha.2, Int.emod_eq_of_lt hb.1 hb.2] at this
      exact hab this
    obtain ⟨c, c0, c1, c2⟩ := hf.inv hne
    have q : Sp p n R (axp p c (axp p (-c) (List.replicate n 0) w) w') := (Sp.add hp hR _ .zero hw).add hp hR _ hw'
    have hz := vc_zero (n := n) hp
    have v1 := vc_axp (a := -c) hp hz.1 vw.1
    have : r = axp p c (axp p (-c) (List.replicate n 0) w) w' := by
      refine axp_eq hr (q.vc hp hR) fun i hi => ?_
      rw [e_axp v1.1 vw'.1 hi, e_axp hz.1 vw.1 hi, e_zero, Int.emod_add_emod, Int.sub_emod, Int.emod_emod, ← Int.sub_emod]
      have k := Int.emod_eq_emod_iff_emod_sub_eq_zero.1 (key i hi)
      obtain ⟨k1, k2⟩ := Int.dvd_of_emod_eq_zero k
      have k3 : (a - b) * c = 1 + p * ((a - b) * c / p) := by
        have := Int.emod_add_mul_ediv ((a - b) * c) p
        rw [c2] at this; omega
      generalize (a - b) * c / p = m at k3
      apply Int.emod_eq_zero_of_dvd
      refine ⟨c * k1 - m * e_ r i, ?_⟩
      grind
    rw [this]; exact q
end
def spanF (p : Int) (n : Nat) (rows : List Row) : List Row :=
  rows.foldl (fun found row => if row ∈ found then found else found.flatMap fun w => (List.range p.toNat).map fun (a : Nat) => axp p a w row) [List.replicate n 0]
theorem spanF_go {p : Int} {n : Nat} (hf : Fld p) : ∀ (rows : List Row) (R found : List Row), Vcs p n R → Vcs p n rows → (∀ v, v ∈ found ↔ Sp p n R v) → found.Nodup →
    (∀ v, v ∈ rows.foldl (fun found row => if row ∈ found then found else found.flatMap fun w => (List.range p.toNat).map fun (a : Nat) => axp p a w row) found ↔ Sp p n (rows ++ R) v) ∧
    (rows.foldl (fun found row => if row ∈ found then found else found.flatMap fun w => (List.range p.toNat).map fun (a : Nat) => axp p a w row) found).Nodup ∧
    (rows.foldl (fun found row => if row ∈ found then found else found.flatMap fun w => (List.range p.toNat).map fun (a : Nat) => axp p a w row) found).length ≤ p.toNat ^ rows.length * found.length
  | [], R, found, _, _, hm, hn => ⟨hm, hn, by simp⟩
  | row :: rows, R, found, hR, hrows, hm, hn => by
    have hp := hf.pos
    have hr : Vc p n row := hrows _ (List.mem_cons_self ..)
    have hrs : Vcs p n rows := fun r h => hrows r (List.mem_cons_of_mem _ h)
    have perm : ∀ v, Sp p n (rows ++ row :: R) v ↔ Sp p n (row :: rows ++ R) v := fun v =>
      ⟨fun h => h.mono fun r h => by simp at h ⊢; rcases h with h | h | h <;> simp [h], fun h => h.mono fun r h => by simp at h ⊢; rcases h with h | h | h <;> simp [h]⟩
    rw [List.foldl_cons]
    by_cases hin : row ∈ found
    · rw [if_pos hin]
      obtain ⟨h1, h2, h3⟩ := spanF_go hf rows (row :: R) found (fun r h => by rcases List.mem_cons.1 h with rfl | h; exact hr; exact hR _ h) hrs (fun v => by
        rw [hm]
        refine ⟨fun h => h.mono fun _ h => List.mem_cons_of_mem _ h, fun h => h.sub hp hR fun r hr' => ?_⟩
        rcases List.mem_cons.1 hr' with rfl | hr'
        · exact (hm _).1 hin
        · exact .of_mem hp hR hr') hn
      refine ⟨fun v => (h1 v).trans (perm v), h2, Nat.le_trans h3 ?_⟩
      apply Nat.mul_le_mul_right
      rw [List.length_cons, Nat.pow_succ]
      exact Nat.le_mul_of_pos_right _ (by omega)
    · rw [if_neg hin]
      have hns : ¬ Sp p n R row := fun h => hin ((hm _).2 h)
      obtain ⟨h1, h2, h3⟩ := spanF_go hf rows (row :: R) (found.flatMap fun w => (List.range p.toNat).map fun (a : Nat) => axp p a w row) (fun r h => by rcases List.mem_cons.1 h with rfl | h; exact hr; exact hR _ h) hrs (fun v => by
        rw [List.mem_flatMap]
        constructor
        · rintro ⟨w, hw, h⟩
          obtain ⟨a, _, rfl⟩ := List.mem_map.1 h
          exact .cons_in ((hm w).1 hw)
        · intro h
          obtain ⟨a, w, a0, a1, h2, rfl⟩ := h.cons_out hp hr hR
          refine ⟨w, (hm w).2 h2, List.mem_map.2 ⟨a.toNat, by simp; omega, ?_⟩⟩
          rw [Int.toNat_of_nonneg a0]) (by
        unfold List.Nodup
        rw [List.pairwise_flatMap]
        constructor
        · intro w hw
          rw [List.pairwise_map]
          apply List.Pairwise.imp_of_mem _ List.nodup_range
          intro a b ha hb hab e
          simp only [List.mem_range] at ha hb
          have := (two_ways hf hR hr ((hm w).1 hw) ((hm w).1 hw) hns ⟨by omega, by omega⟩ ⟨by omega, by omega⟩ e).1
          omega
        · apply List.Pairwise.imp_of_mem _ hn
          intro w w' hw hw' hne x hx y hy e
          obtain ⟨a, ha, rfl⟩ := List.mem_map.1 hx
          obtain ⟨b, hb, rfl⟩ := List.mem_map.1 hy
          simp only [List.mem_range] at ha hb
          exact hne (two_ways hf hR hr ((hm w).1 hw) ((hm w').1 hw') hns ⟨by omega, by omega⟩ ⟨by omega, by omega⟩ e).2)
      refine ⟨fun v => (h1 v).trans (perm v), h2, Nat.le_trans h3 ?_⟩
      simp only [List.length_flatMap, List.length_map, List.length_range, List.length_cons, Nat.pow_succ]
      rw [List.map_const', List.sum_replicate_nat, Nat.mul_assoc, Nat.mul_comm found.length]
      exact Nat.le_refl _
theorem mem_spanF {p : Int} {n : Nat} (hf : Fld p) {rows : List Row} (h : Vcs p n rows) (v : Row) : v ∈ spanF p n rows ↔ Sp p n rows v := by
  have := (spanF_go hf rows [] [List.replicate n 0] (fun _ h => nomatch h) h (fun v => by
    rw [List.mem_singleton]
    exact ⟨fun h => h ▸ .zero, fun h => h.nil_iff⟩) (by simp)).1 v
  rw [List.append_nil] at this
  exact this
theorem nodup_spanF {p : Int} {n : Nat} (hf : Fld p) {rows : List Row} (h : Vcs p n rows) : (spanF p n rows).Nodup ∧ (spanF p n rows).length ≤ p.toNat ^ rows.length := by
  have := (spanF_go hf rows [] [List.replicate n 0] (fun _ h => nomatch h) h (fun v => by
    rw [List.mem_singleton]
    exact ⟨fun h => h ▸ .zero, fun h => h.nil_iff⟩) (by simp)).2
  rw [List.length_singleton, Nat.mul_one] at this
  exact this
theorem ltI_irf : ∀ a : Row, D.ltI a a = false
  | [] => rfl
  | x :: r => by simp [D.ltI, ltI_irf r]
theorem ltI_asy : ∀ a b : Row, D.ltI a b = true → D.ltI b a = false
  | [], [], h => by cases h
  | [], _ :: _, _ => rfl
  | _ :: _, [], h => by cases h
  | x :: r, y :: s, h => by
    simp only [D.ltI, Bool.or_eq_true, Bool.and_eq_true, Bool.not_eq_true', decide_eq_true_eq, decide_eq_false_iff_not, Bool.or_eq_false_iff, Bool.and_eq_false_iff, Bool.not_eq_false'] at h ⊢
    rcases h with h | ⟨h1, h2⟩
    · exact ⟨by omega, .inl h⟩
    · exact ⟨h1, .inr (ltI_asy r s h2)⟩
theorem ltI_tri : ∀ a b : Row, D.ltI a b = false → D.ltI b a = false → a = b
  | [], [], _, _ => rfl
  | [], _ :: _, h, _ => by cases h
  | _ :: _, [], _, h => by cases h
  | x :: r, y :: s, h, k => by
    simp only [D.ltI, Bool.or_eq_false_iff, Bool.and_eq_false_iff, Bool.not_eq_false', decide_eq_true_eq, decide_eq_false_iff_not] at h k
    obtain ⟨h1, h2⟩ := h
    obtain ⟨k1, k2⟩ := k
    have : x = y := by omega
    subst this
    rw [ltI_tri r s (h2.resolve_left (by omega)) (k2.resolve_left (by omega))]
theorem ltI_tr : ∀ a b c : Row, D.ltI a b = true → D.ltI b c = true → D.ltI a c = true
  | [], [], _, h, _ => by cases h
  | [], _ :: _, [], _, h => by cases h
  | [], _ :: _, _ :: _, _, _ => rfl
  | _ :: _, [], _, h, _ => by cases h
  | _ :: _, _ :: _, [], _, h => by cases h
  | x :: r, y :: s, z :: t, h, k => by
    simp only [D.ltI, Bool.or_eq_true, Bool.and_eq_true, Bool.not_eq_true', decide_eq_true_eq, decide_eq_false_iff_not] at h k ⊢
    rcases h with h | ⟨h1, h2⟩ <;> rcases k with k | ⟨k1, k2⟩
    · exact .inl (by omega)
    · exact .inl (by omega)
    · exact .inl (by omega)
    · exact .inr ⟨by omega, ltI_tr r s t h2 k2⟩
theorem mem_ins {α : Type} {lt : α → α → Bool} {x y : α} : ∀ (l : List α), y ∈ ins lt x l ↔ y = x ∨ y ∈ l
  | [] => by simp [ins]
  | z :: l => by
    rw [ins]
    split
    · simp
    · rw [List.mem_cons, mem_ins l, List.mem_cons]
      constructor
      · rintro (h | h | h)
        · exact .inr (.inl h)
        · exact .inl h
        · exact .inr (.inr h)
      · rintro (h | h | h)
        · exact .inr (.inl h)
        · exact .inl h
        · exact .inr (.inr h)
theorem mem_isort {α : Type} {lt : α → α → Bool} {y : α} : ∀ (l : List α), y ∈ isort lt l ↔ y ∈ l
  | [] => by simp [isort]
  | x :: l => by rw [isort, mem_ins, mem_isort l, List.mem_cons]
theorem len_ins {α : Type} {lt : α → α → Bool} {x : α} : ∀ (l : List α), (ins lt x l).length = l.length + 1
  | [] => rfl
  | z :: l => by
    rw [ins]
    split
    · rfl
    · rw [List.length_cons, len_ins l, List.length_cons]
theorem len_isort {α : Type} {lt : α → α → Bool} : ∀ (l : List α), (isort lt l).length = l.length
  | [] => rfl
  | x :: l => by rw [isort, len_ins, len_isort l, List.length_cons]
theorem ins_sorted {x : Row} : ∀ (l : List Row), x ∉ l → l.Pairwise (fun a b => D.ltI a b = true) → (ins D.ltI x l).Pairwise (fun a b => D.ltI a b = true)
  | [], _, _ => by simp [ins]
  | y :: l, hx, h => by
    rw [ins]
    rw [List.pairwise_cons] at h
    split
    · rename_i e
      rw [List.pairwise_cons, List.pairwise_cons]
      exact ⟨fun z hz => by rcases List.mem_cons.1 hz with rfl | hz; exact e; exact ltI_tr _ _ _ e (h.1 z hz), h⟩
    · rename_i e
      rw [List.pairwise_cons]
      refine ⟨fun z hz => ?_, ins_sorted l (fun q => hx (List.mem_cons_of_mem _ q)) h.2⟩
      rcases (mem_ins l).1 hz with rfl | hz
      · cases e2 : D.ltI y z with
        | true => rfl
        | false => exact (hx (by rw [ltI_tri z y (by simpa using e) e2]; exact List.mem_cons_self ..)).elim
      · exact h.1 z hz
theorem isort_sorted : ∀ (l : List Row), l.Nodup → (isort D.ltI l).Pairwise (fun a b => D.ltI a b = true)
  | [], _ => by simp [isort]
  | x :: l, h => by
    rw [isort]
    rw [List.nodup_cons] at h
    exact ins_sorted _ (fun q => h.1 ((mem_isort l).1 q)) (isort_sorted l h.2)
theorem sorted_one {α : Type} {lt : α → α → Prop} (irr : ∀ a, ¬ lt a a) (asy : ∀ a b, lt a b → ¬ lt b a) : ∀ (l k : List α), l.Pairwise lt → k.Pairwise lt → (∀ x, x ∈ l ↔ x ∈ k) → l = k
  | [], [], _, _, _ => rfl
  | [], y :: k, _, _, h => by have := (h y).2 (List.mem_cons_self ..); cases this
  | x :: l, [], _, _, h => by have := (h x).1 (List.mem_cons_self ..); cases this
  | x :: l, y :: k, hl, hk, h => by
    rw [List.pairwise_cons] at hl hk
    have e : x = y := by
      rcases List.mem_cons.1 ((h x).1 (List.mem_cons_self ..)) with e | e
      · exact e
      · rcases List.mem_cons.1 ((h y).2 (List.mem_cons_self ..)) with q | q
        · exact q.symm
        · exact (asy _ _ (hk.1 x e) (hl.1 y q)).elim
    subst e
    rw [sorted_one irr asy l k hl.2 hk.2 fun z => ?_]
    constructor
    · intro hz
      rcases List.mem_cons.1 ((h z).1 (List.mem_cons_of_mem _ hz)) with rfl | q
      · exact (irr _ (hl.1 _ hz)).elim
      · exact q
    · intro hz
      rcases List.mem_cons.1 ((h z).2 (List.mem_cons_of_mem _ hz)) with rfl | q
      · exact (irr _ (hk.1 _ hz)).elim
      · exact q
theorem isort_one {l k : List Row} (hl : l.Nodup) (hk : k.Nodup) (h : ∀ x, x ∈ l ↔ x ∈ k) : isort D.ltI l = isort D.ltI k :=
  sorted_one (lt := fun a b => D.ltI a b = true) (fun a h => by rw [ltI_irf] at h; cases h) (fun a b h k => by rw [ltI_asy a b h] at k; cases k) _ _ (isort_sorted l hl) (isort_sorted k hk) fun x => by rw [mem_isort, mem_isort]; exact h x
abbrev Hd := Row × Nat
def rws (F : List Hd) : List Row := F.map (·.1)
structure Rf (p : Int) (n : Nat) (F : List Hd) : Prop where
  asc : F.Pairwise fun x y => x.2 < y.2
  vc : ∀ x ∈ F, Vc p n x.1
  lt : ∀ x ∈ F, x.2 < n
  one : ∀ x ∈ F, e_ x.1 x.2 = 1
  low : ∀ x ∈ F, ∀ c, c < x.2 → e_ x.1 c = 0
  off : ∀ x ∈ F, ∀ y ∈ F, y.2 ≠ x.2 → e_ y.1 x.2 = 0
section
variable {p : Int} {n : Nat} {R R' : List Row}
theorem Rf.vcs {F : List Hd} (h : Rf p n F) : Vcs p n (rws F) := fun r hr => by
  obtain ⟨x, hx, rfl⟩ := List.mem_map.1 hr
  exact h.vc x hx
theorem Rf.sub {F G : List Hd} (h : Rf p n F) (s : G.Sublist F) : Rf p n G where
  asc := h.asc.sublist s
  vc := fun x hx => h.vc x (s.mem hx)
  lt := fun x hx => h.lt x (s.mem hx)
  one := fun x hx => h.one x (s.mem hx)
  low := fun x hx => h.low x (s.mem hx)
  off := fun x hx y hy => h.off x (s.mem hx) y (s.mem hy)
theorem Rf.head_inj {F : List Hd} (h : Rf p n F) {x y : Hd} (hx : x ∈ F) (hy : y ∈ F) (e : x.2 = y.2) : x = y := by
  obtain ⟨i, hi, rfl⟩ := List.mem_iff_getElem.1 hx
  obtain ⟨j, hj, rfl⟩ := List.mem_iff_getElem.1 hy
  have := List.pairwise_iff_getElem.1 h.asc
  rcases Nat.lt_trichotomy i j with q | q | q
  · have := this i j hi hj q; omega
  · subst q; rfl
  · have := this j i hj hi q; omega
theorem Rf.coords (hp : 0 < p) : ∀ {F : List Hd}, Rf p n F → ∀ {u : Row}, Sp p n (rws F) u → Sp p n (rws (F.filter fun x => e_ u x.2 != 0)) u
  | [], _, u, hu => hu
  | x :: F, h, u, hu => by
    have hF : Rf p n F := h.sub (List.sublist_cons_self ..)
    obtain ⟨a, w, a0, a1, hw, rfl⟩ := hu.cons_out hp (h.vc x (List.mem_cons_self ..)) hF.vcs
    have vx := h.vc x (List.mem_cons_self ..)
    have vw := hw.vc hp hF.vcs
    have lx := h.lt x (List.mem_cons_self ..)
    have wx : e_ w x.2 = 0 := hw.van hp hF.vcs lx fun r hr => by
      obtain ⟨y, hy, rfl⟩ := List.mem_map.1 hr
      refine h.off x (List.mem_cons_self ..) y (List.mem_cons_of_mem _ hy) ?_
      have := (List.pairwise_cons.1 h.asc).1 y hy
      omega
    have hx : e_ (axp p a w x.1) x.2 = a := by
      rw [e_axp vw.1 vx.1 lx, wx, h.one x (List.mem_cons_self ..)]
      simp only [Int.zero_add, Int.mul_one]
      exact Int.emod_eq_of_lt a0 a1
    have hy : ∀ y ∈ F, e_ (axp p a w x.1) y.2 = e_ w y.2 := fun y hy => by
      have ly := hF.lt y hy
      rw [e_axp vw.1 vx.1 ly, h.off y (List.mem_cons_of_mem _ hy) x (List.mem_cons_self ..) (by have := (List.pairwise_cons.1 h.asc).1 y hy; omega)]
      simp only [Int.mul_zero, Int.add_zero]
      exact vw.emod ly
    have ih := hF.coords hp hw
    have ef : F.filter (fun x_1 => e_ (axp p a w x.1) x_1.2 != 0) = F.filter fun x => e_ w x.2 != 0 :=
      List.filter_congr fun y q => by rw [hy y q]
    rw [List.filter_cons, ef, hx]
    by_cases ha : a = 0
    · subst ha
      simp only [bne_self_eq_false, Bool.false_eq_true, if_false]
      rw [axp_none hp vw vx]
      exact ih
    · rw [if_pos (by simpa using ha)]
      exact .cons_in ih
theorem Rf.zero (hp : 0 < p) {F : List Hd} (h : Rf p n F) {u : Row} (hu : Sp p n (rws F) u) (e : ∀ x ∈ F, e_ u x.2 = 0) : u = List.replicate n 0 := by
  have := h.coords hp hu
  rw [List.filter_eq_nil_iff.2 (fun x hx => by rw [e x hx]; simp)] at this
  exact this.nil_iff
theorem Rf.heads {A B : List Hd} (hp : 0 < p) (hA : Rf p n A) (hB : Rf p n B) (h : ∀ v, Sp p n (rws A) v → Sp p n (rws B) v) {x : Hd} (hx : x ∈ A) : ∃ y ∈ B, y.2 = x.2 := by
  apply Classical.byContradiction
  intro hn
  have hu : Sp p n (rws B) x.1 := h _ (.of_mem hp hA.vcs (List.mem_map.2 ⟨x, hx, rfl⟩))
  have h1 := hB.coords hp hu
  have h2 : Rf p n (B.filter fun y => e_ x.1 y.2 != 0) := hB.sub List.filter_sublist
  have := h1.van hp h2.vcs (hA.lt x hx) fun r hr => by
    obtain ⟨y, hy, rfl⟩ := List.mem_map.1 hr
    obtain ⟨hy1, hy2⟩ := List.mem_filter.1 hy
    refine hB.low y hy1 _ ?_
    rcases Nat.lt_trichotomy x.2 y.2 with q | q | q
    · exact q
    · exact (hn ⟨y, hy1, q.symm⟩).elim
    · rw [hA.low x hx _ q] at hy2
      simp at hy2
  rw [hA.one x hx] at this
  cases this
theorem Rf.one_ {A B : List Hd} (hp : 0 < p) (hA : Rf p n A) (hB : Rf p n B) (h : ∀ v, Sp p n (rws A) v ↔ Sp p n (rws B) v) : A = B := by
  have key : ∀ {A B : List Hd}, Rf p n A → Rf p n B → (∀ v, Sp p n (rws A) v ↔ Sp p n (rws B) v) → ∀ x ∈ A, x ∈ B := by
    intro A B hA hB h x hx
    obtain ⟨y, hy, e⟩ := hA.heads hp hB (fun v => (h v).1) hx
    have s1 : Sp p n (rws A) x.1 := .of_mem hp hA.vcs (List.mem_map.2 ⟨x, hx, rfl⟩)
    have s2 : Sp p n (rws A) y.1 := (h _).2 (.of_mem hp hB.vcs (List.mem_map.2 ⟨y, hy, rfl⟩))
    have vx := hA.vc x hx
    have vy := hB.vc y hy
    have z := hA.zero hp (s1.add hp hA.vcs (-1) s2) fun z hz => by
      rw [e_axp vx.1 vy.1 (hA.lt z hz)]
      by_cases q : z.2 = x.2
      · rw [q, hA.one x hx, ← e, hB.one y hy]; simp
      · obtain ⟨z', hz', e'⟩ := hA.heads hp hB (fun v => (h v).1) hz
        rw [hA.off z hz x hx (fun t => q t.symm), ← e', hB.off z' hz' y hy (by rw [e, e']; exact fun t => q t.symm)]; simp
    have : x.1 = y.1 := axp_eq vx vy fun i hi => by
      have := congrArg (e_ · i) z
      simp only [e_zero] at this
      rw [e_axp vx.1 vy.1 hi] at this
      rw [← this]; congr 1; omega
    rw [Prod.ext (this) e.symm]
    exact hy
  exact sorted_one (lt := fun x y : Hd => x.2 < y.2) (fun a => Nat.lt_irrefl _) (fun a b h k => by omega) _ _ hA.asc hB.asc fun x => ⟨key hA hB h x, key hB hA (fun v => (h v).symm) x⟩
end
end PC

namespace PC
def vsc (p a : Int) (v : Row) : Row := v.map fun x => x * a % p
def vcl (p : Int) (row head : Row) (at_ : Nat) : Row := if e_ row at_ = 0 then row else List.zipWith (fun x y => (x - e_ row at_ * y) % p) row head
section
variable {p : Int} {n : Nat} {R R' : List Row}
theorem vsc_eq (hp : 0 < p) {a : Int} {v : Row} (hv : v.length = n) : vsc p a v = axp p a (List.replicate n 0) v := by
  apply List.ext_getElem
  · simp [vsc, axp, hv]
  · intro i h1 h2
    simp [vsc, axp, Int.mul_comm]
theorem vcl_eq (hp : 0 < p) {row head : Row} {k : Nat} (hv : Vc p n row) (hh : Vc p n head) : vcl p row head k = axp p (-(e_ row k)) row head := by
  unfold vcl
  by_cases h : e_ row k = 0
  · rw [if_pos h, h, Int.neg_zero, axp_none hp hv hh]
  · rw [if_neg h]
    unfold axp
    congr 1
    funext x y
    congr 1
    rw [Int.neg_mul]; rfl
theorem vc_vsc (hp : 0 < p) {a : Int} {v : Row} (hv : v.length = n) : Vc p n (vsc p a v) := by
  rw [vsc_eq hp hv]; exact vc_axp hp (vc_zero hp).1 hv
theorem e_vsc (hp : 0 < p) {a : Int} {v : Row} (hv : v.length = n) {i : Nat} (hi : i < n) : e_ (vsc p a v) i = (e_ v i * a) % p := by
  rw [vsc_eq hp hv, e_axp (vc_zero (n := n) hp).1 hv hi, e_zero, Int.zero_add, Int.mul_comm]
theorem vc_vcl (hp : 0 < p) {row head : Row} {k : Nat} (hv : Vc p n row) (hh : Vc p n head) : Vc p n (vcl p row head k) := by
  rw [vcl_eq hp hv hh]; exact vc_axp hp hv.1 hh.1
theorem e_vcl (hp : 0 < p) {row head : Row} {k : Nat} (hv : Vc p n row) (hh : Vc p n head) {i : Nat} (hi : i < n) : e_ (vcl p row head k) i = (e_ row i - e_ row k * e_ head i) % p := by
  rw [vcl_eq hp hv hh, e_axp hv.1 hh.1 hi, Int.neg_mul]; rfl
/-- how the reduction stands before a column -/
structure RI (p : Int) (n : Nat) (rows left : List Row) (F : List Hd) (k : Nat) : Prop where
  vl : Vcs p n left
  low : ∀ r ∈ left, ∀ c, c < k → e_ r c = 0
  rf : Rf p n F
  hd : ∀ x ∈ F, x.2 < k
  sp : ∀ v, Sp p n (left ++ rws F) v ↔ Sp p n rows v
theorem RI.start (h : Vcs p n R) : RI p n R R [] 0 where
  vl := h
  low := fun _ _ _ h => nomatch h
  rf := ⟨.nil, fun _ h => (nomatch h), fun _ h => (nomatch h), fun _ h => (nomatch h), fun _ h => (nomatch h), fun _ h => (nomatch h)⟩
  hd := fun _ h => nomatch h
  sp := fun v => by simp [rws]
theorem RI.skip {L : List Row} {F : List Hd} {k : Nat} (h : RI p n R L F k) (z : ∀ r ∈ L, e_ r k = 0) : RI p n R L F (k + 1) :=
  ⟨h.vl, fun r hr c hc => by
      rcases Nat.lt_succ_iff_lt_or_eq.1 hc with q | rfl
      · exact h.low r hr c q
      · exact z r hr, h.rf, fun x hx => Nat.lt_succ_of_lt (h.hd x hx), h.sp⟩
theorem RI.step (hp : 0 < p) {L : List Row} {F : List Hd} {k : Nat} (h : RI p n R L F k) (hk : k < n) {i : Nat} {r : Row} (hi : L[i]? = some r) {c : Int} (hc : (e_ r k * c) % p = 1) :
    RI p n R ((L.eraseIdx i).map fun s => vcl p s (vsc p c r) k) ((F.map fun x => (vcl p x.1 (vsc p c r) k, x.2)) ++ [(vsc p c r, k)]) (k + 1) := by
  have hr : r ∈ L := List.mem_of_getElem? hi
  have vr := h.vl r hr
  have vh : Vc p n (vsc p c r) := vc_vsc hp vr.1
  have hL : Vcs p n (L ++ rws F) := fun s hs => (List.mem_append.1 hs).elim (h.vl s) (h.rf.vcs s)
  have h0 : ∀ j, j < k → e_ (vsc p c r) j = 0 := fun j hj => by
    rw [e_vsc hp vr.1 (by omega), h.low r hr j hj]; simp
  have h1 : e_ (vsc p c r) k = 1 := by rw [e_vsc hp vr.1 hk, hc]
  have subL : ∀ s ∈ L.eraseIdx i, s ∈ L := fun s hs => (List.eraseIdx_sublist ..).mem hs
  have low' : ∀ s, Vc p n s → ∀ j, j < n → j < k → e_ (vcl p s (vsc p c r) k) j = e_ s j := fun s vs j hj q => by
    rw [e_vcl hp vs vh hj, h0 j q]; simp only [Int.mul_zero, Int.sub_zero]; exact vs.emod hj
  have at' : ∀ s, Vc p n s → e_ (vcl p s (vsc p c r) k) k = 0 := fun s vs => by
    rw [e_vcl hp vs vh hk, h1]; simp
  have sh : Sp p n (L ++ rws F) (vsc p c r) := by
    rw [vsc_eq hp vr.1]; exact .step _ .zero (List.mem_append_left _ hr)
  have vnew : Vcs p n ((L.eraseIdx i).map (fun s => vcl p s (vsc p c r) k) ++ rws ((F.map fun x => (vcl p x.1 (vsc p c r) k, x.2)) ++ [(vsc p c r, k)])) := by
    intro s hs
    simp only [rws, List.map_append, List.map_map, List.mem_append, List.mem_map, List.map_cons, List.map_nil, List.mem_singleton, Function.comp_def] at hs
    rcases hs with ⟨t, ht, rfl⟩ | ⟨t, ht, rfl⟩ | rfl
    · exact vc_vcl hp (h.vl t (subL t ht)) vh
    · exact vc_vcl hp (h.rf.vc t ht) vh
    · exact vh
  refine ⟨?_, ?_, ⟨?_, ?_, ?_, ?_, ?_, ?_⟩, ?_, fun v => (Iff.trans ?_ (h.sp v))⟩
  · intro s hs
    obtain ⟨t, ht, rfl⟩ := List.mem_map.1 hs
    exact vc_vcl hp (h.vl t (subL t ht)) vh
  · intro s hs j hj
    obtain ⟨t, ht, rfl⟩ := List.mem_map.1 hs
    have vt := h.vl t (subL t ht)
    rcases Nat.lt_succ_iff_lt_or_eq.1 hj with q | rfl
    · rw [low' t vt j (by omega) q]; exact h.low t (subL t ht) j q
    · exact at' t vt
  · rw [List.pairwise_append, List.pairwise_map]
    refine ⟨h.rf.asc, by simp, fun x hx y hy => ?_⟩
    obtain ⟨t, ht, rfl⟩ := List.mem_map.1 hx
    rw [List.mem_singleton] at hy
    subst hy
    exact h.hd t ht
  · intro x hx
    rcases List.mem_append.1 hx with hx | hx
    · obtain ⟨t, ht, rfl⟩ := List.mem_map.1 hx
      exact vc_vcl hp (h.rf.vc t ht) vh
    · rw [List.mem_singleton] at hx; subst hx; exact vh
  · intro x hx
    rcases List.mem_append.1 hx with hx | hx
    · obtain ⟨t, ht, rfl⟩ := List.mem_map.1 hx
      exact h.rf.lt t ht
    · rw [List.mem_singleton] at hx; subst hx; exact hk
  · intro x hx
    rcases List.mem_append.1 hx with hx | hx
    · obtain ⟨t, ht, rfl⟩ := List.mem_map.1 hx
      simp only
      rw [low' t.1 (h.rf.vc t ht) _ (h.rf.lt t ht) (h.hd t ht)]
      exact h.rf.one t ht
    · rw [List.mem_singleton] at hx; subst hx; exact h1
  · intro x hx j hj
    rcases List.mem_append.1 hx with hx | hx
    · obtain ⟨t, ht, rfl⟩ := List.mem_map.1 hx
      have := h.hd t ht
      simp only at hj ⊢
      rw [low' t.1 (h.rf.vc t ht) _ (by omega) (by omega)]
      exact h.rf.low t ht j hj
    · rw [List.mem_singleton] at hx; subst hx; exact h0 j hj
  · intro x hx y hy hne
    rcases List.mem_append.1 hx with hx | hx
    · obtain ⟨t, ht, rfl⟩ := List.mem_map.1 hx
      have := h.hd t ht
      rcases List.mem_append.1 hy with hy | hy
      · obtain ⟨u, hu, rfl⟩ := List.mem_map.1 hy
        simp only at hne ⊢
        rw [low' u.1 (h.rf.vc u hu) _ (by omega) (by omega)]
        exact h.rf.off t ht u hu hne
      · rw [List.mem_singleton] at hy; subst hy; exact h0 _ this
    · rw [List.mem_singleton] at hx; subst hx
      rcases List.mem_append.1 hy with hy | hy
      · obtain ⟨u, hu, rfl⟩ := List.mem_map.1 hy
        exact at' u.1 (h.rf.vc u hu)
      · rw [List.mem_singleton] at hy; subst hy; exact (hne rfl).elim
  · intro x hx
    rcases List.mem_append.1 hx with hx | hx
    · obtain ⟨t, ht, rfl⟩ := List.mem_map.1 hx
      exact Nat.lt_succ_of_lt (h.hd t ht)
    · rw [List.mem_singleton] at hx; subst hx; exact Nat.lt_succ_self _
  · constructor
    · intro hv
      refine hv.sub hp hL fun s hs => ?_
      simp only [rws, List.map_append, List.map_map, List.mem_append, List.mem_map, List.map_cons, List.map_nil, List.mem_singleton, Function.comp_def] at hs
      rcases hs with ⟨t, ht, rfl⟩ | ⟨t, ht, rfl⟩ | rfl
      · rw [vcl_eq hp (h.vl t (subL t ht)) vh]
        exact (Sp.of_mem hp hL (List.mem_append_left _ (subL t ht))).add hp hL _ sh
      · rw [vcl_eq hp (h.rf.vc t ht) vh]
        exact (Sp.of_mem hp hL (List.mem_append_right _ (List.mem_map.2 ⟨t, ht, rfl⟩))).add hp hL _ sh
      · exact sh
    · intro hv
      refine hv.sub hp vnew fun s hs => ?_
      have nh : Sp p n ((L.eraseIdx i).map (fun s => vcl p s (vsc p c r) k) ++ rws ((F.map fun x => (vcl p x.1 (vsc p c r) k, x.2)) ++ [(vsc p c r, k)])) (vsc p c r) :=
        .of_mem hp vnew (by simp [rws])
      have back : ∀ t, Vc p n t → axp p (e_ t k) (vcl p t (vsc p c r) k) (vsc p c r) = t := fun t vt => by
        rw [vcl_eq hp vt vh, axp_same hp vt vh, Int.add_right_neg, axp_none hp vt vh]
      have fin : ∀ t, Vc p n t → vcl p t (vsc p c r) k ∈ ((L.eraseIdx i).map (fun s => vcl p s (vsc p c r) k) ++ rws ((F.map fun x => (vcl p x.1 (vsc p c r) k, x.2)) ++ [(vsc p c r, k)])) →
          Sp p n ((L.eraseIdx i).map (fun s => vcl p s (vsc p c r) k) ++ rws ((F.map fun x => (vcl p x.1 (vsc p c r) k, x.2)) ++ [(vsc p c r, k)])) t := fun t vt ht => by
        have := (Sp.of_mem hp vnew ht).add hp vnew (e_ t k) nh
        rwa [back t vt] at this
      rcases List.mem_append.1 hs with hs | hs
      · by_cases he : s ∈ L.eraseIdx i
        · exact fin s (h.vl s hs) (List.mem_append_left _ (List.mem_map.2 ⟨s, he, rfl⟩))
        · have hsr : s = r := by
            obtain ⟨j, hj⟩ := List.mem_iff_getElem?.1 hs
            by_cases q : j = i
            · subst q; rw [hi] at hj; cases hj; rfl
            · exact (he (List.mem_eraseIdx_iff_getElem?.2 ⟨j, q, hj⟩)).elim
          subst hsr
          have e : s = axp p (e_ s k) (List.replicate n 0) (vsc p c s) := by
            have hz := vc_zero (n := n) hp
            refine axp_eq vr (vc_axp hp hz.1 vh.1) fun j hj => ?_
            rw [e_axp hz.1 vh.1 hj, e_zero, e_vsc hp vr.1 hj, Int.zero_add, Int.mul_emod, Int.emod_emod, ← Int.mul_emod, Int.sub_emod, Int.emod_emod, ← Int.sub_emod]
            have k3 : e_ s k * c = 1 + p * (e_ s k * c / p) := by
              have := Int.emod_add_mul_ediv (e_ s k * c) p
              rw [hc] at this; omega
            generalize (e_ s k * c) / p = m at k3
            apply Int.emod_eq_zero_of_dvd
            refine ⟨- m * e_ s j, ?_⟩
            grind
          have nh' := nh
          have := Sp.add hp vnew (e_ s k) .zero nh
          rwa [← e] at this
      · obtain ⟨t, ht, rfl⟩ := List.mem_map.1 hs
        exact fin t.1 (h.rf.vc t ht) (List.mem_append_right _ (by simp only [rws, List.map_append, List.map_map]; exact List.mem_append_left _ (List.mem_map.2 ⟨t, ht, rfl⟩)))
theorem RI.done (hp : 0 < p) {L : List Row} {F : List Hd} (h : RI p n R L F n) : Rf p n F ∧ ∀ v, Sp p n (rws F) v ↔ Sp p n R v := by
  refine ⟨h.rf, fun v => Iff.trans ⟨fun q => q.mono fun s hs => List.mem_append_right _ hs, fun q => q.sub hp h.rf.vcs fun s hs => ?_⟩ (h.sp v)⟩
  rcases List.mem_append.1 hs with hs | hs
  · have : s = List.replicate n 0 := (h.vl s hs).ext (vc_zero hp) fun i hi => by rw [h.low s hs i hi, e_zero]
    rw [this]; exact .zero
  · exact .of_mem hp h.rf.vcs hs
def restF (p : Int) (F : List Hd) (v : Row) : Row := F.foldl (fun f x => vcl p f x.1 x.2) v
theorem rest_ok (hp : 0 < p) : ∀ (B A : List Hd) (v f : Row), Rf p n (A ++ B) → Vc p n v → Vc p n f → (∀ x ∈ A, e_ f x.2 = 0) → Sp p n (rws (A ++ B)) (axp p (-1) v f) →
    Vc p n (restF p B f) ∧ (∀ x ∈ A ++ B, e_ (restF p B f) x.2 = 0) ∧ Sp p n (rws (A ++ B)) (axp p (-1) v (restF p B f))
  | [], A, v, f, _, _, hf, h1, h2 => ⟨hf, by simpa [restF] using h1, h2⟩
  | x :: B, A, v, f, h, hv, hf, h1, h2 => by
    have hx : x ∈ A ++ x :: B := by simp
    have vx := h.vc x hx
    have e : A ++ x :: B = (A ++ [x]) ++ B := by simp
    have q := rest_ok hp B (A ++ [x]) v (vcl p f x.1 x.2) (e ▸ h) hv (vc_vcl hp hf vx) (fun y hy => by
      rcases List.mem_append.1 hy with hy | hy
      · have hy' : y ∈ A ++ x :: B := List.mem_append_left _ hy
        have ne : x.2 ≠ y.2 := by
          have := (List.pairwise_append.1 h.asc).2.2 y hy x (List.mem_cons_self ..)
          omega
        rw [e_vcl hp hf vx (h.lt y hy'), h.off y hy' x hx ne, h1 y hy]; simp
      · rw [List.mem_singleton] at hy; subst hy
        rw [e_vcl hp hf vx (h.lt y hx), h.one y hx]; simp) (by
      rw [← e]
      have := h2.add hp h.vcs (e_ f x.2) (.of_mem hp h.vcs (List.mem_map.2 ⟨x, hx, rfl⟩))
      have e2 : axp p (-1) v (vcl p f x.1 x.2) = axp p (e_ f x.2) (axp p (-1) v f) x.1 := by
        rw [vcl_eq hp hf vx, axp_axp hp hv hf vx]
        congr 1; omega
      rw [e2]; exact this)
    rw [← e] at q
    exact q
theorem rest_span (hp : 0 < p) {F : List Hd} (h : Rf p n F) {v : Row} (hv : Vc p n v) : Vc p n (restF p F v) ∧ (∀ x ∈ F, e_ (restF p F v) x.2 = 0) ∧ Sp p n (rws F) (axp p (-1) v (restF p F v)) := by
  refine rest_ok hp F [] v v h hv hv (fun _ h => nomatch h) ?_
  have : axp p (-1) v v = List.replicate n 0 := (vc_axp hp hv.1 hv.1).ext (vc_zero hp) fun i hi => by
    rw [e_axp hv.1 hv.1 hi, e_zero]
    have : e_ v i + -1 * e_ v i = 0 := by omega
    rw [this]; simp
  rw [this]; exact .zero
theorem rest_zero (hp : 0 < p) {F : List Hd} (h : Rf p n F) {v : Row} (hv : Vc p n v) : restF p F v = List.replicate n 0 ↔ Sp p n (rws F) v := by
  obtain ⟨h1, h2, h3⟩ := rest_span hp h hv
  constructor
  · intro e
    rw [e, axp_zero hp hv] at h3
    exact h3
  · intro hs
    have e : restF p F v = axp p (-1) v (axp p (-1) v (restF p F v)) := by
      have v1 := vc_axp (a := -1) hp hv.1 h1.1
      refine axp_eq h1 (vc_axp hp hv.1 v1.1) fun i hi => ?_
      rw [e_axp hv.1 v1.1 hi, e_axp hv.1 h1.1 hi, Int.sub_emod, Int.emod_emod, ← Int.sub_emod]
      have k3 := Int.emod_add_mul_ediv (e_ v i + -1 * e_ (restF p F v) i) p
      generalize (e_ v i + -1 * e_ (restF p F v) i) / p = m at k3
      apply Int.emod_eq_zero_of_dvd
      refine ⟨-m, ?_⟩
      grind
    exact h.zero hp (by rw [e]; exact hs.add hp h.vcs _ h3) h2
end
end PC

namespace PC
def sm : Nat → (Nat → Int) → Int
  | 0, _ => 0
  | n + 1, g => sm n g + g n
theorem sm_congr : ∀ (n : Nat) {g h : Nat → Int}, (∀ i, i < n → g i = h i) → sm n g = sm n h
  | 0, _, _, _ => rfl
  | n + 1, g, h, e => by rw [sm, sm, sm_congr n fun i hi => e i (by omega), e n (by omega)]
theorem sm_zero : ∀ (n : Nat) {g : Nat → Int}, (∀ i, i < n → g i = 0) → sm n g = 0
  | 0, _, _ => rfl
  | n + 1, g, e => by rw [sm, sm_zero n fun i hi => e i (by omega), e n (by omega)]; rfl
theorem sm_add : ∀ (n : Nat) (g h : Nat → Int), sm n (fun i => g i + h i) = sm n g + sm n h
  | 0, _, _ => rfl
  | n + 1, g, h => by rw [sm, sm, sm, sm_add n]; omega
theorem sm_mul : ∀ (n : Nat) (a : Int) (g : Nat → Int), sm n (fun i => a * g i) = a * sm n g
  | 0, _, _ => by simp [sm]
  | n + 1, a, g => by rw [sm, sm, sm_mul n, Int.mul_add]
theorem sm_one : ∀ (n : Nat) {c : Nat} {g : Nat → Int}, c < n → (∀ i, i < n → i ≠ c → g i = 0) → sm n g = g c
  | 0, c, _, h, _ => by omega
  | n + 1, c, g, h, e => by
    rw [sm]
    by_cases q : c = n
    · subst q
      rw [sm_zero c fun i hi => e i (by omega) (by omega)]; omega
    · rw [sm_one n (by omega) fun i hi => e i (by omega), e n (by omega) (by omega)]; omega
theorem sm_two (n : Nat) {c d : Nat} {g : Nat → Int} (hc : c < n) (hd : d < n) (ne : c ≠ d) (e : ∀ i, i < n → i ≠ c → i ≠ d → g i = 0) : sm n g = g c + g d := by
  have h1 : sm n g = sm n (fun i => (if i = c then g c else 0) + (if i = d then g d else 0)) := sm_congr n fun i hi => by
    by_cases q : i = c
    · subst q; simp [ne]
    · by_cases r : i = d
      · subst r; simp [q]
      · simp [q, r, e i hi q r]
  rw [h1, sm_add, sm_one n (c := c) hc fun i _ q => by simp [q], sm_one n (c := d) hd fun i _ q => by simp [q]]
  simp
theorem sm_mod : ∀ (n : Nat) {p : Int} {g h : Nat → Int}, (∀ i, i < n → g i % p = h i % p) → sm n g % p = sm n h % p
  | 0, _, _, _, _ => rfl
  | n + 1, p, g, h, e => by
    rw [sm, sm, Int.add_emod, sm_mod n fun i hi => e i (by omega), e n (by omega), ← Int.add_emod]
theorem sm_sum : ∀ (n : Nat) (g : Nat → Int), ((List.range n).map g).sum = sm n g
  | 0, _ => rfl
  | n + 1, g => by rw [List.range_succ, List.map_append, List.sum_append, sm_sum n, sm]; simp
def dt (p : Int) (n : Nat) (v w : Row) : Int := sm n (fun i => e_ v i * e_ w i) % p
section
variable {p : Int} {n : Nat} {R R' : List Row}
theorem dt_comm (v w : Row) : dt p n v w = dt p n w v := by
  unfold dt; rw [sm_congr n fun i _ => Int.mul_comm _ _]
theorem dt_zero (v : Row) : dt p n v (List.replicate n 0) = 0 := by
  unfold dt
  rw [sm_zero n fun i _ => by rw [e_zero]; simp]; simp
theorem dt_axp {a : Int} {v w r : Row} (hw : w.length = n) (hr : r.length = n) : dt p n v (axp p a w r) = (dt p n v w + a * dt p n v r) % p := by
  unfold dt
  have h1 : sm n (fun i => e_ v i * e_ (axp p a w r) i) % p = sm n (fun i => e_ v i * e_ w i + a * (e_ v i * e_ r i)) % p := sm_mod n fun i hi => by
    rw [e_axp hw hr hi, Int.mul_emod, Int.emod_emod, ← Int.mul_emod]
    congr 1
    grind
  rw [h1, sm_add, sm_mul, Int.emod_add_emod]
  generalize sm n (fun i => e_ v i * e_ w i) = A
  generalize sm n (fun i => e_ v i * e_ r i) = B
  have : (a * (B % p)) % p = (a * B) % p := by rw [Int.mul_emod, Int.emod_emod, ← Int.mul_emod]
  rw [Int.add_emod A (a * (B % p)), this, ← Int.add_emod]
/-- the rows whose product with each of the rows is 0 -/
def Nl (p : Int) (n : Nat) (R : List Row) (v : Row) : Prop := Vc p n v ∧ ∀ r ∈ R, dt p n r v = 0
theorem Nl.axp (hp : 0 < p) {a : Int} {v w : Row} (hv : Nl p n R v) (hw : Nl p n R w) : Nl p n R (axp p a v w) :=
  ⟨vc_axp hp hv.1.1 hw.1.1, fun r hr => by rw [dt_axp hv.1.1 hw.1.1, hv.2 r hr, hw.2 r hr]; simp⟩
theorem Nl.zero (hp : 0 < p) : Nl p n R (List.replicate n 0) := ⟨vc_zero hp, fun _ _ => dt_zero _⟩
theorem Nl.of_sp (hp : 0 < p) (h : ∀ r ∈ R, Nl p n R' r) {v : Row} (hv : Sp p n R v) : Nl p n R' v := by
  induction hv with
  | zero => exact .zero hp
  | step a _ hr ih => exact ih.axp hp (h _ hr)
/-- what is 0 with the rows is 0 with their span -/
theorem Nl.span (hp : 0 < p) (hR : Vcs p n R) {v u : Row} (hv : Nl p n R v) (hu : Sp p n R u) : dt p n u v = 0 := by
  induction hu with
  | zero => rw [dt_comm]; exact dt_zero _
  | step a h1 hr ih =>
    rw [dt_comm, dt_axp (h1.vc hp hR).1 (hR _ hr).1, dt_comm, ih, dt_comm, hv.2 _ hr]; simp
theorem Nl.same (hp : 0 < p) (hR : Vcs p n R) (hR' : Vcs p n R') (h : ∀ v, Sp p n R v ↔ Sp p n R' v) (v : Row) : Nl p n R v ↔ Nl p n R' v :=
  ⟨fun q => ⟨q.1, fun r hr => q.span hp hR ((h r).2 (.of_mem hp hR' hr))⟩, fun q => ⟨q.1, fun r hr => q.span hp hR' ((h r).1 (.of_mem hp hR hr))⟩⟩
def isHd (F : List Hd) (j : Nat) : Bool := F.any fun x => x.2 == j
/-- the row of a free column -/
structure Kr (p : Int) (n : Nat) (F : List Hd) (f : Nat) (v : Row) : Prop where
  vc : Vc p n v
  at_ : ∀ x ∈ F, e_ v x.2 = (-e_ x.1 f) % p
  one : e_ v f = 1
  off : ∀ j, j < n → j ≠ f → isHd F j = false → e_ v j = 0
theorem Kr.nl (hp : 1 < p) {F : List Hd} (hF : Rf p n F) {f : Nat} (hf : f < n) (ff : isHd F f = false) {v : Row} (h : Kr p n F f v) : Nl p n (rws F) v := by
  refine ⟨h.vc, fun r hr => ?_⟩
  obtain ⟨x, hx, rfl⟩ := List.mem_map.1 hr
  have ne : x.2 ≠ f := fun e => by
    have : isHd F f = true := List.any_eq_true.2 ⟨x, hx, by simp [e]⟩
    rw [this] at ff; cases ff
  unfold dt
  rw [sm_two n (hF.lt x hx) hf ne fun j hj q1 q2 => ?_]
  · rw [hF.one x hx, h.at_ x hx, h.one, Int.one_mul, Int.emod_add_emod]
    have : -e_ x.1 f + e_ x.1 f * 1 = 0 := by omega
    rw [this]; simp
  · cases e : isHd F j with
    | true =>
      obtain ⟨y, hy, q⟩ := List.any_eq_true.1 e
      have q : y.2 = j := by simpa using q
      rw [← q, hF.off y hy x hx (by rw [q]; exact fun z => q1 z.symm)]; simp
    | false => rw [h.off j hj q2 e]; simp
/-- a row of the null space without a free part is 0 -/
theorem Nl.none (hp : 0 < p) {F : List Hd} (hF : Rf p n F) {u : Row} (hu : Nl p n (rws F) u) (h : ∀ j, j < n → isHd F j = false → e_ u j = 0) : u = List.replicate n 0 := by
  refine hu.1.ext (vc_zero hp) fun j hj => ?_
  rw [e_zero]
  cases e : isHd F j with
  | false => exact h j hj e
  | true =>
    obtain ⟨x, hx, q⟩ := List.any_eq_true.1 e
    have q : x.2 = j := by simpa using q
    subst q
    have := hu.2 x.1 (List.mem_map.2 ⟨x, hx, rfl⟩)
    unfold dt at this
    rw [sm_one n (hF.lt x hx) fun i hi ne => ?_, hF.one x hx, Int.one_mul, hu.1.emod (hF.lt x hx)] at this
    · exact this
    · cases e : isHd F i with
      | true =>
        obtain ⟨y, hy, q⟩ := List.any_eq_true.1 e
        have q : y.2 = i := by simpa using q
        rw [← q, hF.off y hy x hx (by rw [q]; exact fun z => ne z.symm)]; simp
      | false => rw [h i hi e]; simp
theorem kr_span (hp : 1 < p) {F : List Hd} (hF : Rf p n F) {fs : List Nat} {k : Nat → Row} (hk : ∀ f ∈ fs, Kr p n F f (k f)) (hfs : ∀ f, f ∈ fs ↔ f < n ∧ isHd F f = false) (nd : fs.Nodup) (v : Row) :
    Sp p n (fs.map k) v ↔ Nl p n (rws F) v := by
  have p0 : 0 < p := by omega
  have nk : ∀ r ∈ fs.map k, Nl p n (rws F) r := fun r hr => by
    obtain ⟨f, hf, rfl⟩ := List.mem_map.1 hr
    exact (hk f hf).nl hp hF ((hfs f).1 hf).1 ((hfs f).1 hf).2
  have vk : Vcs p n (fs.map k) := fun r hr => (nk r hr).1
  refine ⟨fun h => Nl.of_sp p0 nk h, fun h => ?_⟩
  have key : ∀ (gs : List Nat) (u : Row), (∀ g ∈ gs, g ∈ fs) → gs.Nodup → Nl p n (rws F) u → ∃ u', Nl p n (rws F) u' ∧ (∀ j, j < n → isHd F j = false → j ∈ gs → e_ u' j = 0) ∧ (∀ j, j < n → isHd F j = false → j ∉ gs → e_ u' j = e_ u j) ∧ (Sp p n (fs.map k) u' → Sp p n (fs.map k) u) := by
    intro gs
    induction gs with
    | nil => exact fun u _ _ hu => ⟨u, hu, fun _ _ _ h => (nomatch h), fun _ _ _ _ => rfl, id⟩
    | cons g gs ih =>
      intro u hg nd hu
      rw [List.nodup_cons] at nd
      have gf := hg g (List.mem_cons_self ..)
      have kg := hk g gf
      have ng := nk (k g) (List.mem_map.2 ⟨g, gf, rfl⟩)
      have hu1 := hu.axp p0 (a := -e_ u g) ng
      obtain ⟨u', h1, h2, h3, h4⟩ := ih (axp p (-e_ u g) u (k g)) (fun x hx => hg x (List.mem_cons_of_mem _ hx)) nd.2 hu1
      have gn := ((hfs g).1 gf)
      have z : e_ (axp p (-e_ u g) u (k g)) g = 0 := by
        rw [e_axp hu.1.1 kg.vc.1 gn.1, kg.one]
        have : e_ u g + -e_ u g * 1 = 0 := by omega
        rw [this]; simp
      refine ⟨u', h1, fun j hj q m => ?_, fun j hj q m => ?_, fun s => ?_⟩
      · rcases List.mem_cons.1 m with rfl | m
        · rw [h3 j hj q nd.1, z]
        · exact h2 j hj q m
      · rw [h3 j hj q fun z => m (List.mem_cons_of_mem _ z), e_axp hu.1.1 kg.vc.1 hj, kg.off j hj (fun z => m (by rw [z]; exact List.mem_cons_self ..)) q]
        simp only [Int.mul_zero, Int.add_zero]
        exact hu.1.emod hj
      · have := (h4 s).add p0 vk (e_ u g) (.of_mem p0 vk (List.mem_map.2 ⟨g, gf, rfl⟩))
        rwa [axp_same p0 hu.1 kg.vc, Int.add_right_neg, axp_none p0 hu.1 kg.vc] at this
  obtain ⟨u', h1, h2, _, h4⟩ := key fs v (fun _ h => h) nd h
  have := h1.none p0 hF fun j hj q => h2 j hj q ((hfs j).2 ⟨hj, q⟩)
  exact h4 (by rw [this]; exact .zero)
end
end PC

namespace PC
theorem nodup_len {α : Type} [DecidableEq α] : ∀ (l k : List α), l.Nodup → (∀ x ∈ l, x ∈ k) → l.length ≤ k.length
  | [], _, _, _ => Nat.zero_le _
  | x :: l, k, nd, h => by
    rw [List.nodup_cons] at nd
    have hx := h x (List.mem_cons_self ..)
    have := nodup_len l (k.erase x) nd.2 fun y hy => (List.mem_erase_of_ne (show y ≠ x by rintro rfl; exact nd.1 hy)).2 (h y (List.mem_cons_of_mem _ hy))
    rw [List.length_erase_of_mem hx] at this
    have := List.length_pos_of_mem hx
    rw [List.length_cons]; omega
theorem nodup_full {α : Type} [DecidableEq α] {l k : List α} (nd : l.Nodup) (h : ∀ x ∈ l, x ∈ k) (hl : k.length ≤ l.length) : ∀ x ∈ k, x ∈ l := fun x hx => by
  apply Classical.byContradiction
  intro hn
  have := nodup_len (x :: l) k (List.nodup_cons.2 ⟨hn, nd⟩) fun y hy => by
    rcases List.mem_cons.1 hy with rfl | hy
    · exact hx
    · exact h y hy
  rw [List.length_cons] at this; omega
section
variable {p : Int} {n : Nat} {R R' : List Row}
theorem spanF_snoc {a : List Row} {row : Row} : spanF p n (a ++ [row]) = if row ∈ spanF p n a then spanF p n a else (spanF p n a).flatMap fun w => (List.range p.toNat).map fun (k : Nat) => axp p k w row := by
  unfold spanF; rw [List.foldl_append]; rfl
/-- each row has a place where it is not 0 and the rows before are -/
def Ind (n : Nat) (R : List Row) : Prop := ∀ A r B, R = A ++ r :: B → ∃ c, c < n ∧ e_ r c ≠ 0 ∧ ∀ a ∈ A, e_ a c = 0
theorem spanF_ind (hf : Fld p) : ∀ (B A : List Row), Vcs p n (A ++ B) → Ind n (A ++ B) → (spanF p n (A ++ B)).length = (spanF p n A).length * p.toNat ^ B.length
  | [], A, _, _ => by simp
  | r :: B, A, hv, hi => by
    have e : A ++ r :: B = (A ++ [r]) ++ B := by simp
    have vA : Vcs p n A := fun x hx => hv x (List.mem_append_left _ hx)
    rw [e, spanF_ind hf B (A ++ [r]) (e ▸ hv) (e ▸ hi), spanF_snoc, if_neg]
    · simp only [List.length_flatMap, List.length_map, List.length_range, List.length_cons, Nat.pow_succ, List.map_const', List.sum_replicate_nat]
      rw [Nat.mul_assoc, Nat.mul_comm p.toNat]
    · intro h
      have hs := (mem_spanF hf vA r).1 h
      obtain ⟨c, h1, h2, h3⟩ := hi A r B rfl
      exact h2 (hs.van hf.pos vA h1 h3)
theorem spanF_pow (hf : Fld p) (hv : Vcs p n R) (hi : Ind n R) : (spanF p n R).length = p.toNat ^ R.length := by
  have := spanF_ind hf R [] hv hi
  simpa [spanF] using this
theorem Rf.ind {F : List Hd} (h : Rf p n F) : Ind n (rws F) := fun A r B e => by
  obtain ⟨A', B', rfl, hA, hB⟩ := List.map_eq_append_iff.1 e
  obtain ⟨x, B'', rfl, hx, _⟩ := List.map_eq_cons_iff.1 hB
  subst hx
  have hx : x ∈ A' ++ x :: B'' := by simp
  refine ⟨x.2, h.lt x hx, by rw [h.one x hx]; decide, fun a ha => ?_⟩
  rw [← hA] at ha
  obtain ⟨y, hy, rfl⟩ := List.mem_map.1 ha
  refine h.off x hx y (by simp [hy]) fun q => ?_
  have := (List.pairwise_append.1 h.asc).2.2 y hy x (List.mem_cons_self ..)
  omega
theorem Kr.ind {F : List Hd} {fs : List Nat} {k : Nat → Row} (hk : ∀ f ∈ fs, Kr p n F f (k f)) (hfs : ∀ f, f ∈ fs ↔ f < n ∧ isHd F f = false) (nd : fs.Nodup) : Ind n (fs.map k) := fun A r B e => by
  obtain ⟨A', B', rfl, hA, hB⟩ := List.map_eq_append_iff.1 e
  obtain ⟨x, B'', rfl, hx, _⟩ := List.map_eq_cons_iff.1 hB
  subst hx
  have hx : x ∈ A' ++ x :: B'' := by simp
  have fx := (hfs x).1 hx
  refine ⟨x, fx.1, by rw [(hk x hx).one]; decide, fun a ha => ?_⟩
  rw [← hA] at ha
  obtain ⟨y, hy, rfl⟩ := List.mem_map.1 ha
  refine (hk y (by simp [hy])).off x fx.1 (fun q => ?_) fx.2
  subst q
  rw [List.nodup_append] at nd
  exact nd.2.2 x hy x (List.mem_cons_self ..) rfl
theorem two_le (hf : Fld p) : 2 ≤ p.toNat := by have := hf.1; omega
theorem spanF_same (hf : Fld p) (hR : Vcs p n R) (hR' : Vcs p n R') (h : ∀ v, Sp p n R v → Sp p n R' v) : (spanF p n R).length ≤ (spanF p n R').length :=
  nodup_len _ _ (nodup_spanF hf hR).1 fun v hv => (mem_spanF hf hR' v).2 (h v ((mem_spanF hf hR v).1 hv))
/-- independent rows of a span are as few as any that span it -/
theorem ind_le (hf : Fld p) (hR : Vcs p n R) (hR' : Vcs p n R') (hi : Ind n R) (h : ∀ v, Sp p n R v → Sp p n R' v) : R.length ≤ R'.length := by
  have h1 := spanF_same hf hR hR' h
  rw [spanF_pow hf hR hi] at h1
  have h2 := Nat.le_trans h1 (nodup_spanF hf hR').2
  exact (Nat.pow_le_pow_iff_right (two_le hf)).1 h2
theorem ind_full (hf : Fld p) (hR : Vcs p n R) (hR' : Vcs p n R') (hi : Ind n R) (h : ∀ v, Sp p n R v → Sp p n R' v) (hl : R'.length ≤ R.length) : ∀ v, Sp p n R' v → Sp p n R v := fun v hv => by
  have := nodup_full (nodup_spanF hf hR).1 (fun v hv => (mem_spanF hf hR' v).2 (h v ((mem_spanF hf hR v).1 hv))) (by
    rw [spanF_pow hf hR hi]
    exact Nat.le_trans (nodup_spanF hf hR').2 (Nat.pow_le_pow_right (by have := two_le hf; omega) hl)) v ((mem_spanF hf hR' v).2 hv)
  exact (mem_spanF hf hR v).1 this
theorem len_split {α : Type} (q : α → Bool) : ∀ l : List α, l.length = (l.filter q).length + (l.filter fun x => !q x).length
  | [] => rfl
  | x :: l => by
    have := len_split q l
    cases e : q x <;> simp [List.filter_cons, e] <;> omega
/-- the number of the free columns -/
theorem free_len {F : List Hd} (h : Rf p n F) : ((List.range n).filter fun j => !isHd F j).length + F.length = n := by
  have h1 := len_split (isHd F) (List.range n)
  rw [List.length_range] at h1
  have nd : (F.map (·.2)).Nodup := by
    unfold List.Nodup
    rw [List.pairwise_map]
    exact h.asc.imp fun h => Nat.ne_of_lt h
  have h2 : ((List.range n).filter (isHd F)).length = F.length := by
    apply Nat.le_antisymm
    · have := nodup_len _ (F.map (·.2)) (List.nodup_range.filter (isHd F) (l := List.range n)) fun j hj => by
        obtain ⟨_, q⟩ := List.mem_filter.1 hj
        obtain ⟨x, hx, e⟩ := List.any_eq_true.1 q
        exact List.mem_map.2 ⟨x, hx, by simpa using e⟩
      simpa using this
    · have := nodup_len (F.map (·.2)) ((List.range n).filter (isHd F)) nd fun j hj => by
        obtain ⟨x, hx, rfl⟩ := List.mem_map.1 hj
        exact List.mem_filter.2 ⟨List.mem_range.2 (h.lt x hx), List.any_eq_true.2 ⟨x, hx, by simp⟩⟩
      simpa using this
  omega
def comb (p : Int) (n : Nat) (L : List (Int × Row)) : Row := L.foldl (fun t x => axp p x.1 t x.2) (List.replicate n 0)
theorem comb_go (hp : 0 < p) : ∀ (L : List (Int × Row)) (t : Row), (∀ x ∈ L, Vc p n x.2) → Vc p n t → Vc p n (L.foldl (fun t x => axp p x.1 t x.2) t) ∧ (∀ i, i < n → e_ (L.foldl (fun t x => axp p x.1 t x.2) t) i = (e_ t i + (L.map fun x => x.1 * e_ x.2 i).sum) % p) ∧
    (Sp p n R t → (∀ x ∈ L, x.2 ∈ R) → Sp p n R (L.foldl (fun t x => axp p x.1 t x.2) t))
  | [], t, _, ht => ⟨ht, fun i hi => by simpa using (ht.emod hi).symm, fun h _ => h⟩
  | x :: L, t, h, ht => by
    have hx := h x (List.mem_cons_self ..)
    obtain ⟨h1, h2, h3⟩ := comb_go hp L (axp p x.1 t x.2) (fun y hy => h y (List.mem_cons_of_mem _ hy)) (vc_axp hp ht.1 hx.1)
    refine ⟨h1, fun i hi => ?_, fun s m => h3 (.step _ s (m x (List.mem_cons_self ..))) fun y hy => m y (List.mem_cons_of_mem _ hy)⟩
    rw [List.foldl_cons, h2 i hi, e_axp ht.1 hx.1 hi, Int.emod_add_emod, List.map_cons, List.sum_cons]
    congr 1; omega
theorem sum_mod {α : Type} {g h : α → Int} : ∀ (L : List α), (∀ x ∈ L, g x % p = h x % p) → (L.map g).sum % p = (L.map h).sum % p
  | [], _ => rfl
  | x :: L, e => by
    rw [List.map_cons, List.sum_cons, List.map_cons, List.sum_cons, Int.add_emod, e x (List.mem_cons_self ..), sum_mod L fun y hy => e y (List.mem_cons_of_mem _ hy), ← Int.add_emod]
theorem sum_add {α : Type} {g h : α → Int} (a : Int) : ∀ (L : List α), (L.map fun x => g x + a * h x).sum = (L.map g).sum + a * (L.map h).sum
  | [] => by simp
  | x :: L => by rw [List.map_cons, List.sum_cons, sum_add a L, List.map_cons, List.sum_cons, List.map_cons, List.sum_cons]; grind
theorem sum_pick {F : List Hd} (h : Rf p n F) {y : Hd} (hy : y ∈ F) (g : Hd → Int) : (F.map fun x => e_ y.1 x.2 * g x).sum = g y := by
  have key : ∀ (G : List Hd), (∀ x ∈ G, x ∈ F) → G.Pairwise (fun x y => x.2 < y.2) → (G.map fun x => e_ y.1 x.2 * g x).sum = if y ∈ G then g y else 0 := by
    intro G
    induction G with
    | nil => intro _ _; simp
    | cons z G ih =>
      intro hG hp
      rw [List.pairwise_cons] at hp
      rw [List.map_cons, List.sum_cons, ih (fun x hx => hG x (List.mem_cons_of_mem _ hx)) hp.2]
      have hz := hG z (List.mem_cons_self ..)
      by_cases q : y = z
      · subst q
        have : y ∉ G := fun m => Nat.lt_irrefl _ (hp.1 y m)
        simp [this, h.one y hy]
      · have ne : y.2 ≠ z.2 := fun e => q (h.head_inj hy hz e)
        rw [h.off z hz y hy ne]
        simp [q]
  rw [key F (fun _ h => h) h.asc, if_pos hy]
theorem Rf.form (hp : 0 < p) {F : List Hd} (h : Rf p n F) {v : Row} (hv : Sp p n (rws F) v) {j : Nat} (hj : j < n) : (F.map fun x => e_ v x.2 * e_ x.1 j).sum % p = e_ v j := by
  induction hv with
  | zero =>
    rw [e_zero]
    have : (F.map fun x => e_ (List.replicate n 0) x.2 * e_ x.1 j) = F.map fun _ => 0 := List.map_congr_left fun x _ => by rw [e_zero]; simp
    rw [this]
    have z : ∀ L : List Hd, (L.map fun _ => (0 : Int)).sum = 0 := fun L => by
      induction L with
      | nil => rfl
      | cons _ _ ih => rw [List.map_cons, List.sum_cons, ih]; rfl
    rw [z]; simp
  | @step a v r h1 hr ih =>
    obtain ⟨y, hy, rfl⟩ := List.mem_map.1 hr
    have vv := h1.vc hp h.vcs
    have vy := h.vc y hy
    rw [sum_mod (h := fun x => e_ v x.2 * e_ x.1 j + a * (e_ y.1 x.2 * e_ x.1 j)) F fun x hx => by
      rw [e_axp vv.1 vy.1 (h.lt x hx), Int.mul_emod, Int.emod_emod, ← Int.mul_emod]; congr 1; grind]
    rw [sum_add, sum_pick h hy, Int.add_emod, ih, e_axp vv.1 vy.1 hj, ← vv.emod hj]
    rw [← Int.add_emod]
    rw [vv.emod hj]
theorem rank_le (hf : Fld p) {k : Nat} {T : List Row} {F G : List Hd} (hR : Vcs p n R) (hT : Vcs p k T) (lR : R.length = k) (lT : T.length = n) (ht : ∀ i j, i < k → j < n → e_ (T.getD j []) i = e_ (R.getD i []) j)
    (hF : Rf p n F) (hFs : ∀ v, Sp p n (rws F) v ↔ Sp p n R v) (hG : Rf p k G) (hGs : ∀ v, Sp p k (rws G) v ↔ Sp p k T v) : G.length ≤ F.length := by
  have hp := hf.pos
  have gT : ∀ j, j < n → T.getD j [] ∈ T := fun j hj => by
    have : j < T.length := by omega
    simp [this]
  have gR : ∀ i, i < k → R.getD i [] ∈ R := fun i hi => by
    have : i < R.length := by omega
    simp [this]
  have vS : Vcs p k (F.map fun x => T.getD x.2 []) := fun r hr => by
    obtain ⟨x, hx, rfl⟩ := List.mem_map.1 hr
    exact hT _ (gT _ (hF.lt x hx))
  have := ind_le hf hG.vcs vS hG.ind fun v hv => ((hGs v).1 hv).sub hp vS fun r hr => by
    obtain ⟨j, hj, rfl⟩ := List.mem_iff_getElem.1 hr
    have hj' : j < n := by omega
    have ej : T[j] = T.getD j [] := by simp [hj]
    obtain ⟨h1, h2, h3⟩ := comb_go (R := F.map fun x => T.getD x.2 []) (n := k) hp (F.map fun x => (e_ x.1 j, T.getD x.2 [])) (List.replicate k 0) (fun y hy => by
      obtain ⟨x, hx, rfl⟩ := List.mem_map.1 hy
      exact hT _ (gT _ (hF.lt x hx))) (vc_zero hp)
    have h4 := h3 .zero fun y hy => by
      obtain ⟨x, hx, rfl⟩ := List.mem_map.1 hy
      exact List.mem_map.2 ⟨x, hx, rfl⟩
    have e : T[j] = (F.map fun x => (e_ x.1 j, T.getD x.2 [])).foldl (fun t x => axp p x.1 t x.2) (List.replicate k 0) := by
      rw [ej]
      refine (hT _ (gT j hj')).ext h1 fun i hi => ?_
      rw [h2 i hi, e_zero, Int.zero_add, ht i j hi hj', List.map_map]
      rw [← hF.form hp ((hFs _).2 (.of_mem hp hR (gR i hi))) hj']
      congr 2
      refine List.map_congr_left fun x hx => ?_
      simp only [Function.comp_def]
      rw [ht i x.2 hi (hF.lt x hx), Int.mul_comm]
    rw [e]; exact h4
  simpa [rws] using this
end
end PC

namespace PC
def allW (p : Int) : Nat → List Row
  | 0 => [[]]
  | k + 1 => (allW p k).flatMap fun w => (List.range p.toNat).map fun (a : Nat) => w ++ [(a : Int)]
theorem mem_allW {p : Int} (hp : 0 < p) : ∀ (k : Nat) (v : Row), v ∈ allW p k ↔ Vc p k v
  | 0, v => by
    simp only [allW, List.mem_singleton]
    constructor
    · rintro rfl; exact ⟨rfl, fun _ h => nomatch h⟩
    · intro h; exact List.length_eq_zero_iff.1 h.1
  | k + 1, v => by
    simp only [allW, List.mem_flatMap, List.mem_map, List.mem_range]
    constructor
    · rintro ⟨w, hw, a, ha, rfl⟩
      have := (mem_allW hp k w).1 hw
      refine ⟨by simp [this.1], fun x hx => ?_⟩
      rcases List.mem_append.1 hx with hx | hx
      · exact this.2 x hx
      · rw [List.mem_singleton] at hx; subst hx; exact ⟨by omega, by omega⟩
    · intro h
      have ne : v ≠ [] := fun e => by have := h.1; rw [e] at this; cases this
      have h2 := h.2 _ (List.getLast_mem ne)
      refine ⟨v.dropLast, (mem_allW hp k _).2 ⟨by rw [List.length_dropLast, h.1]; rfl, fun x hx => h.2 x (List.dropLast_subset v hx)⟩, (v.getLast ne).toNat, by omega, ?_⟩
      rw [Int.toNat_of_nonneg h2.1]
      exact List.dropLast_concat_getLast ne
theorem len_allW {p : Int} : ∀ k : Nat, (allW p k).length = p.toNat ^ k
  | 0 => rfl
  | k + 1 => by
    simp only [allW, List.length_flatMap, List.length_map, List.length_range, List.map_const', List.sum_replicate_nat]
    rw [len_allW k, Nat.pow_succ]
theorem ltI_app : ∀ (w w' x y : Row), w.length = w'.length → D.ltI w w' = true → D.ltI (w ++ x) (w' ++ y) = true
  | [], [], _, _, _, h => by cases h
  | a :: w, b :: w', x, y, e, h => by
    simp only [List.cons_append, D.ltI, Bool.or_eq_true, Bool.and_eq_true] at h ⊢
    rcases h with h | ⟨h1, h2⟩
    · exact .inl h
    · exact .inr ⟨h1, ltI_app w w' x y (by simpa using e) h2⟩
  | [], _ :: _, _, _, e, _ => by cases e
  | _ :: _, [], _, _, e, _ => by cases e
theorem ltI_last : ∀ (w : Row) (a b : Int), a < b → D.ltI (w ++ [a]) (w ++ [b]) = true
  | [], a, b, h => by simp [D.ltI, h]
  | x :: w, a, b, h => by simp [D.ltI, ltI_last w a b h]
theorem allW_asc {p : Int} (hp : 0 < p) : ∀ k : Nat, (allW p k).Pairwise fun a b => D.ltI a b = true
  | 0 => by simp [allW]
  | k + 1 => by
    simp only [allW]
    rw [List.pairwise_flatMap]
    constructor
    · intro w _
      rw [List.pairwise_map]
      exact List.pairwise_lt_range.imp fun h => ltI_last w _ _ (by omega)
    · refine List.Pairwise.imp_of_mem ?_ (allW_asc hp k)
      intro w w' hw hw' h x hx y hy
      obtain ⟨a, _, rfl⟩ := List.mem_map.1 hx
      obtain ⟨b, _, rfl⟩ := List.mem_map.1 hy
      exact ltI_app w w' _ _ (((mem_allW hp k w).1 hw).1.trans ((mem_allW hp k w').1 hw').1.symm) h
theorem sorted_eq {p : Int} {n : Nat} (hf : Fld p) {R W : List Row} (hR : Vcs p n R) (hW : W.Pairwise fun a b => D.ltI a b = true) (h : ∀ v, v ∈ W ↔ Sp p n R v) : isort D.ltI (spanF p n R) = W :=
  sorted_one (lt := fun a b => D.ltI a b = true) (fun a h => by rw [ltI_irf] at h; cases h) (fun a b h k => by rw [ltI_asy a b h] at k; cases k) _ _ (isort_sorted _ (nodup_spanF hf hR).1) hW fun x => by rw [mem_isort, mem_spanF hf hR]; exact (h x).symm
def setF (p : Int) (k : Nat) (F : List Hd) (u : Row) : Row := F.foldl (fun u x => u.set x.2 ((-e_ x.1 k) % p)) u
theorem e_set {u : Row} {i j : Nat} {y : Int} : e_ (u.set i y) j = if i = j ∧ j < u.length then y else e_ u j := by
  simp only [e_, List.getD_eq_getElem?_getD, List.getElem?_set]
  by_cases h : i = j
  · subst h
    by_cases q : i < u.length
    · simp [q]
    · simp [q]
  · simp [h]
theorem len_setF {p : Int} {k : Nat} : ∀ (F : List Hd) (u : Row), (setF p k F u).length = u.length
  | [], _ => rfl
  | x :: F, u => by
    have := len_setF (p := p) (k := k) F (u.set x.2 ((-e_ x.1 k) % p))
    simp only [setF, List.foldl_cons] at this ⊢
    rw [this, List.length_set]
theorem setF_off {p : Int} {k j : Nat} : ∀ (F : List Hd) (u : Row), (∀ x ∈ F, x.2 ≠ j) → e_ (setF p k F u) j = e_ u j
  | [], _, _ => rfl
  | x :: F, u, h => by
    have := setF_off (p := p) (k := k) (j := j) F (u.set x.2 ((-e_ x.1 k) % p)) fun y hy => h y (List.mem_cons_of_mem _ hy)
    simp only [setF, List.foldl_cons] at this ⊢
    rw [this, e_set, if_neg fun z => h x (List.mem_cons_self ..) z.1]
theorem setF_at {p : Int} {k : Nat} : ∀ (F : List Hd) (u : Row), F.Pairwise (fun x y => x.2 < y.2) → (∀ x ∈ F, x.2 < u.length) → ∀ x ∈ F, e_ (setF p k F u) x.2 = (-e_ x.1 k) % p
  | [], _, _, _, _, h => nomatch h
  | y :: F, u, hp, hl, x, hx => by
    rw [List.pairwise_cons] at hp
    simp only [setF, List.foldl_cons]
    rcases List.mem_cons.1 hx with rfl | hx
    · have := setF_off (p := p) (k := k) (j := x.2) F (u.set x.2 ((-e_ x.1 k) % p)) fun z hz => Nat.ne_of_gt (hp.1 z hz)
      simp only [setF] at this
      rw [this, e_set, if_pos ⟨rfl, hl x (List.mem_cons_self ..)⟩]
    · exact setF_at F _ hp.2 (fun z hz => by rw [List.length_set]; exact hl z (List.mem_cons_of_mem _ hz)) x hx
def unitR (n k : Nat) : Row := (List.range n).map fun j => if j = k then 1 else 0
theorem e_unit {n k j : Nat} (hj : j < n) : e_ (unitR n k) j = if j = k then 1 else 0 := by
  simp [e_, unitR, hj]
theorem vc_of {p : Int} {n : Nat} {v : Row} (hl : v.length = n) (h : ∀ i, i < n → 0 ≤ e_ v i ∧ e_ v i < p) : Vc p n v := ⟨hl, fun x hx => by
  obtain ⟨i, hi, rfl⟩ := List.mem_iff_getElem.1 hx
  have := h i (by omega)
  simpa [e_, hi] using this⟩
theorem kr_setF {p : Int} {n : Nat} (hp : 1 < p) {F : List Hd} (hF : Rf p n F) {f : Nat} (hf : f < n) (ff : isHd F f = false) : Kr p n F f (setF p f F (unitR n f)) := by
  have lu : (unitR n f).length = n := by simp [unitR]
  have off : ∀ j, isHd F j = false → ∀ x ∈ F, x.2 ≠ j := fun j q x hx e => by
    have : isHd F j = true := List.any_eq_true.2 ⟨x, hx, by simp [e]⟩
    rw [this] at q; cases q
  have at_ : ∀ x ∈ F, e_ (setF p f F (unitR n f)) x.2 = (-e_ x.1 f) % p := setF_at F _ hF.asc fun x hx => by rw [lu]; exact hF.lt x hx
  have free : ∀ j, j < n → isHd F j = false → e_ (setF p f F (unitR n f)) j = if j = f then 1 else 0 := fun j hj q => by
    rw [setF_off F _ (off j q), e_unit hj]
  refine ⟨vc_of (by rw [len_setF, lu]) fun i hi => ?_, at_, by rw [free f hf ff, if_pos rfl], fun j hj ne q => by rw [free j hj q, if_neg ne]⟩
  cases e : isHd F i with
  | false =>
    rw [free i hi e]
    split <;> omega
  | true =>
    obtain ⟨x, hx, q⟩ := List.any_eq_true.1 e
    have q : x.2 = i := by simpa using q
    rw [← q, at_ x hx]
    exact ⟨Int.emod_nonneg _ (by omega), Int.emod_lt_of_pos _ (by omega)⟩
end PC

namespace PC
section
variable {p : Int} {n m : Nat} {R R' : List Row}
theorem sm_upd (n : Nat) {k : Nat} (hk : k < n) (a : Int) (c x : Nat → Int) (p : Int) : sm n (fun i => (if i = k then (c i + a) % p else c i) * x i) % p = (sm n (fun i => c i * x i) + a * x k) % p := by
  have h1 : sm n (fun i => (if i = k then (c i + a) % p else c i) * x i) % p = sm n (fun i => c i * x i + (if i = k then a * x k else 0)) % p := sm_mod n fun i _ => by
    by_cases q : i = k
    · subst q
      simp only [if_true]
      rw [Int.mul_emod, Int.emod_emod, ← Int.mul_emod, Int.add_mul]
    · simp [q]
  have h2 : sm n (fun i => if i = k then a * x k else 0) = a * x k := by
    rw [sm_one n (c := k) hk fun i _ q => if_neg q, if_pos rfl]
  rw [h1, sm_add, h2]
/-- weights of a row of a span -/
theorem Sp.weights (hp : 0 < p) (hR : Vcs p n R) {v : Row} (h : Sp p n R v) : ∃ c, Vc p R.length c ∧ ∀ j, j < n → e_ v j = sm R.length (fun i => e_ c i * e_ (R.getD i []) j) % p := by
  induction h with
  | zero => exact ⟨_, vc_zero hp, fun j _ => by rw [e_zero, sm_zero _ fun i _ => by rw [e_zero, Int.zero_mul]]; simp⟩
  | @step a v r h1 hr ih =>
    obtain ⟨c, hc, e⟩ := ih
    obtain ⟨k, hk, rfl⟩ := List.mem_iff_getElem.1 hr
    refine ⟨c.set k ((e_ c k + a) % p), ⟨by rw [List.length_set, hc.1], fun x hx => ?_⟩, fun j hj => ?_⟩
    · rcases List.mem_or_eq_of_mem_set hx with h | rfl
      · exact hc.2 x h
      · exact ⟨Int.emod_nonneg _ (by omega), Int.emod_lt_of_pos _ hp⟩
    · rw [e_axp (h1.vc hp hR).1 (hR _ hr).1 hj, e j hj]
      have e2 := sm_upd R.length hk a (e_ c) (fun i => e_ (R.getD i []) j) p
      rw [sm_congr R.length (g := fun i => e_ (c.set k ((e_ c k + a) % p)) i * e_ (R.getD i []) j) (h := fun i => (if i = k then (e_ c i + a) % p else e_ c i) * e_ (R.getD i []) j) fun i hi => by
        rw [e_set]
        by_cases q : i = k
        · subst q; rw [if_pos ⟨rfl, by rw [hc.1]; exact hk⟩, if_pos rfl]
        · rw [if_neg fun z => q z.1.symm, if_neg q], e2]
      simp [hk, Int.add_emod]
def Sol (p : Int) (m : Nat) (R : List Row) (g : List Int) (v : Row) : Prop := Vc p m v ∧ R.map (fun r => dt p m r v) = g.map (· % p)
def wid (p : Int) (R : List Row) (g : List Int) : List Row := List.zipWith (fun r x => r ++ [x % p]) R g
theorem wid_vcs (hp : 0 < p) : ∀ {R : List Row} {g : List Int}, Vcs p m R → Vcs p (m + 1) (wid p R g)
  | [], _, _ => fun _ h => by simp [wid] at h
  | _ :: _, [], _ => fun _ h => by simp [wid] at h
  | r :: R, x :: g, h => fun y hy => by
    simp only [wid, List.zipWith_cons_cons, List.mem_cons] at hy
    rcases hy with rfl | hy
    · have vr := h r (List.mem_cons_self ..)
      refine ⟨by simp [vr.1], fun z hz => ?_⟩
      rcases List.mem_append.1 hz with hz | hz
      · exact vr.2 z hz
      · rw [List.mem_singleton.1 hz]; exact ⟨Int.emod_nonneg _ (by omega), Int.emod_lt_of_pos _ hp⟩
    · exact wid_vcs hp (fun z hz => h z (List.mem_cons_of_mem _ hz)) y hy
theorem wid_len (h : g.length = R.length) : (wid p R g).length = R.length := by simp [wid, h]
theorem e_app_l {v w : Row} {i : Nat} (h : i < v.length) : e_ (v ++ w) i = e_ v i := by simp [e_, List.getElem?_append_left h]
theorem e_app_r {v : Row} {x : Int} {m : Nat} (h : v.length = m) : e_ (v ++ [x]) m = x := by subst h; simp [e_]
theorem dt_wide (hp : 0 < p) {r v : Row} {x : Int} (hr : r.length = m) (hv : v.length = m) : dt p (m + 1) (r ++ [x % p]) (v ++ [p - 1]) = 0 ↔ dt p m r v = x % p := by
  unfold dt
  rw [sm, sm_congr m (h := fun i => e_ r i * e_ v i) fun i hi => by rw [e_app_l (by omega), e_app_l (by omega)], e_app_r hr, e_app_r hv]
  rw [show sm m (fun i => e_ r i * e_ v i) + x % p * (p - 1) = sm m (fun i => e_ r i * e_ v i) - x % p + p * (x % p) by rw [Int.mul_sub, Int.mul_comm p]; omega]
  rw [Int.add_mul_emod_self_left]
  constructor
  · intro h
    have := Int.emod_eq_emod_iff_emod_sub_eq_zero.2 h
    rw [this, Int.emod_emod]
  · intro h
    apply Int.emod_eq_emod_iff_emod_sub_eq_zero.1
    rw [h, Int.emod_emod]
theorem sol_nl (hp : 1 < p) : ∀ {R : List Row} {g : List Int}, Vcs p m R → g.length = R.length → ∀ {v : Row}, Vc p m v → (Sol p m R g v ↔ Nl p (m + 1) (wid p R g) (v ++ [p - 1])) := fun {R g} hR hl {v} hv => by
  have vv : Vc p (m + 1) (v ++ [p - 1]) := ⟨by simp [hv.1], fun z hz => by
    rcases List.mem_append.1 hz with hz | hz
    · exact hv.2 z hz
    · rw [List.mem_singleton.1 hz]; omega⟩
  have key : ∀ {R : List Row} {g : List Int}, Vcs p m R → g.length = R.length → (R.map (fun r => dt p m r v) = g.map (· % p) ↔ ∀ r ∈ wid p R g, dt p (m + 1) r (v ++ [p - 1]) = 0) := by
    intro R
    induction R with
    | nil =>
      intro g _ hl
      have : g = [] := List.eq_nil_of_length_eq_zero hl
      subst this
      simp [wid]
    | cons r R ih =>
      intro g hR hl
      cases g with
      | nil => cases hl
      | cons x g =>
        have vr := hR r (List.mem_cons_self ..)
        have h1 := ih (g := g) (fun z hz => hR z (List.mem_cons_of_mem _ hz)) (by simpa using hl)
        have h2 := dt_wide (p := p) (x := x) (by omega) vr.1 hv.1
        simp only [wid] at h1
        simp only [wid, List.zipWith_cons_cons, List.forall_mem_cons, List.map_cons, List.cons.injEq, h1, h2]
  exact ⟨fun h => ⟨vv, (key hR hl).1 h.2⟩, fun h => ⟨hv, (key hR hl).2 h.2⟩⟩
theorem take_axp {a : Int} {v r : Row} {k : Nat} : (axp p a v r).take k = axp p a (v.take k) (r.take k) := by unfold axp; rw [List.take_zipWith]
theorem sp_take (hp : 0 < p) {g : List Int} (hR : Vcs p m R) {w : Row} (h : Sp p (m + 1) (wid p R g) w) : Sp p m R (w.take m) := by
  have key : ∀ r ∈ wid p R g, r.take m ∈ R := by
    clear h
    induction R generalizing g with
    | nil => intro r hr; simp [wid] at hr
    | cons s R ih =>
      cases g with
      | nil => intro r hr; simp [wid] at hr
      | cons x g =>
        intro r hr
        simp only [wid, List.zipWith_cons_cons, List.mem_cons] at hr
        rcases hr with rfl | hr
        · rw [List.take_append_of_le_length (by rw [(hR s (List.mem_cons_self ..)).1]; omega), List.take_of_length_le (by rw [(hR s (List.mem_cons_self ..)).1]; omega)]
          exact List.mem_cons_self ..
        · exact List.mem_cons_of_mem _ (ih (fun z hz => hR z (List.mem_cons_of_mem _ hz)) r hr)
  induction h with
  | zero => rw [List.take_replicate, Nat.min_eq_left (by omega)]; exact .zero
  | step a h1 hr ih => rw [take_axp]; exact ih.step a (key _ hr)
theorem e_take {v : Row} {k i : Nat} (h : i < k) : e_ (v.take k) i = e_ v i := by simp [e_, List.getElem?_take, h]
/-- the table without the last place -/
def cutF (m : Nat) (F : List Hd) : List Hd := F.map fun x => (x.1.take m, x.2)
theorem rf_cut {F : List Hd} (h : Rf p (m + 1) F) (hm : isHd F m = false) : Rf p m (cutF m F) := by
  have lt : ∀ x ∈ F, x.2 < m := fun x hx => by
    have := h.lt x hx
    have ne : x.2 ≠ m := fun e => by
      have : isHd F m = true := List.any_eq_true.2 ⟨x, hx, by simp [e]⟩
      rw [this] at hm; cases hm
    omega
  refine ⟨?_, fun y hy => ?_, fun y hy => ?_, fun y hy => ?_, fun y hy => ?_, fun y hy => ?_⟩
  · unfold cutF; rw [List.pairwise_map]; exact h.asc
  all_goals obtain ⟨x, hx, rfl⟩ := List.mem_map.1 hy
  · have := h.vc x hx
    exact ⟨by simp [this.1], fun z hz => this.2 z (List.mem_of_mem_take hz)⟩
  · exact lt x hx
  · show e_ (x.1.take m) x.2 = 1
    rw [e_take (lt x hx)]; exact h.one x hx
  · intro c hc
    have hc : c < x.2 := hc
    show e_ (x.1.take m) c = 0
    rw [e_take (by have := lt x hx; omega)]; exact h.low x hx c hc
  · intro z hz hne
    obtain ⟨w, hw, rfl⟩ := List.mem_map.1 hz
    show e_ (w.1.take m) x.2 = 0
    rw [e_take (lt x hx)]; exact h.off x hx w hw hne
/-- the row that is told -/
def setW (f : Hd → Int) (F : List Hd) (u : Row) : Row := F.foldl (fun u x => u.set x.2 (f x)) u
theorem len_setW {f : Hd → Int} : ∀ (F : List Hd) (u : Row), (setW f F u).length = u.length
  | [], _ => rfl
  | x :: F, u => by
    have := len_setW (f := f) F (u.set x.2 (f x))
    simp only [setW, List.foldl_cons] at this ⊢
    rw [this, List.length_set]
theorem setW_off {f : Hd → Int} {j : Nat} : ∀ (F : List Hd) (u : Row), (∀ x ∈ F, x.2 ≠ j) → e_ (setW f F u) j = e_ u j
  | [], _, _ => rfl
  | x :: F, u, h => by
    have := setW_off (f := f) (j := j) F (u.set x.2 (f x)) fun y hy => h y (List.mem_cons_of_mem _ hy)
    simp only [setW, List.foldl_cons] at this ⊢
    rw [this, e_set, if_neg fun z => h x (List.mem_cons_self ..) z.1]
theorem setW_at {f : Hd → Int} : ∀ (F : List Hd) (u : Row), F.Pairwise (fun x y => x.2 < y.2) → (∀ x ∈ F, x.2 < u.length) → ∀ x ∈ F, e_ (setW f F u) x.2 = f x
  | [], _, _, _, _, h => nomatch h
  | y :: F, u, hp, hl, x, hx => by
    rw [List.pairwise_cons] at hp
    simp only [setW, List.foldl_cons]
    rcases List.mem_cons.1 hx with rfl | hx
    · have := setW_off (f := f) (j := x.2) F (u.set x.2 (f x)) fun z hz => Nat.ne_of_gt (hp.1 z hz)
      simp only [setW] at this
      rw [this, e_set, if_pos ⟨rfl, hl x (List.mem_cons_self ..)⟩]
    · exact setW_at F _ hp.2 (fun z hz => by rw [List.length_set]; exact hl z (List.mem_cons_of_mem _ hz)) x hx
def solF (m : Nat) (F : List Hd) : Row := setW (fun x => e_ x.1 m) F (List.replicate m 0)
theorem solF_ok (hp : 1 < p) {F : List Hd} (hF : Rf p (m + 1) F) (hm : isHd F m = false) : Vc p m (solF m F) ∧ (∀ j, j < m → isHd F j = false → e_ (solF m F) j = 0) ∧ Nl p (m + 1) (rws F) (solF m F ++ [p - 1]) := by
  have lt : ∀ x ∈ F, x.2 < m := fun x hx => (rf_cut hF hm).lt (x.1.take m, x.2) (List.mem_map.2 ⟨x, hx, rfl⟩)
  have off : ∀ j, isHd F j = false → ∀ x ∈ F, x.2 ≠ j := fun j q x hx e => by
    have : isHd F j = true := List.any_eq_true.2 ⟨x, hx, by simp [e]⟩
    rw [this] at q; cases q
  have lu : (solF m F).length = m := by unfold solF; rw [len_setW, List.length_replicate]
  have at_ : ∀ x ∈ F, e_ (solF m F) x.2 = e_ x.1 m := setW_at F _ hF.asc fun x hx => by rw [List.length_replicate]; exact lt x hx
  have free : ∀ j, isHd F j = false → e_ (solF m F) j = 0 := fun j q => by unfold solF; rw [setW_off F _ (off j q), e_zero]
  have vu : Vc p m (solF m F) := vc_of lu fun i hi => by
    cases e : isHd F i with
    | false => rw [free i e]; omega
    | true =>
      obtain ⟨x, hx, q⟩ := List.any_eq_true.1 e
      have q : x.2 = i := by simpa using q
      rw [← q, at_ x hx]
      exact (hF.vc x hx).get (by omega)
  refine ⟨vu, fun j _ => free j, ⟨by simp [lu], fun z hz => ?_⟩, fun r hr => ?_⟩
  · rcases List.mem_append.1 hz with hz | hz
    · exact vu.2 z hz
    · rw [List.mem_singleton.1 hz]; omega
  · obtain ⟨x, hx, rfl⟩ := List.mem_map.1 hr
    unfold dt
    rw [sm, sm_one m (c := x.2) (lt x hx) fun j hj ne => ?_]
    · rw [e_app_l (by rw [lu]; exact lt x hx), at_ x hx, hF.one x hx, e_app_r lu]
      rw [show 1 * e_ x.1 m + e_ x.1 m * (p - 1) = p * e_ x.1 m by rw [Int.mul_sub, Int.mul_comm p]; omega]
      exact Int.mul_emod_right ..
    · rw [e_app_l (by omega)]
      cases e : isHd F j with
      | false => rw [free j e]; simp
      | true =>
        obtain ⟨y, hy, q⟩ := List.any_eq_true.1 e
        have q : y.2 = j := by simpa using q
        rw [← q, hF.off y hy x hx (by omega)]; simp
theorem sol_none (hp : 1 < p) {F : List Hd} (hF : Rf p (m + 1) F) (hm : isHd F m = true) {v : Row} (hv : v.length = m) : ¬ Nl p (m + 1) (rws F) (v ++ [p - 1]) := fun h => by
  obtain ⟨x, hx, q⟩ := List.any_eq_true.1 hm
  have q : x.2 = m := by simpa using q
  have := h.2 x.1 (List.mem_map.2 ⟨x, hx, rfl⟩)
  unfold dt at this
  rw [sm, sm_zero m fun j hj => by rw [hF.low x hx j (by omega), Int.zero_mul], e_app_r hv, ← q, hF.one x hx] at this
  rw [show (0 : Int) + 1 * (p - 1) = p - 1 by omega, Int.emod_eq_of_lt (by omega) (by omega)] at this
  omega
theorem one_only {α : Type} {l : List α} {u : α} (nd : l.Nodup) (h : ∀ x, x ∈ l ↔ x = u) : l = [u] := by
  cases l with
  | nil => exact absurd ((h u).2 rfl) (by simp)
  | cons x l =>
    have hx := (h x).1 (List.mem_cons_self ..)
    subst hx
    cases l with
    | nil => rfl
    | cons y l =>
      have hy := (h y).1 (by simp)
      subst hy
      simp at nd
theorem sol_sub (hp : 1 < p) {g : List Int} (hR : Vcs p m R) {v w : Row} (hv : Sol p m R g v) (hw : Sol p m R g w) : Nl p m R (axp p (-1) v w) :=
  ⟨vc_axp (by omega) hv.1.1 hw.1.1, fun r hr => by
    rw [dt_axp hv.1.1 hw.1.1]
    have h1 := hv.2.trans hw.2.symm
    have := List.map_inj_left.1 h1 r hr
    rw [this]
    rw [show dt p m r w + -1 * dt p m r w = 0 by omega]; simp⟩
theorem axp_sub_zero (hp : 0 < p) {v w : Row} (hv : Vc p m v) (hw : Vc p m w) (h : axp p (-1) v w = List.replicate m 0) : v = w :=
  axp_eq hv hw fun i hi => by
    have := congrArg (fun z => e_ z i) h
    simp only [e_zero] at this
    rw [e_axp hv.1 hw.1 hi] at this
    rw [← this]; congr 1; omega
/-- goals of weights -/
def goal (p : Int) (g : List Int) (w : Row) : Int := sm w.length (fun i => e_ w i * g.getD i 0) % p
end
end PC

namespace PC
open PySem PySem.Spec PyProof.Rows L2
abbrev i_is_integer : Nat := 0
abbrev i_inverse : Nat := 1
abbrev i_is_row : Nat := 2
abbrev i_scaled : Nat := 3
abbrev i_combine : Nat := 4
abbrev i_cleared : Nat := 5
abbrev i_reduced : Nat := 6
abbrev i_span : Nat := 7
abbrev i_identity : Nat := 8
abbrev i_is_matrix : Nat := 9
abbrev i_moved : Nat := 10
abbrev i_times : Nat := 11
abbrev i_matrix_power : Nat := 12
abbrev i_is_invertible : Nat := 13
abbrev i_matrix_inverse : Nat := 14
abbrev i__law_state : Nat := 15
abbrev i__law_odd : Nat := 16
abbrev i__law_honest : Nat := 17
abbrev i__law_take : Nat := 18
abbrev i__law_sum : Nat := 19
abbrev i__law_scaled : Nat := 20
abbrev i__law_zero : Nat := 21
abbrev i__law_unit : Nat := 22
abbrev i__law_all : Nat := 23
abbrev i__law_element : Nat := 24
abbrev i__law_span : Nat := 25
abbrev i__law_prime : Nat := 26
abbrev i__law_total : Nat := 27
abbrev i__law_times : Nat := 28
abbrev i__law_reason : Nat := 29
abbrev i_law : Nat := 30
def f_is_integer : FD := { name := "is_integer", ps := ["value"], N := ["value"], body :=
  (.cons (.ret (.and (.isi (.var 0) [.int]) (.not (.isi (.var 0) [.bool]))))
  .nil) }
def f_inverse : FD := { name := "inverse", ps := ["a", "p"], N := ["a", "p", "k"], body :=
  (.cons (.for_ (.range2 (.int 1) (.var 1)) (.name 2) (.cons (.ite (.cmp .eq (.bin .mod (.bin .mul (.var 0) (.var 2)) (.var 1)) (.int 1)) (.cons (.ret (.var 2))
  .nil) .nil)
  .nil))
  (.cons (.raise_ "Refused" ["Refused", "Fault"] (some "reason") (.str "inverse"))
  .nil)) }
def f_is_row : FD := { name := "is_row", ps := ["value", "p", "n"], N := ["value", "p", "n", "item"], body :=
  (.cons (.ite (.or (.not (.isi (.var 0) [.tuple])) (.cmp .ne (.bi .len (.var 0)) (.var 2))) (.cons (.ret (.bl false))
  .nil) .nil)
  (.cons (.for_ (.seq (.var 0)) (.name 3) (.cons (.ite (.or (.not (.call i_is_integer (.cons (.var 3) .nil))) (.or (.cmp .lt (.var 3) (.int 0)) (.cmp .ge (.var 3) (.var 1)))) (.cons (.ret (.bl false))
  .nil) .nil)
  .nil))
  (.cons (.ret (.bl true))
  .nil))) }
def f_scaled : FD := { name := "scaled", ps := ["v", "a", "p"], N := ["v", "a", "p", "x"], body :=
  (.cons (.ret (.bi .tuple (.comp (.seq (.var 0)) (.name 3) .nil (.bin .mod (.bin .mul (.var 3) (.var 1)) (.var 2)))))
  .nil) }
def f_combine : FD := { name := "combine", ps := ["rows", "weights", "width", "p"], N := ["rows", "weights", "width", "p", "total", "row", "a", "x", "y"], body :=
  (.cons (.set 4 (.bin .mul (.lst (.cons (.int 0) .nil)) (.var 2)))
  (.cons (.for_ (.zip (.var 0) (.var 1)) (.tup [5, 6]) (.cons (.ite (.cmp .ne (.var 6) (.int 0)) (.cons (.set 4 (.comp (.zip (.var 4) (.var 5)) (.tup [7, 8]) .nil (.bin .mod (.bin .add (.var 7) (.bin .mul (.var 6) (.var 8))) (.var 3))))
  .nil) .nil)
  .nil))
  (.cons (.ret (.bi .tuple (.var 4)))
  .nil))) }
def f_cleared : FD := { name := "cleared", ps := ["row", "head", "at", "p"], N := ["row", "head", "at", "p", "x", "y"], body :=
  (.cons (.ite (.cmp .eq (.sub (.var 0) (.var 2)) (.int 0)) (.cons (.ret (.var 0))
  .nil) .nil)
  (.cons (.ret (.bi .tuple (.comp (.zip (.var 0) (.var 1)) (.tup [4, 5]) .nil (.bin .mod (.bin .sub (.var 4) (.bin .mul (.sub (.var 0) (.var 2)) (.var 5))) (.var 3)))))
  .nil)) }
def f_reduced : FD := { name := "reduced", ps := ["rows", "width", "p"], N := ["rows", "width", "p", "left", "found", "pivots", "at", "heads", "row", "head", "k"], body :=
  (.cons (.own 3 (.comp (.seq (.var 0)) (.name 8) .nil (.bi .tuple (.var 8))))
  (.cons (.set 4 (.lst .nil))
  (.cons (.own 5 (.lst .nil))
  (.cons (.for_ (.range1 (.var 1)) (.name 6) (.cons (.set 7 (.comp (.range1 (.lenO 3)) (.name 10) (.cons (.cmp .ne (.sub (.subO 3 (.var 10)) (.var 6)) (.int 0)) .nil) (.var 10)))
  (.cons (.ite (.cmp .gt (.bi .len (.var 7)) (.int 0)) (.cons (.popAt 9 3 (.sub (.var 7) (.int 0)))
  (.cons (.set 9 (.call i_scaled (.cons (.var 9) (.cons (.call i_inverse (.cons (.sub (.var 9) (.var 6)) (.cons (.var 2) .nil))) (.cons (.var 2) .nil)))))
  (.cons (.own 3 (.comp (.own 3) (.name 8) .nil (.call i_cleared (.cons (.var 8) (.cons (.var 9) (.cons (.var 6) (.cons (.var 2) .nil)))))))
  (.cons (.set 4 (.bin .add (.comp (.seq (.var 4)) (.name 8) .nil (.call i_cleared (.cons (.var 8) (.cons (.var 9) (.cons (.var 6) (.cons (.var 2) .nil)))))) (.lst (.cons (.var 9) .nil))))
  (.cons (.append 5 (.var 6))
  .nil))))) .nil)
  .nil)))
  (.cons (.freeze 5)
  (.cons (.ret (.tup (.cons (.bi .tuple (.var 4)) (.cons (.bi .tuple (.var 5)) .nil))))
  .nil)))))) }
def f_span : FD := { name := "span", ps := ["rows", "width", "p"], N := ["rows", "width", "p"], body :=
  (.cons (.ret (.sub (.call i_reduced (.cons (.var 0) (.cons (.var 1) (.cons (.var 2) .nil)))) (.int 0)))
  .nil) }
def f_identity : FD := { name := "identity", ps := ["n"], N := ["n", "i", "k"], body :=
  (.cons (.ret (.bi .tuple (.comp (.range1 (.var 0)) (.name 1) .nil (.bi .tuple (.comp (.range1 (.var 0)) (.name 2) .nil (.bi .int (.cmp .eq (.var 1) (.var 2))))))))
  .nil) }
def f_is_matrix : FD := { name := "is_matrix", ps := ["value", "p", "n"], N := ["value", "p", "n", "row"], body :=
  (.cons (.ite (.or (.not (.isi (.var 0) [.tuple])) (.cmp .ne (.bi .len (.var 0)) (.var 2))) (.cons (.ret (.bl false))
  .nil) .nil)
  (.cons (.ret (.bi .all (.comp (.seq (.var 0)) (.name 3) .nil (.call i_is_row (.cons (.var 3) (.cons (.var 1) (.cons (.var 2) .nil)))))))
  .nil)) }
def f_moved : FD := { name := "moved", ps := ["v", "matrix", "p"], N := ["v", "matrix", "p"], body :=
  (.cons (.ret (.call i_combine (.cons (.var 1) (.cons (.var 0) (.cons (.bi .len (.var 1)) (.cons (.var 2) .nil))))))
  .nil) }
def f_times : FD := { name := "times", ps := ["one", "two", "p"], N := ["one", "two", "p", "row"], body :=
  (.cons (.ret (.bi .tuple (.comp (.seq (.var 0)) (.name 3) .nil (.call i_moved (.cons (.var 3) (.cons (.var 1) (.cons (.var 2) .nil)))))))
  .nil) }
def f_matrix_power : FD := { name := "matrix_power", ps := ["matrix", "k", "p"], N := ["matrix", "k", "p", "total", "_"], body :=
  (.cons (.set 3 (.call i_identity (.cons (.bi .len (.var 0)) .nil)))
  (.cons (.for_ (.range1 (.var 1)) (.name 4) (.cons (.set 3 (.call i_times (.cons (.var 3) (.cons (.var 0) (.cons (.var 2) .nil)))))
  .nil))
  (.cons (.ret (.var 3))
  .nil))) }
def f_is_invertible : FD := { name := "is_invertible", ps := ["matrix", "p"], N := ["matrix", "p"], body :=
  (.cons (.ret (.cmp .eq (.bi .len (.call i_span (.cons (.var 0) (.cons (.bi .len (.var 0)) (.cons (.var 1) .nil))))) (.bi .len (.var 0))))
  .nil) }
def f_matrix_inverse : FD := { name := "matrix_inverse", ps := ["matrix", "p"], N := ["matrix", "p", "n", "wide", "i", "row"], body :=
  (.cons (.set 2 (.bi .len (.var 0)))
  (.cons (.ite (.not (.call i_is_invertible (.cons (.var 0) (.cons (.var 1) .nil)))) (.cons (.raise_ "Refused" ["Refused", "Fault"] (some "reason") (.str "singular"))
  .nil) .nil)
  (.cons (.set 3 (.comp (.range1 (.var 2)) (.name 4) .nil (.bin .add (.bi .tuple (.sub (.var 0) (.var 4))) (.sub (.call i_identity (.cons (.var 2) .nil)) (.var 4)))))
  (.cons (.ret (.bi .tuple (.comp (.seq (.call i_span (.cons (.var 3) (.cons (.bin .mul (.int 2) (.var 2)) (.cons (.var 1) .nil))))) (.name 5) .nil (.slice (.var 5) (.some (.var 2)) .none))))
  .nil)))) }
def f__law_state : FD := { name := "_law_state", ps := ["script"], N := ["script", "seed", "total", "cell"], body :=
  (.cons (.set 1 (.int 0))
  (.cons (.set 2 (.int 1))
  (.cons (.for_ (.seq (.slice (.var 0) .none (.some (.int 63)))) (.name 3) (.cons (.set 1 (.bin .add (.bin .mul (.var 1) (.int 1000003)) (.bi .abs (.var 3))))
  (.cons (.set 2 (.bin .mod (.bi .int (.bin .add (.bin .mul (.var 2) (.int 48271)) (.var 3))) (.int 2147483647)))
  .nil)))
  (.cons (.ret (.newL (.cons (.var 1) (.cons (.ite (.cmp .ne (.var 2) (.int 1973665155)) (.var 2) (.int 7)) .nil))))
  .nil)))) }
def f__law_odd : FD := { name := "_law_odd", ps := ["value"], N := ["value", "item"], body :=
  (.cons (.ite (.cmp .eq (.var 0) (.str "a word that nothing else is")) (.cons (.ret (.bl true))
  .nil) .nil)
  (.cons (.ret (.and (.isi (.var 0) [.tuple, .list]) (.cmp .gt (.bi .len (.comp (.seq (.var 0)) (.name 1) (.cons (.call i__law_odd (.cons (.var 1) .nil)) .nil) (.var 1))) (.int 0))))
  .nil)) }
def f__law_honest : FD := { name := "_law_honest", ps := ["value"], N := ["value"], body :=
  (.cons (.ret (.ite (.call i__law_odd (.cons (.var 0) .nil)) (.str "odd") (.var 0)))
  .nil) }
def f__law_take : FD := { name := "_law_take", ps := ["state", "m"], N := ["state", "m", "value"], body :=
  (.cons (.ite (.cmp .gt (.sub (.var 0) (.int 0)) (.int 0)) (.cons (.set 2 (.bin .mod (.bi .int (.sub (.var 0) (.int 0))) (.var 1)))
  (.cons (.setC (.var 0) (.int 0) (.bin .fdiv (.sub (.var 0) (.int 0)) (.var 1)))
  (.cons (.ret (.var 2))
  .nil))) .nil)
  (.cons (.setC (.var 0) (.int 1) (.bin .mod (.bi .int (.bin .add (.bin .mul (.sub (.var 0) (.int 1)) (.int 48271)) (.int 11))) (.int 2147483647)))
  (.cons (.ret (.bin .mod (.bi .int (.bin .fdiv (.sub (.var 0) (.int 1)) (.int 7))) (.var 1)))
  .nil))) }
def f__law_sum : FD := { name := "_law_sum", ps := ["v", "w", "p"], N := ["v", "w", "p", "k"], body :=
  (.cons (.ret (.bi .tuple (.comp (.range1 (.bi .len (.var 0))) (.name 3) .nil (.bin .mod (.bi .int (.bin .add (.sub (.var 0) (.var 3)) (.sub (.var 1) (.var 3)))) (.var 2)))))
  .nil) }
def f__law_scaled : FD := { name := "_law_scaled", ps := ["v", "a", "p"], N := ["v", "a", "p", "x"], body :=
  (.cons (.ret (.bi .tuple (.comp (.seq (.var 0)) (.name 3) .nil (.bin .mod (.bi .int (.bin .mul (.var 3) (.var 1))) (.var 2)))))
  .nil) }
def f__law_zero : FD := { name := "_law_zero", ps := ["n"], N := ["n", "k"], body :=
  (.cons (.ret (.bi .tuple (.comp (.range1 (.var 0)) (.name 1) .nil (.int 0))))
  .nil) }
def f__law_unit : FD := { name := "_law_unit", ps := ["n", "at"], N := ["n", "at", "k"], body :=
  (.cons (.ret (.bi .tuple (.comp (.range1 (.var 0)) (.name 2) .nil (.bi .int (.cmp .eq (.var 2) (.var 1))))))
  .nil) }
def f__law_all : FD := { name := "_law_all", ps := ["n", "p"], N := ["n", "p", "out", "k", "longer", "word", "a"], body :=
  (.cons (.set 2 (.lst (.cons (.tup .nil) .nil)))
  (.cons (.for_ (.range1 (.var 0)) (.name 3) (.cons (.set 4 (.lst .nil))
  (.cons (.for_ (.seq (.var 2)) (.name 5) (.cons (.set 4 (.bin .add (.var 4) (.comp (.range1 (.var 1)) (.name 6) .nil (.bin .add (.var 5) (.tup (.cons (.var 6) .nil))))))
  .nil))
  (.cons (.set 2 (.bi .list (.var 4)))
  .nil))))
  (.cons (.ret (.var 2))
  .nil))) }
def f__law_element : FD := { name := "_law_element", ps := ["state", "p", "n"], N := ["state", "p", "n", "k"], body :=
  (.cons (.ret (.bi .tuple (.comp (.range1 (.var 2)) (.name 3) .nil (.call i__law_take (.cons (.var 0) (.cons (.var 1) .nil))))))
  .nil) }
def f__law_span : FD := { name := "_law_span", ps := ["rows", "n", "p"], N := ["rows", "n", "p", "found", "row", "longer", "word", "a"], body :=
  (.cons (.set 3 (.lst (.cons (.call i__law_zero (.cons (.var 1) .nil)) .nil)))
  (.cons (.for_ (.seq (.var 0)) (.name 4) (.cons (.ite (.cmp .notin (.var 4) (.var 3)) (.cons (.set 5 (.lst .nil))
  (.cons (.for_ (.seq (.var 3)) (.name 6) (.cons (.set 5 (.bin .add (.var 5) (.comp (.range1 (.var 2)) (.name 7) .nil (.call i__law_sum (.cons (.var 6) (.cons (.call i__law_scaled (.cons (.var 4) (.cons (.var 7) (.cons (.var 2) .nil)))) (.cons (.var 2) .nil)))))))
  .nil))
  (.cons (.set 3 (.bi .list (.var 5)))
  .nil))) .nil)
  .nil))
  (.cons (.ret (.bi .sorted (.var 3)))
  .nil))) }
def f__law_prime : FD := { name := "_law_prime", ps := ["state"], N := ["state"], body :=
  (.cons (.ret (.sub (.lst (.cons (.int 2) (.cons (.int 2) (.cons (.int 3) (.cons (.int 3) (.cons (.int 5) (.cons (.int 7) (.cons (.int 31) .nil)))))))) (.call i__law_take (.cons (.var 0) (.cons (.int 7) .nil)))))
  .nil) }
def f__law_total : FD := { name := "_law_total", ps := ["p", "rows", "weights", "n"], N := ["p", "rows", "weights", "n", "total", "k"], body :=
  (.cons (.set 4 (.call i__law_zero (.cons (.var 3) .nil)))
  (.cons (.for_ (.range1 (.bi .len (.var 1))) (.name 5) (.cons (.set 4 (.call i__law_sum (.cons (.var 4) (.cons (.call i__law_scaled (.cons (.sub (.var 1) (.var 5)) (.cons (.sub (.var 2) (.var 5)) (.cons (.var 0) .nil)))) (.cons (.var 0) .nil)))))
  .nil))
  (.cons (.ret (.var 4))
  .nil))) }
def f__law_times : FD := { name := "_law_times", ps := ["p", "a", "b"], N := ["p", "a", "b", "n", "i", "j", "k"], body :=
  (.cons (.set 3 (.bi .len (.var 1)))
  (.cons (.ret (.bi .tuple (.comp (.range1 (.var 3)) (.name 4) .nil (.bi .tuple (.comp (.range1 (.var 3)) (.name 5) .nil (.bin .mod (.bi .int (.bi .sum (.comp (.range1 (.var 3)) (.name 6) .nil (.bin .mul (.sub (.sub (.var 1) (.var 4)) (.var 6)) (.sub (.sub (.var 2) (.var 6)) (.var 5)))))) (.var 0)))))))
  .nil)) }
def f__law_reason : FD := { name := "_law_reason", ps := ["matrix", "p"], N := ["matrix", "p", "e"], body :=
  (.cons (.try_ (.cons (.expr (.call i__law_honest (.cons (.call i_matrix_inverse (.cons (.var 0) (.cons (.var 1) .nil))) .nil)))
  .nil) [{ cls := "Refused", slot := some 2, e := (.fld "reason") }])
  (.cons (.ret (.str "none"))
  .nil)) }
def f_law : FD := { name := "law", ps := ["script"], N := ["script", "state", "p", "n", "a", "b", "one", "v", "k", "due", "turn", "plain", "told", "wrong", "back", "value"], body :=
  (.cons (.set 1 (.call i__law_state (.cons (.var 0) .nil)))
  (.cons (.set 2 (.call i__law_prime (.cons (.var 1) .nil)))
  (.cons (.set 3 (.call i__law_take (.cons (.var 1) (.cons (.bin .sub (.bin .sub (.int 4) (.bi .int (.cmp .gt (.var 2) (.int 3)))) (.bi .int (.cmp .gt (.var 2) (.int 7)))) .nil))))
  (.cons (.set 4 (.bi .tuple (.comp (.range1 (.var 3)) (.name 8) .nil (.call i__law_element (.cons (.var 1) (.cons (.var 2) (.cons (.var 3) .nil)))))))
  (.cons (.set 5 (.bi .tuple (.comp (.range1 (.var 3)) (.name 8) .nil (.call i__law_element (.cons (.var 1) (.cons (.var 2) (.cons (.var 3) .nil)))))))
  (.cons (.ite (.and (.cmp .gt (.var 3) (.int 1)) (.cmp .eq (.call i__law_take (.cons (.var 1) (.cons (.int 3) .nil))) (.int 0))) (.cons (.set 4 (.bin .add (.slice (.var 4) .none (.some (.neg (.int 1)))) (.tup (.cons (.call i__law_scaled (.cons (.sub (.var 4) (.int 0)) (.cons (.call i__law_take (.cons (.var 1) (.cons (.var 2) .nil))) (.cons (.var 2) .nil)))) .nil))))
  .nil) .nil)
  (.cons (.set 6 (.bi .tuple (.comp (.range1 (.var 3)) (.name 8) .nil (.call i__law_unit (.cons (.var 3) (.cons (.var 8) .nil))))))
  (.cons (.set 7 (.call i__law_element (.cons (.var 1) (.cons (.var 2) (.cons (.var 3) .nil)))))
  (.cons (.ite (.or (.cmp .ne (.call i__law_honest (.cons (.call i_moved (.cons (.var 7) (.cons (.var 4) (.cons (.var 2) .nil)))) .nil)) (.call i__law_total (.cons (.var 2) (.cons (.var 4) (.cons (.var 7) (.cons (.var 3) .nil)))))) (.or (.cmp .ne (.call i__law_honest (.cons (.call i_times (.cons (.var 4) (.cons (.var 5) (.cons (.var 2) .nil)))) .nil)) (.call i__law_times (.cons (.var 2) (.cons (.var 4) (.cons (.var 5) .nil))))) (.cmp .ne (.call i__law_honest (.cons (.call i_identity (.cons (.var 3) .nil)) .nil)) (.var 6)))) (.cons (.ret (.bl false))
  .nil) .nil)
  (.cons (.set 8 (.call i__law_take (.cons (.var 1) (.cons (.int 6) .nil))))
  (.cons (.set 9 (.var 6))
  (.cons (.for_ (.range1 (.var 8)) (.name 10) (.cons (.set 9 (.call i__law_times (.cons (.var 2) (.cons (.var 9) (.cons (.var 4) .nil)))))
  .nil))
  (.cons (.ite (.cmp .ne (.call i__law_honest (.cons (.call i_matrix_power (.cons (.var 4) (.cons (.var 8) (.cons (.var 2) .nil)))) .nil)) (.var 9)) (.cons (.ret (.bl false))
  .nil) .nil)
  (.cons (.set 11 (.cmp .eq (.bi .len (.call i__law_span (.cons (.var 4) (.cons (.var 3) (.cons (.var 2) .nil))))) (.bi .len (.call i__law_all (.cons (.var 3) (.cons (.var 2) .nil))))))
  (.cons (.set 12 (.call i_is_invertible (.cons (.var 4) (.cons (.var 2) .nil))))
  (.cons (.ite (.or (.not (.isi (.var 12) [.bool])) (.cmp .ne (.var 12) (.var 11))) (.cons (.ret (.bl false))
  .nil) .nil)
  (.cons (.ite (.var 11) (.cons (.set 14 (.call i__law_honest (.cons (.call i_matrix_inverse (.cons (.var 4) (.cons (.var 2) .nil))) .nil)))
  (.cons (.ite (.or (.cmp .ne (.call i__law_times (.cons (.var 2) (.cons (.var 4) (.cons (.var 14) .nil)))) (.var 6)) (.or (.cmp .ne (.call i__law_times (.cons (.var 2) (.cons (.var 14) (.cons (.var 4) .nil)))) (.var 6)) (.not (.isi (.var 14) [.tuple])))) (.cons (.ret (.bl false))
  .nil) .nil)
  .nil)) (.cons (.ite (.cmp .ne (.call i__law_reason (.cons (.var 4) (.cons (.var 2) .nil))) (.str "singular")) (.cons (.ret (.bl false))
  .nil) .nil)
  .nil))
  (.cons (.set 13 (.lst (.cons (.bi .list (.var 4)) (.cons (.bin .add (.bin .add (.var 4) (.slice (.var 6) .none (.some (.int 1)))) (.slice (.var 6) .none (.some (.int 1)))) (.cons .non (.cons (.int 0) (.cons (.str "0") (.cons (.bin .add (.var 4) (.tup (.cons (.bin .mul (.tup (.cons (.int 0) .nil)) (.bin .add (.var 3) (.int 1))) .nil))) .nil))))))))
  (.cons (.ite (.cmp .gt (.var 3) (.int 0)) (.cons (.set 13 (.bin .add (.var 13) (.lst (.cons (.slice (.var 4) .none (.some (.neg (.int 1)))) (.cons (.bin .add (.slice (.var 4) .none (.some (.neg (.int 1)))) (.tup (.cons (.bi .list (.sub (.var 4) (.neg (.int 1)))) .nil))) (.cons (.bin .add (.slice (.var 4) .none (.some (.neg (.int 1)))) (.tup (.cons (.bin .add (.slice (.sub (.var 4) (.neg (.int 1))) .none (.some (.neg (.int 1)))) (.tup (.cons (.var 2) .nil))) .nil))) (.cons (.bin .add (.slice (.var 4) .none (.some (.neg (.int 1)))) (.tup (.cons (.bin .add (.slice (.sub (.var 4) (.neg (.int 1))) .none (.some (.neg (.int 1)))) (.tup (.cons (.bl true) .nil))) .nil))) (.cons (.bin .add (.slice (.var 4) .none (.some (.neg (.int 1)))) (.tup (.cons (.bin .add (.sub (.var 4) (.neg (.int 1))) (.tup (.cons (.int 0) .nil))) .nil))) .nil))))))))
  .nil) .nil)
  (.cons (.ret (.and (.isB (.call i_is_matrix (.cons (.var 4) (.cons (.var 2) (.cons (.var 3) .nil)))) true) (.cmp .eq (.bi .len (.comp (.seq (.var 13)) (.name 15) (.cons (.and (.notB (.call i_is_matrix (.cons (.var 15) (.cons (.var 2) (.cons (.var 3) .nil)))) false) (.cmp .ne (.var 15) (.var 4))) .nil) (.var 15))) (.int 0))))
  .nil)))))))))))))))))))) }
def T : Tbl := { T := fun n => ([f_is_integer, f_inverse, f_is_row, f_scaled, f_combine, f_cleared, f_reduced, f_span, f_identity, f_is_matrix, f_moved, f_times, f_matrix_power, f_is_invertible, f_matrix_inverse, f__law_state, f__law_odd, f__law_honest, f__law_take, f__law_sum, f__law_scaled, f__law_zero, f__law_unit, f__law_all, f__law_element, f__law_span, f__law_prime, f__law_total, f__law_times, f__law_reason, f_law] : List FD)[n]?, G := [], X := [⟨"Refused", ["Refused", "Fault"], some ("reason", "reason", true)⟩] }
def topS (i : Nat) : Stmt := PySem.Challenge.pw_chieflayers_k05_whole_matrices.main.body.getD i (.Pass ⟨0, 0, 0, 0⟩)
theorem ck_is_integer : chkF T f_is_integer (topS 4) = true := by decide +kernel
theorem sc_is_integer : scC f_is_integer.N f_is_integer.ps (defScope (topS 4)) = true := by decide +kernel
theorem ck_inverse : chkF T f_inverse (topS 5) = true := by decide +kernel
theorem sc_inverse : scC f_inverse.N f_inverse.ps (defScope (topS 5)) = true := by decide +kernel
theorem ck_is_row : chkF T f_is_row (topS 7) = true := by decide +kernel
theorem sc_is_row : scC f_is_row.N f_is_row.ps (defScope (topS 7)) = true := by decide +kernel
theorem ck_scaled : chkF T f_scaled (topS 8) = true := by decide +kernel
theorem sc_scaled : scC f_scaled.N f_scaled.ps (defScope (topS 8)) = true := by decide +kernel
theorem ck_combine : chkF T f_combine (topS 9) = true := by decide +kernel
theorem sc_combine : scC f_combine.N f_combine.ps (defScope (topS 9)) = true := by decide +kernel
theorem ck_cleared : chkF T f_cleared (topS 10) = true := by decide +kernel
theorem sc_cleared : scC f_cleared.N f_cleared.ps (defScope (topS 10)) = true := by decide +kernel
theorem ck_reduced : chkF T f_reduced (topS 11) = true := by decide +kernel
theorem sc_reduced : scC f_reduced.N f_reduced.ps (defScope (topS 11)) = true := by decide +kernel
theorem ck_span : chkF T f_span (topS 12) = true := by decide +kernel
theorem sc_span : scC f_span.N f_span.ps (defScope (topS 12)) = true := by decide +kernel
theorem ck_identity : chkF T f_identity (topS 13) = true := by decide +kernel
theorem sc_identity : scC f_identity.N f_identity.ps (defScope (topS 13)) = true := by decide +kernel
theorem ck_is_matrix : chkF T f_is_matrix (topS 14) = true := by decide +kernel
theorem sc_is_matrix : scC f_is_matrix.N f_is_matrix.ps (defScope (topS 14)) = true := by decide +kernel
theorem ck_moved : chkF T f_moved (topS 15) = true := by decide +kernel
theorem sc_moved : scC f_moved.N f_moved.ps (defScope (topS 15)) = true := by decide +kernel
theorem ck_times : chkF T f_times (topS 16) = true := by decide +kernel
theorem sc_times : scC f_times.N f_times.ps (defScope (topS 16)) = true := by decide +kernel
theorem ck_matrix_power : chkF T f_matrix_power (topS 17) = true := by decide +kernel
theorem sc_matrix_power : scC f_matrix_power.N f_matrix_power.ps (defScope (topS 17)) = true := by decide +kernel
theorem ck_is_invertible : chkF T f_is_invertible (topS 18) = true := by decide +kernel
theorem sc_is_invertible : scC f_is_invertible.N f_is_invertible.ps (defScope (topS 18)) = true := by decide +kernel
theorem ck_matrix_inverse : chkF T f_matrix_inverse (topS 19) = true := by decide +kernel
theorem sc_matrix_inverse : scC f_matrix_inverse.N f_matrix_inverse.ps (defScope (topS 19)) = true := by decide +kernel
theorem ck__law_state : chkF T f__law_state (topS 21) = true := by decide +kernel
theorem sc__law_state : scC f__law_state.N f__law_state.ps (defScope (topS 21)) = true := by decide +kernel
theorem ck__law_odd : chkF T f__law_odd (topS 22) = true := by decide +kernel
theorem sc__law_odd : scC f__law_odd.N f__law_odd.ps (defScope (topS 22)) = true := by decide +kernel
theorem ck__law_honest : chkF T f__law_honest (topS 23) = true := by decide +kernel
theorem sc__law_honest : scC f__law_honest.N f__law_honest.ps (defScope (topS 23)) = true := by decide +kernel
theorem ck__law_take : chkF T f__law_take (topS 24) = true := by decide +kernel
theorem sc__law_take : scC f__law_take.N f__law_take.ps (defScope (topS 24)) = true := by decide +kernel
theorem ck__law_sum : chkF T f__law_sum (topS 25) = true := by decide +kernel
theorem sc__law_sum : scC f__law_sum.N f__law_sum.ps (defScope (topS 25)) = true := by decide +kernel
theorem ck__law_scaled : chkF T f__law_scaled (topS 26) = true := by decide +kernel
theorem sc__law_scaled : scC f__law_scaled.N f__law_scaled.ps (defScope (topS 26)) = true := by decide +kernel
theorem ck__law_zero : chkF T f__law_zero (topS 27) = true := by decide +kernel
theorem sc__law_zero : scC f__law_zero.N f__law_zero.ps (defScope (topS 27)) = true := by decide +kernel
theorem ck__law_unit : chkF T f__law_unit (topS 28) = true := by decide +kernel
theorem sc__law_unit : scC f__law_unit.N f__law_unit.ps (defScope (topS 28)) = true := by decide +kernel
theorem ck__law_all : chkF T f__law_all (topS 29) = true := by decide +kernel
theorem sc__law_all : scC f__law_all.N f__law_all.ps (defScope (topS 29)) = true := by decide +kernel
theorem ck__law_element : chkF T f__law_element (topS 30) = true := by decide +kernel
theorem sc__law_element : scC f__law_element.N f__law_element.ps (defScope (topS 30)) = true := by decide +kernel
theorem ck__law_span : chkF T f__law_span (topS 31) = true := by decide +kernel
theorem sc__law_span : scC f__law_span.N f__law_span.ps (defScope (topS 31)) = true := by decide +kernel
theorem ck__law_prime : chkF T f__law_prime (topS 32) = true := by decide +kernel
theorem sc__law_prime : scC f__law_prime.N f__law_prime.ps (defScope (topS 32)) = true := by decide +kernel
theorem ck__law_total : chkF T f__law_total (topS 33) = true := by decide +kernel
theorem sc__law_total : scC f__law_total.N f__law_total.ps (defScope (topS 33)) = true := by decide +kernel
theorem ck__law_times : chkF T f__law_times (topS 34) = true := by decide +kernel
theorem sc__law_times : scC f__law_times.N f__law_times.ps (defScope (topS 34)) = true := by decide +kernel
theorem ck__law_reason : chkF T f__law_reason (topS 35) = true := by decide +kernel
theorem sc__law_reason : scC f__law_reason.N f__law_reason.ps (defScope (topS 35)) = true := by decide +kernel
theorem ck_law : chkF T f_law (topS 36) = true := by decide +kernel
theorem sc_law : scC f_law.N f_law.ps (defScope (topS 36)) = true := by decide +kernel
theorem ini_Refused : chkIni ((clsBody (topS 2)).getD 0 (.Pass ⟨0, 0, 0, 0⟩)) "reason" "reason" true = true := by decide +kernel
end PC

namespace PC
open PySem L2
theorem run_is_integer {n : Nat} {d0 : D} {M : Mem} : callN T.T (n + 1) i_is_integer [d0] M = endR (exs (callN T.T n)
  (.cons (.ret (.and (.isi (.var 0) [.int]) (.not (.isi (.var 0) [.bool]))))
  .nil) [.v d0] M) := (rfl)
theorem run_inverse {n : Nat} {d0 d1 : D} {M : Mem} : callN T.T (n + 1) i_inverse [d0, d1] M = endR (exs (callN T.T n)
  (.cons (.for_ (.range2 (.int 1) (.var 1)) (.name 2) (.cons (.ite (.cmp .eq (.bin .mod (.bin .mul (.var 0) (.var 2)) (.var 1)) (.int 1)) (.cons (.ret (.var 2))
  .nil) .nil)
  .nil))
  (.cons (.raise_ "Refused" ["Refused", "Fault"] (some "reason") (.str "inverse"))
  .nil)) [.v d0, .v d1, .un] M) := (rfl)
theorem run_is_row {n : Nat} {d0 d1 d2 : D} {M : Mem} : callN T.T (n + 1) i_is_row [d0, d1, d2] M = endR (exs (callN T.T n)
  (.cons (.ite (.or (.not (.isi (.var 0) [.tuple])) (.cmp .ne (.bi .len (.var 0)) (.var 2))) (.cons (.ret (.bl false))
  .nil) .nil)
  (.cons (.for_ (.seq (.var 0)) (.name 3) (.cons (.ite (.or (.not (.call i_is_integer (.cons (.var 3) .nil))) (.or (.cmp .lt (.var 3) (.int 0)) (.cmp .ge (.var 3) (.var 1)))) (.cons (.ret (.bl false))
  .nil) .nil)
  .nil))
  (.cons (.ret (.bl true))
  .nil))) [.v d0, .v d1, .v d2, .un] M) := (rfl)
theorem run_scaled {n : Nat} {d0 d1 d2 : D} {M : Mem} : callN T.T (n + 1) i_scaled [d0, d1, d2] M = endR (exs (callN T.T n)
  (.cons (.ret (.bi .tuple (.comp (.seq (.var 0)) (.name 3) .nil (.bin .mod (.bin .mul (.var 3) (.var 1)) (.var 2)))))
  .nil) [.v d0, .v d1, .v d2, .un] M) := (rfl)
theorem run_combine {n : Nat} {d0 d1 d2 d3 : D} {M : Mem} : callN T.T (n + 1) i_combine [d0, d1, d2, d3] M = endR (exs (callN T.T n)
  (.cons (.set 4 (.bin .mul (.lst (.cons (.int 0) .nil)) (.var 2)))
  (.cons (.for_ (.zip (.var 0) (.var 1)) (.tup [5, 6]) (.cons (.ite (.cmp .ne (.var 6) (.int 0)) (.cons (.set 4 (.comp (.zip (.var 4) (.var 5)) (.tup [7, 8]) .nil (.bin .mod (.bin .add (.var 7) (.bin .mul (.var 6) (.var 8))) (.var 3))))
  .nil) .nil)
  .nil))
  (.cons (.ret (.bi .tuple (.var 4)))
  .nil))) [.v d0, .v d1, .v d2, .v d3, .un, .un, .un, .un, .un] M) := (rfl)
theorem run_cleared {n : Nat} {d0 d1 d2 d3 : D} {M : Mem} : callN T.T (n + 1) i_cleared [d0, d1, d2, d3] M = endR (exs (callN T.T n)
  (.cons (.ite (.cmp .eq (.sub (.var 0) (.var 2)) (.int 0)) (.cons (.ret (.var 0))
  .nil) .nil)
  (.cons (.ret (.bi .tuple (.comp (.zip (.var 0) (.var 1)) (.tup [4, 5]) .nil (.bin .mod (.bin .sub (.var 4) (.bin .mul (.sub (.var 0) (.var 2)) (.var 5))) (.var 3)))))
  .nil)) [.v d0, .v d1, .v d2, .v d3, .un, .un] M) := (rfl)
theorem run_reduced {n : Nat} {d0 d1 d2 : D} {M : Mem} : callN T.T (n + 1) i_reduced [d0, d1, d2] M = endR (exs (callN T.T n)
  (.cons (.own 3 (.comp (.seq (.var 0)) (.name 8) .nil (.bi .tuple (.var 8))))
  (.cons (.set 4 (.lst .nil))
  (.cons (.own 5 (.lst .nil))
  (.cons (.for_ (.range1 (.var 1)) (.name 6) (.cons (.set 7 (.comp (.range1 (.lenO 3)) (.name 10) (.cons (.cmp .ne (.sub (.subO 3 (.var 10)) (.var 6)) (.int 0)) .nil) (.var 10)))
  (.cons (.ite (.cmp .gt (.bi .len (.var 7)) (.int 0)) (.cons (.popAt 9 3 (.sub (.var 7) (.int 0)))
  (.cons (.set 9 (.call i_scaled (.cons (.var 9) (.cons (.call i_inverse (.cons (.sub (.var 9) (.var 6)) (.cons (.var 2) .nil))) (.cons (.var 2) .nil)))))
  (.cons (.own 3 (.comp (.own 3) (.name 8) .nil (.call i_cleared (.cons (.var 8) (.cons (.var 9) (.cons (.var 6) (.cons (.var 2) .nil)))))))
  (.cons (.set 4 (.bin .add (.comp (.seq (.var 4)) (.name 8) .nil (.call i_cleared (.cons (.var 8) (.cons (.var 9) (.cons (.var 6) (.cons (.var 2) .nil)))))) (.lst (.cons (.var 9) .nil))))
  (.cons (.append 5 (.var 6))
  .nil))))) .nil)
  .nil)))
  (.cons (.freeze 5)
  (.cons (.ret (.tup (.cons (.bi .tuple (.var 4)) (.cons (.bi .tuple (.var 5)) .nil))))
  .nil)))))) [.v d0, .v d1, .v d2, .un, .un, .un, .un, .un, .un, .un, .un] M) := (rfl)
theorem run_span {n : Nat} {d0 d1 d2 : D} {M : Mem} : callN T.T (n + 1) i_span [d0, d1, d2] M = endR (exs (callN T.T n)
  (.cons (.ret (.sub (.call i_reduced (.cons (.var 0) (.cons (.var 1) (.cons (.var 2) .nil)))) (.int 0)))
  .nil) [.v d0, .v d1, .v d2] M) := (rfl)
theorem run_identity {n : Nat} {d0 : D} {M : Mem} : callN T.T (n + 1) i_identity [d0] M = endR (exs (callN T.T n)
  (.cons (.ret (.bi .tuple (.comp (.range1 (.var 0)) (.name 1) .nil (.bi .tuple (.comp (.range1 (.var 0)) (.name 2) .nil (.bi .int (.cmp .eq (.var 1) (.var 2))))))))
  .nil) [.v d0, .un, .un] M) := (rfl)
theorem run_is_matrix {n : Nat} {d0 d1 d2 : D} {M : Mem} : callN T.T (n + 1) i_is_matrix [d0, d1, d2] M = endR (exs (callN T.T n)
  (.cons (.ite (.or (.not (.isi (.var 0) [.tuple])) (.cmp .ne (.bi .len (.var 0)) (.var 2))) (.cons (.ret (.bl false))
  .nil) .nil)
  (.cons (.ret (.bi .all (.comp (.seq (.var 0)) (.name 3) .nil (.call i_is_row (.cons (.var 3) (.cons (.var 1) (.cons (.var 2) .nil)))))))
  .nil)) [.v d0, .v d1, .v d2, .un] M) := (rfl)
theorem run_moved {n : Nat} {d0 d1 d2 : D} {M : Mem} : callN T.T (n + 1) i_moved [d0, d1, d2] M = endR (exs (callN T.T n)
  (.cons (.ret (.call i_combine (.cons (.var 1) (.cons (.var 0) (.cons (.bi .len (.var 1)) (.cons (.var 2) .nil))))))
  .nil) [.v d0, .v d1, .v d2] M) := (rfl)
theorem run_times {n : Nat} {d0 d1 d2 : D} {M : Mem} : callN T.T (n + 1) i_times [d0, d1, d2] M = endR (exs (callN T.T n)
  (.cons (.ret (.bi .tuple (.comp (.seq (.var 0)) (.name 3) .nil (.call i_moved (.cons (.var 3) (.cons (.var 1) (.cons (.var 2) .nil)))))))
  .nil) [.v d0, .v d1, .v d2, .un] M) := (rfl)
theorem run_matrix_power {n : Nat} {d0 d1 d2 : D} {M : Mem} : callN T.T (n + 1) i_matrix_power [d0, d1, d2] M = endR (exs (callN T.T n)
  (.cons (.set 3 (.call i_identity (.cons (.bi .len (.var 0)) .nil)))
  (.cons (.for_ (.range1 (.var 1)) (.name 4) (.cons (.set 3 (.call i_times (.cons (.var 3) (.cons (.var 0) (.cons (.var 2) .nil)))))
  .nil))
  (.cons (.ret (.var 3))
  .nil))) [.v d0, .v d1, .v d2, .un, .un] M) := (rfl)
theorem run_is_invertible {n : Nat} {d0 d1 : D} {M : Mem} : callN T.T (n + 1) i_is_invertible [d0, d1] M = endR (exs (callN T.T n)
  (.cons (.ret (.cmp .eq (.bi .len (.call i_span (.cons (.var 0) (.cons (.bi .len (.var 0)) (.cons (.var 1) .nil))))) (.bi .len (.var 0))))
  .nil) [.v d0, .v d1] M) := (rfl)
theorem run_matrix_inverse {n : Nat} {d0 d1 : D} {M : Mem} : callN T.T (n + 1) i_matrix_inverse [d0, d1] M = endR (exs (callN T.T n)
  (.cons (.set 2 (.bi .len (.var 0)))
  (.cons (.ite (.not (.call i_is_invertible (.cons (.var 0) (.cons (.var 1) .nil)))) (.cons (.raise_ "Refused" ["Refused", "Fault"] (some "reason") (.str "singular"))
  .nil) .nil)
  (.cons (.set 3 (.comp (.range1 (.var 2)) (.name 4) .nil (.bin .add (.bi .tuple (.sub (.var 0) (.var 4))) (.sub (.call i_identity (.cons (.var 2) .nil)) (.var 4)))))
  (.cons (.ret (.bi .tuple (.comp (.seq (.call i_span (.cons (.var 3) (.cons (.bin .mul (.int 2) (.var 2)) (.cons (.var 1) .nil))))) (.name 5) .nil (.slice (.var 5) (.some (.var 2)) .none))))
  .nil)))) [.v d0, .v d1, .un, .un, .un, .un] M) := (rfl)
theorem run__law_state {n : Nat} {d0 : D} {M : Mem} : callN T.T (n + 1) i__law_state [d0] M = endR (exs (callN T.T n)
  (.cons (.set 1 (.int 0))
  (.cons (.set 2 (.int 1))
  (.cons (.for_ (.seq (.slice (.var 0) .none (.some (.int 63)))) (.name 3) (.cons (.set 1 (.bin .add (.bin .mul (.var 1) (.int 1000003)) (.bi .abs (.var 3))))
  (.cons (.set 2 (.bin .mod (.bi .int (.bin .add (.bin .mul (.var 2) (.int 48271)) (.var 3))) (.int 2147483647)))
  .nil)))
  (.cons (.ret (.newL (.cons (.var 1) (.cons (.ite (.cmp .ne (.var 2) (.int 1973665155)) (.var 2) (.int 7)) .nil))))
  .nil)))) [.v d0, .un, .un, .un] M) := (rfl)
theorem run__law_odd {n : Nat} {d0 : D} {M : Mem} : callN T.T (n + 1) i__law_odd [d0] M = endR (exs (callN T.T n)
  (.cons (.ite (.cmp .eq (.var 0) (.str "a word that nothing else is")) (.cons (.ret (.bl true))
  .nil) .nil)
  (.cons (.ret (.and (.isi (.var 0) [.tuple, .list]) (.cmp .gt (.bi .len (.comp (.seq (.var 0)) (.name 1) (.cons (.call i__law_odd (.cons (.var 1) .nil)) .nil) (.var 1))) (.int 0))))
  .nil)) [.v d0, .un] M) := (rfl)
theorem run__law_honest {n : Nat} {d0 : D} {M : Mem} : callN T.T (n + 1) i__law_honest [d0] M = endR (exs (callN T.T n)
  (.cons (.ret (.ite (.call i__law_odd (.cons (.var 0) .nil)) (.str "odd") (.var 0)))
  .nil) [.v d0] M) := (rfl)
theorem run__law_take {n : Nat} {d0 d1 : D} {M : Mem} : callN T.T (n + 1) i__law_take [d0, d1] M = endR (exs (callN T.T n)
  (.cons (.ite (.cmp .gt (.sub (.var 0) (.int 0)) (.int 0)) (.cons (.set 2 (.bin .mod (.bi .int (.sub (.var 0) (.int 0))) (.var 1)))
  (.cons (.setC (.var 0) (.int 0) (.bin .fdiv (.sub (.var 0) (.int 0)) (.var 1)))
  (.cons (.ret (.var 2))
  .nil))) .nil)
  (.cons (.setC (.var 0) (.int 1) (.bin .mod (.bi .int (.bin .add (.bin .mul (.sub (.var 0) (.int 1)) (.int 48271)) (.int 11))) (.int 2147483647)))
  (.cons (.ret (.bin .mod (.bi .int (.bin .fdiv (.sub (.var 0) (.int 1)) (.int 7))) (.var 1)))
  .nil))) [.v d0, .v d1, .un] M) := (rfl)
theorem run__law_sum {n : Nat} {d0 d1 d2 : D} {M : Mem} : callN T.T (n + 1) i__law_sum [d0, d1, d2] M = endR (exs (callN T.T n)
  (.cons (.ret (.bi .tuple (.comp (.range1 (.bi .len (.var 0))) (.name 3) .nil (.bin .mod (.bi .int (.bin .add (.sub (.var 0) (.var 3)) (.sub (.var 1) (.var 3)))) (.var 2)))))
  .nil) [.v d0, .v d1, .v d2, .un] M) := (rfl)
theorem run__law_scaled {n : Nat} {d0 d1 d2 : D} {M : Mem} : callN T.T (n + 1) i__law_scaled [d0, d1, d2] M = endR (exs (callN T.T n)
  (.cons (.ret (.bi .tuple (.comp (.seq (.var 0)) (.name 3) .nil (.bin .mod (.bi .int (.bin .mul (.var 3) (.var 1))) (.var 2)))))
  .nil) [.v d0, .v d1, .v d2, .un] M) := (rfl)
theorem run__law_zero {n : Nat} {d0 : D} {M : Mem} : callN T.T (n + 1) i__law_zero [d0] M = endR (exs (callN T.T n)
  (.cons (.ret (.bi .tuple (.comp (.range1 (.var 0)) (.name 1) .nil (.int 0))))
  .nil) [.v d0, .un] M) := (rfl)
theorem run__law_unit {n : Nat} {d0 d1 : D} {M : Mem} : callN T.T (n + 1) i__law_unit [d0, d1] M = endR (exs (callN T.T n)
  (.cons (.ret (.bi .tuple (.comp (.range1 (.var 0)) (.name 2) .nil (.bi .int (.cmp .eq (.var 2) (.var 1))))))
  .nil) [.v d0, .v d1, .un] M) := (rfl)
theorem run__law_all {n : Nat} {d0 d1 : D} {M : Mem} : callN T.T (n + 1) i__law_all [d0, d1] M = endR (exs (callN T.T n)
  (.cons (.set 2 (.lst (.cons (.tup .nil) .nil)))
  (.cons (.for_ (.range1 (.var 0)) (.name 3) (.cons (.set 4 (.lst .nil))
  (.cons (.for_ (.seq (.var 2)) (.name 5) (.cons (.set 4 (.bin .add (.var 4) (.comp (.range1 (.var 1)) (.name 6) .nil (.bin .add (.var 5) (.tup (.cons (.var 6) .nil))))))
  .nil))
  (.cons (.set 2 (.bi .list (.var 4)))
  .nil))))
  (.cons (.ret (.var 2))
  .nil))) [.v d0, .v d1, .un, .un, .un, .un, .un] M) := (rfl)
theorem run__law_element {n : Nat} {d0 d1 d2 : D} {M : Mem} : callN T.T (n + 1) i__law_element [d0, d1, d2] M = endR (exs (callN T.T n)
  (.cons (.ret (.bi .tuple (.comp (.range1 (.var 2)) (.name 3) .nil (.call i__law_take (.cons (.var 0) (.cons (.var 1) .nil))))))
  .nil) [.v d0, .v d1, .v d2, .un] M) := (rfl)
theorem run__law_span {n : Nat} {d0 d1 d2 : D} {M : Mem} : callN T.T (n + 1) i__law_span [d0, d1, d2] M = endR (exs (callN T.T n)
  (.cons (.set 3 (.lst (.cons (.call i__law_zero (.cons (.var 1) .nil)) .nil)))
  (.cons (.for_ (.seq (.var 0)) (.name 4) (.cons (.ite (.cmp .notin (.var 4) (.var 3)) (.cons (.set 5 (.lst .nil))
  (.cons (.for_ (.seq (.var 3)) (.name 6) (.cons (.set 5 (.bin .add (.var 5) (.comp (.range1 (.var 2)) (.name 7) .nil (.call i__law_sum (.cons (.var 6) (.cons (.call i__law_scaled (.cons (.var 4) (.cons (.var 7) (.cons (.var 2) .nil)))) (.cons (.var 2) .nil)))))))
  .nil))
  (.cons (.set 3 (.bi .list (.var 5)))
  .nil))) .nil)
  .nil))
  (.cons (.ret (.bi .sorted (.var 3)))
  .nil))) [.v d0, .v d1, .v d2, .un, .un, .un, .un, .un] M) := (rfl)
theorem run__law_prime {n : Nat} {d0 : D} {M : Mem} : callN T.T (n + 1) i__law_prime [d0] M = endR (exs (callN T.T n)
  (.cons (.ret (.sub (.lst (.cons (.int 2) (.cons (.int 2) (.cons (.int 3) (.cons (.int 3) (.cons (.int 5) (.cons (.int 7) (.cons (.int 31) .nil)))))))) (.call i__law_take (.cons (.var 0) (.cons (.int 7) .nil)))))
  .nil) [.v d0] M) := (rfl)
theorem run__law_total {n : Nat} {d0 d1 d2 d3 : D} {M : Mem} : callN T.T (n + 1) i__law_total [d0, d1, d2, d3] M = endR (exs (callN T.T n)
  (.cons (.set 4 (.call i__law_zero (.cons (.var 3) .nil)))
  (.cons (.for_ (.range1 (.bi .len (.var 1))) (.name 5) (.cons (.set 4 (.call i__law_sum (.cons (.var 4) (.cons (.call i__law_scaled (.cons (.sub (.var 1) (.var 5)) (.cons (.sub (.var 2) (.var 5)) (.cons (.var 0) .nil)))) (.cons (.var 0) .nil)))))
  .nil))
  (.cons (.ret (.var 4))
  .nil))) [.v d0, .v d1, .v d2, .v d3, .un, .un] M) := (rfl)
theorem run__law_times {n : Nat} {d0 d1 d2 : D} {M : Mem} : callN T.T (n + 1) i__law_times [d0, d1, d2] M = endR (exs (callN T.T n)
  (.cons (.set 3 (.bi .len (.var 1)))
  (.cons (.ret (.bi .tuple (.comp (.range1 (.var 3)) (.name 4) .nil (.bi .tuple (.comp (.range1 (.var 3)) (.name 5) .nil (.bin .mod (.bi .int (.bi .sum (.comp (.range1 (.var 3)) (.name 6) .nil (.bin .mul (.sub (.sub (.var 1) (.var 4)) (.var 6)) (.sub (.sub (.var 2) (.var 6)) (.var 5)))))) (.var 0)))))))
  .nil)) [.v d0, .v d1, .v d2, .un, .un, .un, .un] M) := (rfl)
theorem run__law_reason {n : Nat} {d0 d1 : D} {M : Mem} : callN T.T (n + 1) i__law_reason [d0, d1] M = endR (exs (callN T.T n)
  (.cons (.try_ (.cons (.expr (.call i__law_honest (.cons (.call i_matrix_inverse (.cons (.var 0) (.cons (.var 1) .nil))) .nil)))
  .nil) [{ cls := "Refused", slot := some 2, e := (.fld "reason") }])
  (.cons (.ret (.str "none"))
  .nil)) [.v d0, .v d1, .un] M) := (rfl)
theorem run_law {n : Nat} {d0 : D} {M : Mem} : callN T.T (n + 1) i_law [d0] M = endR (exs (callN T.T n)
  (.cons (.set 1 (.call i__law_state (.cons (.var 0) .nil)))
  (.cons (.set 2 (.call i__law_prime (.cons (.var 1) .nil)))
  (.cons (.set 3 (.call i__law_take (.cons (.var 1) (.cons (.bin .sub (.bin .sub (.int 4) (.bi .int (.cmp .gt (.var 2) (.int 3)))) (.bi .int (.cmp .gt (.var 2) (.int 7)))) .nil))))
  (.cons (.set 4 (.bi .tuple (.comp (.range1 (.var 3)) (.name 8) .nil (.call i__law_element (.cons (.var 1) (.cons (.var 2) (.cons (.var 3) .nil)))))))
  (.cons (.set 5 (.bi .tuple (.comp (.range1 (.var 3)) (.name 8) .nil (.call i__law_element (.cons (.var 1) (.cons (.var 2) (.cons (.var 3) .nil)))))))
  (.cons (.ite (.and (.cmp .gt (.var 3) (.int 1)) (.cmp .eq (.call i__law_take (.cons (.var 1) (.cons (.int 3) .nil))) (.int 0))) (.cons (.set 4 (.bin .add (.slice (.var 4) .none (.some (.neg (.int 1)))) (.tup (.cons (.call i__law_scaled (.cons (.sub (.var 4) (.int 0)) (.cons (.call i__law_take (.cons (.var 1) (.cons (.var 2) .nil))) (.cons (.var 2) .nil)))) .nil))))
  .nil) .nil)
  (.cons (.set 6 (.bi .tuple (.comp (.range1 (.var 3)) (.name 8) .nil (.call i__law_unit (.cons (.var 3) (.cons (.var 8) .nil))))))
  (.cons (.set 7 (.call i__law_element (.cons (.var 1) (.cons (.var 2) (.cons (.var 3) .nil)))))
  (.cons (.ite (.or (.cmp .ne (.call i__law_honest (.cons (.call i_moved (.cons (.var 7) (.cons (.var 4) (.cons (.var 2) .nil)))) .nil)) (.call i__law_total (.cons (.var 2) (.cons (.var 4) (.cons (.var 7) (.cons (.var 3) .nil)))))) (.or (.cmp .ne (.call i__law_honest (.cons (.call i_times (.cons (.var 4) (.cons (.var 5) (.cons (.var 2) .nil)))) .nil)) (.call i__law_times (.cons (.var 2) (.cons (.var 4) (.cons (.var 5) .nil))))) (.cmp .ne (.call i__law_honest (.cons (.call i_identity (.cons (.var 3) .nil)) .nil)) (.var 6)))) (.cons (.ret (.bl false))
  .nil) .nil)
  (.cons (.set 8 (.call i__law_take (.cons (.var 1) (.cons (.int 6) .nil))))
  (.cons (.set 9 (.var 6))
  (.cons (.for_ (.range1 (.var 8)) (.name 10) (.cons (.set 9 (.call i__law_times (.cons (.var 2) (.cons (.var 9) (.cons (.var 4) .nil)))))
  .nil))
  (.cons (.ite (.cmp .ne (.call i__law_honest (.cons (.call i_matrix_power (.cons (.var 4) (.cons (.var 8) (.cons (.var 2) .nil)))) .nil)) (.var 9)) (.cons (.ret (.bl false))
  .nil) .nil)
  (.cons (.set 11 (.cmp .eq (.bi .len (.call i__law_span (.cons (.var 4) (.cons (.var 3) (.cons (.var 2) .nil))))) (.bi .len (.call i__law_all (.cons (.var 3) (.cons (.var 2) .nil))))))
  (.cons (.set 12 (.call i_is_invertible (.cons (.var 4) (.cons (.var 2) .nil))))
  (.cons (.ite (.or (.not (.isi (.var 12) [.bool])) (.cmp .ne (.var 12) (.var 11))) (.cons (.ret (.bl false))
  .nil) .nil)
  (.cons (.ite (.var 11) (.cons (.set 14 (.call i__law_honest (.cons (.call i_matrix_inverse (.cons (.var 4) (.cons (.var 2) .nil))) .nil)))
  (.cons (.ite (.or (.cmp .ne (.call i__law_times (.cons (.var 2) (.cons (.var 4) (.cons (.var 14) .nil)))) (.var 6)) (.or (.cmp .ne (.call i__law_times (.cons (.var 2) (.cons (.var 14) (.cons (.var 4) .nil)))) (.var 6)) (.not (.isi (.var 14) [.tuple])))) (.cons (.ret (.bl false))
  .nil) .nil)
  .nil)) (.cons (.ite (.cmp .ne (.call i__law_reason (.cons (.var 4) (.cons (.var 2) .nil))) (.str "singular")) (.cons (.ret (.bl false))
  .nil) .nil)
  .nil))
  (.cons (.set 13 (.lst (.cons (.bi .list (.var 4)) (.cons (.bin .add (.bin .add (.var 4) (.slice (.var 6) .none (.some (.int 1)))) (.slice (.var 6) .none (.some (.int 1)))) (.cons .non (.cons (.int 0) (.cons (.str "0") (.cons (.bin .add (.var 4) (.tup (.cons (.bin .mul (.tup (.cons (.int 0) .nil)) (.bin .add (.var 3) (.int 1))) .nil))) .nil))))))))
  (.cons (.ite (.cmp .gt (.var 3) (.int 0)) (.cons (.set 13 (.bin .add (.var 13) (.lst (.cons (.slice (.var 4) .none (.some (.neg (.int 1)))) (.cons (.bin .add (.slice (.var 4) .none (.some (.neg (.int 1)))) (.tup (.cons (.bi .list (.sub (.var 4) (.neg (.int 1)))) .nil))) (.cons (.bin .add (.slice (.var 4) .none (.some (.neg (.int 1)))) (.tup (.cons (.bin .add (.slice (.sub (.var 4) (.neg (.int 1))) .none (.some (.neg (.int 1)))) (.tup (.cons (.var 2) .nil))) .nil))) (.cons (.bin .add (.slice (.var 4) .none (.some (.neg (.int 1)))) (.tup (.cons (.bin .add (.slice (.sub (.var 4) (.neg (.int 1))) .none (.some (.neg (.int 1)))) (.tup (.cons (.bl true) .nil))) .nil))) (.cons (.bin .add (.slice (.var 4) .none (.some (.neg (.int 1)))) (.tup (.cons (.bin .add (.sub (.var 4) (.neg (.int 1))) (.tup (.cons (.int 0) .nil))) .nil))) .nil))))))))
  .nil) .nil)
  (.cons (.ret (.and (.isB (.call i_is_matrix (.cons (.var 4) (.cons (.var 2) (.cons (.var 3) .nil)))) true) (.cmp .eq (.bi .len (.comp (.seq (.var 13)) (.name 15) (.cons (.and (.notB (.call i_is_matrix (.cons (.var 15) (.cons (.var 2) (.cons (.var 3) .nil)))) false) (.cmp .ne (.var 15) (.var 4))) .nil) (.var 15))) (.int 0))))
  .nil)))))))))))))))))))) [.v d0, .un, .un, .un, .un, .un, .un, .un, .un, .un, .un, .un, .un, .un, .un, .un] M) := (rfl)
end PC

namespace PC
open PySem L2
def Stt (M : Mem) : Prop := ∃ s t : Int, M = [.lst [.int s, .int t]]
theorem callN_eq {n f : Nat} {ds : List D} {M : Mem} {fd : FD} (h : T.T f = some fd) : callN T.T (n + 1) f ds M = fd.run (callN T.T n) ds M := by rw [callN, h]
@[simp] theorem bir_len_lst (xs : List D) : Bi.run .len (.lst xs) = some (.int xs.length) := (rfl)
@[simp] theorem bir_len_tup (xs : List D) : Bi.run .len (.tup xs) = some (.int xs.length) := (rfl)
@[simp] theorem bir_int (i : Int) : Bi.run .int (.int i) = some (.int i) := (rfl)
@[simp] theorem bir_intb (i : Bool) : Bi.run .int (.bl i) = some (.int (if i then 1 else 0)) := (rfl)
@[simp] theorem bir_abs (i : Int) : Bi.run .abs (.int i) = some (.int (if i < 0 then -i else i)) := (rfl)
@[simp] theorem bir_tupt (xs : List D) : Bi.run .tuple (.tup xs) = some (.tup xs) := (rfl)
@[simp] theorem bir_tupl (xs : List D) : Bi.run .tuple (.lst xs) = some (.tup xs) := (rfl)
@[simp] theorem bir_lstt (xs : List D) : Bi.run .list (.tup xs) = some (.lst xs) := (rfl)
@[simp] theorem bir_lstl (xs : List D) : Bi.run .list (.lst xs) = some (.lst xs) := (rfl)
@[simp] theorem lenM_tup (M : Mem) (b : Bi) (xs : List D) : lenM M b (.tup xs) = Bi.run b (.tup xs) := by cases b <;> rfl
@[simp] theorem lenM_lst (M : Mem) (b : Bi) (xs : List D) : lenM M b (.lst xs) = Bi.run b (.lst xs) := by cases b <;> rfl
@[simp] theorem lenM_int (M : Mem) (b : Bi) (i : Int) : lenM M b (.int i) = Bi.run b (.int i) := by cases b <;> rfl
@[simp] theorem lenM_bl (M : Mem) (b : Bi) (i : Bool) : lenM M b (.bl i) = Bi.run b (.bl i) := by cases b <;> rfl
@[simp] theorem subM_tup' (M : Mem) (xs : List D) (i : Int) : subM M (.tup xs) (.int i) = L2.atI xs i := (rfl)
@[simp] theorem subM_lst' (M : Mem) (xs : List D) (i : Int) : subM M (.lst xs) (.int i) = L2.atI xs i := (rfl)
theorem subM_cell (M : Mem) (k : Nat) (i : Int) : subM M (.cell k) (.int i) = match M[k]? with | some (.lst xs) => L2.atI xs i | _ => none := rfl
@[simp] theorem bop_add (i j : Int) : Bop.run .add (.int i) (.int j) = some (.int (i + j)) := (rfl)
@[simp] theorem bop_sub (i j : Int) : Bop.run .sub (.int i) (.int j) = some (.int (i - j)) := (rfl)
theorem bop_mul (i j : Int) (h : mulOk i j = true) : Bop.run .mul (.int i) (.int j) = some (.int (i * j)) := by simp [Bop.run, h]
theorem bop_mod (i j : Int) (h : 0 < j) : Bop.run .mod (.int i) (.int j) = some (.int (i % j)) := by simp [Bop.run, h]
theorem bop_fdiv (i j : Int) (h : 0 < j) (k : j < 1073741824) : Bop.run .fdiv (.int i) (.int j) = some (.int (i / j)) := by simp [Bop.run, h, k]
theorem mulOk_r {i j : Int} (h : -(2 ^ 64) < j ∧ j < 2 ^ 64) : mulOk i j = true := by simp [mulOk]; exact .inr (by simpa using h)
theorem mulOk_l {i j : Int} (h : -(2 ^ 64) < i ∧ i < 2 ^ 64) : mulOk i j = true := by simp [mulOk]; exact .inl (by simpa using h)
@[simp] theorem atI_0 {α : Type} (x : α) (xs : List α) : L2.atI (x :: xs) 0 = some x := by simp [L2.atI, L2.ixN] <;> (try (rw [if_pos (by omega)])) <;> (try rfl)
@[simp] theorem atI_1 {α : Type} (x y : α) (xs : List α) : L2.atI (x :: y :: xs) 1 = some y := by simp [L2.atI, L2.ixN] <;> (try (rw [if_pos (by omega)])) <;> (try rfl)
theorem take_ok {n : Nat} {M : Mem} (h : Stt M) {m : Int} (h0 : 0 < m) (h1 : m < 1073741824) : ∃ x M', callN T.T (n + 1) i__law_take [.cell 0, .int m] M = .ok (.int x) M' ∧ Stt M' ∧ 0 ≤ x ∧ x < m := by
  obtain ⟨s, t, rfl⟩ := h
  rw [run__law_take]
  by_cases hs : 0 < s
  · refine ⟨s % m, [.lst [.int (s / m), .int t]], ?_, ⟨_, _, rfl⟩, Int.emod_nonneg _ (by omega), Int.emod_lt_of_pos _ h0⟩
    simp [subM_cell, hs, bop_mod _ _ h0, bop_fdiv _ _ h0 h1, L2.ixN]
  · refine ⟨((t * 48271 + 11) % 2147483647 / 7) % m, [.lst [.int s, .int ((t * 48271 + 11) % 2147483647)]], ?_, ⟨_, _, rfl⟩, Int.emod_nonneg _ (by omega), Int.emod_lt_of_pos _ h0⟩
    simp [subM_cell, hs, bop_mod, bop_mod _ _ h0, bop_fdiv, bop_mul, mulOk_r, L2.ixN]

theorem cmpL_map {α : Type} {w : α → D} {g : α → D} {f : D → Mem → Res (Option D)} {M : Mem} (xs : List α) (h : ∀ x ∈ xs, f (w x) M = .ok (some (g x)) M) (hl : xs.length ≤ sizeLine) : cmpL f (xs.map w) [] M = .ok (xs.map g) M := by
  have : ∀ (xs : List α) (acc : List D), (∀ x ∈ xs, f (w x) M = .ok (some (g x)) M) → acc.length + xs.length ≤ sizeLine → cmpL f (xs.map w) acc M = .ok (acc ++ xs.map g) M := by
    intro xs
    induction xs with
    | nil => intro acc _ _; simp [cmpL]
    | cons x xs ih =>
      intro acc h hl
      rw [List.length_cons] at hl
      rw [List.map_cons, cmpL, h x (List.mem_cons_self ..), Res.bind_ok]
      simp only
      rw [if_pos (by omega), ih _ (fun y hy => h y (List.mem_cons_of_mem _ hy)) (by simp; omega)]
      simp
  simpa using this xs [] h (by simpa using hl)
theorem cmpL_filt {α : Type} {w : α → D} (q : α → Bool) {g : α → D} {f : D → Mem → Res (Option D)} {M : Mem} (xs : List α) (h : ∀ x ∈ xs, f (w x) M = .ok (if q x = true then some (g x) else none) M) (hl : xs.length ≤ sizeLine) : cmpL f (xs.map w) [] M = .ok ((xs.filter q).map g) M := by
  have : ∀ (xs : List α) (acc : List D), (∀ x ∈ xs, f (w x) M = .ok (if q x = true then some (g x) else none) M) → acc.length + xs.length ≤ sizeLine → cmpL f (xs.map w) acc M = .ok (acc ++ (xs.filter q).map g) M := by
    intro xs
    induction xs with
    | nil => intro acc _ _; simp [cmpL]
    | cons x xs ih =>
      intro acc h hl
      rw [List.length_cons] at hl
      rw [List.map_cons, cmpL, h x (List.mem_cons_self ..), Res.bind_ok, List.filter_cons]
      cases e : q x with
      | true =>
        simp only [if_true]
        rw [if_pos (by omega), ih _ (fun y hy => h y (List.mem_cons_of_mem _ hy)) (by simp; omega)]
        simp
      | false =>
        simp only [Bool.false_eq_true, if_false]
        rw [ih _ (fun y hy => h y (List.mem_cons_of_mem _ hy)) (by omega)]
  simpa using this xs [] h (by simpa using hl)
theorem zipL_IL : ∀ (a b : List Int), zipL (IL a) (IL b) = (a.zip b).map fun x => .tup [.int x.1, .int x.2]
  | [], _ => rfl
  | _ :: _, [] => rfl
  | x :: a, y :: b => by
    simp only [IL, List.map_cons, zipL, List.zip_cons_cons]
    rw [zipL_IL a b]
theorem scaled_ok {n : Nat} {M : Mem} {v : Row} {a p : Int} (hp : 0 < p) (ha : -(2 ^ 64) < a ∧ a < 2 ^ 64) (hv : v.length ≤ sizeLine) : callN T.T (n + 1) i_scaled [TI v, .int a, .int p] M = .ok (TI (vsc p a v)) M := by
  rw [run_scaled]
  simp [ev_comp, D.items, Tg.put, Tg.slots, wipeE]
  rw [cmpL_map (w := .int) (g := fun x => .int (x * a % p)) v (fun x hx => ?_) hv]
  · simp [vsc]
  · simp [bop_mod _ _ hp, bop_mul, mulOk_r ha]
theorem lscaled_ok {n : Nat} {M : Mem} {v : Row} {a p : Int} (hp : 0 < p) (ha : -(2 ^ 64) < a ∧ a < 2 ^ 64) (hv : v.length ≤ sizeLine) : callN T.T (n + 1) i__law_scaled [TI v, .int a, .int p] M = .ok (TI (vsc p a v)) M := by
  rw [run__law_scaled]
  simp [ev_comp, D.items, Tg.put, Tg.slots, wipeE]
  rw [cmpL_map (w := .int) (g := fun x => .int (x * a % p)) v (fun x hx => ?_) hv]
  · simp [vsc]
  · simp [bop_mod _ _ hp, bop_mul, mulOk_r ha]
theorem cleared_ok {n m : Nat} {M : Mem} {row head : Row} {k : Nat} {p : Int} (hp : 0 < p) (hb : p < 1000) (hr : Vc p m row) (hh : head.length = m) (hm : m ≤ sizeLine) (hk : k < m) :
    callN T.T (n + 1) i_cleared [TI row, TI head, .int k, .int p] M = .ok (TI (vcl p row head k)) M := by
  have g := hr.get hk
  rw [run_cleared]
  have ek : L2.atI (IL row) (k : Int) = some (.int (e_ row k)) := atI_IL (by rw [hr.1]; exact hk)
  by_cases hz : e_ row k = 0
  · simp only [IL] at ek
    simp [ek, hz, vcl]
  · simp only [IL] at ek
    simp [ek, hz, vcl, ev_comp, Tg.put, Tg.slots, wipeE]
    have := zipL_IL row head
    simp only [IL] at this
    rw [this, cmpL_map (g := fun x : Int × Int => .int ((x.1 - e_ row k * x.2) % p)) (row.zip head) (fun x hx => ?_) (by rw [List.length_zip, hr.1]; omega)]
    · simp [List.zip, List.map_zipWith, Function.comp_def]
    · simp [setsL, bop_mod _ _ hp, bop_mul, mulOk_l (show -(2 ^ 64) < e_ row k ∧ e_ row k < 2 ^ 64 by omega)]
      rw [ek]
      simp [bop_mod _ _ hp, bop_mul, mulOk_l (show -(2 ^ 64) < e_ row k ∧ e_ row k < 2 ^ 64 by omega)]
theorem inverse_ok {n : Nat} {M : Mem} {a p : Int} (hf : Fld p) (hb : p < 1000) (ha : 0 ≤ a ∧ a < p) (hz : a ≠ 0) : ∃ k, 0 < k ∧ k < p ∧ a * k % p = 1 ∧ callN T.T (n + 1) i_inverse [.int a, .int p] M = .ok (.int k) M := by
  have hp := hf.pos
  obtain ⟨c, c0, c1, c2⟩ := hf.inv (a := a) (by rw [Int.emod_eq_of_lt ha.1 ha.2]; exact hz)
  rw [run_inverse]
  have key : ∀ (ks : List Nat) (s : Slot), (∃ k ∈ ks, a * (1 + (k : Int)) % p = 1) → (∀ k ∈ ks, 1 + (k : Int) < p) → ∃ k : Int, 0 < k ∧ k < p ∧ a * k % p = 1 ∧
      forL (.name 2) (exs (callN T.T n) (.cons (.ite (.cmp .eq (.bin .mod (.bin .mul (.var 0) (.var 2)) (.var 1)) (.int 1)) (.cons (.ret (.var 2)) .nil) .nil) .nil)) (ks.map fun (k : Nat) => D.int (1 + (k : Int))) [.v (.int a), .v (.int p), s] M = .rt (.int k) M := by
    intro ks
    induction ks with
    | nil => rintro s ⟨_, h, _⟩; cases h
    | cons k ks ih =>
      intro s h hk
      rw [List.map_cons, forL]
      simp [Tg.put, bop_mod _ _ hp, bop_mul, mulOk_l (show -(2 ^ 64) < a ∧ a < 2 ^ 64 by omega)]
      by_cases e : a * (1 + (k : Int)) % p = 1
      · refine ⟨1 + k, by omega, hk k (List.mem_cons_self ..), e, ?_⟩
        simp [e]
      · simp [e]
        have q := ih (.v (.int (1 + k))) (by
          obtain ⟨k', h1, h2⟩ := h
          rcases List.mem_cons.1 h1 with rfl | h1
          · exact (e h2).elim
          · exact ⟨k', h1, h2⟩) (fun k' h' => hk k' (List.mem_cons_of_mem _ h'))
        simpa [bop_mod _ _ hp, bop_mul, mulOk_l (show -(2 ^ 64) < a ∧ a < 2 ^ 64 by omega)] using q
  obtain ⟨k, k0, k1, k2, k3⟩ := key (List.range (p - 1).toNat) .un ⟨(c - 1).toNat, by simp; omega, by rw [show (1 + ((c - 1).toNat : Int)) = c by omega]; exact c2⟩ (fun k hk => by simp at hk; omega)
  refine ⟨k, k0, k1, k2, ?_⟩
  simp only [List.length_cons, List.length_nil, if_true, exs_cons, ex_for, evI_range2, ev_int, ev_var, Res.bind_ok, List.map_cons, List.map_nil, List.cons_append, List.nil_append, slotV_s, slotV_0, Res.of_some, rng2_int (show -1000000000 ≤ (1 : Int) ∧ (1 : Int) ≤ 1000000000 by omega) (show -1000000000 ≤ p ∧ p ≤ 1000000000 by omega), Res.out_ok]
  rw [rangeL_eq]
  rw [k3]
  simp
theorem filt_first {n h : Nat} {q : Nat → Bool} (hn : h < n) (hq : q h = true) (hl : ∀ c, c < h → q c = false) : ∃ r, (List.range n).filter q = h :: r := by
  have : List.range n = List.range h ++ (List.range (n - h)).map (h + ·) := by
    rw [← List.range_add]; congr 1; omega
  rw [this, List.filter_append, List.filter_eq_nil_iff.2 (fun c hc => by rw [hl c (by simpa using hc)]; simp), List.nil_append]
  obtain ⟨m, hm⟩ : ∃ m, n - h = m + 1 := ⟨n - h - 1, by omega⟩
  rw [hm, List.range_succ_eq_map, List.map_cons, List.filter_cons]
  rw [if_pos (by simpa using hq)]
  exact ⟨_, rfl⟩
end PC

namespace PC
open PySem L2
theorem map_erase {α β : Type} (f : α → β) : ∀ (l : List α) (i : Nat), (l.map f).eraseIdx i = (l.eraseIdx i).map f
  | [], i => by simp
  | x :: l, 0 => by simp
  | x :: l, i + 1 => by simp [map_erase f l i]
theorem IL_len (v : List Int) : (IL v).length = v.length := by simp
/-- one column of the reduction -/
def redBody : B := match f_reduced.body with
  | .cons _ (.cons _ (.cons _ (.cons (.for_ _ _ b) _))) => b
  | _ => .nil
structure RedS (p : Int) (m : Nat) (R : List Row) (X : D) (k : Nat) (ρ : Ev) (M M0 : Mem) : Prop where
  mem : M = M0
  ex : ∃ (L : List Row) (F : List Hd) (s6 s7 s8 s9 s10 : Slot), RI p m R L F k ∧ L.length + F.length ≤ R.length ∧
    ρ = [.v X, .v (.int m), .v (.int p), .own (TIs L), .v (.lst (TIs (rws F))), .own (F.map fun x => .int x.2), s6, s7, s8, s9, s10]
theorem red_col {n m : Nat} {M M0 : Mem} {R : List Row} {p : Int} {X : D} (hf : Fld p) (hb : p < 1000) (hR : R.length ≤ 1000) (hm : m ≤ 1000) {k : Nat} (hk : k < m) {ρ : Ev} (h : RedS p m R X k ρ M M0) :
    ∃ ρ1 ρ2 M2, (Tg.name 6).put (.int k) ρ = some ρ1 ∧ exs (callN T.T (n + 1)) redBody ρ1 M = .nx ρ2 M2 ∧ RedS p m R X (k + 1) ρ2 M2 M0 := by
  have hp := hf.pos
  have sz : sizeLine = 16777216 := rfl
  obtain ⟨rfl, L, F, s6, s7, s8, s9, s10, h, hl, rfl⟩ := h
  refine ⟨[.v X, .v (.int m), .v (.int p), .own (TIs L), .v (.lst (TIs (rws F))), .own (F.map fun x => .int x.2), .v (.int k), s7, s8, s9, s10], ?_⟩
  have el : ∀ r ∈ L, L2.atI (IL r) (k : Int) = some (.int (e_ r k)) := fun r hr => atI_IL (by rw [(h.vl r hr).1]; exact hk)
  have c1 : ∀ sl : Ev, ev (callN T.T (n + 1)) (.comp (.range1 (.lenO 3)) (.name 10) (.cons (.cmp .ne (.sub (.subO 3 (.var 10)) (.var 6)) (.int 0)) .nil) (.var 10))
      [.v X, .v (.int m), .v (.int p), .own (TIs L), .v (.lst (TIs (rws F))), .own (F.map fun x => .int x.2), .v (.int k), s7, s8, s9, s10] M = .ok (.lst (((List.range L.length).filter fun i => decide (e_ (L.getD i []) k ≠ 0)).map fun i => .int (i : Nat))) M := fun sl => by
    simp [ev_comp, rng1_nat (show L.length ≤ 1000000000 by omega), Tg.put, Tg.slots, wipeE]
    rw [rangeL_0, cmpL_filt (w := fun i : Nat => .int i) (fun i => decide (e_ (L.getD i []) k ≠ 0)) (g := fun i : Nat => .int i) (List.range L.length) (fun i hi => ?_) (by simp; omega)]
    · simp
    · simp only [List.mem_range] at hi
      have e1 := atI_TIs hi
      have e2 := el _ (List.getElem_mem hi)
      simp only [TIs, IL] at e1 e2
      simp [e1, e2, hi]
      by_cases q : e_ L[i] k = 0 <;> simp [q]
  by_cases hz : ∀ r ∈ L, e_ r k = 0
  · have e0 : ((List.range L.length).filter fun i => decide (e_ (L.getD i []) k ≠ 0)) = [] := by
      rw [List.filter_eq_nil_iff]
      intro i hi
      simp only [List.mem_range] at hi
      have := hz _ (List.getElem_mem hi)
      simp [hi, this]
    refine ⟨[.v X, .v (.int m), .v (.int p), .own (TIs L), .v (.lst (TIs (rws F))), .own (F.map fun x => .int x.2), .v (.int k), .v (.lst []), s8, s9, s10], M, by simp [Tg.put], ?_, rfl, L, F, _, _, _, _, _, h.skip hz, hl, rfl⟩
    unfold redBody f_reduced
    simp only [exs_cons, ex_set]
    rw [c1 [], e0]
    simp
  · obtain ⟨i, is, ei⟩ : ∃ i is, ((List.range L.length).filter fun i => decide (e_ (L.getD i []) k ≠ 0)) = i :: is := by
      cases e : ((List.range L.length).filter fun i => decide (e_ (L.getD i []) k ≠ 0)) with
      | cons i is => exact ⟨i, is, rfl⟩
      | nil =>
        exfalso
        apply hz
        intro r hr
        obtain ⟨j, hj, rfl⟩ := List.mem_iff_getElem.1 hr
        have := List.filter_eq_nil_iff.1 e j (by simpa using hj)
        simpa [hj] using this
    have hi : i ∈ ((List.range L.length).filter fun i => decide (e_ (L.getD i []) k ≠ 0)) := by rw [ei]; exact List.mem_cons_self ..
    rw [List.mem_filter, List.mem_range, decide_eq_true_eq] at hi
    obtain ⟨hi1, hi2⟩ := hi
    have gi : L.getD i [] = L[i] := by simp [hi1]
    rw [gi] at hi2
    have vi := h.vl _ (List.getElem_mem hi1)
    obtain ⟨c, c0, c1', c2, c3⟩ := inverse_ok (n := n) (M := M) hf hb (vi.get hk) hi2
    have hstep := h.step hp hk (List.getElem?_eq_getElem hi1) c2
    have vh : Vc p m (vsc p c L[i]) := vc_vsc hp vi.1
    have ll : (L.eraseIdx i).length = L.length - 1 := List.length_eraseIdx_of_lt hi1
    refine ⟨[.v X, .v (.int m), .v (.int p), .own (TIs ((L.eraseIdx i).map fun s => vcl p s (vsc p c L[i]) k)), .v (.lst (TIs (rws ((F.map fun x => (vcl p x.1 (vsc p c L[i]) k, x.2)) ++ [(vsc p c L[i], k)])))), .own (((F.map fun x => (vcl p x.1 (vsc p c L[i]) k, x.2)) ++ [(vsc p c L[i], k)]).map fun x => .int x.2), .v (.int k), .v (.lst ((i :: is).map fun i => .int (i : Nat))), s8, .v (TI (vsc p c L[i])), s10], M, by simp [Tg.put], ?_, rfl, _, _, _, _, _, _, _, hstep, by simp [ll]; omega, rfl⟩
    unfold redBody f_reduced
    simp only [exs_cons, ex_set]
    rw [c1 [], ei]
    have e3 := fun (j i' : Nat) (ρ : Ev) (ne : j ≠ i') => popD_nat (xs := TIs L) (k := i) (j := j) (i := i') (ρ := ρ) (M := M) (by simpa using hi1) (by simp; omega) ne
    have e4 : (TIs L)[i]? = some (TI L[i]) := by simp [hi1]
    have e5 := el _ (List.getElem_mem hi1)
    have e6 : (TIs L).eraseIdx i = TIs (L.eraseIdx i) := map_erase ..
    have sc := scaled_ok (n := n) (M := M) (v := L[i]) (a := c) hp ⟨by omega, by omega⟩ (by rw [vi.1]; omega)
    have cl : ∀ s, Vc p m s → callN T.T (n + 1) i_cleared [TI s, TI (vsc p c L[i]), .int k, .int p] M = .ok (TI (vcl p s (vsc p c L[i]) k)) M := fun s vs => cleared_ok hp hb vs vh.1 (by omega) hk
    simp only [TIs, TI, IL] at e3 e4 e5 e6 sc cl
    have e3' := e3 9 3 [.v X, .v (.int m), .v (.int p), .own (TIs L), .v (.lst (TIs (rws F))), .own (F.map fun x => .int x.2), .v (.int k), .v (.lst ((i :: is).map fun i => .int (i : Nat))), s8, s9, s10] (by decide)
    simp only [TIs, TI, IL, List.map_cons] at e3'
    have c1 : ev (callN T.T (n + 1)) (.comp (.own 3) (.name 8) .nil (.call i_cleared (.cons (.var 8) (.cons (.var 9) (.cons (.var 6) (.cons (.var 2) .nil))))))
        [.v X, .v (.int m), .v (.int p), .own (TIs (L.eraseIdx i)), .v (.lst (TIs (rws F))), .own (F.map fun x => .int x.2), .v (.int k), .v (.lst ((i :: is).map fun i => .int (i : Nat))), s8, .v (TI (vsc p c L[i])), s10] M =
        .ok (.lst (TIs ((L.eraseIdx i).map fun s => vcl p s (vsc p c L[i]) k))) M := by
      simp [ev_comp, Tg.put, Tg.slots, wipeE]
      rw [cmpL_map (g := fun s => TI (vcl p s (vsc p c L[i]) k)) (L.eraseIdx i) (fun s hs => ?_) (by omega)]
      · simp [Function.comp_def]
      · rw [cl s (h.vl s ((List.eraseIdx_sublist ..).mem hs))]; simp
    have c2 : ∀ Y : D, ev (callN T.T (n + 1)) (.comp (.seq (.var 4)) (.name 8) .nil (.call i_cleared (.cons (.var 8) (.cons (.var 9) (.cons (.var 6) (.cons (.var 2) .nil))))))
        [.v X, .v (.int m), .v (.int p), .own (TIs ((L.eraseIdx i).map fun s => vcl p s (vsc p c L[i]) k)), .v (.lst (TIs (rws F))), .own (F.map fun x => .int x.2), .v (.int k), .v (.lst ((i :: is).map fun i => .int (i : Nat))), s8, .v (TI (vsc p c L[i])), s10] M =
        .ok (.lst (TIs ((rws F).map fun s => vcl p s (vsc p c L[i]) k))) M := fun _ => by
      simp [ev_comp, Tg.put, Tg.slots, wipeE, D.items]
      rw [cmpL_map (g := fun s => TI (vcl p s (vsc p c L[i]) k)) (rws F) (fun s hs => ?_) (by simp [rws]; omega)]
      · simp [Function.comp_def]
      · rw [cl s (h.rf.vcs s hs)]; simp
    have c3' := c2 .non
    simp only [TIs, TI, IL, List.map_cons] at c1 c3'
    simp [e3', e4, e5, c3, sc, hi1]
    rw [e6, c1]
    simp
    simp at c3'
    rw [c3']
    have q1 : F.length + 1 ≤ sizeLine := by omega
    have q2 : F.length < sizeLine := by omega
    have q3 : 1 ≤ sizeLine := by omega
    simp [Bop.run, rws, q1, q2, q3, Function.comp_def]

theorem reduced_ok {n m : Nat} {M : Mem} {R : List Row} {p : Int} {X : D} (hX : X.items = some (TIs R)) (hf : Fld p) (hb : p < 1000) (hR : R.length ≤ 1000) (hm : m ≤ 1000) (hv : Vcs p m R) :
    ∃ F, Rf p m F ∧ (∀ v, Sp p m (rws F) v ↔ Sp p m R v) ∧ F.length ≤ R.length ∧
      callN T.T (n + 2) i_reduced [X, .int m, .int p] M = .ok (.tup [.tup (TIs (rws F)), .tup (F.map fun x => .int x.2)]) M := by
  have hp := hf.pos
  have sz : sizeLine = 16777216 := rfl
  rw [run_reduced]
  have c1 : ev (callN T.T (n + 1)) (.comp (.seq (.var 0)) (.name 8) .nil (.bi .tuple (.var 8))) [.v X, .v (.int m), .v (.int p), .un, .un, .un, .un, .un, .un, .un, .un] M = .ok (.lst (TIs R)) M := by
    simp [ev_comp, Tg.put, Tg.slots, wipeE, hX]
    rw [cmpL_map (g := fun s => TI s) R (fun s hs => ?_) (by omega)]
    · simp
    · simp
  obtain ⟨ρ2, M2, e, ⟨rfl, L, F, s6, s7, s8, s9, s10, h1, h2, rfl⟩⟩ := forL_range (t := .name 6) (f := exs (callN T.T (n + 1)) redBody) (fun k ρ M' => RedS p m R X k ρ M' M) m
    [.v X, .v (.int m), .v (.int p), .own (TIs R), .v (.lst []), .own [], .un, .un, .un, .un, .un] M
    (fun k hk ρ M' h => red_col hf hb hR hm hk h) ⟨rfl, R, [], _, _, _, _, _, RI.start hv, by simp, rfl⟩
  obtain ⟨hF, hs⟩ := h1.done hp
  refine ⟨F, hF, hs, by omega, ?_⟩
  simp only [redBody, f_reduced] at e
  have q0 : 2 ≤ sizeLine := by omega
  simp [rng1_nat (show m ≤ 1000000000 by omega)]
  rw [c1]
  simp [rng1_nat (show m ≤ 1000000000 by omega)]
  rw [e]
  simp [q0]
end PC

namespace PC
open PySem L2
open Classical in
theorem run_eq_TI (v w : Row) : Cop.run .eq (TI v) (TI w) = some (decide (v = w)) := by
  show D.eqv? (TI v) (TI w) = _
  rw [eqv_fine 1 (by omega) (fine_TI 0 v) (fine_TI 0 w)]
  congr 1
  rw [Bool.eq_iff_iff, decide_eq_true_iff, decide_eq_true_iff, TI_inj]
open Classical in
theorem run_eq_LTIs (v w : List Row) : Cop.run .eq (.lst (TIs v)) (.lst (TIs w)) = some (decide (v = w)) := by
  show D.eqv? _ _ = _
  rw [eqv_fine 2 (by omega) (by simp only [D.fine]; exact fines_TIs 0 v) (by simp only [D.fine]; exact fines_TIs 0 w)]
  congr 1
  rw [Bool.eq_iff_iff, decide_eq_true_iff, decide_eq_true_iff]
  constructor
  · intro h; injection h with h; exact TIs_inj.1 h
  · rintro rfl; rfl
theorem run_ne_same {d : D} (k : Nat) (hk : k ≤ 64) (h : D.fine k d = true) : Cop.run .ne d d = some false := by
  show (D.eqv? d d).map _ = _
  rw [eqv_fine k hk h h]
  simp
open Classical in
theorem has_TIs (v : Row) (ws : List Row) : D.has? (TI v) (.lst (TIs ws)) = some (decide (v ∈ ws)) := by
  rw [has_fine 1 (by omega) (fine_TI 0 v) (fines_TIs 0 ws)]
  congr 1
  rw [Bool.eq_iff_iff, decide_eq_true_iff, decide_eq_true_iff]
  exact mem_TIs
theorem run_in_TIs (v : Row) (ws : List Row) : Cop.run .isin (TI v) (.lst (TIs ws)) = some (decide (v ∈ ws)) := has_TIs v ws
theorem run_notin_TIs (v : Row) (ws : List Row) : Cop.run .notin (TI v) (.lst (TIs ws)) = some (decide (v ∉ ws)) := by
  show (D.has? (TI v) (.lst (TIs ws))).map _ = _
  rw [has_TIs]; simp
theorem rep_zero (m : Nat) : rep (m : Int) [D.int 0] = IL (List.replicate m 0) := by
  unfold rep
  rw [Int.toNat_natCast]
  induction m with
  | zero => rfl
  | succ m ih => simp [List.replicate_succ, ih]
theorem bop_rep (m : Nat) (hm : m ≤ 1000) : Bop.run .mul (.tup [.int 0]) (.int m) = some (TI (List.replicate m 0)) := by
  have sz : sizeLine = 16777216 := rfl
  unfold Bop.run
  simp only
  rw [if_pos ⟨by omega, by omega, by simp; omega⟩, rep_zero]
theorem restF_app {p : Int} {a : List Hd} {x : Hd} {v : Row} : restF p (a ++ [x]) v = vcl p (restF p a v) x.1 x.2 := by simp [restF]
theorem run_eq_odd (k : Nat) (hk : k ≤ 64) {d : D} (h : D.fine k d = true) : Cop.run .eq d (.str "a word that nothing else is") = some false := by
  show D.eqv? d _ = _
  obtain ⟨q, h1, h2⟩ := fine_shaped hk h
  unfold D.eqv?
  rw [h1]
  have hs : SeqAt.shaped (.str "a word that nothing else is") = true := by decide +kernel
  simp only [D.py, h2, hs, Bool.and_self, if_true, Option.some.injEq]
  rcases fine_cases h with ⟨i, rfl⟩ | ⟨j, xs, rfl, hx, hd⟩
  · cases h1; simp [PyData.eqv]
  · obtain ⟨qs, e2, _, _⟩ := fines_py j xs hx
    rcases hd with rfl | rfl <;> simp only [D.py, e2, Option.some.injEq] at h1 <;> subst h1 <;> simp [PyData.eqv]
theorem odd_ok : ∀ (k n : Nat) (d : D) (M : Mem), k ≤ 64 → D.fine k d = true → callN T.T (n + k + 1) i__law_odd [d] M = .ok (.bl false) M
  | 0, n, d, M, _, h => by
    rcases fine_cases h with ⟨i, rfl⟩ | ⟨_, _, z, _⟩
    · rw [run__law_odd]
      have e := run_eq_odd 0 (by omega) h
      simp [e, Ty.any, Ty.is]
    · cases z
  | k + 1, n, d, M, hk, h => by
    rw [run__law_odd]
    have e := run_eq_odd (k + 1) hk h
    rcases fine_cases h with ⟨i, rfl⟩ | ⟨j, xs, z, hx, hd⟩
    · simp [e, Ty.any, Ty.is]
    · cases z
      have hi : ∀ x ∈ xs, callN T.T (n + (k + 1)) i__law_odd [x] M = .ok (.bl false) M := fun x hx' => odd_ok k n x M (by omega) (fines_iff.1 hx x hx')
      have key : ∀ (ys acc : List D) (f : D → Mem → Res (Option D)), (∀ y ∈ ys, f y M = .ok none M) → cmpL f ys acc M = .ok acc M := by
        intro ys acc f hy
        induction ys with
        | nil => rfl
        | cons y ys ih => rw [cmpL, hy y (List.mem_cons_self ..), Res.bind_ok]; exact ih fun z hz => hy z (List.mem_cons_of_mem _ hz)
      rcases hd with rfl | rfl
      · simp [e, Ty.any, Ty.is, ev_comp, D.items, Tg.put, Tg.slots, wipeE]
        rw [key _ _ _ fun y hy => ?_]
        · simp
        · rw [hi y hy]; simp
      · simp [e, Ty.any, Ty.is, ev_comp, D.items, Tg.put, Tg.slots, wipeE]
        rw [key _ _ _ fun y hy => ?_]
        · simp
        · rw [hi y hy]; simp
theorem honest_ok (k n : Nat) {d : D} {M : Mem} (hk : k ≤ 64) (h : D.fine k d = true) : callN T.T (n + k + 2) i__law_honest [d] M = .ok d M := by
  rw [run__law_honest]
  simp [odd_ok k n d M hk h]
def vadd (p : Int) (v w : Row) : Row := List.zipWith (fun x y => (x + y) % p) v w
theorem vadd_eq (p : Int) (v w : Row) : vadd p v w = axp p 1 v w := by
  unfold vadd axp; congr 1; funext x y; rw [Int.one_mul]
theorem lsum_ok {n m : Nat} {M : Mem} {p : Int} {v w : Row} (hp : 0 < p) (hm : m ≤ 1000) (hv : v.length = m) (hw : w.length = m) : callN T.T (n + 1) i__law_sum [TI v, TI w, .int p] M = .ok (TI (vadd p v w)) M := by
  have sz : sizeLine = 16777216 := rfl
  rw [run__law_sum]
  simp [ev_comp, Tg.put, Tg.slots, wipeE, rng1_nat (show v.length ≤ 1000000000 by omega)]
  rw [rangeL_0, cmpL_map (w := fun i : Nat => .int i) (g := fun i : Nat => .int ((e_ v i + e_ w i) % p)) (List.range v.length) (fun i hi => ?_) (by simp; omega)]
  · simp
    apply List.ext_getElem
    · simp [vadd, hv, hw]
    · intro i h1 h2
      simp at h1
      have : i < w.length := by omega
      simp [vadd, e_, h1, this]
  · simp at hi
    have e1 := atI_IL (v := v) (k := i) hi
    have e2 := atI_IL (v := w) (k := i) (by omega)
    simp only [IL] at e1 e2
    simp [e1, e2, bop_mod _ _ hp, e_]
theorem lzero_ok {n m : Nat} {M : Mem} (hm : m ≤ 1000) : callN T.T (n + 1) i__law_zero [.int m] M = .ok (TI (List.replicate m 0)) M := by
  have sz : sizeLine = 16777216 := rfl
  rw [run__law_zero]
  simp [ev_comp, Tg.put, Tg.slots, wipeE, rng1_nat (show m ≤ 1000000000 by omega)]
  rw [rangeL_0, cmpL_map (w := fun i : Nat => .int i) (g := fun i : Nat => .int 0) (List.range m) (fun i hi => by simp) (by simp; omega)]
  simp [List.map_const']
theorem elem_ok {n m : Nat} {M : Mem} {p : Int} (hp : 0 < p) (hb : p < 1000) (hm : m ≤ 1000) (hs : Stt M) : ∃ v M', callN T.T (n + 2) i__law_element [.cell 0, .int p, .int m] M = .ok (TI v) M' ∧ Stt M' ∧ Vc p m v := by
  have sz : sizeLine = 16777216 := rfl
  rw [run__law_element]
  simp [ev_comp, Tg.put, Tg.slots, wipeE, rng1_nat (show m ≤ 1000000000 by omega)]
  obtain ⟨ys, M', h1, h2, h3, h4⟩ := cmpL_inv (I := Stt) (Q := fun y => ∃ x : Int, y = .int x ∧ 0 ≤ x ∧ x < p) (f := fun d M2 => ((callN T.T (n + 1) i__law_take [.cell 0, .int p] M2).bind fun y M4 => Res.ok (some y) M4)) (rangeL 0 m) [] M (fun d _ M2 hM => by
    obtain ⟨x, M3, e1, e2, e3, e4⟩ := take_ok (n := n) hM hp (by omega)
    exact ⟨.int x, M3, by simp [e1], e2, x, rfl, e3, e4⟩) (by rw [rangeL_0]; simp; omega) hs
  obtain ⟨v, rfl, hv⟩ : ∃ v : List Int, ys = v.map .int ∧ ∀ x ∈ v, 0 ≤ x ∧ x < p := by
    clear h1 h3
    induction ys with
    | nil => exact ⟨[], rfl, fun _ h => nomatch h⟩
    | cons y ys ih =>
      obtain ⟨x, rfl, hx⟩ := h4 y (List.mem_cons_self ..)
      obtain ⟨v, rfl, hv⟩ := ih fun z hz => h4 z (List.mem_cons_of_mem _ hz)
      exact ⟨x :: v, rfl, fun z hz => (List.mem_cons.1 hz).elim (fun e => e ▸ hx) (hv z)⟩
  refine ⟨v, M', ?_, h2, ?_, hv⟩
  · rw [h1]; simp
  · rw [rangeL_0] at h3; simpa using h3
end PC

namespace PC
open PySem L2
theorem vadd_vsc {p a : Int} {w r : Row} {m : Nat} (hw : w.length = m) (hr : r.length = m) : vadd p w (vsc p a r) = axp p a w r := by
  apply List.ext_getElem
  · simp [vadd, vsc, axp, hw, hr]
  · intro i h1 h2
    simp [vadd, vsc, axp]
    rw [Int.mul_comm a]
theorem ints_IL : ∀ v : List Int, D.ints (IL v) = some v
  | [] => rfl
  | x :: v => by
    have := ints_IL v
    simp only [IL, List.map_cons, D.ints] at this ⊢
    rw [this]; rfl
theorem rows_TIs : ∀ vs : List Row, D.rows (TIs vs) = some vs
  | [] => rfl
  | v :: vs => by
    have := rows_TIs vs
    have h := ints_IL v
    simp only [TIs, TI, IL, List.map_cons, D.rows] at this h ⊢
    rw [this, h]
theorem spanF_app {p : Int} {n : Nat} {a : List Row} {row : Row} : spanF p n (a ++ [row]) = if row ∈ spanF p n a then spanF p n a else (spanF p n a).flatMap fun w => (List.range p.toNat).map fun (k : Nat) => axp p k w row := by
  unfold spanF; rw [List.foldl_append]; rfl
theorem sorted_ok {p : Int} {m : Nat} (hf : Fld p) {R : List Row} (h : Vcs p m R) (hl : (spanF p m R).length ≤ 1000) : Bi.run .sorted (.lst (TIs (spanF p m R))) = some (.lst (TIs (isort D.ltI (spanF p m R)))) := by
  have sz : sizeLine = 16777216 := rfl
  have hp := hf.pos
  unfold Bi.run
  simp only
  rw [rows_TIs]
  simp only
  rw [if_pos]
  refine ⟨by simp; omega, ?_⟩
  have len : ∀ v ∈ spanF p m R, v.length = m := fun v hv => (((mem_spanF hf h v).1 hv).vc hp h).1
  by_cases hm : m = 0
  · left
    subst hm
    have nd := (nodup_spanF hf h).1
    cases e : spanF p 0 R with
    | nil => simp
    | cons a l => cases l with
      | nil => simp
      | cons b l =>
        exfalso
        rw [e] at nd len
        have h1 := len a (by simp)
        have h2 := len b (by simp)
        rw [List.length_eq_zero_iff] at h1 h2
        subst h1 h2
        simp at nd
  · right
    rw [List.all_eq_true]
    intro v hv
    have := len v hv
    cases v with
    | nil => exact (hm this.symm).elim
    | cons _ _ => rfl
theorem lspan_ok {n m : Nat} {M : Mem} {p : Int} {R : List Row} {X : D} (hX : X.items = some (TIs R)) (hf : Fld p) (hb : p < 1000) (hm : m ≤ 1000) (hv : Vcs p m R) (hs : p.toNat ^ R.length ≤ 1000) :
    callN T.T (n + 2) i__law_span [X, .int m, .int p] M = .ok (.lst (TIs (isort D.ltI (spanF p m R)))) M := by
  have sz : sizeLine = 16777216 := rfl
  have hp := hf.pos
  rw [run__law_span]
  obtain ⟨ρ2, M2, e, ⟨s4, s5, s6, s7, i1, i2⟩⟩ := forL_inv (t := .name 4) (f := exs (callN T.T (n + 1)) (.cons (.ite (.cmp .notin (.var 4) (.var 3)) (.cons (.set 5 (.lst .nil))
      (.cons (.for_ (.seq (.var 3)) (.name 6) (.cons (.set 5 (.bin .add (.var 5) (.comp (.range1 (.var 2)) (.name 7) .nil (.call i__law_sum (.cons (.var 6) (.cons (.call i__law_scaled (.cons (.var 4) (.cons (.var 7) (.cons (.var 2) .nil)))) (.cons (.var 2) .nil)))))))
      .nil))
      (.cons (.set 3 (.bi .list (.var 5)))
      .nil))) .nil)
      .nil)) TI (fun done ρ M' => ∃ s4 s5 s6 s7, ρ = [.v X, .v (.int m), .v (.int p), .v (.lst (TIs (spanF p m done))), s4, s5, s6, s7] ∧ M' = M) R []
    [.v X, .v (.int m), .v (.int p), .v (.lst (TIs [List.replicate m 0])), .un, .un, .un, .un] M (fun a b ρ M' row eR q => by
      obtain ⟨s4, s5, s6, s7, rfl, rfl⟩ := q
      rw [List.nil_append] at *
      have ha : Vcs p m a := fun r hr => hv r (by rw [eR]; simp [hr])
      have hrow : Vc p m row := hv row (by rw [eR]; simp)
      have la : (spanF p m a).length ≤ 1000 := by
        refine Nat.le_trans (nodup_spanF hf ha).2 (Nat.le_trans (Nat.pow_le_pow_right (by omega) ?_) hs)
        rw [eR]; simp
      have len : ∀ v ∈ spanF p m a, v.length = m := fun v hv => (((mem_spanF hf ha v).1 hv).vc hp ha).1
      have hn := run_notin_TIs row (spanF p m a)
      rw [spanF_app]
      by_cases hin : row ∈ spanF p m a
      · refine ⟨_, _, _, rfl, ?_, .v (TI row), s5, s6, s7, rfl, rfl⟩
        simp only [exs_cons, ex_ite, evT_def, ev_cmp, ev_var, List.set_cons_zero, List.set_cons_succ, slotV_s, slotV_0, Res.of_some, Res.bind_ok, hn, if_pos hin, Option.map_some, truth_bl, Res.out_ok]
        simp [hin]
      · obtain ⟨ρ3, M3, e3, ⟨t6, t7, j1, j2⟩⟩ := forL_inv (t := .name 6) (f := exs (callN T.T (n + 1)) (.cons (.set 5 (.bin .add (.var 5) (.comp (.range1 (.var 2)) (.name 7) .nil (.call i__law_sum (.cons (.var 6) (.cons (.call i__law_scaled (.cons (.var 4) (.cons (.var 7) (.cons (.var 2) .nil)))) (.cons (.var 2) .nil)))))))
            .nil)) TI (fun dn ρ M2 => ∃ s6 s7, ρ = [.v X, .v (.int m), .v (.int p), .v (.lst (TIs (spanF p m a))), .v (TI row), .v (.lst (TIs (dn.flatMap fun w => (List.range p.toNat).map fun (k : Nat) => axp p k w row))), s6, s7] ∧ M2 = M')
            (spanF p m a) [] [.v X, .v (.int m), .v (.int p), .v (.lst (TIs (spanF p m a))), .v (TI row), .v (.lst []), s6, s7] M' (fun c d ρ M2 word eW q => by
              obtain ⟨s6, s7, rfl, rfl⟩ := q
              rw [List.nil_append] at *
              have lw := len word (by rw [eW]; simp)
              have lc : c.length + 1 ≤ 1000 := by
                have := congrArg List.length eW
                simp at this; omega
              refine ⟨_, _, _, rfl, ?_, .v (TI word), s7, rfl, rfl⟩
              have c1 : ev (callN T.T (n + 1)) (.comp (.range1 (.var 2)) (.name 7) .nil (.call i__law_sum (.cons (.var 6) (.cons (.call i__law_scaled (.cons (.var 4) (.cons (.var 7) (.cons (.var 2) .nil)))) (.cons (.var 2) .nil)))))
                  [.v X, .v (.int m), .v (.int p), .v (.lst (TIs (spanF p m a))), .v (TI row), .v (.lst (TIs (c.flatMap fun w => (List.range p.toNat).map fun (k : Nat) => axp p k w row))), .v (TI word), s7] M2 =
                  .ok (.lst (TIs ((List.range p.toNat).map fun (k : Nat) => axp p k word row))) M2 := by
                simp [ev_comp, Tg.put, Tg.slots, wipeE, rng1_int (show -1000000000 ≤ p ∧ p ≤ 1000000000 by omega)]
                rw [rangeL_0, cmpL_map (w := fun i : Nat => .int i) (g := fun k : Nat => TI (axp p k word row)) (List.range p.toNat) (fun k hk => ?_) (by simp; omega)]
                · simp [Function.comp_def]
                · simp at hk
                  rw [lscaled_ok (n := n) (v := row) (a := (k : Int)) hp ⟨by omega, by omega⟩ (by rw [hrow.1]; omega)]
                  simp only [Res.bind_ok]
                  rw [lsum_ok (n := n) hp hm lw (by rw [(vc_vsc (n := m) hp hrow.1).1])]
                  rw [vadd_vsc lw hrow.1]
                  simp
              have sz2 : (c.flatMap fun w => (List.range p.toNat).map fun (k : Nat) => axp p k w row).length + p.toNat ≤ sizeLine := by
                simp only [List.length_flatMap, List.length_map, List.length_range, List.map_const', List.sum_replicate_nat]
                have : c.length * p.toNat ≤ 1000 * 1000 := Nat.mul_le_mul (by omega) (by omega)
                omega
              simp only [exs_cons, ex_set, ev_bin, ev_var, slotV_s, slotV_0, Res.of_some, Res.bind_ok, List.set_cons_zero, List.set_cons_succ]
              rw [c1]
              have ba : Bop.run .add (.lst (TIs (c.flatMap fun w => (List.range p.toNat).map fun (k : Nat) => axp p k w row))) (.lst (TIs ((List.range p.toNat).map fun (k : Nat) => axp p k word row))) = some (.lst (TIs ((c ++ [word]).flatMap fun w => (List.range p.toNat).map fun (k : Nat) => axp p k w row))) := by
                unfold Bop.run
                simp only
                rw [if_pos (by simpa [TIs] using sz2)]
                simp [TIs]
              simp only [Res.bind_ok, ba, Res.of_some, Res.out_ok, Out.then_nx, exs_nil, List.set_cons_zero, List.set_cons_succ]) ⟨s6, s7, rfl, rfl⟩
        refine ⟨_, _, _, rfl, ?_, .v (TI row), .v (.lst (TIs ((spanF p m a).flatMap fun w => (List.range p.toNat).map fun (k : Nat) => axp p k w row))), t6, t7, rfl, rfl⟩
        rw [if_neg hin]
        rw [List.nil_append] at j1
        subst j1 j2
        simp [hn, hin, D.items]
        rw [e3]
        simp) ⟨.un, .un, .un, .un, rfl, rfl⟩
  rw [List.nil_append] at i1
  subst i1 i2
  have q1 : 1 ≤ sizeLine := by omega
  have hl : (spanF p m R).length ≤ 1000 := Nat.le_trans (nodup_spanF hf hv).2 hs
  simp only [exs_cons, ex_set, ev_lst, evs_cons, evs_nil, ev_call, ev_var, slotV_s, slotV_0, Res.of_some, Res.bind_ok, lzero_ok (n := n) hm, List.length_cons, List.length_nil, if_pos q1, Res.out_ok, Out.then_nx, List.set_cons_zero, List.set_cons_succ, ex_for, evI_seq, hX]
  simp only [TIs, List.map_cons, List.map_nil] at e ⊢
  simp [q1]
  rw [e]
  simp [sorted_ok hf hv hl]
end PC

namespace PC
open PySem L2
theorem cmpL_none {f : D → Mem → Res (Option D)} {M : Mem} : ∀ (ys acc : List D), (∀ y ∈ ys, f y M = .ok none M) → cmpL f ys acc M = .ok acc M
  | [], acc, _ => rfl
  | y :: ys, acc, hy => by rw [cmpL, hy y (List.mem_cons_self ..), Res.bind_ok]; exact cmpL_none ys acc fun z hz => hy z (List.mem_cons_of_mem _ hz)
theorem prime_ok {n : Nat} {M : Mem} (hs : Stt M) : ∃ p M', callN T.T (n + 2) i__law_prime [.cell 0] M = .ok (.int p) M' ∧ Stt M' ∧ (p = 2 ∨ p = 3 ∨ p = 5 ∨ p = 7 ∨ p = 31) := by
  have sz : 7 ≤ sizeLine := by decide
  obtain ⟨x, M', e1, e2, e3, e4⟩ := take_ok (n := n) hs (show (0 : Int) < 7 by omega) (by omega)
  rw [run__law_prime]
  simp [sz, e1]
  have : x = 0 ∨ x = 1 ∨ x = 2 ∨ x = 3 ∨ x = 4 ∨ x = 5 ∨ x = 6 := by omega
  rcases this with rfl | rfl | rfl | rfl | rfl | rfl | rfl
  · exact ⟨2, M', rfl, e2, by omega⟩
  · exact ⟨2, M', rfl, e2, by omega⟩
  · exact ⟨3, M', rfl, e2, by omega⟩
  · exact ⟨3, M', rfl, e2, by omega⟩
  · exact ⟨5, M', rfl, e2, by omega⟩
  · exact ⟨7, M', rfl, e2, by omega⟩
  · exact ⟨31, M', rfl, e2, by omega⟩
theorem state_ok {n : Nat} (ns : List Int) : ∃ M', callN T.T (n + 1) i__law_state [.frz (IL ns)] [] = .ok (.cell 0) M' ∧ Stt M' := by
  rw [run__law_state]
  have sz : 2 ≤ sizeLine := by decide
  obtain ⟨ks, hk⟩ : ∃ ks, D.slice (.frz (IL ns)) none (some 63) = some (.lst (IL ks)) := by
    refine ⟨cutD ns none (some 63), ?_⟩
    simp [D.slice, cutD, List.map_drop, List.map_take]
  obtain ⟨ρ2, M2, e, ⟨s, t, s3, i1, i2⟩⟩ := forL_inv (t := .name 3) (f := exs (callN T.T n) (.cons (.set 1 (.bin .add (.bin .mul (.var 1) (.int 1000003)) (.bi .abs (.var 3))))
  (.cons (.set 2 (.bin .mod (.bi .int (.bin .add (.bin .mul (.var 2) (.int 48271)) (.var 3))) (.int 2147483647)))
  .nil))) D.int (fun done ρ M' => ∃ (s t : Int) (s3 : Slot), ρ = [.v (.frz (IL ns)), .v (.int s), .v (.int t), s3] ∧ M' = []) ks [] [.v (.frz (IL ns)), .v (.int 0), .v (.int 1), .un] []
    (fun a b ρ M' x eR q => by
      obtain ⟨s, t, s3, rfl, rfl⟩ := q
      refine ⟨_, _, _, rfl, ?_, s * 1000003 + (if x < 0 then -x else x), (t * 48271 + x) % 2147483647, .v (.int x), rfl, rfl⟩
      simp [bop_mul, mulOk_r, bop_mod]) ⟨0, 1, .un, rfl, rfl⟩
  subst i1 i2
  simp only [IL] at e hk
  simp [hk, D.items, e, sz]
  by_cases h : t = 1973665155
  · simp [h, sz]; exact ⟨_, _, rfl⟩
  · simp [h, sz]; exact ⟨_, _, rfl⟩
theorem fine_rows (F : List Hd) : D.fine 2 (.tup (TIs (rws F))) = true := by
  simp only [D.fine]; exact fines_TIs 0 _
theorem span_ok {n m : Nat} {M : Mem} {p : Int} {X : D} {F : List Hd} (e : callN T.T (n + 2) i_reduced [X, .int m, .int p] M = .ok (.tup [.tup (TIs (rws F)), .tup (F.map fun x => .int x.2)]) M) :
    callN T.T (n + 3) i_span [X, .int m, .int p] M = .ok (.tup (TIs (rws F))) M := by
  rw [run_span]; simp [e]
theorem lall_ok {n k : Nat} {M : Mem} {p : Int} (hp : 0 < p) (hb : p < 1000) (hk : k ≤ 1000) (hs : p.toNat ^ k ≤ 1000) : callN T.T (n + 1) i__law_all [.int k, .int p] M = .ok (.lst (TIs (allW p k))) M := by
  have sz : sizeLine = 16777216 := rfl
  rw [run__law_all]
  obtain ⟨ρ2, M2, e, ⟨rfl, s3, s4, s5, s6, i1⟩⟩ := forL_range (t := .name 3) (f := exs (callN T.T n) (.cons (.set 4 (.lst .nil))
      (.cons (.for_ (.seq (.var 2)) (.name 5) (.cons (.set 4 (.bin .add (.var 4) (.comp (.range1 (.var 1)) (.name 6) .nil (.bin .add (.var 5) (.tup (.cons (.var 6) .nil))))))
      .nil))
      (.cons (.set 2 (.bi .list (.var 4)))
      .nil)))) (fun j ρ M' => M' = M ∧ ∃ s3 s4 s5 s6, ρ = [.v (.int k), .v (.int p), .v (.lst (TIs (allW p j))), s3, s4, s5, s6]) k
    [.v (.int k), .v (.int p), .v (.lst (TIs [[]])), .un, .un, .un, .un] M (fun j hj ρ M' h => by
      obtain ⟨rfl, s3, s4, s5, s6, rfl⟩ := h
      have la : (allW p j).length ≤ 1000 := by
        rw [len_allW]; exact Nat.le_trans (Nat.pow_le_pow_right (by omega) (by omega)) hs
      obtain ⟨ρ3, M3, e3, ⟨rfl, t5, t6, j1⟩⟩ := forL_inv (t := .name 5) (f := exs (callN T.T n) (.cons (.set 4 (.bin .add (.var 4) (.comp (.range1 (.var 1)) (.name 6) .nil (.bin .add (.var 5) (.tup (.cons (.var 6) .nil)))))) .nil)) TI
        (fun dn ρ M2 => M2 = M' ∧ ∃ s5 s6, ρ = [.v (.int k), .v (.int p), .v (.lst (TIs (allW p j))), .v (.int j), .v (.lst (TIs (dn.flatMap fun w => (List.range p.toNat).map fun (a : Nat) => w ++ [(a : Int)]))), s5, s6]) (allW p j) []
        [.v (.int k), .v (.int p), .v (.lst (TIs (allW p j))), .v (.int j), .v (.lst []), s5, s6] M' (fun c d ρ M2 word eW q => by
          obtain ⟨rfl, s5, s6, rfl⟩ := q
          rw [List.nil_append] at *
          have lw := ((mem_allW hp j word).1 (by rw [eW]; simp)).1
          have lc : c.length + 1 ≤ 1000 := by
            have := congrArg List.length eW
            simp at this; omega
          refine ⟨_, _, _, rfl, ?_, rfl, .v (TI word), s6, rfl⟩
          have c1 : ev (callN T.T n) (.comp (.range1 (.var 1)) (.name 6) .nil (.bin .add (.var 5) (.tup (.cons (.var 6) .nil))))
              [.v (.int k), .v (.int p), .v (.lst (TIs (allW p j))), .v (.int j), .v (.lst (TIs (c.flatMap fun w => (List.range p.toNat).map fun (a : Nat) => w ++ [(a : Int)]))), .v (TI word), s6] M2 =
              .ok (.lst (TIs ((List.range p.toNat).map fun (a : Nat) => word ++ [(a : Int)]))) M2 := by
            simp only [ev_comp, evI_range1, ev_var, slotV_s, slotV_0, Res.of_some, Res.bind_ok, rng1_int (show -1000000000 ≤ p ∧ p ≤ 1000000000 by omega), Tg.put, Tg.slots, wipeE, List.set_cons_zero, List.set_cons_succ, tst_nil, if_true]
            rw [rangeL_0, cmpL_map (w := fun i : Nat => .int i) (g := fun a : Nat => TI (word ++ [(a : Int)])) (List.range p.toNat) (fun a ha => ?_) (by simp; omega)]
            · simp [Function.comp_def]
            · have q1 : (0 + 1 : Nat) ≤ sizeLine := by omega
              have ba : Bop.run .add (TI word) (.tup [.int a]) = some (TI (word ++ [(a : Int)])) := by
                unfold Bop.run
                simp only [List.length_map, List.length_cons, List.length_nil]
                rw [if_pos (by omega)]; simp
              simp only [ev_bin, ev_var, ev_tup, evs_cons, evs_nil, slotV_s, slotV_0, Res.of_some, Res.bind_ok, List.length_cons, List.length_nil, if_pos q1, ba]
          have sz2 : (c.flatMap fun w => (List.range p.toNat).map fun (a : Nat) => w ++ [(a : Int)]).length + p.toNat ≤ sizeLine := by
            simp only [List.length_flatMap, List.length_map, List.length_range, List.map_const', List.sum_replicate_nat]
            have : c.length * p.toNat ≤ 1000 * 1000 := Nat.mul_le_mul (by omega) (by omega)
            omega
          have ba : Bop.run .add (.lst (TIs (c.flatMap fun w => (List.range p.toNat).map fun (a : Nat) => w ++ [(a : Int)]))) (.lst (TIs ((List.range p.toNat).map fun (a : Nat) => word ++ [(a : Int)]))) = some (.lst (TIs ((c ++ [word]).flatMap fun w => (List.range p.toNat).map fun (a : Nat) => w ++ [(a : Int)]))) := by
            unfold Bop.run
            simp only
            rw [if_pos (by simpa [TIs] using sz2)]
            simp [TIs]
          simp only [exs_cons, exs_nil, ex_set, ev_bin, ev_var, slotV_s, slotV_0, Res.of_some, Res.bind_ok, List.set_cons_zero, List.set_cons_succ, c1, ba, Res.out_ok, Out.then_nx]) ⟨rfl, s5, s6, rfl⟩
      rw [List.nil_append] at j1
      subst j1
      refine ⟨_, _, _, rfl, ?_, rfl, .v (.int j), .v (.lst (TIs (allW p (j + 1)))), t5, t6, rfl⟩
      simp only [exs_cons, exs_nil, ex_set, ev_lst, evs_nil, Res.bind_ok, List.length_nil, if_pos (Nat.zero_le _), Res.out_ok, Out.then_nx, List.set_cons_zero, List.set_cons_succ, ex_for, evI_seq, ev_var, slotV_s, slotV_0, Res.of_some, D.items]
      rw [e3]
      simp only [Out.then_nx, ev_bi, ev_var, slotV_s, slotV_0, Res.of_some, Res.bind_ok, lenM_lst, bir_lstl, Res.out_ok, List.set_cons_zero, List.set_cons_succ]
      rfl) ⟨rfl, _, _, _, _, rfl⟩
  subst i1
  have q0 : (0 : Nat) ≤ sizeLine := Nat.zero_le _
  have q1 : (0 + 1 : Nat) ≤ sizeLine := by omega
  simp only [exs_cons, exs_nil, ex_set, ev_lst, ev_tup, evs_nil, evs_cons, Res.bind_ok, List.length_nil, List.length_cons, if_pos q0, if_pos q1, Res.out_ok, Out.then_nx, List.set_cons_zero, List.set_cons_succ, ex_for, evI_range1, ev_var, slotV_s, slotV_0, Res.of_some, rng1_nat (show k ≤ 1000000000 by omega)]
  have ee : TIs [[]] = [D.tup []] := rfl
  rw [ee] at e
  rw [e]
  simp
def totK (p : Int) (n : Nat) (R : List Row) (w : Row) (k : Nat) : Row := comb p n ((List.range k).map fun i => (e_ w i, R.getD i []))
theorem totK_s {p : Int} {n k : Nat} {R : List Row} {w : Row} : totK p n R w (k + 1) = axp p (e_ w k) (totK p n R w k) (R.getD k []) := by
  simp [totK, comb, List.range_succ]
theorem totK_ok {p : Int} {n : Nat} (hp : 0 < p) {R : List Row} (hv : Vcs p n R) {w : Row} {k : Nat} (hk : k ≤ R.length) : Vc p n (totK p n R w k) ∧ ∀ j, j < n → e_ (totK p n R w k) j = sm k (fun i => e_ w i * e_ (R.getD i []) j) % p := by
  obtain ⟨h1, h2, _⟩ := comb_go (R := R) (n := n) hp ((List.range k).map fun i => (e_ w i, R.getD i [])) (List.replicate n 0) (fun x hx => by
    obtain ⟨i, hi, rfl⟩ := List.mem_map.1 hx
    have : i < R.length := by have := List.mem_range.1 hi; omega
    simp only [List.getD_eq_getElem?_getD, List.getElem?_eq_getElem this, Option.getD_some]
    exact hv _ (List.getElem_mem this)) (vc_zero hp)
  refine ⟨h1, fun j hj => ?_⟩
  unfold totK comb
  rw [h2 j hj, e_zero, Int.zero_add, List.map_map, ← sm_sum]
  rfl
theorem ltotal_ok {n m : Nat} {M : Mem} {p : Int} {R : List Row} {w : Row} (hp : 0 < p) (hb : p < 1000) (hm : m ≤ 1000) (hR : R.length ≤ 1000) (hv : Vcs p m R) (hw : Vc p R.length w) :
    callN T.T (n + 2) i__law_total [.int p, .lst (TIs R), TI w, .int m] M = .ok (TI (totK p m R w R.length)) M := by
  have sz : sizeLine = 16777216 := rfl
  rw [run__law_total]
  obtain ⟨ρ2, M2, e, ⟨rfl, s5, i1⟩⟩ := forL_range (t := .name 5) (f := exs (callN T.T (n + 1)) (.cons (.set 4 (.call i__law_sum (.cons (.var 4) (.cons (.call i__law_scaled (.cons (.sub (.var 1) (.var 5)) (.cons (.sub (.var 2) (.var 5)) (.cons (.var 0) .nil)))) (.cons (.var 0) .nil)))))
      .nil)) (fun k ρ M' => M' = M ∧ ∃ s5, ρ = [.v (.int p), .v (.lst (TIs R)), .v (TI w), .v (.int m), .v (TI (totK p m R w k)), s5]) R.length
    [.v (.int p), .v (.lst (TIs R)), .v (TI w), .v (.int m), .v (TI (List.replicate m 0)), .un] M (fun k hk ρ M' h => by
      obtain ⟨rfl, s5, rfl⟩ := h
      refine ⟨_, _, _, rfl, ?_, rfl, .v (.int k), rfl⟩
      have e1 := atI_TIs hk
      have e2 := atI_IL (v := w) (k := k) (by rw [hw.1]; exact hk)
      have vr := hv _ (List.getElem_mem hk)
      have b := hw.get hk
      have t1 := (totK_ok (w := w) hp hv (Nat.le_of_lt hk)).1
      have e3 := lscaled_ok (n := n) (M := M') (v := R[k]) (a := e_ w k) hp ⟨by omega, by omega⟩ (by rw [vr.1]; omega)
      have e4 := lsum_ok (n := n) (M := M') (v := totK p m R w k) (w := vsc p (e_ w k) R[k]) hp hm t1.1 (vc_vsc (n := m) hp vr.1).1
      rw [vadd_vsc t1.1 vr.1] at e4
      have eg : R.getD k [] = R[k] := by simp [hk]
      rw [totK_s, eg]
      simp only [exs_cons, exs_nil, ex_set, ev_call, evs_cons, evs_nil, ev_sub, ev_var, slotV_s, slotV_0, Res.of_some, Res.bind_ok, subM_lst', subM_tup', e1, e2, List.set_cons_zero, List.set_cons_succ]
      unfold e_ at e3 e4
      rw [e3]
      simp only [Res.bind_ok]
      rw [e4]
      rfl) ⟨rfl, .un, by simp [totK, comb]⟩
  subst i1
  have e0 := lzero_ok (n := n) (M := M2) hm
  simp only [exs_cons, exs_nil, ex_set, ev_call, evs_cons, evs_nil, ev_var, slotV_s, slotV_0, Res.of_some, Res.bind_ok, e0, Res.out_ok, Out.then_nx, List.set_cons_zero, List.set_cons_succ, ex_for, evI_range1, ev_bi, lenM_lst, bir_len_lst, List.length_map, rng1_nat (show R.length ≤ 1000000000 by omega)]
  rw [e]
  simp
end PC

namespace PC
open PySem L2
section
variable {p : Int} {n m k : Nat} {R A B : List Row}
theorem tot_sp (hp : 0 < p) (hv : Vcs p m R) {w : Row} {k : Nat} (hk : k ≤ R.length) : Sp p m R (totK p m R w k) := by
  have hm : ∀ x ∈ (List.range k).map (fun i => (e_ w i, R.getD i [])), x.2 ∈ R := fun x hx => by
    obtain ⟨i, hi, rfl⟩ := List.mem_map.1 hx
    have : i < R.length := by have := List.mem_range.1 hi; omega
    simp [this]
  exact (comb_go (R := R) hp _ (List.replicate m 0) (fun x hx => hv _ (hm x hx)) (vc_zero hp)).2.2 .zero hm
/-- a row times a table -/
def mv (p : Int) (n : Nat) (B : List Row) (w : Row) : Row := totK p n B w B.length
theorem mv_vc (hp : 0 < p) (hB : Vcs p n B) (w : Row) : Vc p n (mv p n B w) := (totK_ok hp hB (Nat.le_refl _)).1
theorem e_mv (hp : 0 < p) (hB : Vcs p n B) (w : Row) {j : Nat} (hj : j < n) : e_ (mv p n B w) j = sm B.length (fun i => e_ w i * e_ (B.getD i []) j) % p := (totK_ok hp hB (Nat.le_refl _)).2 j hj
theorem mv_axp (hp : 0 < p) (hB : Vcs p n B) {a : Int} {v w : Row} (hv : v.length = B.length) (hw : w.length = B.length) : mv p n B (axp p a v w) = axp p a (mv p n B v) (mv p n B w) := by
  have h1 := mv_vc hp hB v
  have h2 := mv_vc hp hB w
  refine (mv_vc hp hB _).ext (vc_axp hp h1.1 h2.1) fun j hj => ?_
  rw [e_mv hp hB _ hj, e_axp h1.1 h2.1 hj, e_mv hp hB _ hj, e_mv hp hB _ hj]
  have e1 : sm B.length (fun i => e_ (axp p a v w) i * e_ (B.getD i []) j) % p = sm B.length (fun i => e_ v i * e_ (B.getD i []) j + a * (e_ w i * e_ (B.getD i []) j)) % p := sm_mod _ fun i hi => by
    rw [e_axp hv hw hi, ← Int.mul_assoc, ← Int.add_mul, Int.mul_emod, Int.emod_emod_of_dvd _ (Int.dvd_refl p), ← Int.mul_emod]
  rw [e1, sm_add, sm_mul, Int.add_emod, Int.mul_emod]
  simp only [Int.emod_emod_of_dvd _ (Int.dvd_refl p), Int.add_emod, Int.mul_emod]
theorem mv_zero (hp : 0 < p) (hB : Vcs p n B) (k : Nat) : mv p n B (List.replicate k 0) = List.replicate n 0 := by
  refine (mv_vc hp hB _).ext (vc_zero hp) fun j hj => ?_
  rw [e_mv hp hB _ hj, e_zero, sm_zero]
  · simp
  · intro i _; rw [e_zero, Int.zero_mul]
theorem unit_len (n k : Nat) : (unitR n k).length = n := by simp [unitR]
theorem unit_vc (hp : 1 < p) (n k : Nat) : Vc p n (unitR n k) := vc_of (unit_len n k) fun i hi => by
  rw [e_unit hi]; split <;> omega
theorem mv_unit (hp : 0 < p) (hB : Vcs p n B) {k : Nat} (hk : k < B.length) : mv p n B (unitR B.length k) = B.getD k [] := by
  have hr : Vc p n (B.getD k []) := by
    rw [show B.getD k [] = B[k] by simp [hk]]; exact hB _ (List.getElem_mem hk)
  refine (mv_vc hp hB _).ext hr fun j hj => ?_
  rw [e_mv hp hB _ hj, sm_one _ hk fun i hi ne => by rw [e_unit hi, if_neg ne, Int.zero_mul], e_unit hk, if_pos rfl, Int.one_mul, hr.emod hj]
def units (n : Nat) : List Row := (List.range n).map (unitR n)
theorem units_len (n : Nat) : (units n).length = n := by simp [units]
theorem units_get {n k : Nat} (hk : k < n) : (units n).getD k [] = unitR n k := by simp [units, hk]
theorem units_vcs (hp : 1 < p) (n : Nat) : Vcs p n (units n) := fun r hr => by
  obtain ⟨i, _, rfl⟩ := List.mem_map.1 hr
  exact unit_vc hp n i
theorem mv_units (hp : 1 < p) {v : Row} (hv : Vc p n v) : mv p n (units n) v = v := by
  have p0 : 0 < p := by omega
  refine (mv_vc p0 (units_vcs hp n) _).ext hv fun j hj => ?_
  rw [e_mv p0 (units_vcs hp n) _ hj, units_len, sm_one _ hj fun i hi ne => by rw [units_get hi, e_unit hj, if_neg (fun h => ne h.symm), Int.mul_zero], units_get hj, e_unit hj, if_pos rfl, Int.mul_one, hv.emod hj]
theorem sp_units (hp : 1 < p) {v : Row} (hv : Vc p n v) : Sp p n (units n) v := by
  have h := tot_sp (w := v) (k := (units n).length) (by omega : 0 < p) (units_vcs hp n) (Nat.le_refl _)
  have e : totK p n (units n) v (units n).length = v := mv_units hp hv
  rwa [e] at h
theorem drop_axp {a : Int} {v r : Row} {k : Nat} : (axp p a v r).drop k = axp p a (v.drop k) (r.drop k) := by unfold axp; rw [List.drop_zipWith]
theorem half_l (hp : 0 < p) (hA : Vcs p n A) (lA : A.length = n) (hR : Vcs p (2 * n) R) (h : ∀ r ∈ R, r.take n = mv p n A (r.drop n)) {v : Row} (hv : Sp p (2 * n) R v) : v.take n = mv p n A (v.drop n) := by
  induction hv with
  | zero => rw [List.take_replicate, List.drop_replicate, mv_zero hp hA]; congr 1; omega
  | step a hv hr ih =>
    have l1 := (hv.vc hp hR).1
    have l2 := (hR _ hr).1
    rw [take_axp, drop_axp, ih, h _ hr, mv_axp hp hA (by rw [List.length_drop]; omega) (by rw [List.length_drop]; omega)]
theorem half_r (hp : 0 < p) (hA : Vcs p n A) (lA : A.length = n) (hR : Vcs p (2 * n) R) (h : ∀ r ∈ R, r.drop n = mv p n A (r.take n)) {v : Row} (hv : Sp p (2 * n) R v) : v.drop n = mv p n A (v.take n) := by
  induction hv with
  | zero => rw [List.take_replicate, List.drop_replicate, mv_zero hp hA]; congr 1; omega
  | step a hv hr ih =>
    have l1 := (hv.vc hp hR).1
    have l2 := (hR _ hr).1
    rw [take_axp, drop_axp, ih, h _ hr, mv_axp hp hA (by rw [List.length_take]; omega) (by rw [List.length_take]; omega)]
/-- the wide table -/
def wd (n : Nat) (A : List Row) : List Row := (List.range n).map fun i => A.getD i [] ++ unitR n i
theorem getD_vc (hA : Vcs p n A) (lA : A.length = n) {i : Nat} (hi : i < n) : Vc p n (A.getD i []) := by
  rw [show A.getD i [] = A[i]'(by omega) by simp [show i < A.length by omega]]
  exact hA _ (List.getElem_mem _)
theorem vc_app {k : Nat} {v w : Row} (hv : Vc p n v) (hw : Vc p k w) : Vc p (n + k) (v ++ w) := ⟨by simp [hv.1, hw.1], fun x hx => by
  rcases List.mem_append.1 hx with h | h
  · exact hv.2 x h
  · exact hw.2 x h⟩
theorem e_app_r2 {v w : Row} {j : Nat} (h : v.length ≤ j) : e_ (v ++ w) j = e_ w (j - v.length) := by simp [e_, List.getElem?_append_right h]
theorem wd_vcs (hp : 1 < p) (hA : Vcs p n A) (lA : A.length = n) : Vcs p (2 * n) (wd n A) := fun r hr => by
  obtain ⟨i, hi, rfl⟩ := List.mem_map.1 hr
  rw [Nat.two_mul]
  exact vc_app (getD_vc hA lA (List.mem_range.1 hi)) (unit_vc hp n i)
theorem wd_len (n : Nat) (A : List Row) : (wd n A).length = n := by simp [wd]
theorem wd_get {i : Nat} (hi : i < n) : (wd n A).getD i [] = A.getD i [] ++ unitR n i := by simp [wd, hi]
/-- the inverse's table -/
def ivF (n : Nat) (b : Nat → Row) : List Hd := (List.range n).map fun i => (unitR n i ++ b i, i)
theorem ivF_rf (hp : 1 < p) {b : Nat → Row} (hb : ∀ i, i < n → Vc p n (b i)) : Rf p (2 * n) (ivF n b) := by
  have mem : ∀ x, x ∈ ivF n b → ∃ i, i < n ∧ x = (unitR n i ++ b i, i) := fun x hx => by
    obtain ⟨i, hi, rfl⟩ := List.mem_map.1 hx
    exact ⟨i, List.mem_range.1 hi, rfl⟩
  have el : ∀ {i j}, i < n → e_ (unitR n j ++ b j) i = if i = j then 1 else 0 := fun {i j} hi => by
    rw [e_app_l (by rw [unit_len]; exact hi), e_unit hi]
  refine ⟨?_, fun x hx => ?_, fun x hx => ?_, fun x hx => ?_, fun x hx c hc => ?_, fun x hx y hy ne => ?_⟩
  · unfold ivF
    rw [List.pairwise_map]
    exact List.pairwise_lt_range
  · obtain ⟨i, hi, rfl⟩ := mem x hx
    rw [Nat.two_mul]
    exact vc_app (unit_vc hp n i) (hb i hi)
  · obtain ⟨i, hi, rfl⟩ := mem x hx
    show i < 2 * n
    omega
  · obtain ⟨i, hi, rfl⟩ := mem x hx
    show e_ (unitR n i ++ b i) i = 1
    rw [el hi, if_pos rfl]
  · obtain ⟨i, hi, rfl⟩ := mem x hx
    show e_ (unitR n i ++ b i) c = 0
    have hc' : c < i := hc
    rw [el (by omega), if_neg (by omega)]
  · obtain ⟨i, hi, rfl⟩ := mem x hx
    obtain ⟨j, hj, rfl⟩ := mem y hy
    show e_ (unitR n j ++ b j) i = 0
    have : j ≠ i := ne
    rw [el hi, if_neg (by omega)]
theorem full_sp (hf : Fld p) (hA : Vcs p n A) {F : List Hd} (hF : Rf p n F) (hs : ∀ v, Sp p n (rws F) v ↔ Sp p n A v) (hl : F.length = n) {v : Row} (hv : Vc p n v) : Sp p n A v := by
  refine (hs v).1 (ind_full hf hF.vcs (units_vcs hf.1 n) hF.ind (fun u hu => sp_units hf.1 (hu.vc hf.pos hF.vcs)) (by rw [units_len]; simp [rws, hl]) v (sp_units hf.1 hv))
/-- the reduced wide table of a table of full rank -/
theorem inv_plain (hf : Fld p) (hA : Vcs p n A) (lA : A.length = n) {F : List Hd} (hF : Rf p n F) (hs : ∀ v, Sp p n (rws F) v ↔ Sp p n A v) (hl : F.length = n) {G : List Hd} (hG : Rf p (2 * n) G) (hg : ∀ v, Sp p (2 * n) (rws G) v ↔ Sp p (2 * n) (wd n A) v) :
    ∃ b : Nat → Row, (∀ i, i < n → Vc p n (b i)) ∧ G = ivF n b ∧ (∀ i, i < n → mv p n A (b i) = unitR n i) ∧ ∀ i, i < n → mv p n ((List.range n).map b) (A.getD i []) = unitR n i := by
  have p1 := hf.1
  have p0 := hf.pos
  have ex : ∀ i, ∃ c, i < n → Vc p n c ∧ mv p n A c = unitR n i := fun i => by
    by_cases hi : i < n
    · obtain ⟨c, h1, h2⟩ := Sp.weights p0 hA (full_sp hf hA hF hs hl (unit_vc p1 n i))
      rw [lA] at h1
      refine ⟨c, fun _ => ⟨h1, (mv_vc p0 hA c).ext (unit_vc p1 n i) fun j hj => ?_⟩⟩
      rw [e_mv p0 hA c hj, h2 j hj]
    · exact ⟨[], fun h => absurd h hi⟩
  refine ⟨fun i => Classical.choose (ex i), fun i hi => (Classical.choose_spec (ex i) hi).1, ?_, fun i hi => (Classical.choose_spec (ex i) hi).2, ?_⟩
  all_goals
    generalize hb : (fun i => Classical.choose (ex i)) = b
    have h1 : ∀ i, i < n → Vc p n (b i) := fun i hi => by rw [← hb]; exact (Classical.choose_spec (ex i) hi).1
    have h2 : ∀ i, i < n → mv p n A (b i) = unitR n i := fun i hi => by rw [← hb]; exact (Classical.choose_spec (ex i) hi).2
    have rI := ivF_rf p1 h1
    have vW := wd_vcs p1 hA lA
    have sub : ∀ v, Sp p (2 * n) (rws (ivF n b)) v → Sp p (2 * n) (wd n A) v := fun v hv => by
      refine Sp.sub p0 vW (fun r hr => ?_) hv
      obtain ⟨x, hx, rfl⟩ := List.mem_map.1 hr
      obtain ⟨i, hi, rfl⟩ := List.mem_map.1 hx
      have hi := List.mem_range.1 hi
      have t := tot_sp (w := b i) (k := n) p0 vW (by rw [wd_len]; exact Nat.le_refl _)
      obtain ⟨t1, t2⟩ := totK_ok (w := b i) (k := n) p0 vW (by rw [wd_len]; exact Nat.le_refl _)
      have e : totK p (2 * n) (wd n A) (b i) n = unitR n i ++ b i := by
        have v2 : Vc p (2 * n) (unitR n i ++ b i) := by rw [Nat.two_mul]; exact vc_app (unit_vc p1 n i) (h1 i hi)
        refine t1.ext v2 fun j hj => ?_
        rw [t2 j hj]
        by_cases q : j < n
        · rw [e_app_l (by rw [unit_len]; exact q), ← h2 i hi, e_mv p0 hA _ q, lA]
          rw [sm_congr n fun i' hi' => by rw [wd_get hi', e_app_l (by rw [(getD_vc hA lA hi').1]; exact q)]]
        · rw [e_app_r2 (by rw [unit_len]; omega), unit_len]
          rw [sm_one n (c := j - n) (by omega) fun i' hi' ne => by rw [wd_get hi', e_app_r2 (by rw [(getD_vc hA lA hi').1]; omega), (getD_vc hA lA hi').1, e_unit (by omega), if_neg (fun z => ne z.symm), Int.mul_zero]]
          rw [wd_get (by omega), e_app_r2 (by rw [(getD_vc hA lA (by omega)).1]; omega), (getD_vc hA lA (by omega)).1, e_unit (by omega), if_pos rfl, Int.mul_one, (h1 i hi).emod (by omega)]
      rw [e] at t
      exact t
    have lI : (rws (ivF n b)).length = n := by simp [rws, ivF]
    have back : ∀ v, Sp p (2 * n) (wd n A) v → Sp p (2 * n) (rws (ivF n b)) v := ind_full hf rI.vcs vW rI.ind sub (by rw [wd_len, lI]; exact Nat.le_refl _)
  · exact Rf.one_ p0 hG rI fun v => (hg v).trans ⟨back v, sub v⟩
  · intro i hi
    have lB : ((List.range n).map b).length = n := by simp
    have vB : Vcs p n ((List.range n).map b) := fun r hr => by
      obtain ⟨k, hk, rfl⟩ := List.mem_map.1 hr
      exact h1 k (List.mem_range.1 hk)
    have w := back _ (Sp.of_mem p0 vW (r := A.getD i [] ++ unitR n i) (List.mem_map.2 ⟨i, List.mem_range.2 hi, rfl⟩))
    have q := half_r p0 vB lB rI.vcs (fun r hr => by
      obtain ⟨x, hx, rfl⟩ := List.mem_map.1 hr
      obtain ⟨k, hk, rfl⟩ := List.mem_map.1 hx
      have hk := List.mem_range.1 hk
      show (unitR n k ++ b k).drop n = mv p n _ ((unitR n k ++ b k).take n)
      have l := unit_len n k
      rw [List.drop_left' l, List.take_left' l]
      have := mv_unit (k := k) p0 vB (by rw [lB]; exact hk)
      rw [lB] at this
      rw [this]
      simp [hk]) w
    have l := (getD_vc hA lA hi).1
    rw [List.drop_left' l, List.take_left' l] at q
    exact q.symm
end
end PC

namespace PC
open PySem L2
theorem bop_repL (m : Nat) (hm : m ≤ 1000) : Bop.run .mul (.lst [.int 0]) (.int m) = some (.lst (IL (List.replicate m 0))) := by
  have sz : sizeLine = 16777216 := rfl
  unfold Bop.run
  simp only
  rw [if_pos ⟨by omega, by omega, by simp; omega⟩, rep_zero]
def totZ (p : Int) (m : Nat) (L : List (Row × Int)) : Row := comb p m (L.map fun x => (x.2, x.1))
theorem totZ_s {p : Int} {m : Nat} {L : List (Row × Int)} {x : Row × Int} : totZ p m (L ++ [x]) = axp p x.2 (totZ p m L) x.1 := by simp [totZ, comb]
theorem totZ_mv {p : Int} {m : Nat} {R : List Row} {w : Row} (hl : w.length = R.length) : totZ p m (R.zip w) = mv p m R w := by
  unfold totZ mv totK
  congr 1
  apply List.ext_getElem
  · simp [hl]
  · intro i h1 h2
    simp at h1 h2
    simp [e_, h2, show i < w.length by omega]
theorem zipL_TIs : ∀ (R : List Row) (w : List Int), zipL (TIs R) (IL w) = (R.zip w).map fun x => .tup [TI x.1, .int x.2]
  | [], w => by cases w <;> rfl
  | r :: R, [] => rfl
  | r :: R, a :: w => by
    show D.tup [TI r, .int a] :: zipL (TIs R) (IL w) = _
    rw [zipL_TIs R w]
    rfl
theorem combine_ok {n m : Nat} {M : Mem} {R : List Row} {w : Row} {p : Int} (hp : 0 < p) (hb : p < 1000) (hm : m ≤ 1000) (hv : Vcs p m R) (hw : Vc p R.length w) :
    callN T.T (n + 1) i_combine [.tup (TIs R), TI w, .int m, .int p] M = .ok (TI (mv p m R w)) M := by
  have sz : sizeLine = 16777216 := rfl
  rw [run_combine]
  obtain ⟨ρ2, M2, e, ⟨rfl, _, s5, s6, s7, s8, rfl⟩⟩ := forL_inv (t := .tup [5, 6]) (f := exs (callN T.T n) (.cons (.ite (.cmp .ne (.var 6) (.int 0)) (.cons (.set 4 (.comp (.zip (.var 4) (.var 5)) (.tup [7, 8]) .nil (.bin .mod (.bin .add (.var 7) (.bin .mul (.var 6) (.var 8))) (.var 3))))
      .nil) .nil) .nil)) (fun x : Row × Int => D.tup [TI x.1, .int x.2])
    (fun dn ρ M' => M' = M ∧ Vc p m (totZ p m dn) ∧ ∃ s5 s6 s7 s8, ρ = [.v (.tup (TIs R)), .v (TI w), .v (.int m), .v (.int p), .v (.lst (IL (totZ p m dn))), s5, s6, s7, s8]) (R.zip w) []
    [.v (.tup (TIs R)), .v (TI w), .v (.int m), .v (.int p), .v (.lst (IL (List.replicate m 0))), .un, .un, .un, .un] M (fun c d ρ M' x eW q => by
      obtain ⟨rfl, vt, s5, s6, s7, s8, rfl⟩ := q
      rw [List.nil_append] at vt ⊢
      have mx : x ∈ R.zip w := by rw [eW]; simp
      have vr := hv _ (List.of_mem_zip mx).1
      have bx := hw.2 _ (List.of_mem_zip mx).2
      refine ⟨_, _, _, rfl, ?_, rfl, by rw [totZ_s]; exact vc_axp hp vt.1 vr.1, .v (TI x.1), .v (.int x.2), s7, s8, rfl⟩
      rw [totZ_s]
      simp only [List.set_cons_zero, List.set_cons_succ, exs_cons, exs_nil, ex_ite, evT_def, ev_cmp, ev_var, ev_int, slotV_s, slotV_0, Res.of_some, Res.bind_ok, run_ne_int, Option.map_some, truth_bl, Res.out_ok]
      by_cases hz : x.2 = 0
      · simp only [hz, ne_eq, not_true_eq_false, decide_false, Bool.false_eq_true, if_false, Out.then_nx]
        rw [axp_none hp vt vr]
      · simp only [hz, ne_eq, not_false_eq_true, decide_true, if_true]
        have c1 : ev (callN T.T n) (.comp (.zip (.var 4) (.var 5)) (.tup [7, 8]) .nil (.bin .mod (.bin .add (.var 7) (.bin .mul (.var 6) (.var 8))) (.var 3))) [.v (.tup (TIs R)), .v (TI w), .v (.int m), .v (.int p), .v (.lst (IL (totZ p m c))), .v (TI x.1), .v (.int x.2), s7, s8] M' = .ok (.lst (IL (axp p x.2 (totZ p m c) x.1))) M' := by
          have hc := cmp_map (Φ := callN T.T n) (ρ := [.v (.tup (TIs R)), .v (TI w), .v (.int m), .v (.int p), .v (.lst (IL (totZ p m c))), .v (TI x.1), .v (.int x.2), s7, s8]) (M := M') (M1 := M') (it := .zip (.var 4) (.var 5)) (t := .tup [7, 8]) (elt := .bin .mod (.bin .add (.var 7) (.bin .mul (.var 6) (.var 8))) (.var 3))
            (w := fun y : Int × Int => D.tup [.int y.1, .int y.2]) (g := fun y : Int × Int => .int ((y.1 + x.2 * y.2) % p)) ((totZ p m c).zip x.1) (by
              simp only [evI_zip, ev_var, slotV_s, slotV_0, Res.of_some, Res.bind_ok, zipL_IL]) (fun y hy => by
              refine ⟨_, rfl, ?_⟩
              simp only [wipeE, Tg.slots, List.set_cons_zero, List.set_cons_succ, ev_bin, ev_var, slotV_s, slotV_0, Res.of_some, Res.bind_ok, bop_mul _ _ (mulOk_l (show -(2 ^ 64) < x.2 ∧ x.2 < 2 ^ 64 by omega)), bop_add, bop_mod _ _ hp]) (by rw [List.length_zip, vt.1]; omega)
          rw [hc]
          simp [axp, List.zip, List.map_zipWith, Function.comp_def]
        simp only [exs_cons, exs_nil, ex_set, c1, Res.out_ok, Out.then_nx, List.set_cons_zero, List.set_cons_succ]) ⟨rfl, by simp only [totZ, List.map_nil]; exact vc_zero hp, .un, .un, .un, .un, rfl⟩
  have q1 : (0 + 1 : Nat) ≤ sizeLine := by omega
  rw [List.nil_append, totZ_mv hw.1] at e
  simp only [exs_cons, exs_nil, ex_set, ex_for, evI_zip, ev_bin, ev_lst, ev_int, evs_cons, evs_nil, ev_var, slotV_s, slotV_0, Res.of_some, Res.bind_ok, List.length_cons, List.length_nil, if_pos q1, bop_repL m hm, Res.out_ok, Out.then_nx, List.set_cons_zero, List.set_cons_succ, zipL_TIs]
  rw [e]
  simp
theorem moved_ok {n m : Nat} {M : Mem} {R : List Row} {w : Row} {p : Int} (hp : 0 < p) (hb : p < 1000) (hm : R.length ≤ 1000) (hv : Vcs p R.length R) (hw : Vc p R.length w) :
    callN T.T (n + 2) i_moved [TI w, .tup (TIs R), .int p] M = .ok (TI (mv p R.length R w)) M := by
  rw [run_moved]
  have e := combine_ok (n := n) (M := M) hp hb hm hv hw
  simp [e]
theorem times_ok {n m : Nat} {M : Mem} {A R : List Row} {p : Int} (hp : 0 < p) (hb : p < 1000) (hm : R.length ≤ 1000) (hv : Vcs p R.length R) (hA : Vcs p R.length A) (lA : A.length ≤ 1000) :
    callN T.T (n + 3) i_times [.tup (TIs A), .tup (TIs R), .int p] M = .ok (.tup (TIs (A.map (mv p R.length R)))) M := by
  have sz : sizeLine = 16777216 := rfl
  rw [run_times]
  have hc := cmp_map (Φ := callN T.T (n + 2)) (ρ := [.v (.tup (TIs A)), .v (.tup (TIs R)), .v (.int p), .un]) (M := M) (M1 := M) (it := .seq (.var 0)) (t := .name 3) (elt := .call i_moved (.cons (.var 3) (.cons (.var 1) (.cons (.var 2) .nil))))
    (w := TI) (g := fun r => TI (mv p R.length R r)) A (by simp [D.items]) (fun r hr => ⟨_, rfl, by
      have e := moved_ok (n := n) (M := M) (m := 0) hp hb hm hv (hA r hr)
      simp [wipeE, Tg.slots, e]⟩) (by omega)
  simp only [exs_cons, exs_nil, ex_ret, ev_bi]
  rw [hc]
  simp [Function.comp_def]
theorem ident_ok {n m : Nat} {M : Mem} (hm : m ≤ 1000) : callN T.T (n + 1) i_identity [.int m] M = .ok (.tup (TIs (units m))) M := by
  have sz : sizeLine = 16777216 := rfl
  rw [run_identity]
  have hc := cmp_map (Φ := callN T.T n) (ρ := [.v (.int m), .un, .un]) (M := M) (M1 := M) (it := .range1 (.var 0)) (t := .name 1) (elt := .bi .tuple (.comp (.range1 (.var 0)) (.name 2) .nil (.bi .int (.cmp .eq (.var 1) (.var 2)))))
    (w := fun i : Nat => D.int i) (g := fun i => TI (unitR m i)) (List.range m) (by simp [rng1_nat (show m ≤ 1000000000 by omega), rangeL_0]) (fun i hi => by
      have h2 := cmp_map (Φ := callN T.T n) (ρ := [.v (.int m), .v (.int i), .un]) (M := M) (M1 := M) (it := .range1 (.var 0)) (t := .name 2) (elt := .bi .int (.cmp .eq (.var 1) (.var 2)))
        (w := fun i : Nat => D.int i) (g := fun j : Nat => .int (if j = i then 1 else 0)) (List.range m) (by simp [rng1_nat (show m ≤ 1000000000 by omega), rangeL_0]) (fun j hj => ⟨_, rfl, by
          simp [wipeE, Tg.slots, Int.natCast_inj, eq_comm]⟩) (by simp; omega)
      refine ⟨_, rfl, ?_⟩
      simp only [ev_bi]
      show (ev _ _ [.v (.int m), .v (.int i), .un] M).bind _ = _
      rw [h2]
      simp [unitR, Function.comp_def]) (by simp; omega)
  simp only [exs_cons, exs_nil, ex_ret, ev_bi]
  rw [hc]
  simp [units, Function.comp_def]
theorem lunit_ok {n m : Nat} {M : Mem} {i : Nat} (hm : m ≤ 1000) : callN T.T (n + 1) i__law_unit [.int m, .int i] M = .ok (TI (unitR m i)) M := by
  have sz : sizeLine = 16777216 := rfl
  rw [run__law_unit]
  have h2 := cmp_map (Φ := callN T.T n) (ρ := [.v (.int m), .v (.int i), .un]) (M := M) (M1 := M) (it := .range1 (.var 0)) (t := .name 2) (elt := .bi .int (.cmp .eq (.var 2) (.var 1)))
    (w := fun i : Nat => D.int i) (g := fun j : Nat => .int (if j = i then 1 else 0)) (List.range m) (by simp [rng1_nat (show m ≤ 1000000000 by omega), rangeL_0]) (fun j hj => ⟨_, rfl, by
      simp [wipeE, Tg.slots, Int.natCast_inj]⟩) (by simp; omega)
  simp only [exs_cons, exs_nil, ex_ret, ev_bi]
  rw [h2]
  simp [unitR, Function.comp_def]
theorem ltimes_ok {n m : Nat} {M : Mem} {A R : List Row} {p : Int} (hp : 0 < p) (hb : p < 1000) (hm : m ≤ 1000) (hv : Vcs p m R) (hA : Vcs p m A) (lA : A.length = m) (lR : R.length = m) :
    callN T.T (n + 1) i__law_times [.int p, .tup (TIs A), .tup (TIs R)] M = .ok (.tup (TIs (A.map (mv p m R)))) M := by
  have sz : sizeLine = 16777216 := rfl
  rw [run__law_times]
  have h1 : ∀ i, i < m → ∀ j, j < m → ∀ s6 : Slot, ev (callN T.T n) (.bin .mod (.bi .int (.bi .sum (.comp (.range1 (.var 3)) (.name 6) .nil (.bin .mul (.sub (.sub (.var 1) (.var 4)) (.var 6)) (.sub (.sub (.var 2) (.var 6)) (.var 5)))))) (.var 0))
      [.v (.int p), .v (.tup (TIs A)), .v (.tup (TIs R)), .v (.int m), .v (.int i), .v (.int j), s6] M = .ok (.int (e_ (mv p m R (A.getD i [])) j)) M := fun i hi j hj s6 => by
    have hc := cmp_map (Φ := callN T.T n) (ρ := [.v (.int p), .v (.tup (TIs A)), .v (.tup (TIs R)), .v (.int m), .v (.int i), .v (.int j), s6]) (M := M) (M1 := M) (it := .range1 (.var 3)) (t := .name 6) (elt := .bin .mul (.sub (.sub (.var 1) (.var 4)) (.var 6)) (.sub (.sub (.var 2) (.var 6)) (.var 5)))
      (w := fun i : Nat => D.int i) (g := fun k : Nat => .int (e_ (A.getD i []) k * e_ (R.getD k []) j)) (List.range m) (by simp [rng1_nat (show m ≤ 1000000000 by omega), rangeL_0]) (fun k hk => ⟨_, rfl, by
        have hk := List.mem_range.1 hk
        have g1 := atI_TIs (vs := A) (k := i) (by omega)
        have g2 := atI_TIs (vs := R) (k := k) (by omega)
        have v1 := hA _ (List.getElem_mem (show i < A.length by omega))
        have v2 := hv _ (List.getElem_mem (show k < R.length by omega))
        have g3 := atI_IL (v := A[i]'(by omega)) (k := k) (by rw [v1.1]; exact hk)
        have g4 := atI_IL (v := R[k]'(by omega)) (k := j) (by rw [v2.1]; exact hj)
        have b := v1.get hk
        have d1 : A.getD i [] = A[i]'(by omega) := by simp [show i < A.length by omega]
        have d2 : R.getD k [] = R[k]'(by omega) := by simp [show k < R.length by omega]
        rw [d1, d2]
        unfold e_ at b ⊢
        simp only [ev_bin, ev_sub, ev_var, wipeE, Tg.slots, List.set_cons_zero, List.set_cons_succ, slotV_s, slotV_0, Res.of_some, Res.bind_ok, subM_tup', g1, g2, g3, g4, bop_mul _ _ (mulOk_l (show -(2 ^ 64) < (A[i]'(by omega)).getD k 0 ∧ (A[i]'(by omega)).getD k 0 < 2 ^ 64 by omega))]⟩) (by simp; omega)
    have es : Bi.run .sum (.lst ((List.range m).map fun k : Nat => D.int (e_ (A.getD i []) k * e_ (R.getD k []) j))) = some (.int (sm m fun k => e_ (A.getD i []) k * e_ (R.getD k []) j)) := by
      have := ints_IL ((List.range m).map fun k : Nat => e_ (A.getD i []) k * e_ (R.getD k []) j)
      simp only [IL, List.map_map, Function.comp_def] at this
      unfold Bi.run
      simp only [this, Option.map_some, sm_sum]
    simp only [ev_bin, ev_bi]
    rw [hc]
    simp only [Res.bind_ok, lenM_lst, es, Res.of_some, lenM_int, bir_int, ev_var, slotV_s, slotV_0, bop_mod _ _ hp]
    rw [e_mv hp hv _ hj, lR]
  have h2 : ∀ i, i < m → ∀ s5 s6 : Slot, ev (callN T.T n) (.bi .tuple (.comp (.range1 (.var 3)) (.name 5) .nil (.bin .mod (.bi .int (.bi .sum (.comp (.range1 (.var 3)) (.name 6) .nil (.bin .mul (.sub (.sub (.var 1) (.var 4)) (.var 6)) (.sub (.sub (.var 2) (.var 6)) (.var 5)))))) (.var 0))))
      [.v (.int p), .v (.tup (TIs A)), .v (.tup (TIs R)), .v (.int m), .v (.int i), s5, s6] M = .ok (TI (mv p m R (A.getD i []))) M := fun i hi s5 s6 => by
    have hc := cmp_map (Φ := callN T.T n) (ρ := [.v (.int p), .v (.tup (TIs A)), .v (.tup (TIs R)), .v (.int m), .v (.int i), s5, s6]) (M := M) (M1 := M) (it := .range1 (.var 3)) (t := .name 5) (elt := .bin .mod (.bi .int (.bi .sum (.comp (.range1 (.var 3)) (.name 6) .nil (.bin .mul (.sub (.sub (.var 1) (.var 4)) (.var 6)) (.sub (.sub (.var 2) (.var 6)) (.var 5)))))) (.var 0))
      (w := fun i : Nat => D.int i) (g := fun j : Nat => .int (e_ (mv p m R (A.getD i [])) j)) (List.range m) (by simp [rng1_nat (show m ≤ 1000000000 by omega), rangeL_0]) (fun j hj => ⟨_, rfl, h1 i hi j (List.mem_range.1 hj) s6⟩) (by simp; omega)
    simp only [ev_bi]
    rw [hc]
    have e : (List.range m).map (fun j : Nat => D.int (e_ (mv p m R (A.getD i [])) j)) = IL (mv p m R (A.getD i [])) := by
      have l := (mv_vc hp hv (A.getD i [])).1
      generalize mv p m R (A.getD i []) = v at l
      apply List.ext_getElem
      · simp [l]
      · intro j h1 h2
        simp at h1
        simp [e_, show j < v.length by omega]
    rw [e]
    simp
  have hc := cmp_map (Φ := callN T.T n) (ρ := [.v (.int p), .v (.tup (TIs A)), .v (.tup (TIs R)), .v (.int m), .un, .un, .un]) (M := M) (M1 := M) (it := .range1 (.var 3)) (t := .name 4) (elt := .bi .tuple (.comp (.range1 (.var 3)) (.name 5) .nil (.bin .mod (.bi .int (.bi .sum (.comp (.range1 (.var 3)) (.name 6) .nil (.bin .mul (.sub (.sub (.var 1) (.var 4)) (.var 6)) (.sub (.sub (.var 2) (.var 6)) (.var 5)))))) (.var 0))))
    (w := fun i : Nat => D.int i) (g := fun i : Nat => TI (mv p m R (A.getD i []))) (List.range m) (by simp [rng1_nat (show m ≤ 1000000000 by omega), rangeL_0]) (fun i hi => ⟨_, rfl, h2 i (List.mem_range.1 hi) _ _⟩) (by simp; omega)
  have e : (List.range m).map (fun i : Nat => TI (mv p m R (A.getD i []))) = TIs (A.map (mv p m R)) := by
    apply List.ext_getElem
    · simp [lA]
    · intro j h1 h2
      simp at h1
      simp [show j < A.length by omega]
  simp only [exs_cons, exs_nil, ex_set, ex_ret, ev_bi, ev_var, slotV_s, slotV_0, Res.of_some, Res.bind_ok, lenM_tup, bir_len_tup, List.length_map, lA, Res.out_ok, Out.then_nx, List.set_cons_zero, List.set_cons_succ]
  rw [hc, e]
  simp
end PC

namespace PC
open PySem L2
theorem cut_take {α : Type} (xs : List α) (k : Nat) : cutD xs none (some (k : Int)) = xs.take k := by
  unfold cutD
  rw [HT.sIx_nat, HT.sIx_none, List.drop_zero, Nat.sub_zero]
  by_cases h : k ≤ xs.length
  · rw [Nat.min_eq_left h]
  · rw [Nat.min_eq_right (by omega), List.take_of_length_le (Nat.le_refl _), List.take_of_length_le (by omega)]
theorem cut_drop {α : Type} (xs : List α) (k : Nat) : cutD xs (some (k : Int)) none = xs.drop k := by
  unfold cutD
  rw [HT.sIx_nat, HT.sIx_none]
  by_cases h : k ≤ xs.length
  · rw [Nat.min_eq_left h, List.take_of_length_le (by simp)]
  · rw [Nat.min_eq_right (by omega), List.drop_of_length_le (Nat.le_refl _), List.drop_of_length_le (by omega)]
    simp
theorem cut_init {α : Type} (xs : List α) (x : α) : cutD (xs ++ [x]) none (some (-1)) = xs := by
  unfold cutD HT.sIx
  simp
  have : (-1 + ((xs.length : Int) + 1)).toNat = xs.length := by omega
  rw [this, List.take_append_of_le_length (Nat.le_refl _), List.take_length]
theorem atI_last {α : Type} (xs : List α) (x : α) : L2.atI (xs ++ [x]) (-1) = some x := by
  unfold L2.atI L2.ixN
  have : (-1 + ((xs.length : Int) + 1)).toNat = xs.length := by omega
  simp
  rw [if_pos (by omega), this]
  simp
def pw (p : Int) (m : Nat) (A : List Row) : Nat → List Row
  | 0 => units m
  | k + 1 => (pw p m A k).map (mv p m A)
theorem pw_ok {p : Int} {m : Nat} {A : List Row} (hp : 1 < p) (hA : Vcs p m A) : ∀ k, Vcs p m (pw p m A k) ∧ (pw p m A k).length = m
  | 0 => ⟨units_vcs hp m, units_len m⟩
  | k + 1 => by
    obtain ⟨h1, h2⟩ := pw_ok hp hA k
    refine ⟨fun r hr => ?_, by simp [pw, h2]⟩
    obtain ⟨s, _, rfl⟩ := List.mem_map.1 hr
    exact mv_vc (by omega) hA s
section
variable {n m : Nat} {M : Mem} {A : List Row} {p : Int}
theorem power_ok (hp : 1 < p) (hb : p < 1000) (hA : Vcs p m A) (lA : A.length = m) (hm : m ≤ 1000) {k : Nat} (hk : k ≤ 1000) : callN T.T (n + 4) i_matrix_power [.tup (TIs A), .int k, .int p] M = .ok (.tup (TIs (pw p m A k))) M := by
  rw [run_matrix_power]
  subst lA
  obtain ⟨ρ2, M2, e, ⟨rfl, s4, rfl⟩⟩ := forL_range (t := .name 4) (f := exs (callN T.T (n + 3)) (.cons (.set 3 (.call i_times (.cons (.var 3) (.cons (.var 0) (.cons (.var 2) .nil))))) .nil)) (fun j ρ M' => M' = M ∧ ∃ s4, ρ = [.v (.tup (TIs A)), .v (.int k), .v (.int p), .v (.tup (TIs (pw p A.length A j))), s4]) k
    [.v (.tup (TIs A)), .v (.int k), .v (.int p), .v (.tup (TIs (units A.length))), .un] M (fun j hj ρ M' h => by
      obtain ⟨rfl, s4, rfl⟩ := h
      obtain ⟨h1, h2⟩ := pw_ok hp hA j
      refine ⟨_, _, _, rfl, ?_, rfl, .v (.int j), rfl⟩
      have e := times_ok (n := n) (M := M') (m := 0) (A := pw p A.length A j) (R := A) (by omega) hb hm hA h1 (by omega)
      simp only [exs_cons, exs_nil, ex_set, ev_call, evs_cons, evs_nil, ev_var, List.set_cons_zero, List.set_cons_succ, slotV_s, slotV_0, Res.of_some, Res.bind_ok, e, Res.out_ok, Out.then_nx]
      rfl) ⟨rfl, .un, rfl⟩
  have e1 := ident_ok (n := n + 2) (M := M2) hm
  simp only [exs_cons, exs_nil, ex_set, ex_for, evI_range1, ev_call, evs_cons, evs_nil, ev_bi, ev_var, List.set_cons_zero, List.set_cons_succ, slotV_s, slotV_0, Res.of_some, Res.bind_ok, lenM_tup, bir_len_tup, List.length_map, e1, Res.out_ok, Out.then_nx, rng1_nat (show k ≤ 1000000000 by omega)]
  rw [e]
  simp
/-- rank -/
theorem invb_ok {F : List Hd} (lA : A.length = m) (e : callN T.T (n + 2) i_reduced [.tup (TIs A), .int m, .int p] M = .ok (.tup [.tup (TIs (rws F)), .tup (F.map fun x => .int x.2)]) M) :
    callN T.T (n + 4) i_is_invertible [.tup (TIs A), .int p] M = .ok (.bl (decide (F.length = m))) M := by
  have e1 := span_ok e
  rw [run_is_invertible]
  simp [lA, e1, rws, Int.natCast_inj]
theorem pow_inj (hf : Fld p) {a b : Nat} : p.toNat ^ a = p.toNat ^ b ↔ a = b := by
  have h2 := two_le hf
  constructor
  · intro h
    rcases Nat.lt_trichotomy a b with q | q | q
    · have := Nat.pow_lt_pow_right (a := p.toNat) (by omega) q
      omega
    · exact q
    · have := Nat.pow_lt_pow_right (a := p.toNat) (by omega) q
      omega
  · rintro rfl; rfl
theorem plain_ok (hf : Fld p) (hA : Vcs p m A) {F : List Hd} (hF : Rf p m F) (hs : ∀ v, Sp p m (rws F) v ↔ Sp p m A v) : (isort D.ltI (spanF p m A)).length = (allW p m).length ↔ F.length = m := by
  rw [len_isort, len_allW]
  have e1 : (spanF p m A).length = (spanF p m (rws F)).length := Nat.le_antisymm (spanF_same hf hA hF.vcs fun v => (hs v).2) (spanF_same hf hF.vcs hA fun v => (hs v).1)
  rw [e1, spanF_pow hf hF.vcs hF.ind, pow_inj hf]
  simp [rws]
/-- the inverse -/
theorem minv_no {F : List Hd} (lA : A.length = m) (e : callN T.T (n + 2) i_reduced [.tup (TIs A), .int m, .int p] M = .ok (.tup [.tup (TIs (rws F)), .tup (F.map fun x => .int x.2)]) M) (hl : F.length ≠ m) :
    callN T.T (n + 5) i_matrix_inverse [.tup (TIs A), .int p] M = .err ⟨"Refused", ["Refused", "Fault"], [("reason", .str "singular")]⟩ M := by
  have e1 := invb_ok lA e
  rw [run_matrix_inverse]
  simp [e1, hl, D.flat]
theorem reason_no {F : List Hd} (lA : A.length = m) (e : callN T.T (n + 2) i_reduced [.tup (TIs A), .int m, .int p] M = .ok (.tup [.tup (TIs (rws F)), .tup (F.map fun x => .int x.2)]) M) (hl : F.length ≠ m) :
    callN T.T (n + 6) i__law_reason [.tup (TIs A), .int p] M = .ok (.str "singular") M := by
  have e1 := minv_no lA e hl
  rw [run__law_reason]
  simp only [exs_cons, exs_nil, ex_try, ex_expr, ev_call, evs_cons, evs_nil, ev_var, slotV_s, slotV_0, Res.of_some, Res.bind_ok, e1, Res.bind_err, Res.out_err, Out.then_er]
  rfl
theorem minv_ok (hf : Fld p) (hb : p < 1000) (hA : Vcs p m A) (lA : A.length = m) (hm : m ≤ 400) {F : List Hd} (hF : Rf p m F) (hs : ∀ v, Sp p m (rws F) v ↔ Sp p m A v) (hl : F.length = m)
    (e : callN T.T (n + 2) i_reduced [.tup (TIs A), .int m, .int p] M = .ok (.tup [.tup (TIs (rws F)), .tup (F.map fun x => .int x.2)]) M) :
    ∃ B, Vcs p m B ∧ B.length = m ∧ callN T.T (n + 5) i_matrix_inverse [.tup (TIs A), .int p] M = .ok (.tup (TIs B)) M ∧ B.map (mv p m A) = units m ∧ A.map (mv p m B) = units m := by
  have sz : sizeLine = 16777216 := rfl
  have e1 := invb_ok lA e
  have vW := wd_vcs hf.1 hA lA
  obtain ⟨G, hG, hg, lG, e2⟩ := reduced_ok (n := n + 1) (M := M) (X := .lst (TIs (wd m A))) (R := wd m A) (m := 2 * m) rfl hf hb (by rw [wd_len]; omega) (by omega) vW
  obtain ⟨b, h1, rfl, h2, h3⟩ := inv_plain hf hA lA hF hs hl hG hg
  have e3 := span_ok e2
  have lB : ((List.range m).map b).length = m := by simp
  refine ⟨(List.range m).map b, fun r hr => ?_, lB, ?_, ?_, ?_⟩
  · obtain ⟨i, hi, rfl⟩ := List.mem_map.1 hr
    exact h1 i (List.mem_range.1 hi)
  · rw [run_matrix_inverse]
    have c1 := cmp_map (Φ := callN T.T (n + 4)) (ρ := [.v (.tup (TIs A)), .v (.int p), .v (.int m), .un, .un, .un]) (M := M) (M1 := M) (it := .range1 (.var 2)) (t := .name 4) (elt := .bin .add (.bi .tuple (.sub (.var 0) (.var 4))) (.sub (.call i_identity (.cons (.var 2) .nil)) (.var 4)))
      (w := fun i : Nat => D.int i) (g := fun i : Nat => TI (A.getD i [] ++ unitR m i)) (List.range m) (by simp [rng1_nat (show m ≤ 1000000000 by omega), rangeL_0]) (fun i hi => ⟨_, rfl, by
        have hi := List.mem_range.1 hi
        have g1 := atI_TIs (vs := A) (k := i) (by omega)
        have g2 := atI_TIs (vs := units m) (k := i) (by rw [units_len]; exact hi)
        have d1 : A.getD i [] = A[i]'(by omega) := by simp [show i < A.length by omega]
        have d2 := units_get hi
        rw [show (units m).getD i [] = (units m)[i]'(by rw [units_len]; exact hi) by simp [units_len, hi]] at d2
        have e4 := ident_ok (n := n + 3) (M := M) (m := m) (by omega)
        have l1 := (getD_vc hA lA hi).1
        rw [d2] at g2
        rw [← d1] at g1
        have ba : Bop.run .add (TI (A.getD i [])) (TI (unitR m i)) = some (TI (A.getD i [] ++ unitR m i)) := by
          unfold Bop.run
          simp only [List.length_map, unit_len, l1]
          rw [if_pos (by omega)]; simp
        simp only [wipeE, Tg.slots, List.set_cons_zero, List.set_cons_succ, ev_bin, ev_bi, ev_sub, ev_call, evs_cons, evs_nil, ev_var, slotV_s, slotV_0, Res.of_some, Res.bind_ok, subM_tup', g1, g2, e4, lenM_tup, bir_tupt, ba]⟩) (by simp; omega)
    have ew : (List.range m).map (fun i : Nat => TI (A.getD i [] ++ unitR m i)) = TIs (wd m A) := by simp [wd, Function.comp_def]
    rw [ew] at c1
    have c2 := cmp_map (Φ := callN T.T (n + 4)) (ρ := [.v (.tup (TIs A)), .v (.int p), .v (.int m), .v (.lst (TIs (wd m A))), .un, .un]) (M := M) (M1 := M) (it := .seq (.call i_span (.cons (.var 3) (.cons (.bin .mul (.int 2) (.var 2)) (.cons (.var 1) .nil))))) (t := .name 5) (elt := .slice (.var 5) (.some (.var 2)) .none)
      (w := fun i : Nat => TI (unitR m i ++ b i)) (g := fun i : Nat => TI (b i)) (List.range m) (by
        have cast : (2 : Int) * (m : Int) = ((2 * m : Nat) : Int) := by omega
        have er : TIs (rws (ivF m b)) = (List.range m).map fun i : Nat => TI (unitR m i ++ b i) := by simp [rws, ivF, Function.comp_def]
        rw [er] at e3
        simp only [evI_seq, ev_call, evs_cons, evs_nil, ev_bin, ev_int, ev_var, slotV_s, slotV_0, Res.of_some, Res.bind_ok, bop_mul _ _ (mulOk_l (show -(2 ^ 64) < (2 : Int) ∧ (2 : Int) < 2 ^ 64 by omega)), cast, e3, D.items]) (fun i hi => ⟨_, rfl, by
        simp only [wipeE, Tg.slots, List.set_cons_zero, List.set_cons_succ, ev_slice, evP_some, evP_none, ev_var, slotV_s, slotV_0, Res.of_some, Res.bind_ok, D.slice, cut_drop]
        rw [← List.map_drop, List.drop_left' (unit_len m i)]⟩) (by simp; omega)
    simp only [exs_cons, exs_nil, ex_set, ex_ret, ex_ite, evT_def, ev_not, ev_call, evs_cons, evs_nil, ev_bi, ev_var, slotV_s, slotV_0, Res.of_some, Res.bind_ok, lenM_tup, bir_len_tup, List.length_map, lA, Res.out_ok, Out.then_nx, List.set_cons_zero, List.set_cons_succ, e1, truth_bl, hl, decide_true, Option.map_some, Bool.not_true, Bool.false_eq_true, if_false, c1]
    rw [c2]
    simp [Function.comp_def]
  · rw [List.map_map]
    refine List.map_congr_left fun i hi => ?_
    exact h2 i (List.mem_range.1 hi)
  · apply List.ext_getElem
    · simp [lA, units]
    · intro i q1 q2
      simp at q1
      have := h3 i (by omega)
      simp [show i < A.length by omega] at this
      simp [units, this]
end
end PC

namespace PC
open PySem L2
theorem ltotalT_ok {n m : Nat} {M : Mem} {p : Int} {R : List Row} {w : Row} (hp : 0 < p) (hb : p < 1000) (hm : m ≤ 1000) (hR : R.length ≤ 1000) (hv : Vcs p m R) (hw : Vc p R.length w) :
    callN T.T (n + 2) i__law_total [.int p, .tup (TIs R), TI w, .int m] M = .ok (TI (totK p m R w R.length)) M := by
  have sz : sizeLine = 16777216 := rfl
  rw [run__law_total]
  obtain ⟨ρ2, M2, e, ⟨rfl, s5, i1⟩⟩ := forL_range (t := .name 5) (f := exs (callN T.T (n + 1)) (.cons (.set 4 (.call i__law_sum (.cons (.var 4) (.cons (.call i__law_scaled (.cons (.sub (.var 1) (.var 5)) (.cons (.sub (.var 2) (.var 5)) (.cons (.var 0) .nil)))) (.cons (.var 0) .nil)))))
      .nil)) (fun k ρ M' => M' = M ∧ ∃ s5, ρ = [.v (.int p), .v (.tup (TIs R)), .v (TI w), .v (.int m), .v (TI (totK p m R w k)), s5]) R.length
    [.v (.int p), .v (.tup (TIs R)), .v (TI w), .v (.int m), .v (TI (List.replicate m 0)), .un] M (fun k hk ρ M' h => by
      obtain ⟨rfl, s5, rfl⟩ := h
      refine ⟨_, _, _, rfl, ?_, rfl, .v (.int k), rfl⟩
      have e1 := atI_TIs hk
      have e2 := atI_IL (v := w) (k := k) (by rw [hw.1]; exact hk)
      have vr := hv _ (List.getElem_mem hk)
      have b := hw.get hk
      have t1 := (totK_ok (w := w) hp hv (Nat.le_of_lt hk)).1
      have e3 := lscaled_ok (n := n) (M := M') (v := R[k]) (a := e_ w k) hp ⟨by omega, by omega⟩ (by rw [vr.1]; omega)
      have e4 := lsum_ok (n := n) (M := M') (v := totK p m R w k) (w := vsc p (e_ w k) R[k]) hp hm t1.1 (vc_vsc (n := m) hp vr.1).1
      rw [vadd_vsc t1.1 vr.1] at e4
      have eg : R.getD k [] = R[k] := by simp [hk]
      rw [totK_s, eg]
      simp only [exs_cons, exs_nil, ex_set, ev_call, evs_cons, evs_nil, ev_sub, ev_var, slotV_s, slotV_0, Res.of_some, Res.bind_ok, subM_lst', subM_tup', e1, e2, List.set_cons_zero, List.set_cons_succ]
      unfold e_ at e3 e4
      rw [e3]
      simp only [Res.bind_ok]
      rw [e4]
      rfl) ⟨rfl, .un, by simp [totK, comb]⟩
  subst i1
  have e0 := lzero_ok (n := n) (M := M2) hm
  simp only [exs_cons, exs_nil, ex_set, ev_call, evs_cons, evs_nil, ev_var, slotV_s, slotV_0, Res.of_some, Res.bind_ok, e0, Res.out_ok, Out.then_nx, List.set_cons_zero, List.set_cons_succ, ex_for, evI_range1, ev_bi, lenM_tup, bir_len_tup, List.length_map, rng1_nat (show R.length ≤ 1000000000 by omega)]
  rw [e]
  simp
def okD : D → Bool | .cell _ => false | .frz _ => false | _ => true
def isI : D → Bool | .int _ => true | _ => false
def itemB (p : Int) : D → Bool | .int i => decide (0 ≤ i) && decide (i < p) | _ => false
def rowB (p : Int) (m : Nat) : D → Bool | .tup xs => decide (xs.length = m) && xs.all (itemB p) | _ => false
def matB (p : Int) (m : Nat) : D → Bool | .tup xs => decide (xs.length = m) && xs.all (rowB p m) | _ => false
def okR (d : D) : Bool := okD d && (match d with | .tup xs => xs.all okD | _ => true)
def okM (d : D) : Bool := okD d && (match d with | .tup xs => xs.all okR | _ => true)
section
variable {n m : Nat} {M : Mem} {p : Int}
theorem isint_ok {d : D} (h : okD d = true) : callN T.T (n + 1) i_is_integer [d] M = .ok (.bl (isI d)) M := by
  rw [run_is_integer]
  cases d <;> first | (simp [okD] at h; done) | simp [Ty.any, Ty.is, isI]
theorem row_loop {d : D} : ∀ (xs : List D) (s3 : Slot), (∀ x ∈ xs, okD x = true) → ∃ s3', forL (.name 3) (exs (callN T.T (n + 1)) (.cons (.ite (.or (.not (.call i_is_integer (.cons (.var 3) .nil))) (.or (.cmp .lt (.var 3) (.int 0)) (.cmp .ge (.var 3) (.var 1)))) (.cons (.ret (.bl false))
      .nil) .nil) .nil)) xs [.v d, .v (.int p), .v (.int m), s3] M = if xs.all (itemB p) = true then .nx [.v d, .v (.int p), .v (.int m), s3'] M else .rt (.bl false) M
  | [], s3, _ => ⟨s3, by simp [forL]⟩
  | x :: xs, s3, h => by
    have hx := h x (List.mem_cons_self ..)
    obtain ⟨s', ih⟩ := row_loop (d := d) xs (.v x) fun y hy => h y (List.mem_cons_of_mem _ hy)
    have e1 := isint_ok (n := n) (M := M) hx
    refine ⟨s', ?_⟩
    rw [forL]
    simp only [Tg.put, List.set_cons_zero, List.set_cons_succ, exs_cons, exs_nil, ex_ite, evT_def, ev_or, ev_not, ev_call, evs_cons, evs_nil, ev_var, slotV_s, slotV_0, Res.of_some, Res.bind_ok, e1, truth_bl, Option.map_some, List.all_cons]
    cases x <;> try (simp [isI, itemB]; done)
    rename_i i
    simp only [isI, Bool.not_true, ev_cmp, ev_or, ev_var, ev_int, slotV_s, slotV_0, Res.of_some, Res.bind_ok, run_lt_int, run_ge_int, Option.map_some, truth_bl]
    by_cases h1 : i < 0
    · simp [h1, itemB, show ¬ (0 ≤ i) by omega]
    · by_cases h2 : p ≤ i
      · simp [h1, h2, itemB, show ¬ (i < p) by omega]
      · simp only [h1, h2, decide_false, Res.bind_ok, truth_bl, Res.of_some, Res.out_ok, Bool.false_eq_true, if_false, Out.then_nx]
        have q : itemB p (.int i) = true := by simp [itemB]; omega
        simp only [q, Bool.true_and]
        exact ih
theorem isrow_ok {d : D} (h : okR d = true) : callN T.T (n + 2) i_is_row [d, .int p, .int m] M = .ok (.bl (rowB p m d)) M := by
  unfold okR at h
  rw [Bool.and_eq_true] at h
  obtain ⟨h1, h2⟩ := h
  rw [run_is_row]
  cases d with
  | tup xs =>
    obtain ⟨s', e⟩ := row_loop (n := n) (M := M) (p := p) (m := m) (d := .tup xs) xs .un fun x hx => List.all_eq_true.1 h2 x hx
    simp only [exs_cons, exs_nil, ex_ite, evT_def, ev_or, ev_not, ev_isi, ev_cmp, ev_bi, ev_var, slotV_s, slotV_0, Res.of_some, Res.bind_ok, Ty.any, Ty.is, truth_bl, Option.map_some, Bool.not_true, lenM_tup, bir_len_tup, run_ne_int]
    by_cases hl : xs.length = m
    · subst hl
      simp only [ne_eq, not_true_eq_false, decide_false, Res.bind_ok, truth_bl, Res.of_some, Res.out_ok, Bool.false_eq_true, if_false, Out.then_nx, ex_for, evI_seq, ev_var, slotV_s, slotV_0, D.items]
      rw [e]
      cases q : xs.all (itemB p) with
      | true => simp [rowB, q]
      | false => simp [rowB, q]
    · have : ¬ ((xs.length : Int) = m) := by omega
      simp [this, rowB, hl]
  | cell k => cases h1
  | frz k => cases h1
  | non => simp [Ty.any, Ty.is, rowB]
  | bl b => simp [Ty.any, Ty.is, rowB]
  | int b => simp [Ty.any, Ty.is, rowB]
  | str b => simp [Ty.any, Ty.is, rowB]
  | lst b => simp [Ty.any, Ty.is, rowB]
theorem bools_map {α : Type} (f : α → Bool) : ∀ xs : List α, D.bools (xs.map fun x => D.bl (f x)) = some (xs.map f)
  | [] => rfl
  | x :: xs => by rw [List.map_cons, D.bools, bools_map f xs]; rfl
theorem all_map {α : Type} (f : α → Bool) (xs : List α) : Bi.run .all (.lst (xs.map fun x => D.bl (f x))) = some (.bl (xs.all f)) := by
  unfold Bi.run
  simp only [bools_map, Option.map_some]
  rw [List.all_map]
  rfl
theorem ismat_ok {d : D} (h : okM d = true) (hs : ∀ xs, d = .tup xs → xs.length ≤ 1000) : callN T.T (n + 3) i_is_matrix [d, .int p, .int m] M = .ok (.bl (matB p m d)) M := by
  have sz : sizeLine = 16777216 := rfl
  unfold okM at h
  rw [Bool.and_eq_true] at h
  obtain ⟨h1, h2⟩ := h
  rw [run_is_matrix]
  cases d with
  | tup xs =>
    have hl := hs xs rfl
    have hc := cmp_map (Φ := callN T.T (n + 2)) (ρ := [.v (.tup xs), .v (.int p), .v (.int m), .un]) (M := M) (M1 := M) (it := .seq (.var 0)) (t := .name 3) (elt := .call i_is_row (.cons (.var 3) (.cons (.var 1) (.cons (.var 2) .nil))))
      (w := fun x : D => x) (g := fun x => .bl (rowB p m x)) xs (by simp [D.items]) (fun x hx => ⟨_, rfl, by
        have e := isrow_ok (n := n) (M := M) (p := p) (m := m) (List.all_eq_true.1 h2 x hx)
        simp [wipeE, Tg.slots, e]⟩) (by omega)
    simp only [exs_cons, exs_nil, ex_ite, evT_def, ev_or, ev_not, ev_isi, ev_cmp, ev_bi, ev_var, slotV_s, slotV_0, Res.of_some, Res.bind_ok, Ty.any, Ty.is, truth_bl, Option.map_some, Bool.not_true, lenM_tup, bir_len_tup, run_ne_int]
    by_cases hl : xs.length = m
    · subst hl
      simp only [ne_eq, not_true_eq_false, decide_false, Res.bind_ok, truth_bl, Res.of_some, Res.out_ok, Bool.false_eq_true, if_false, Out.then_nx, ex_ret, ev_bi, exs_nil, exs_cons]
      rw [hc]
      simp only [Res.bind_ok, lenM_lst, all_map, Res.of_some, Res.out_ok, Out.then_rt, endR_rt]
      simp [matB]
    · have : ¬ ((xs.length : Int) = m) := by omega
      simp [this, matB, hl]
  | cell k => cases h1
  | frz k => cases h1
  | non => simp [Ty.any, Ty.is, matB]
  | bl b => simp [Ty.any, Ty.is, matB]
  | int b => simp [Ty.any, Ty.is, matB]
  | str b => simp [Ty.any, Ty.is, matB]
  | lst b => simp [Ty.any, Ty.is, matB]
theorem okR_TI (v : Row) : okR (TI v) = true := by simp [okR, okD]
theorem okM_TIs (A : List Row) : okM (.tup (TIs A)) = true := by
  simp only [okM, okD, Bool.true_and, List.all_eq_true]
  intro x hx
  obtain ⟨v, _, rfl⟩ := List.mem_map.1 hx
  exact okR_TI v
theorem rowB_TI {v : Row} : rowB p m (TI v) = true ↔ Vc p m v := by
  simp only [rowB, Bool.and_eq_true, decide_eq_true_eq, List.all_eq_true, List.length_map, Vc]
  constructor
  · rintro ⟨h1, h2⟩
    exact ⟨h1, fun x hx => by simpa [itemB] using h2 (.int x) (List.mem_map.2 ⟨x, hx, rfl⟩)⟩
  · rintro ⟨h1, h2⟩
    refine ⟨h1, fun x hx => ?_⟩
    obtain ⟨y, hy, rfl⟩ := List.mem_map.1 hx
    simpa [itemB] using h2 y hy
theorem matB_TIs {A : List Row} : matB p m (.tup (TIs A)) = true ↔ A.length = m ∧ Vcs p m A := by
  simp only [matB, Bool.and_eq_true, decide_eq_true_eq, List.all_eq_true, List.length_map]
  constructor
  · rintro ⟨h1, h2⟩
    exact ⟨h1, fun x hx => rowB_TI.1 (h2 _ (List.mem_map.2 ⟨x, hx, rfl⟩))⟩
  · rintro ⟨h1, h2⟩
    refine ⟨h1, fun x hx => ?_⟩
    obtain ⟨y, hy, rfl⟩ := List.mem_map.1 hx
    exact rowB_TI.2 (h2 y hy)
/-- a last row that is none -/
theorem matB_last {A : List Row} {d : D} (h : rowB p m d = false) : matB p m (.tup (TIs A ++ [d])) = false := by
  simp [matB, h]
theorem rowB_last {v : Row} {d : D} (h : itemB p d = false) : rowB p m (.tup (IL v ++ [d])) = false := by
  simp [rowB, h]
end
end PC

namespace PC
open PySem L2
theorem snoc_of {α : Type} : ∀ {l : List α}, l ≠ [] → ∃ a x, l = a ++ [x]
  | [], h => absurd rfl h
  | [x], _ => ⟨[], x, rfl⟩
  | x :: y :: r, _ => by
    obtain ⟨a, z, e⟩ := snoc_of (l := y :: r) (by simp)
    exact ⟨x :: a, z, by rw [e]; rfl⟩
theorem run_ne_bl (a b : Bool) : Cop.run .ne (.bl a) (.bl b) = some (!(a == b)) := by cases a <;> cases b <;> decide
theorem fine_TIs (A : List Row) : D.fine 2 (.tup (TIs A)) = true := by simp only [D.fine]; exact fines_TIs 0 A
theorem ne_TI (v : Row) : Cop.run .ne (TI v) (TI v) = some false := run_ne_same 1 (by omega) (fine_TI 0 v)
theorem ne_TIs (A : List Row) : Cop.run .ne (.tup (TIs A)) (.tup (TIs A)) = some false := run_ne_same 2 (by omega) (fine_TIs A)
section
variable {m : Nat} {M : Mem} {p : Int} {a0 : D} {s4 s5 s6 s7 s8 s9 s10 s11 s12 s13 s14 s15 : Slot}
theorem mats_ok {k : Nat} (hp : 0 < p) (hb : p < 1000) (hm : m ≤ 1000) (hs : Stt M) : ∃ A M', ev (callN T.T (k + 2)) (.bi .tuple (.comp (.range1 (.var 3)) (.name 8) .nil (.call i__law_element (.cons (.var 1) (.cons (.var 2) (.cons (.var 3) .nil)))))) [.v a0, .v (.cell 0), .v (.int p), .v (.int m), s4, s5, s6, s7, s8, s9, s10, s11, s12, s13, s14, s15] M = .ok (.tup (TIs A)) M' ∧ Stt M' ∧ Vcs p m A ∧ A.length = m := by
  have sz : sizeLine = 16777216 := rfl
  obtain ⟨ys, M', e, h1, h2, h3⟩ := cmp_inv (Φ := callN T.T (k + 2)) (ρ := [.v a0, .v (.cell 0), .v (.int p), .v (.int m), s4, s5, s6, s7, s8, s9, s10, s11, s12, s13, s14, s15]) (M := M) (M1 := M) (it := .range1 (.var 3)) (t := .name 8) (elt := .call i__law_element (.cons (.var 1) (.cons (.var 2) (.cons (.var 3) .nil))))
    (I := Stt) (Q := fun y => ∃ v, y = TI v ∧ Vc p m v) (ds := rangeL 0 m) (by simp [rng1_nat (show m ≤ 1000000000 by omega)]) (fun d _ M2 h => by
      obtain ⟨v, M3, e1, e2, e3⟩ := elem_ok (n := k) hp hb hm h
      refine ⟨_, _, M3, rfl, ?_, e2, v, rfl, e3⟩
      simp [wipeE, Tg.slots, e1]) (by rw [rangeL_0]; simp; omega) hs
  obtain ⟨A, rfl, hA⟩ : ∃ A : List Row, ys = TIs A ∧ Vcs p m A := by
    clear e h2
    induction ys with
    | nil => exact ⟨[], rfl, fun _ h => nomatch h⟩
    | cons y ys ih =>
      obtain ⟨x, rfl, hx⟩ := h3 y (List.mem_cons_self ..)
      obtain ⟨v, rfl, hv⟩ := ih fun z hz => h3 z (List.mem_cons_of_mem _ hz)
      exact ⟨x :: v, rfl, fun z hz => (List.mem_cons.1 hz).elim (fun e => e ▸ hx) (hv z)⟩
  refine ⟨A, M', ?_, h1, hA, by rw [rangeL_0] at h2; simpa using h2⟩
  simp only [ev_bi, e, Res.bind_ok, lenM_lst, bir_tupl, Res.of_some]
theorem twist_ok {k : Nat} {A : List Row} (hp : 1 < p) (hb : p < 1000) (hm : m ≤ 1000) (hA : Vcs p m A) (lA : A.length = m) (hs : Stt M) : ∃ A' M', ex (callN T.T (k + 1)) (.ite (.and (.cmp .gt (.var 3) (.int 1)) (.cmp .eq (.call i__law_take (.cons (.var 1) (.cons (.int 3) .nil))) (.int 0))) (.cons (.set 4 (.bin .add (.slice (.var 4) .none (.some (.neg (.int 1)))) (.tup (.cons (.call i__law_scaled (.cons (.sub (.var 4) (.int 0)) (.cons (.call i__law_take (.cons (.var 1) (.cons (.var 2) .nil))) (.cons (.var 2) .nil)))) .nil))))
      .nil) .nil) [.v a0, .v (.cell 0), .v (.int p), .v (.int m), .v (.tup (TIs A)), s5, s6, s7, s8, s9, s10, s11, s12, s13, s14, s15] M = .nx [.v a0, .v (.cell 0), .v (.int p), .v (.int m), .v (.tup (TIs A')), s5, s6, s7, s8, s9, s10, s11, s12, s13, s14, s15] M' ∧ Stt M' ∧ Vcs p m A' ∧ A'.length = m := by
  have sz : sizeLine = 16777216 := rfl
  have q1 : (0 + 1 : Nat) ≤ sizeLine := by omega
  by_cases h1 : (1 : Int) < m
  · obtain ⟨x, M2, e1, S2, x0, x1⟩ := take_ok (n := k) hs (show (0 : Int) < 3 by omega) (by omega)
    by_cases hx : x = 0
    · obtain ⟨y, M3, e2, S3, y0, y1⟩ := take_ok (n := k) S2 (show (0 : Int) < p by omega) (by omega)
      obtain ⟨r0, A1, rfl⟩ : ∃ r0 A1, A = r0 :: A1 := by
        cases A with
        | nil => simp at lA; omega
        | cons a b => exact ⟨_, _, rfl⟩
      obtain ⟨A2, rl, e3⟩ : ∃ A2 rl, r0 :: A1 = A2 ++ [rl] := snoc_of (by simp)
      have v0 := hA r0 (List.mem_cons_self ..)
      have e4 := lscaled_ok (n := k) (M := M3) (v := r0) (a := y) (p := p) (by omega) ⟨by omega, by omega⟩ (by rw [v0.1]; omega)
      have ec : cutD (TIs (r0 :: A1)) none (some (-1)) = TIs A2 := by
        rw [e3]; unfold TIs; rw [List.map_append]; exact cut_init _ _
      have ba : Bop.run .add (.tup (TIs A2)) (.tup [TI (vsc p y r0)]) = some (.tup (TIs (A2 ++ [vsc p y r0]))) := by
        unfold Bop.run
        have := congrArg List.length e3
        simp only [List.length_append, List.length_cons, List.length_nil] at this lA
        simp only [List.length_map, List.length_cons, List.length_nil]
        rw [if_pos (by omega)]; simp
      refine ⟨A2 ++ [vsc p y r0], M3, ?_, S3, fun r hr => ?_, ?_⟩
      · simp only [ex_ite, evT_def, ev_and, ev_cmp, ev_call, evs_cons, evs_nil, ev_var, ev_int, slotV_s, slotV_0, Res.of_some, Res.bind_ok, run_gt_int, h1, decide_true, Option.map_some, truth_bl, e1, run_eq_int, hx, Res.out_ok, if_true, exs_cons, exs_nil, ex_set, ev_bin, ev_tup, ev_slice, evP_none, evP_some, ev_neg, D.slice, ev_sub, subM_tup', e2]
        rw [ec]
        simp only [Res.of_some, Res.bind_ok, List.map_cons, atI_0, e2]
        rw [e4]
        simp only [Res.bind_ok, List.length_cons, List.length_nil, if_pos q1, ba, Res.of_some, Res.out_ok, Out.then_nx, List.set_cons_zero, List.set_cons_succ]
      · rcases List.mem_append.1 hr with h | h
        · exact hA r (by rw [e3]; exact List.mem_append_left _ h)
        · rw [List.mem_singleton.1 h]; exact vc_vsc (by omega) v0.1
      · have := congrArg List.length e3
        simp at this lA ⊢; omega
    · refine ⟨A, M2, ?_, S2, hA, lA⟩
      simp only [ex_ite, evT_def, ev_and, ev_cmp, ev_call, evs_cons, evs_nil, ev_var, ev_int, slotV_s, slotV_0, Res.of_some, Res.bind_ok, run_gt_int, h1, decide_true, Option.map_some, truth_bl, e1, run_eq_int, hx, decide_false, Res.out_ok, Bool.false_eq_true, if_false, exs_nil]
  · refine ⟨A, M, ?_, hs, hA, lA⟩
    simp only [ex_ite, evT_def, ev_and, ev_cmp, ev_var, ev_int, slotV_s, slotV_0, Res.of_some, Res.bind_ok, run_gt_int, h1, decide_false, Option.map_some, truth_bl, Res.out_ok, Bool.false_eq_true, if_false, exs_nil]
theorem ones_ok {k : Nat} (hm : m ≤ 1000) : ev (callN T.T (k + 1)) (.bi .tuple (.comp (.range1 (.var 3)) (.name 8) .nil (.call i__law_unit (.cons (.var 3) (.cons (.var 8) .nil))))) [.v a0, .v (.cell 0), .v (.int p), .v (.int m), s4, s5, s6, s7, s8, s9, s10, s11, s12, s13, s14, s15] M = .ok (.tup (TIs (units m))) M := by
  have sz : sizeLine = 16777216 := rfl
  have hc := cmp_map (Φ := callN T.T (k + 1)) (ρ := [.v a0, .v (.cell 0), .v (.int p), .v (.int m), s4, s5, s6, s7, s8, s9, s10, s11, s12, s13, s14, s15]) (M := M) (M1 := M) (it := .range1 (.var 3)) (t := .name 8) (elt := .call i__law_unit (.cons (.var 3) (.cons (.var 8) .nil)))
    (w := fun i : Nat => D.int i) (g := fun i : Nat => TI (unitR m i)) (List.range m) (by simp [rng1_nat (show m ≤ 1000000000 by omega), rangeL_0]) (fun i hi => ⟨_, rfl, by
      have e := lunit_ok (n := k) (M := M) (i := i) hm
      simp [wipeE, Tg.slots, e]⟩) (by simp; omega)
  simp only [ev_bi, hc, Res.bind_ok, lenM_lst, bir_tupl, Res.of_some]
  simp [units, Function.comp_def]
/-- the powers as worked out -/
theorem dues_ok {k j : Nat} {A : List Row} (hp : 1 < p) (hb : p < 1000) (hm : m ≤ 1000) (hA : Vcs p m A) (lA : A.length = m) (hj : j ≤ 1000) : ∃ s10', ex (callN T.T (k + 1)) (.for_ (.range1 (.var 8)) (.name 10) (.cons (.set 9 (.call i__law_times (.cons (.var 2) (.cons (.var 9) (.cons (.var 4) .nil)))))
      .nil)) [.v a0, .v (.cell 0), .v (.int p), .v (.int m), .v (.tup (TIs A)), s5, s6, s7, .v (.int j), .v (.tup (TIs (units m))), s10, s11, s12, s13, s14, s15] M = .nx [.v a0, .v (.cell 0), .v (.int p), .v (.int m), .v (.tup (TIs A)), s5, s6, s7, .v (.int j), .v (.tup (TIs (pw p m A j))), s10', s11, s12, s13, s14, s15] M := by
  obtain ⟨ρ2, M2, e, ⟨rfl, s4, rfl⟩⟩ := forL_range (t := .name 10) (f := exs (callN T.T (k + 1)) (.cons (.set 9 (.call i__law_times (.cons (.var 2) (.cons (.var 9) (.cons (.var 4) .nil))))) .nil)) (fun i ρ M' => M' = M ∧ ∃ s10, ρ = [.v a0, .v (.cell 0), .v (.int p), .v (.int m), .v (.tup (TIs A)), s5, s6, s7, .v (.int j), .v (.tup (TIs (pw p m A i))), s10, s11, s12, s13, s14, s15]) j
    [.v a0, .v (.cell 0), .v (.int p), .v (.int m), .v (.tup (TIs A)), s5, s6, s7, .v (.int j), .v (.tup (TIs (units m))), s10, s11, s12, s13, s14, s15] M (fun i hi ρ M' h => by
      obtain ⟨rfl, s4, rfl⟩ := h
      obtain ⟨h1, h2⟩ := pw_ok hp hA i
      refine ⟨_, _, _, rfl, ?_, rfl, .v (.int i), rfl⟩
      have e := ltimes_ok (n := k) (M := M') (A := pw p m A i) (R := A) (p := p) (by omega) hb hm hA h1 h2 lA
      simp only [exs_cons, exs_nil, ex_set, ev_call, evs_cons, evs_nil, ev_var, List.set_cons_zero, List.set_cons_succ, slotV_s, slotV_0, Res.of_some, Res.bind_ok, e, Res.out_ok, Out.then_nx]
      rfl) ⟨rfl, s10, rfl⟩
  refine ⟨s4, ?_⟩
  simp only [ex_for, evI_range1, ev_var, slotV_s, slotV_0, Res.of_some, Res.bind_ok, rng1_nat (show j ≤ 1000000000 by omega), Res.out_ok]
  exact e
/-- values that are no matrix, or the matrix itself -/
def Wr (p : Int) (m : Nat) (A : List Row) (y : D) : Prop := okM y = true ∧ (∀ xs, y = .tup xs → xs.length ≤ 1000) ∧ (matB p m y = false ∨ y = .tup (TIs A))
theorem wr_lst {A : List Row} {xs : List D} : Wr p m A (.lst xs) := ⟨rfl, (fun _ h => nomatch h), .inl rfl⟩
theorem wr_non {A : List Row} : Wr p m A .non := ⟨rfl, (fun _ h => nomatch h), .inl rfl⟩
theorem wr_int {A : List Row} {i : Int} : Wr p m A (.int i) := ⟨rfl, (fun _ h => nomatch h), .inl rfl⟩
theorem wr_str {A : List Row} {i : Str} : Wr p m A (.str i) := ⟨rfl, (fun _ h => nomatch h), .inl rfl⟩
theorem wr_rows {A B : List Row} (hl : B.length ≤ 1000) (h : B.length ≠ m ∨ B = A) : Wr p m A (.tup (TIs B)) := by
  refine ⟨okM_TIs B, fun xs e => by cases e; simpa using hl, ?_⟩
  rcases h with h | rfl
  · refine .inl ?_
    simp [matB, h]
  · exact .inr rfl
theorem wr_last {A B : List Row} {d : D} (hl : B.length < 1000) (ho : okR d = true) (h : rowB p m d = false) : Wr p m A (.tup (TIs B ++ [d])) := by
  refine ⟨?_, fun xs e => by cases e; simp; omega, .inl (matB_last h)⟩
  have := okM_TIs B
  simp only [okM, okD, Bool.true_and, List.all_append, List.all_cons, List.all_nil, ho, Bool.and_true] at this ⊢
  exact this
theorem add_tup {xs ys : List D} (h : xs.length + ys.length ≤ sizeLine) : Bop.run .add (.tup xs) (.tup ys) = some (.tup (xs ++ ys)) := by
  unfold Bop.run; exact if_pos h
theorem add_lst {xs ys : List D} (h : xs.length + ys.length ≤ sizeLine) : Bop.run .add (.lst xs) (.lst ys) = some (.lst (xs ++ ys)) := by
  unfold Bop.run; exact if_pos h
theorem wrong_ok {k : Nat} {A : List Row} (hp : 1 < p) (hm : m ≤ 500) (hA : Vcs p m A) (lA : A.length = m) : ∃ W, (ex (callN T.T k) (.set 13 (.lst (.cons (.bi .list (.var 4)) (.cons (.bin .add (.bin .add (.var 4) (.slice (.var 6) .none (.some (.int 1)))) (.slice (.var 6) .none (.some (.int 1)))) (.cons .non (.cons (.int 0) (.cons (.str "0") (.cons (.bin .add (.var 4) (.tup (.cons (.bin .mul (.tup (.cons (.int 0) .nil)) (.bin .add (.var 3) (.int 1))) .nil))) .nil)))))))) [.v a0, .v (.cell 0), .v (.int p), .v (.int m), .v (.tup (TIs A)), s5, .v (.tup (TIs (units m))), s7, s8, s9, s10, s11, s12, s13, s14, s15] M).then (fun ρ1 M1 => ex (callN T.T k)
      (.ite (.cmp .gt (.var 3) (.int 0)) (.cons (.set 13 (.bin .add (.var 13) (.lst (.cons (.slice (.var 4) .none (.some (.neg (.int 1)))) (.cons (.bin .add (.slice (.var 4) .none (.some (.neg (.int 1)))) (.tup (.cons (.bi .list (.sub (.var 4) (.neg (.int 1)))) .nil))) (.cons (.bin .add (.slice (.var 4) .none (.some (.neg (.int 1)))) (.tup (.cons (.bin .add (.slice (.sub (.var 4) (.neg (.int 1))) .none (.some (.neg (.int 1)))) (.tup (.cons (.var 2) .nil))) .nil))) (.cons (.bin .add (.slice (.var 4) .none (.some (.neg (.int 1)))) (.tup (.cons (.bin .add (.slice (.sub (.var 4) (.neg (.int 1))) .none (.some (.neg (.int 1)))) (.tup (.cons (.bl true) .nil))) .nil))) (.cons (.bin .add (.slice (.var 4) .none (.some (.neg (.int 1)))) (.tup (.cons (.bin .add (.sub (.var 4) (.neg (.int 1))) (.tup (.cons (.int 0) .nil))) .nil))) .nil))))))))
      .nil) .nil) ρ1 M1) = .nx [.v a0, .v (.cell 0), .v (.int p), .v (.int m), .v (.tup (TIs A)), s5, .v (.tup (TIs (units m))), s7, s8, s9, s10, s11, s12, .v (.lst W), s14, s15] M ∧ W.length ≤ 1000 ∧ ∀ y ∈ W, Wr p m A y := by
  have sz : sizeLine = 16777216 := rfl
  have c1 : cutD (TIs (units m)) none (some 1) = TIs ((units m).take 1) := by
    have := cut_take (TIs (units m)) 1
    rw [show ((1 : Nat) : Int) = 1 from rfl] at this
    rw [this]; simp [TIs, List.map_take]
  have lu : ((units m).take 1).length ≤ 1 ∧ (m ≠ 0 → ((units m).take 1).length = 1) := by
    rw [List.length_take, units_len]; omega
  have b1 := add_tup (xs := TIs A) (ys := TIs ((units m).take 1)) (by simp only [List.length_map]; omega)
  have b2 := add_tup (xs := TIs A ++ TIs ((units m).take 1)) (ys := TIs ((units m).take 1)) (by simp only [List.length_append, List.length_map]; omega)
  have cast : (m : Int) + 1 = ((m + 1 : Nat) : Int) := by omega
  have b3 := bop_rep (m + 1) (by omega)
  have b4 := add_tup (xs := TIs A) (ys := [TI (List.replicate (m + 1) 0)]) (by simp only [List.length_map, List.length_cons, List.length_nil]; omega)
  have q1 : (0 + 1 : Nat) ≤ sizeLine := by omega
  have q5 : (0 + 1 + 1 + 1 + 1 + 1 : Nat) ≤ sizeLine := by omega
  have q6 : (0 + 1 + 1 + 1 + 1 + 1 + 1 : Nat) ≤ sizeLine := by omega
  have hW1 : ∀ y ∈ [D.lst (TIs A), D.tup (TIs A ++ TIs ((units m).take 1) ++ TIs ((units m).take 1)), .non, .int 0, .str "0", .tup (TIs A ++ [TI (List.replicate (m + 1) 0)])], Wr p m A y := fun y hy => by
    simp only [List.mem_cons, List.not_mem_nil, or_false] at hy
    rcases hy with rfl | rfl | rfl | rfl | rfl | rfl
    · exact wr_lst
    · have : TIs A ++ TIs ((units m).take 1) ++ TIs ((units m).take 1) = TIs (A ++ (units m).take 1 ++ (units m).take 1) := by simp
      rw [this]
      refine wr_rows (by simp only [List.length_append]; omega) ?_
      by_cases hz : m = 0
      · refine .inr ?_
        subst hz
        rw [List.eq_nil_of_length_eq_zero lA]
        rfl
      · refine .inl ?_
        have := lu.2 hz
        simp only [List.length_append]; omega
    · exact wr_non
    · exact wr_int
    · exact wr_str
    · have : TIs A ++ [TI (List.replicate (m + 1) 0)] = TIs (A ++ [List.replicate (m + 1) 0]) := by simp
      rw [this]
      exact wr_rows (by simp; omega) (.inl (by simp; omega))
  by_cases hz : m = 0
  · have gt0 : decide ((0 : Int) < (m : Int)) = false := decide_eq_false (by omega)
    refine ⟨_, ?_, ?_, hW1⟩
    · simp only [ex_set, ev_lst, evs_cons, evs_nil, ev_bi, ev_bin, ev_slice, evP_none, evP_some, ev_tup, ev_non, ev_int, ev_str, ev_var, slotV_s, slotV_0, Res.of_some, Res.bind_ok, lenM_tup, bir_lstt, D.slice, c1, b1, b2, bop_add, cast, List.length_cons, List.length_nil, if_pos q1, b3, b4, if_pos q6, Res.out_ok, Out.then_nx, List.set_cons_zero, List.set_cons_succ, ex_ite, evT_def, ev_cmp, run_gt_int, Option.map_some, truth_bl, gt0, Bool.false_eq_true, if_false, exs_nil]
    · simp
  · obtain ⟨A', r, rfl⟩ : ∃ A' r, A = A' ++ [r] := snoc_of fun e => by rw [e] at lA; simp at lA; omega
    have vr := hA r (by simp)
    obtain ⟨r', x, rfl⟩ : ∃ r' x, r = r' ++ [x] := snoc_of fun e => by have := vr.1; rw [e] at this; simp at this; omega
    have lA' : A'.length + 1 = m := by simpa using lA
    have lr' : r'.length + 1 = m := by simpa using vr.1
    have et : TIs (A' ++ [r' ++ [x]]) = TIs A' ++ [TI (r' ++ [x])] := by simp
    have el : TI (r' ++ [x]) = .tup (IL r' ++ [.int x]) := by simp
    have c2 : cutD (TIs (A' ++ [r' ++ [x]])) none (some (-1)) = TIs A' := by rw [et]; exact cut_init _ _
    have c3 : cutD (IL r' ++ [D.int x]) none (some (-1)) = IL r' := cut_init _ _
    have g1 : L2.atI (TIs (A' ++ [r' ++ [x]])) (-1) = some (.tup (IL r' ++ [.int x])) := by rw [et, el]; exact atI_last _ _
    have d1 : ∀ z : D, Bop.run .add (.tup (IL r')) (.tup [z]) = some (.tup (IL r' ++ [z])) := fun z => add_tup (by simp only [List.length_map, List.length_cons, List.length_nil]; omega)
    have d2 : ∀ z : D, Bop.run .add (.tup (IL r' ++ [.int x])) (.tup [z]) = some (.tup (IL r' ++ [.int x] ++ [z])) := fun z => add_tup (by simp only [List.length_append, List.length_map, List.length_cons, List.length_nil]; omega)
    have d3 : ∀ z : D, Bop.run .add (.tup (TIs A')) (.tup [z]) = some (.tup (TIs A' ++ [z])) := fun z => add_tup (by simp only [List.length_map, List.length_cons, List.length_nil]; omega)
    have gt : decide ((0 : Int) < (m : Int)) = true := decide_eq_true (by omega)
    have ol : ∀ z : D, okD z = true → okR (.tup (IL r' ++ [z])) = true := fun z hz => by
      show (true && (IL r' ++ [z]).all okD) = true
      rw [Bool.true_and, List.all_append]
      simp only [List.all_cons, List.all_nil, hz, Bool.and_true]
      simp [okD]
    have hW2 : ∀ y ∈ [D.tup (TIs A'), D.tup (TIs A' ++ [.lst (IL r' ++ [.int x])]), .tup (TIs A' ++ [.tup (IL r' ++ [.int p])]), .tup (TIs A' ++ [.tup (IL r' ++ [.bl true])]), .tup (TIs A' ++ [.tup (IL r' ++ [.int x] ++ [.int 0])])], Wr p m (A' ++ [r' ++ [x]]) y := fun y hy => by
      simp only [List.mem_cons, List.not_mem_nil, or_false] at hy
      rcases hy with rfl | rfl | rfl | rfl | rfl
      · exact wr_rows (by omega) (.inl (by omega))
      · exact wr_last (by omega) rfl rfl
      · exact wr_last (by omega) (ol _ rfl) (rowB_last (by simp [itemB]))
      · exact wr_last (by omega) (ol _ rfl) (rowB_last rfl)
      · refine wr_last (by omega) (by simp [okR, okD]) ?_
        have : ¬ (r'.length + 1 + 1 = m) := by omega
        simp [rowB, this]
    refine ⟨[D.lst (TIs (A' ++ [r' ++ [x]])), D.tup (TIs (A' ++ [r' ++ [x]]) ++ TIs ((units m).take 1) ++ TIs ((units m).take 1)), .non, .int 0, .str "0", .tup (TIs (A' ++ [r' ++ [x]]) ++ [TI (List.replicate (m + 1) 0)])] ++ [D.tup (TIs A'), D.tup (TIs A' ++ [.lst (IL r' ++ [.int x])]), .tup (TIs A' ++ [.tup (IL r' ++ [.int p])]), .tup (TIs A' ++ [.tup (IL r' ++ [.bl true])]), .tup (TIs A' ++ [.tup (IL r' ++ [.int x] ++ [.int 0])])], ?_, ?_, fun y hy => (List.mem_append.1 hy).elim (hW1 y) (hW2 y)⟩
    · have dl : ∀ a b c d e f g h i j k : D, Bop.run .add (.lst [a, b, c, d, e, f]) (.lst [g, h, i, j, k]) = some (.lst ([a, b, c, d, e, f] ++ [g, h, i, j, k])) := fun a b c d e f g h i j k => add_lst (by simp only [List.length_cons, List.length_nil]; omega)
      simp only [ex_set, ev_lst, evs_cons, evs_nil, ev_bi, ev_bin, ev_slice, evP_none, evP_some, ev_tup, ev_non, ev_int, ev_bl, ev_str, ev_var, slotV_s, slotV_0, Res.of_some, Res.bind_ok, lenM_tup, bir_lstt, D.slice, c1, b1, b2, bop_add, cast, List.length_cons, List.length_nil, if_pos q1, b3, b4, if_pos q6, Res.out_ok, Out.then_nx, List.set_cons_zero, List.set_cons_succ, ex_ite, evT_def, ev_cmp, run_gt_int, Option.map_some, truth_bl, gt, if_true, exs_nil, exs_cons, ev_neg, ev_sub, subM_tup', c2, g1, c3, d1, d2, d3, if_pos q5, dl]
    · simp
/-- the end -/
theorem fin_ok {A : List Row} {W : List D} (hm : m ≤ 500) (hA : Vcs p m A) (lA : A.length = m) (lW : W.length ≤ 1000) (hW : ∀ y ∈ W, Wr p m A y) : ev (callN T.T 19) (.and (.isB (.call i_is_matrix (.cons (.var 4) (.cons (.var 2) (.cons (.var 3) .nil)))) true) (.cmp .eq (.bi .len (.comp (.seq (.var 13)) (.name 15) (.cons (.and (.notB (.call i_is_matrix (.cons (.var 15) (.cons (.var 2) (.cons (.var 3) .nil)))) false) (.cmp .ne (.var 15) (.var 4))) .nil) (.var 15))) (.int 0)))
      [.v a0, .v (.cell 0), .v (.int p), .v (.int m), .v (.tup (TIs A)), s5, s6, s7, s8, s9, s10, s11, s12, .v (.lst W), s14, s15] M = .ok (.bl true) M := by
  have sz : sizeLine = 16777216 := rfl
  have e1 : callN T.T 19 i_is_matrix [.tup (TIs A), .int p, .int m] M = .ok (.bl true) M := by
    rw [ismat_ok (n := 16) (okM_TIs A) (fun xs e => by cases e; simp; omega), matB_TIs.2 ⟨lA, hA⟩]
  have hc := cmp_filt (Φ := callN T.T 19) (ρ := [.v a0, .v (.cell 0), .v (.int p), .v (.int m), .v (.tup (TIs A)), s5, s6, s7, s8, s9, s10, s11, s12, .v (.lst W), s14, s15]) (M := M) (M1 := M) (it := .seq (.var 13)) (t := .name 15) (c := .and (.notB (.call i_is_matrix (.cons (.var 15) (.cons (.var 2) (.cons (.var 3) .nil)))) false) (.cmp .ne (.var 15) (.var 4))) (elt := .var 15)
    (w := fun y : D => y) (g := fun y : D => y) (fun _ => false) W (by simp [D.items]) (fun y hy => by
      obtain ⟨h1, h2, h3⟩ := hW y hy
      have e := ismat_ok (n := 16) (M := M) (p := p) (m := m) h1 h2
      refine ⟨_, rfl, ?_, fun h => nomatch h⟩
      have hx : ev (callN T.T 19) (.notB (.call i_is_matrix (.cons (.var 15) (.cons (.var 2) (.cons (.var 3) .nil)))) false) [.v a0, .v (.cell 0), .v (.int p), .v (.int m), .v (.tup (TIs A)), s5, s6, s7, s8, s9, s10, s11, s12, .v (.lst W), s14, .v y] M = .ok (.bl (matB p m y)) M := by
        rw [ev]
        simp only [ev_call, evs_cons, evs_nil, ev_var, slotV_s, slotV_0, Res.of_some, Res.bind_ok, e]
        cases matB p m y <;> rfl
      simp only [wipeE, Tg.slots, List.set_cons_zero, List.set_cons_succ, evT_def, ev_and, hx, Res.bind_ok, truth_bl]
      cases hb : matB p m y with
      | false => simp
      | true =>
        rcases h3 with h3 | rfl
        · rw [hb] at h3; cases h3
        · simp only [ev_cmp, ev_var, slotV_s, slotV_0, Res.of_some, Res.bind_ok, ne_TIs, Option.map_some, truth_bl]) (by omega)
  have ev1 : ev (callN T.T 19) (.isB (.call i_is_matrix (.cons (.var 4) (.cons (.var 2) (.cons (.var 3) .nil)))) true) [.v a0, .v (.cell 0), .v (.int p), .v (.int m), .v (.tup (TIs A)), s5, s6, s7, s8, s9, s10, s11, s12, .v (.lst W), s14, s15] M = .ok (.bl true) M := by
    rw [ev]
    simp only [ev_call, evs_cons, evs_nil, ev_var, slotV_s, slotV_0, Res.of_some, Res.bind_ok, e1]
    rfl
  simp only [ev_and, ev1, Res.bind_ok, truth_bl, ev_cmp, ev_bi, hc]
  simp
end
end PC

namespace PC
open PySem L2
theorem then_assoc (o : Out) (f g : Ev → Mem → Out) : (o.then f).then g = o.then fun ρ M => (f ρ M).then g := by cases o <;> rfl
def tail13 : B := (.cons (.set 13 (.lst (.cons (.bi .list (.var 4)) (.cons (.bin .add (.bin .add (.var 4) (.slice (.var 6) .none (.some (.int 1)))) (.slice (.var 6) .none (.some (.int 1)))) (.cons .non (.cons (.int 0) (.cons (.str "0") (.cons (.bin .add (.var 4) (.tup (.cons (.bin .mul (.tup (.cons (.int 0) .nil)) (.bin .add (.var 3) (.int 1))) .nil))) .nil))))))))
  (.cons (.ite (.cmp .gt (.var 3) (.int 0)) (.cons (.set 13 (.bin .add (.var 13) (.lst (.cons (.slice (.var 4) .none (.some (.neg (.int 1)))) (.cons (.bin .add (.slice (.var 4) .none (.some (.neg (.int 1)))) (.tup (.cons (.bi .list (.sub (.var 4) (.neg (.int 1)))) .nil))) (.cons (.bin .add (.slice (.var 4) .none (.some (.neg (.int 1)))) (.tup (.cons (.bin .add (.slice (.sub (.var 4) (.neg (.int 1))) .none (.some (.neg (.int 1)))) (.tup (.cons (.var 2) .nil))) .nil))) (.cons (.bin .add (.slice (.var 4) .none (.some (.neg (.int 1)))) (.tup (.cons (.bin .add (.slice (.sub (.var 4) (.neg (.int 1))) .none (.some (.neg (.int 1)))) (.tup (.cons (.bl true) .nil))) .nil))) (.cons (.bin .add (.slice (.var 4) .none (.some (.neg (.int 1)))) (.tup (.cons (.bin .add (.sub (.var 4) (.neg (.int 1))) (.tup (.cons (.int 0) .nil))) .nil))) .nil))))))))
  .nil) .nil)
  (.cons (.ret (.and (.isB (.call i_is_matrix (.cons (.var 4) (.cons (.var 2) (.cons (.var 3) .nil)))) true) (.cmp .eq (.bi .len (.comp (.seq (.var 13)) (.name 15) (.cons (.and (.notB (.call i_is_matrix (.cons (.var 15) (.cons (.var 2) (.cons (.var 3) .nil)))) false) (.cmp .ne (.var 15) (.var 4))) .nil) (.var 15))) (.int 0))))
  .nil)))
theorem tail_eq : (.cons (.set 13 (.lst (.cons (.bi .list (.var 4)) (.cons (.bin .add (.bin .add (.var 4) (.slice (.var 6) .none (.some (.int 1)))) (.slice (.var 6) .none (.some (.int 1)))) (.cons .non (.cons (.int 0) (.cons (.str "0") (.cons (.bin .add (.var 4) (.tup (.cons (.bin .mul (.tup (.cons (.int 0) .nil)) (.bin .add (.var 3) (.int 1))) .nil))) .nil))))))))
  (.cons (.ite (.cmp .gt (.var 3) (.int 0)) (.cons (.set 13 (.bin .add (.var 13) (.lst (.cons (.slice (.var 4) .none (.some (.neg (.int 1)))) (.cons (.bin .add (.slice (.var 4) .none (.some (.neg (.int 1)))) (.tup (.cons (.bi .list (.sub (.var 4) (.neg (.int 1)))) .nil))) (.cons (.bin .add (.slice (.var 4) .none (.some (.neg (.int 1)))) (.tup (.cons (.bin .add (.slice (.sub (.var 4) (.neg (.int 1))) .none (.some (.neg (.int 1)))) (.tup (.cons (.var 2) .nil))) .nil))) (.cons (.bin .add (.slice (.var 4) .none (.some (.neg (.int 1)))) (.tup (.cons (.bin .add (.slice (.sub (.var 4) (.neg (.int 1))) .none (.some (.neg (.int 1)))) (.tup (.cons (.bl true) .nil))) .nil))) (.cons (.bin .add (.slice (.var 4) .none (.some (.neg (.int 1)))) (.tup (.cons (.bin .add (.sub (.var 4) (.neg (.int 1))) (.tup (.cons (.int 0) .nil))) .nil))) .nil))))))))
  .nil) .nil)
  (.cons (.ret (.and (.isB (.call i_is_matrix (.cons (.var 4) (.cons (.var 2) (.cons (.var 3) .nil)))) true) (.cmp .eq (.bi .len (.comp (.seq (.var 13)) (.name 15) (.cons (.and (.notB (.call i_is_matrix (.cons (.var 15) (.cons (.var 2) (.cons (.var 3) .nil)))) false) (.cmp .ne (.var 15) (.var 4))) .nil) (.var 15))) (.int 0))))
  .nil))) = tail13 := rfl
theorem tail_run {Φ : Fns} {ρ : Ev} {M : Mem} : exs Φ tail13 ρ M = ((ex Φ (.set 13 (.lst (.cons (.bi .list (.var 4)) (.cons (.bin .add (.bin .add (.var 4) (.slice (.var 6) .none (.some (.int 1)))) (.slice (.var 6) .none (.some (.int 1)))) (.cons .non (.cons (.int 0) (.cons (.str "0") (.cons (.bin .add (.var 4) (.tup (.cons (.bin .mul (.tup (.cons (.int 0) .nil)) (.bin .add (.var 3) (.int 1))) .nil))) .nil)))))))) ρ M).then fun ρ1 M1 => ex Φ (.ite (.cmp .gt (.var 3) (.int 0)) (.cons (.set 13 (.bin .add (.var 13) (.lst (.cons (.slice (.var 4) .none (.some (.neg (.int 1)))) (.cons (.bin .add (.slice (.var 4) .none (.some (.neg (.int 1)))) (.tup (.cons (.bi .list (.sub (.var 4) (.neg (.int 1)))) .nil))) (.cons (.bin .add (.slice (.var 4) .none (.some (.neg (.int 1)))) (.tup (.cons (.bin .add (.slice (.sub (.var 4) (.neg (.int 1))) .none (.some (.neg (.int 1)))) (.tup (.cons (.var 2) .nil))) .nil))) (.cons (.bin .add (.slice (.var 4) .none (.some (.neg (.int 1)))) (.tup (.cons (.bin .add (.slice (.sub (.var 4) (.neg (.int 1))) .none (.some (.neg (.int 1)))) (.tup (.cons (.bl true) .nil))) .nil))) (.cons (.bin .add (.slice (.var 4) .none (.some (.neg (.int 1)))) (.tup (.cons (.bin .add (.sub (.var 4) (.neg (.int 1))) (.tup (.cons (.int 0) .nil))) .nil))) .nil))))))))
  .nil) .nil) ρ1 M1).then fun ρ2 M2 => exs Φ (.cons (.ret (.and (.isB (.call i_is_matrix (.cons (.var 4) (.cons (.var 2) (.cons (.var 3) .nil)))) true) (.cmp .eq (.bi .len (.comp (.seq (.var 13)) (.name 15) (.cons (.and (.notB (.call i_is_matrix (.cons (.var 15) (.cons (.var 2) (.cons (.var 3) .nil)))) false) (.cmp .ne (.var 15) (.var 4))) .nil) (.var 15))) (.int 0)))) .nil) ρ2 M2 := by
  unfold tail13
  rw [then_assoc]
  simp only [exs_cons]
theorem main (ns : List Int) (hl : ns.length ≤ 63) : ∃ M', callN T.T 20 i_law [.frz (ns.map .int)] [] = .ok (.bl true) M' := by
  have sz : sizeLine = 16777216 := rfl
  obtain ⟨M1, e1, S1⟩ := state_ok (n := 18) ns
  obtain ⟨p, M2, e2, S2, hp⟩ := prime_ok (n := 17) S1
  have hf : Fld p := by rcases hp with rfl | rfl | rfl | rfl | rfl <;> exact ⟨by decide, by decide⟩
  have hb : p < 1000 := by omega
  have p0 := hf.pos
  have p1 := hf.1
  obtain ⟨most, hmost, hq⟩ : ∃ most : Nat, (4 - (if decide (3 < p) = true then 1 else 0) - (if decide (7 < p) = true then 1 else 0) : Int) = most ∧ 0 < most ∧ most ≤ 4 ∧ p.toNat ^ (most - 1) ≤ 1000 := by
    rcases hp with rfl | rfl | rfl | rfl | rfl
    · exact ⟨4, by decide, by decide, by decide, by decide⟩
    · exact ⟨4, by decide, by decide, by decide, by decide⟩
    · exact ⟨3, by decide, by decide, by decide, by decide⟩
    · exact ⟨3, by decide, by decide, by decide, by decide⟩
    · exact ⟨2, by decide, by decide, by decide, by decide⟩
  obtain ⟨x, M3, e3, S3, x0, x1⟩ := take_ok (n := 18) S2 (show (0 : Int) < (most : Int) by omega) (by omega)
  obtain ⟨m, rfl⟩ : ∃ m : Nat, x = m := ⟨x.toNat, by omega⟩
  have hm : m ≤ 3 := by omega
  have hpw : p.toNat ^ m ≤ 1000 := Nat.le_trans (Nat.pow_le_pow_right (by omega) (by omega)) hq.2.2
  obtain ⟨A0, M4, e4, S4, vA0, lA0⟩ := mats_ok (k := 17) (a0 := .frz (List.map D.int ns)) (s4 := .un) (s5 := .un) (s6 := .un) (s7 := .un) (s8 := .un) (s9 := .un) (s10 := .un) (s11 := .un) (s12 := .un) (s13 := .un) (s14 := .un) (s15 := .un) p0 hb (show m ≤ 1000 by omega) S3
  obtain ⟨B, M5, e5, S5, vB, lB⟩ := mats_ok (k := 17) (a0 := .frz (List.map D.int ns)) (s4 := .v (.tup (TIs A0))) (s5 := .un) (s6 := .un) (s7 := .un) (s8 := .un) (s9 := .un) (s10 := .un) (s11 := .un) (s12 := .un) (s13 := .un) (s14 := .un) (s15 := .un) p0 hb (show m ≤ 1000 by omega) S4
  obtain ⟨A, M6, e6, S6, vA, lA⟩ := twist_ok (k := 18) (a0 := .frz (List.map D.int ns)) (s5 := .v (.tup (TIs B))) (s6 := .un) (s7 := .un) (s8 := .un) (s9 := .un) (s10 := .un) (s11 := .un) (s12 := .un) (s13 := .un) (s14 := .un) (s15 := .un) p1 hb (show m ≤ 1000 by omega) vA0 lA0 S5
  have e7 := ones_ok (k := 18) (M := M6) (p := p) (a0 := .frz (List.map D.int ns)) (s4 := .v (.tup (TIs A))) (s5 := .v (.tup (TIs B))) (s6 := .un) (s7 := .un) (s8 := .un) (s9 := .un) (s10 := .un) (s11 := .un) (s12 := .un) (s13 := .un) (s14 := .un) (s15 := .un) (show m ≤ 1000 by omega)
  obtain ⟨v, M7, e8, S7, vv⟩ := elem_ok (n := 17) p0 hb (show m ≤ 1000 by omega) S6
  have f1 : callN T.T 19 i_moved [TI v, .tup (TIs A), .int p] M7 = .ok (TI (mv p m A v)) M7 := by
    have := moved_ok (n := 17) (M := M7) (m := 0) (R := A) (w := v) p0 hb (by omega) (by rw [lA]; exact vA) (by rw [lA]; exact vv)
    rwa [lA] at this
  have f2 : callN T.T 19 i__law_total [.int p, .tup (TIs A), TI v, .int m] M7 = .ok (TI (mv p m A v)) M7 := ltotalT_ok (n := 17) p0 hb (by omega) (by omega) vA (by rw [lA]; exact vv)
  have f3 : callN T.T 19 i_times [.tup (TIs A), .tup (TIs B), .int p] M7 = .ok (.tup (TIs (A.map (mv p m B)))) M7 := by
    have := times_ok (n := 16) (M := M7) (m := 0) (A := A) (R := B) p0 hb (by omega) (by rw [lB]; exact vB) (by rw [lB]; exact vA) (by omega)
    rwa [lB] at this
  have f4 : callN T.T 19 i__law_times [.int p, .tup (TIs A), .tup (TIs B)] M7 = .ok (.tup (TIs (A.map (mv p m B)))) M7 := ltimes_ok (n := 18) p0 hb (by omega) vB vA lA lB
  have f5 : callN T.T 19 i_identity [.int m] M7 = .ok (.tup (TIs (units m))) M7 := ident_ok (n := 18) (by omega)
  have h1 : ∀ (w : Row) (M : Mem), callN T.T 19 i__law_honest [TI w] M = .ok (TI w) M := fun w M => honest_ok 1 16 (by omega) (fine_TI 0 _)
  have h2 : ∀ (w : List Row) (M : Mem), callN T.T 19 i__law_honest [.tup (TIs w)] M = .ok (.tup (TIs w)) M := fun w M => honest_ok 2 15 (by omega) (fine_TIs _)
  obtain ⟨y, M8, e9, S8, y0, y1⟩ := take_ok (n := 18) S7 (show (0 : Int) < 6 by omega) (by omega)
  obtain ⟨k, rfl⟩ : ∃ k : Nat, y = k := ⟨y.toNat, by omega⟩
  obtain ⟨s10, e10⟩ := dues_ok (k := 18) (j := k) (M := M8) (a0 := .frz (List.map D.int ns)) (s5 := .v (.tup (TIs B))) (s6 := .v (.tup (TIs (units m)))) (s7 := .v (TI v)) (s10 := .un) (s11 := .un) (s12 := .un) (s13 := .un) (s14 := .un) (s15 := .un) p1 hb (show m ≤ 1000 by omega) vA lA (by omega)
  have f6 : callN T.T 19 i_matrix_power [.tup (TIs A), .int k, .int p] M8 = .ok (.tup (TIs (pw p m A k))) M8 := power_ok (n := 15) p1 hb vA lA (by omega) (by omega)
  have f7 := lspan_ok (n := 17) (M := M8) (X := .tup (TIs A)) (m := m) rfl hf hb (by omega) vA (by rw [lA]; exact hpw)
  have f8 := lall_ok (n := 18) (M := M8) p0 hb (show m ≤ 1000 by omega) hpw
  obtain ⟨F, hF, hFs, hFl, e11⟩ := reduced_ok (n := 13) (M := M8) (X := .tup (TIs A)) (m := m) rfl hf hb (by omega) (by omega) vA
  obtain ⟨F', hF', hFs', hFl', e11'⟩ := reduced_ok (n := 15) (M := M8) (X := .tup (TIs A)) (m := m) rfl hf hb (by omega) (by omega) vA
  obtain ⟨F3, hF3, hFs3, hFl3, e113⟩ := reduced_ok (n := 14) (M := M8) (X := .tup (TIs A)) (m := m) rfl hf hb (by omega) (by omega) vA
  have eF : F' = F := Rf.one_ p0 hF' hF fun u => (hFs' u).trans (hFs u).symm
  have eF3 : F3 = F := Rf.one_ p0 hF3 hF fun u => (hFs3 u).trans (hFs u).symm
  rw [eF] at e11'
  rw [eF3] at e113
  have f9 : callN T.T 19 i_is_invertible [.tup (TIs A), .int p] M8 = .ok (.bl (decide (F.length = m))) M8 := invb_ok (n := 15) lA e11'
  have pl := plain_ok hf vA hF hFs
  have fpl : decide (((isort D.ltI (spanF p m A)).length : Int) = ((allW p m).length : Int)) = decide (F.length = m) := by
    rw [decide_eq_decide, ← pl]; omega
  have ewr := fun s14 : Slot => wrong_ok (k := 19) (M := M8) (a0 := .frz (List.map D.int ns)) (s5 := .v (.tup (TIs B))) (s7 := .v (TI v)) (s8 := .v (.int k)) (s9 := .v (.tup (TIs (pw p m A k)))) (s10 := s10) (s11 := .v (.bl (decide (F.length = m)))) (s12 := .v (.bl (decide (F.length = m)))) (s13 := .un) (s14 := s14) (s15 := .un) p1 (show m ≤ 500 by omega) vA lA
  simp only [Nat.reduceAdd] at e1 e2 e3 e4 e5 e6 e7 e8 e9 e10 f7 f8
  rw [run_law, tail_eq]
  simp only [List.length_cons, List.length_nil, if_true, exs_cons, ex_set, ev_call, evs_cons, evs_nil, ev_var, slotV_s, slotV_0, Res.of_some, Res.bind_ok, e1, Res.out_ok, Out.then_nx, List.set_cons_zero, List.set_cons_succ, e2]
  have e3' : ev (callN T.T 19) (.bin .sub (.bin .sub (.int 4) (.bi .int (.cmp .gt (.var 2) (.int 3)))) (.bi .int (.cmp .gt (.var 2) (.int 7)))) [.v (.frz (List.map D.int ns)), .v (.cell 0), .v (.int p), .un, .un, .un, .un, .un, .un, .un, .un, .un, .un, .un, .un, .un] M2 = .ok (.int most) M2 := by
    rw [← hmost]
    simp only [ev_bin, ev_int, ev_bi, ev_cmp, ev_var, slotV_s, slotV_0, Res.of_some, Res.bind_ok, run_gt_int, Option.map_some, lenM_bl, bir_intb, bop_sub]
  rw [e3']
  simp only [Res.bind_ok, e3, Res.out_ok, Out.then_nx, List.set_cons_zero, List.set_cons_succ]
  rw [e4]
  simp only [Res.out_ok, Out.then_nx, List.set_cons_zero, List.set_cons_succ]
  rw [e5]
  simp only [Res.out_ok, Out.then_nx, List.set_cons_zero, List.set_cons_succ]
  rw [e6]
  simp only [Out.then_nx]
  rw [e7]
  simp only [Res.out_ok, Out.then_nx, List.set_cons_zero, List.set_cons_succ, slotV_s, slotV_0, Res.of_some, Res.bind_ok, e8, ex_ite, evT_def, ev_or, ev_cmp, ev_call, evs_cons, evs_nil, ev_var, f1, f2, f3, f4, f5, h1, h2, ne_TI, ne_TIs, Option.map_some, truth_bl, Bool.false_eq_true, if_false, exs_nil, ev_int, e9]
  rw [e10]
  simp only [Out.then_nx, slotV_s, slotV_0, Res.of_some, Res.bind_ok, f6, h2, ne_TIs, Option.map_some, truth_bl, Bool.false_eq_true, if_false, exs_nil, Res.out_ok, ev_bi, ev_cmp, ev_call, evs_cons, evs_nil, ev_var, f7, f8, lenM_lst, bir_len_lst, List.length_map, run_eq_int, fpl, List.set_cons_zero, List.set_cons_succ, f9, ev_not, ev_isi, Ty.any, Ty.is, Bool.not_true, run_ne_bl, beq_self_eq_true]
  refine ⟨M8, ?_⟩
  by_cases hfull : F.length = m
  · obtain ⟨Bi, vBi, lBi, e12, q1, q2⟩ := minv_ok (n := 14) (M := M8) hf hb vA lA (show m ≤ 400 by omega) hF hFs hfull e113
    have g1 : callN T.T 19 i__law_times [.int p, .tup (TIs A), .tup (TIs Bi)] M8 = .ok (.tup (TIs (units m))) M8 := by
      rw [ltimes_ok (n := 18) p0 hb (by omega) vBi vA lA lBi, q2]
    have g2 : callN T.T 19 i__law_times [.int p, .tup (TIs Bi), .tup (TIs A)] M8 = .ok (.tup (TIs (units m))) M8 := by
      rw [ltimes_ok (n := 18) p0 hb (by omega) vA vBi lBi lA, q1]
    simp only [Nat.reduceAdd] at e12
    simp only [hfull, decide_true, if_true, exs_cons, ex_set, ev_call, evs_cons, evs_nil, ev_var, slotV_s, slotV_0, Res.of_some, Res.bind_ok, e12, h2, Res.out_ok, Out.then_nx, List.set_cons_zero, List.set_cons_succ, ex_ite, evT_def, ev_or, ev_cmp, g1, g2, ne_TIs, Option.map_some, truth_bl, Bool.false_eq_true, if_false, exs_nil, ev_not, ev_isi, Ty.any, Ty.is, Bool.not_true]
    obtain ⟨W, ew, lW, hW⟩ := ewr (.v (.tup (TIs Bi)))
    have efin := fin_ok (M := M8) (p := p) (a0 := .frz (List.map D.int ns)) (s5 := .v (.tup (TIs B))) (s6 := .v (.tup (TIs (units m)))) (s7 := .v (TI v)) (s8 := .v (.int k)) (s9 := .v (.tup (TIs (pw p m A k)))) (s10 := s10) (s11 := .v (.bl (decide (F.length = m)))) (s12 := .v (.bl (decide (F.length = m)))) (s14 := .v (.tup (TIs Bi))) (s15 := .un) (show m ≤ 500 by omega) vA lA lW hW
    rw [tail_run]
    simp only [hfull, decide_true] at ew efin
    rw [ew]
    simp only [Out.then_nx, exs_cons, ex_ret]
    rw [efin]
    rfl
  · have e12 := reason_no (n := 13) lA e11 hfull
    simp only [Nat.reduceAdd] at e12
    have nsg : Cop.run .ne (.str "singular") (.str "singular") = some false := by decide +kernel
    simp only [hfull, decide_false, Bool.false_eq_true, if_false, exs_cons, ev_call, evs_cons, evs_nil, ev_var, ev_str, slotV_s, slotV_0, Res.of_some, Res.bind_ok, e12, Res.out_ok, Out.then_nx, ex_ite, evT_def, ev_cmp, nsg, Option.map_some, truth_bl, exs_nil]
    obtain ⟨W, ew, lW, hW⟩ := ewr .un
    have efin := fin_ok (M := M8) (p := p) (a0 := .frz (List.map D.int ns)) (s5 := .v (.tup (TIs B))) (s6 := .v (.tup (TIs (units m)))) (s7 := .v (TI v)) (s8 := .v (.int k)) (s9 := .v (.tup (TIs (pw p m A k)))) (s10 := s10) (s11 := .v (.bl (decide (F.length = m)))) (s12 := .v (.bl (decide (F.length = m)))) (s14 := .un) (s15 := .un) (show m ≤ 500 by omega) vA lA lW hW
    rw [tail_run]
    simp only [hfull, decide_false] at ew efin
    rw [ew]
    simp only [Out.then_nx, exs_cons, ex_ret]
    rw [efin]
    rfl
end PC

namespace PC
open PySem PySem.Spec PyProof.Rows L2
set_option maxHeartbeats 0 in
theorem all_mk {l : PySem.W.OpenLaw} {w : World} {K : PySem.W.Frag} {h : Heap} {mg : Str → Option Value} {fa f0 f1 f2 f3 f4 f5 f6 f7 f8 f9 f10 f11 f12 f13 f14 f15 f16 f17 f18 f19 f20 f21 f22 f23 f24 f25 f26 f27 f28 f29 f30 : Addr} (X : K.In h) (G : h.Ns mainGlobals mg) (hfa : mg "law" = some (.ref fa))
    {od0 an0 od1 an1 od2 an2 od3 an3 od4 an4 od5 an5 od6 an6 od7 an7 od8 an8 od9 an9 od10 an10 od11 an11 od12 an12 od13 an13 od14 an14 od15 an15 od16 an16 od17 an17 od18 an18 od19 an19 od20 an20 od21 an21 od22 an22 od23 an23 od24 an24 od25 an25 od26 an26 od27 an27 od28 an28 od29 an29 od30 an30 : Option Addr} {sl0 sl1 sl2 sl3 sl4 sl5 sl6 sl7 sl8 sl9 sl10 sl11 sl12 sl13 sl14 sl15 sl16 sl17 sl18 sl19 sl20 sl21 sl22 sl23 sl24 sl25 sl26 sl27 sl28 sl29 sl30 : Array (Option Value)}
    {oc0 kV0 dc0 pm0 cd0 ct0 oc1 kV1 dc1 pm1 cd1 ct1 oc2 kV2 dc2 pm2 cd2 ct2 oc3 kV3 dc3 pm3 cd3 ct3 oc4 kV4 dc4 pm4 cd4 ct4 oc5 kV5 dc5 pm5 cd5 ct5 oc6 kV6 dc6 pm6 cd6 ct6 oc7 kV7 dc7 pm7 cd7 ct7 oc8 kV8 dc8 pm8 cd8 ct8 oc9 kV9 dc9 pm9 cd9 ct9 oc10 kV10 dc10 pm10 cd10 ct10 oc11 kV11 dc11 pm11 cd11 ct11 oc12 kV12 dc12 pm12 cd12 ct12 oc13 kV13 dc13 pm13 cd13 ct13 oc14 kV14 dc14 pm14 cd14 ct14 oc15 kV15 dc15 pm15 cd15 ct15 oc16 kV16 dc16 pm16 cd16 ct16 oc17 kV17 dc17 pm17 cd17 ct17 oc18 kV18 dc18 pm18 cd18 ct18 oc19 kV19 dc19 pm19 cd19 ct19 oc20 kV20 dc20 pm20 cd20 ct20 oc21 kV21 dc21 pm21 cd21 ct21 oc22 kV22 dc22 pm22 cd22 ct22 oc23 kV23 dc23 pm23 cd23 ct23 oc24 kV24 dc24 pm24 cd24 ct24 oc25 kV25 dc25 pm25 cd25 ct25 oc26 kV26 dc26 pm26 cd26 ct26 oc27 kV27 dc27 pm27 cd27 ct27 oc28 kV28 dc28 pm28 cd28 ct28 oc29 kV29 dc29 pm29 cd29 ct29 oc30 kV30 dc30 pm30 cd30 ct30 : Value}
    (a0 : PySem.W.nsIn K mainGlobals "is_integer" = some (some (.ref f0))) (l0 : K.lookup f0 = some ⟨oc0, od0, .func (PySem.W.fnOf "is_integer" "is_integer" (defArgs (topS 4)) (defBody (topS 4)) (defScope (topS 4)) .none kV0 dc0 pm0 an0 cd0 ct0), sl0⟩) (c0 : PySem.W.codeIn K cd0 "is_integer" = true) (k0 : PySem.W.keepIn K (.ref f0) = true)
    (a1 : PySem.W.nsIn K mainGlobals "inverse" = some (some (.ref f1))) (l1 : K.lookup f1 = some ⟨oc1, od1, .func (PySem.W.fnOf "inverse" "inverse" (defArgs (topS 5)) (defBody (topS 5)) (defScope (topS 5)) .none kV1 dc1 pm1 an1 cd1 ct1), sl1⟩) (c1 : PySem.W.codeIn K cd1 "inverse" = true) (k1 : PySem.W.keepIn K (.ref f1) = true)
    (a2 : PySem.W.nsIn K mainGlobals "is_row" = some (some (.ref f2))) (l2 : K.lookup f2 = some ⟨oc2, od2, .func (PySem.W.fnOf "is_row" "is_row" (defArgs (topS 7)) (defBody (topS 7)) (defScope (topS 7)) .none kV2 dc2 pm2 an2 cd2 ct2), sl2⟩) (c2 : PySem.W.codeIn K cd2 "is_row" = true) (k2 : PySem.W.keepIn K (.ref f2) = true)
    (a3 : PySem.W.nsIn K mainGlobals "scaled" = some (some (.ref f3))) (l3 : K.lookup f3 = some ⟨oc3, od3, .func (PySem.W.fnOf "scaled" "scaled" (defArgs (topS 8)) (defBody (topS 8)) (defScope (topS 8)) .none kV3 dc3 pm3 an3 cd3 ct3), sl3⟩) (c3 : PySem.W.codeIn K cd3 "scaled" = true) (k3 : PySem.W.keepIn K (.ref f3) = true)
    (a4 : PySem.W.nsIn K mainGlobals "combine" = some (some (.ref f4))) (l4 : K.lookup f4 = some ⟨oc4, od4, .func (PySem.W.fnOf "combine" "combine" (defArgs (topS 9)) (defBody (topS 9)) (defScope (topS 9)) .none kV4 dc4 pm4 an4 cd4 ct4), sl4⟩) (c4 : PySem.W.codeIn K cd4 "combine" = true) (k4 : PySem.W.keepIn K (.ref f4) = true)
    (a5 : PySem.W.nsIn K mainGlobals "cleared" = some (some (.ref f5))) (l5 : K.lookup f5 = some ⟨oc5, od5, .func (PySem.W.fnOf "cleared" "cleared" (defArgs (topS 10)) (defBody (topS 10)) (defScope (topS 10)) .none kV5 dc5 pm5 an5 cd5 ct5), sl5⟩) (c5 : PySem.W.codeIn K cd5 "cleared" = true) (k5 : PySem.W.keepIn K (.ref f5) = true)
    (a6 : PySem.W.nsIn K mainGlobals "reduced" = some (some (.ref f6))) (l6 : K.lookup f6 = some ⟨oc6, od6, .func (PySem.W.fnOf "reduced" "reduced" (defArgs (topS 11)) (defBody (topS 11)) (defScope (topS 11)) .none kV6 dc6 pm6 an6 cd6 ct6), sl6⟩) (c6 : PySem.W.codeIn K cd6 "reduced" = true) (k6 : PySem.W.keepIn K (.ref f6) = true)
    (a7 : PySem.W.nsIn K mainGlobals "span" = some (some (.ref f7))) (l7 : K.lookup f7 = some ⟨oc7, od7, .func (PySem.W.fnOf "span" "span" (defArgs (topS 12)) (defBody (topS 12)) (defScope (topS 12)) .none kV7 dc7 pm7 an7 cd7 ct7), sl7⟩) (c7 : PySem.W.codeIn K cd7 "span" = true) (k7 : PySem.W.keepIn K (.ref f7) = true)
    (a8 : PySem.W.nsIn K mainGlobals "identity" = some (some (.ref f8))) (l8 : K.lookup f8 = some ⟨oc8, od8, .func (PySem.W.fnOf "identity" "identity" (defArgs (topS 13)) (defBody (topS 13)) (defScope (topS 13)) .none kV8 dc8 pm8 an8 cd8 ct8), sl8⟩) (c8 : PySem.W.codeIn K cd8 "identity" = true) (k8 : PySem.W.keepIn K (.ref f8) = true)
    (a9 : PySem.W.nsIn K mainGlobals "is_matrix" = some (some (.ref f9))) (l9 : K.lookup f9 = some ⟨oc9, od9, .func (PySem.W.fnOf "is_matrix" "is_matrix" (defArgs (topS 14)) (defBody (topS 14)) (defScope (topS 14)) .none kV9 dc9 pm9 an9 cd9 ct9), sl9⟩) (c9 : PySem.W.codeIn K cd9 "is_matrix" = true) (k9 : PySem.W.keepIn K (.ref f9) = true)
    (a10 : PySem.W.nsIn K mainGlobals "moved" = some (some (.ref f10))) (l10 : K.lookup f10 = some ⟨oc10, od10, .func (PySem.W.fnOf "moved" "moved" (defArgs (topS 15)) (defBody (topS 15)) (defScope (topS 15)) .none kV10 dc10 pm10 an10 cd10 ct10), sl10⟩) (c10 : PySem.W.codeIn K cd10 "moved" = true) (k10 : PySem.W.keepIn K (.ref f10) = true)
    (a11 : PySem.W.nsIn K mainGlobals "times" = some (some (.ref f11))) (l11 : K.lookup f11 = some ⟨oc11, od11, .func (PySem.W.fnOf "times" "times" (defArgs (topS 16)) (defBody (topS 16)) (defScope (topS 16)) .none kV11 dc11 pm11 an11 cd11 ct11), sl11⟩) (c11 : PySem.W.codeIn K cd11 "times" = true) (k11 : PySem.W.keepIn K (.ref f11) = true)
    (a12 : PySem.W.nsIn K mainGlobals "matrix_power" = some (some (.ref f12))) (l12 : K.lookup f12 = some ⟨oc12, od12, .func (PySem.W.fnOf "matrix_power" "matrix_power" (defArgs (topS 17)) (defBody (topS 17)) (defScope (topS 17)) .none kV12 dc12 pm12 an12 cd12 ct12), sl12⟩) (c12 : PySem.W.codeIn K cd12 "matrix_power" = true) (k12 : PySem.W.keepIn K (.ref f12) = true)
    (a13 : PySem.W.nsIn K mainGlobals "is_invertible" = some (some (.ref f13))) (l13 : K.lookup f13 = some ⟨oc13, od13, .func (PySem.W.fnOf "is_invertible" "is_invertible" (defArgs (topS 18)) (defBody (topS 18)) (defScope (topS 18)) .none kV13 dc13 pm13 an13 cd13 ct13), sl13⟩) (c13 : PySem.W.codeIn K cd13 "is_invertible" = true) (k13 : PySem.W.keepIn K (.ref f13) = true)
    (a14 : PySem.W.nsIn K mainGlobals "matrix_inverse" = some (some (.ref f14))) (l14 : K.lookup f14 = some ⟨oc14, od14, .func (PySem.W.fnOf "matrix_inverse" "matrix_inverse" (defArgs (topS 19)) (defBody (topS 19)) (defScope (topS 19)) .none kV14 dc14 pm14 an14 cd14 ct14), sl14⟩) (c14 : PySem.W.codeIn K cd14 "matrix_inverse" = true) (k14 : PySem.W.keepIn K (.ref f14) = true)
    (a15 : PySem.W.nsIn K mainGlobals "_law_state" = some (some (.ref f15))) (l15 : K.lookup f15 = some ⟨oc15, od15, .func (PySem.W.fnOf "_law_state" "_law_state" (defArgs (topS 21)) (defBody (topS 21)) (defScope (topS 21)) .none kV15 dc15 pm15 an15 cd15 ct15), sl15⟩) (c15 : PySem.W.codeIn K cd15 "_law_state" = true) (k15 : PySem.W.keepIn K (.ref f15) = true)
    (a16 : PySem.W.nsIn K mainGlobals "_law_odd" = some (some (.ref f16))) (l16 : K.lookup f16 = some ⟨oc16, od16, .func (PySem.W.fnOf "_law_odd" "_law_odd" (defArgs (topS 22)) (defBody (topS 22)) (defScope (topS 22)) .none kV16 dc16 pm16 an16 cd16 ct16), sl16⟩) (c16 : PySem.W.codeIn K cd16 "_law_odd" = true) (k16 : PySem.W.keepIn K (.ref f16) = true)
    (a17 : PySem.W.nsIn K mainGlobals "_law_honest" = some (some (.ref f17))) (l17 : K.lookup f17 = some ⟨oc17, od17, .func (PySem.W.fnOf "_law_honest" "_law_honest" (defArgs (topS 23)) (defBody (topS 23)) (defScope (topS 23)) .none kV17 dc17 pm17 an17 cd17 ct17), sl17⟩) (c17 : PySem.W.codeIn K cd17 "_law_honest" = true) (k17 : PySem.W.keepIn K (.ref f17) = true)
    (a18 : PySem.W.nsIn K mainGlobals "_law_take" = some (some (.ref f18))) (l18 : K.lookup f18 = some ⟨oc18, od18, .func (PySem.W.fnOf "_law_take" "_law_take" (defArgs (topS 24)) (defBody (topS 24)) (defScope (topS 24)) .none kV18 dc18 pm18 an18 cd18 ct18), sl18⟩) (c18 : PySem.W.codeIn K cd18 "_law_take" = true) (k18 : PySem.W.keepIn K (.ref f18) = true)
    (a19 : PySem.W.nsIn K mainGlobals "_law_sum" = some (some (.ref f19))) (l19 : K.lookup f19 = some ⟨oc19, od19, .func (PySem.W.fnOf "_law_sum" "_law_sum" (defArgs (topS 25)) (defBody (topS 25)) (defScope (topS 25)) .none kV19 dc19 pm19 an19 cd19 ct19), sl19⟩) (c19 : PySem.W.codeIn K cd19 "_law_sum" = true) (k19 : PySem.W.keepIn K (.ref f19) = true)
    (a20 : PySem.W.nsIn K mainGlobals "_law_scaled" = some (some (.ref f20))) (l20 : K.lookup f20 = some ⟨oc20, od20, .func (PySem.W.fnOf "_law_scaled" "_law_scaled" (defArgs (topS 26)) (defBody (topS 26)) (defScope (topS 26)) .none kV20 dc20 pm20 an20 cd20 ct20), sl20⟩) (c20 : PySem.W.codeIn K cd20 "_law_scaled" = true) (k20 : PySem.W.keepIn K (.ref f20) = true)
    (a21 : PySem.W.nsIn K mainGlobals "_law_zero" = some (some (.ref f21))) (l21 : K.lookup f21 = some ⟨oc21, od21, .func (PySem.W.fnOf "_law_zero" "_law_zero" (defArgs (topS 27)) (defBody (topS 27)) (defScope (topS 27)) .none kV21 dc21 pm21 an21 cd21 ct21), sl21⟩) (c21 : PySem.W.codeIn K cd21 "_law_zero" = true) (k21 : PySem.W.keepIn K (.ref f21) = true)
    (a22 : PySem.W.nsIn K mainGlobals "_law_unit" = some (some (.ref f22))) (l22 : K.lookup f22 = some ⟨oc22, od22, .func (PySem.W.fnOf "_law_unit" "_law_unit" (defArgs (topS 28)) (defBody (topS 28)) (defScope (topS 28)) .none kV22 dc22 pm22 an22 cd22 ct22), sl22⟩) (c22 : PySem.W.codeIn K cd22 "_law_unit" = true) (k22 : PySem.W.keepIn K (.ref f22) = true)
    (a23 : PySem.W.nsIn K mainGlobals "_law_all" = some (some (.ref f23))) (l23 : K.lookup f23 = some ⟨oc23, od23, .func (PySem.W.fnOf "_law_all" "_law_all" (defArgs (topS 29)) (defBody (topS 29)) (defScope (topS 29)) .none kV23 dc23 pm23 an23 cd23 ct23), sl23⟩) (c23 : PySem.W.codeIn K cd23 "_law_all" = true) (k23 : PySem.W.keepIn K (.ref f23) = true)
    (a24 : PySem.W.nsIn K mainGlobals "_law_element" = some (some (.ref f24))) (l24 : K.lookup f24 = some ⟨oc24, od24, .func (PySem.W.fnOf "_law_element" "_law_element" (defArgs (topS 30)) (defBody (topS 30)) (defScope (topS 30)) .none kV24 dc24 pm24 an24 cd24 ct24), sl24⟩) (c24 : PySem.W.codeIn K cd24 "_law_element" = true) (k24 : PySem.W.keepIn K (.ref f24) = true)
    (a25 : PySem.W.nsIn K mainGlobals "_law_span" = some (some (.ref f25))) (l25 : K.lookup f25 = some ⟨oc25, od25, .func (PySem.W.fnOf "_law_span" "_law_span" (defArgs (topS 31)) (defBody (topS 31)) (defScope (topS 31)) .none kV25 dc25 pm25 an25 cd25 ct25), sl25⟩) (c25 : PySem.W.codeIn K cd25 "_law_span" = true) (k25 : PySem.W.keepIn K (.ref f25) = true)
    (a26 : PySem.W.nsIn K mainGlobals "_law_prime" = some (some (.ref f26))) (l26 : K.lookup f26 = some ⟨oc26, od26, .func (PySem.W.fnOf "_law_prime" "_law_prime" (defArgs (topS 32)) (defBody (topS 32)) (defScope (topS 32)) .none kV26 dc26 pm26 an26 cd26 ct26), sl26⟩) (c26 : PySem.W.codeIn K cd26 "_law_prime" = true) (k26 : PySem.W.keepIn K (.ref f26) = true)
    (a27 : PySem.W.nsIn K mainGlobals "_law_total" = some (some (.ref f27))) (l27 : K.lookup f27 = some ⟨oc27, od27, .func (PySem.W.fnOf "_law_total" "_law_total" (defArgs (topS 33)) (defBody (topS 33)) (defScope (topS 33)) .none kV27 dc27 pm27 an27 cd27 ct27), sl27⟩) (c27 : PySem.W.codeIn K cd27 "_law_total" = true) (k27 : PySem.W.keepIn K (.ref f27) = true)
    (a28 : PySem.W.nsIn K mainGlobals "_law_times" = some (some (.ref f28))) (l28 : K.lookup f28 = some ⟨oc28, od28, .func (PySem.W.fnOf "_law_times" "_law_times" (defArgs (topS 34)) (defBody (topS 34)) (defScope (topS 34)) .none kV28 dc28 pm28 an28 cd28 ct28), sl28⟩) (c28 : PySem.W.codeIn K cd28 "_law_times" = true) (k28 : PySem.W.keepIn K (.ref f28) = true)
    (a29 : PySem.W.nsIn K mainGlobals "_law_reason" = some (some (.ref f29))) (l29 : K.lookup f29 = some ⟨oc29, od29, .func (PySem.W.fnOf "_law_reason" "_law_reason" (defArgs (topS 35)) (defBody (topS 35)) (defScope (topS 35)) .none kV29 dc29 pm29 an29 cd29 ct29), sl29⟩) (c29 : PySem.W.codeIn K cd29 "_law_reason" = true) (k29 : PySem.W.keepIn K (.ref f29) = true)
    (a30 : PySem.W.nsIn K mainGlobals "law" = some (some (.ref f30))) (l30 : K.lookup f30 = some ⟨oc30, od30, .func (PySem.W.fnOf "law" "law" (defArgs (topS 36)) (defBody (topS 36)) (defScope (topS 36)) .none kV30 dc30 pm30 an30 cd30 ct30), sl30⟩) (c30 : PySem.W.codeIn K cd30 "law" = true) (k30 : PySem.W.keepIn K (.ref f30) = true)
    (z0 : PySem.W.nsIn K mainGlobals "len" = some none)
    (z1 : PySem.W.nsIn K mainGlobals "int" = some none)
    (z2 : PySem.W.nsIn K mainGlobals "abs" = some none)
    (z3 : PySem.W.nsIn K mainGlobals "tuple" = some none)
    (z4 : PySem.W.nsIn K mainGlobals "list" = some none)
    (z5 : PySem.W.nsIn K mainGlobals "sum" = some none)
    (z6 : PySem.W.nsIn K mainGlobals "sorted" = some none)
    (z7 : PySem.W.nsIn K mainGlobals "all" = some none)
    (z8 : PySem.W.nsIn K mainGlobals "any" = some none)
    (z9 : PySem.W.nsIn K mainGlobals "range" = some none)
    (z10 : PySem.W.nsIn K mainGlobals "zip" = some none)
    (z11 : PySem.W.nsIn K mainGlobals "isinstance" = some none)
    (z12 : PySem.W.nsIn K mainGlobals "bool" = some none)
    (z13 : PySem.W.nsIn K mainGlobals "str" = some none)
    (ho : PySem.W.nsIn K cStatics "thirdparty.any" = some none) (hsu : PySem.W.nsIn K mainGlobals "super" = some none) (htop : (l.prog.main.scope.names.lookup ("super" : Str)).isSome = false)
    {C0 : Addr}
    (xa0 : PySem.W.nsIn K mainGlobals "Refused" = some (some (.ref C0)))
    (xk0 : PySem.W.keepIn K (.ref C0) = true)
    (xb0 : PySem.W.subIn K (.ref C0) (.type "BaseException") = some true)
    (xt0 : PySem.W.typeIn K (.ref C0) = some (.type "type"))
    (xi0 : PySem.W.isClsIn K C0 = true)
    (xg0 : PySem.W.findIn K (.ref C0) "__getattribute__" = some (some (.builtin "BaseException.__getattribute__")))
    (xq0 : PySem.W.findIn K (.ref C0) "__getattr__" = some none)
    (xh0 : PySem.W.hasDictIn K C0 = true)
    {nm0 qn0 : Str} {N0 fI0 cda0 cc0 : Addr} {bs0 bm0 sb0 : List Value} {sn0 : List Str} {ab0 : Bool} {col0 : Option Bool} {dd0 xod0 xan0 cdd0 cld0 : Option Addr} {ka0 kb0 kc0 ke0 kf0 : Option Value}
    {xoc0 xkV0 xdc0 xpm0 xct0 ccl0 cl0 : Value} {xsl0 ccs0 csl0 : Array (Option Value)} {vs0 : Array Value} {file0 : Str} {tf0 : Tok}
    (xL0 : K.lookup C0 = some (excClassObj nm0 qn0 C0 N0 bs0 bm0 true sn0 sb0 ab0 col0 dd0 ka0 kb0 kc0 ke0 kf0 "ValueError.__new__"))
    (xr0 : PySem.HandSPX.refsVE bm0 = true)
    (xs0 : PySem.W.findIn K (.ref C0) "__setattr__" = some (some (.builtin "object.__setattr__")))
    (xv0 : PySem.W.subIn K (.ref C0) (.type "ValueError") = some true)
    (xm0 : PySem.W.ks_superIn K C0 C0 "__init__" = some (some (.builtin "ValueError.__init__")))
    (xu0 : PySem.W.mroIn K C0 (.ref C0) = some true)
    (xn0 : PySem.W.findIn K (.ref C0) "reason" = some none)
    (xI0 : PySem.W.findIn K (.ref C0) "__init__" = some (some (.ref fI0)))
    (xy0 : PySem.W.typeIn K (.ref fI0) = some (.type "function"))
    (xl0 : K.lookup fI0 = some ⟨xoc0, xod0, .func (PySem.W.ksFn "__init__" "Refused.__init__" (defArgs ((clsBody (topS 2)).getD 0 (.Pass ⟨0, 0, 0, 0⟩))) (defBody ((clsBody (topS 2)).getD 0 (.Pass ⟨0, 0, 0, 0⟩))) (defScope ((clsBody (topS 2)).getD 0 (.Pass ⟨0, 0, 0, 0⟩))) .none xkV0 xdc0 xpm0 xan0 (.ref cda0) xct0 cc0), xsl0⟩)
    (xc0 : PySem.W.codeIn K (.ref cda0) "Refused.__init__" = true)
    (xd0 : K.lookup cda0 = some ⟨ccl0, cdd0, .fields vs0, ccs0⟩)
    (xw0 : vs0[2]? = some (.str file0 tf0))
    (xf0 : ((l.prog.main.file : Str) == file0) = true)
    (xz0 : K.lookup cc0 = some ⟨cl0, cld0, .cell (some (.ref C0)), csl0⟩)
    (xp0_0 : PySem.W.subIn K (.ref C0) (.ref C0) = some true)
    : ∃ fd : FuncData, (∀ (s : Shared) (v : Value), BindsTo s fd ⟨[v], []⟩ [("script", v)]) ∧ ∀ base : Heap, K.In base → base.Ns mainGlobals mg → FnOk l.prog w K mg base (L2.CX l.prog w) (20 + 3) fa fd ["script"] (spL K T 20 i_law) := by
  have e := hfa.symm.trans (PySem.W.mg_of X G a30)
  cases e
  have F0 := fun_mk (st := topS 4) l0 c0 k0
  have s0 : ∃ st ad fdat, Stands K mg T f_is_integer st ad fdat := ⟨_, _, _, ⟨PySem.W.mg_of X G a0, F0, F0.binds (ps := ["value"]) fun _ _ _ _ _ _ us hl => (match us, hl with | [_], _ => rfl), sc_of sc_is_integer, ck_is_integer⟩⟩
  have F1 := fun_mk (st := topS 5) l1 c1 k1
  have s1 : ∃ st ad fdat, Stands K mg T f_inverse st ad fdat := ⟨_, _, _, ⟨PySem.W.mg_of X G a1, F1, F1.binds (ps := ["a", "p"]) fun _ _ _ _ _ _ us hl => (match us, hl with | [_, _], _ => rfl), sc_of sc_inverse, ck_inverse⟩⟩
  have F2 := fun_mk (st := topS 7) l2 c2 k2
  have s2 : ∃ st ad fdat, Stands K mg T f_is_row st ad fdat := ⟨_, _, _, ⟨PySem.W.mg_of X G a2, F2, F2.binds (ps := ["value", "p", "n"]) fun _ _ _ _ _ _ us hl => (match us, hl with | [_, _, _], _ => rfl), sc_of sc_is_row, ck_is_row⟩⟩
  have F3 := fun_mk (st := topS 8) l3 c3 k3
  have s3 : ∃ st ad fdat, Stands K mg T f_scaled st ad fdat := ⟨_, _, _, ⟨PySem.W.mg_of X G a3, F3, F3.binds (ps := ["v", "a", "p"]) fun _ _ _ _ _ _ us hl => (match us, hl with | [_, _, _], _ => rfl), sc_of sc_scaled, ck_scaled⟩⟩
  have F4 := fun_mk (st := topS 9) l4 c4 k4
  have s4 : ∃ st ad fdat, Stands K mg T f_combine st ad fdat := ⟨_, _, _, ⟨PySem.W.mg_of X G a4, F4, F4.binds (ps := ["rows", "weights", "width", "p"]) fun _ _ _ _ _ _ us hl => (match us, hl with | [_, _, _, _], _ => rfl), sc_of sc_combine, ck_combine⟩⟩
  have F5 := fun_mk (st := topS 10) l5 c5 k5
  have s5 : ∃ st ad fdat, Stands K mg T f_cleared st ad fdat := ⟨_, _, _, ⟨PySem.W.mg_of X G a5, F5, F5.binds (ps := ["row", "head", "at", "p"]) fun _ _ _ _ _ _ us hl => (match us, hl with | [_, _, _, _], _ => rfl), sc_of sc_cleared, ck_cleared⟩⟩
  have F6 := fun_mk (st := topS 11) l6 c6 k6
  have s6 : ∃ st ad fdat, Stands K mg T f_reduced st ad fdat := ⟨_, _, _, ⟨PySem.W.mg_of X G a6, F6, F6.binds (ps := ["rows", "width", "p"]) fun _ _ _ _ _ _ us hl => (match us, hl with | [_, _, _], _ => rfl), sc_of sc_reduced, ck_reduced⟩⟩
  have F7 := fun_mk (st := topS 12) l7 c7 k7
  have s7 : ∃ st ad fdat, Stands K mg T f_span st ad fdat := ⟨_, _, _, ⟨PySem.W.mg_of X G a7, F7, F7.binds (ps := ["rows", "width", "p"]) fun _ _ _ _ _ _ us hl => (match us, hl with | [_, _, _], _ => rfl), sc_of sc_span, ck_span⟩⟩
  have F8 := fun_mk (st := topS 13) l8 c8 k8
  have s8 : ∃ st ad fdat, Stands K mg T f_identity st ad fdat := ⟨_, _, _, ⟨PySem.W.mg_of X G a8, F8, F8.binds (ps := ["n"]) fun _ _ _ _ _ _ us hl => (match us, hl with | [_], _ => rfl), sc_of sc_identity, ck_identity⟩⟩
  have F9 := fun_mk (st := topS 14) l9 c9 k9
  have s9 : ∃ st ad fdat, Stands K mg T f_is_matrix st ad fdat := ⟨_, _, _, ⟨PySem.W.mg_of X G a9, F9, F9.binds (ps := ["value", "p", "n"]) fun _ _ _ _ _ _ us hl => (match us, hl with | [_, _, _], _ => rfl), sc_of sc_is_matrix, ck_is_matrix⟩⟩
  have F10 := fun_mk (st := topS 15) l10 c10 k10
  have s10 : ∃ st ad fdat, Stands K mg T f_moved st ad fdat := ⟨_, _, _, ⟨PySem.W.mg_of X G a10, F10, F10.binds (ps := ["v", "matrix", "p"]) fun _ _ _ _ _ _ us hl => (match us, hl with | [_, _, _], _ => rfl), sc_of sc_moved, ck_moved⟩⟩
  have F11 := fun_mk (st := topS 16) l11 c11 k11
  have s11 : ∃ st ad fdat, Stands K mg T f_times st ad fdat := ⟨_, _, _, ⟨PySem.W.mg_of X G a11, F11, F11.binds (ps := ["one", "two", "p"]) fun _ _ _ _ _ _ us hl => (match us, hl with | [_, _, _], _ => rfl), sc_of sc_times, ck_times⟩⟩
  have F12 := fun_mk (st := topS 17) l12 c12 k12
  have s12 : ∃ st ad fdat, Stands K mg T f_matrix_power st ad fdat := ⟨_, _, _, ⟨PySem.W.mg_of X G a12, F12, F12.binds (ps := ["matrix", "k", "p"]) fun _ _ _ _ _ _ us hl => (match us, hl with | [_, _, _], _ => rfl), sc_of sc_matrix_power, ck_matrix_power⟩⟩
  have F13 := fun_mk (st := topS 18) l13 c13 k13
  have s13 : ∃ st ad fdat, Stands K mg T f_is_invertible st ad fdat := ⟨_, _, _, ⟨PySem.W.mg_of X G a13, F13, F13.binds (ps := ["matrix", "p"]) fun _ _ _ _ _ _ us hl => (match us, hl with | [_, _], _ => rfl), sc_of sc_is_invertible, ck_is_invertible⟩⟩
  have F14 := fun_mk (st := topS 19) l14 c14 k14
  have s14 : ∃ st ad fdat, Stands K mg T f_matrix_inverse st ad fdat := ⟨_, _, _, ⟨PySem.W.mg_of X G a14, F14, F14.binds (ps := ["matrix", "p"]) fun _ _ _ _ _ _ us hl => (match us, hl with | [_, _], _ => rfl), sc_of sc_matrix_inverse, ck_matrix_inverse⟩⟩
  have F15 := fun_mk (st := topS 21) l15 c15 k15
  have s15 : ∃ st ad fdat, Stands K mg T f__law_state st ad fdat := ⟨_, _, _, ⟨PySem.W.mg_of X G a15, F15, F15.binds (ps := ["script"]) fun _ _ _ _ _ _ us hl => (match us, hl with | [_], _ => rfl), sc_of sc__law_state, ck__law_state⟩⟩
  have F16 := fun_mk (st := topS 22) l16 c16 k16
  have s16 : ∃ st ad fdat, Stands K mg T f__law_odd st ad fdat := ⟨_, _, _, ⟨PySem.W.mg_of X G a16, F16, F16.binds (ps := ["value"]) fun _ _ _ _ _ _ us hl => (match us, hl with | [_], _ => rfl), sc_of sc__law_odd, ck__law_odd⟩⟩
  have F17 := fun_mk (st := topS 23) l17 c17 k17
  have s17 : ∃ st ad fdat, Stands K mg T f__law_honest st ad fdat := ⟨_, _, _, ⟨PySem.W.mg_of X G a17, F17, F17.binds (ps := ["value"]) fun _ _ _ _ _ _ us hl => (match us, hl with | [_], _ => rfl), sc_of sc__law_honest, ck__law_honest⟩⟩
  have F18 := fun_mk (st := topS 24) l18 c18 k18
  have s18 : ∃ st ad fdat, Stands K mg T f__law_take st ad fdat := ⟨_, _, _, ⟨PySem.W.mg_of X G a18, F18, F18.binds (ps := ["state", "m"]) fun _ _ _ _ _ _ us hl => (match us, hl with | [_, _], _ => rfl), sc_of sc__law_take, ck__law_take⟩⟩
  have F19 := fun_mk (st := topS 25) l19 c19 k19
  have s19 : ∃ st ad fdat, Stands K mg T f__law_sum st ad fdat := ⟨_, _, _, ⟨PySem.W.mg_of X G a19, F19, F19.binds (ps := ["v", "w", "p"]) fun _ _ _ _ _ _ us hl => (match us, hl with | [_, _, _], _ => rfl), sc_of sc__law_sum, ck__law_sum⟩⟩
  have F20 := fun_mk (st := topS 26) l20 c20 k20
  have s20 : ∃ st ad fdat, Stands K mg T f__law_scaled st ad fdat := ⟨_, _, _, ⟨PySem.W.mg_of X G a20, F20, F20.binds (ps := ["v", "a", "p"]) fun _ _ _ _ _ _ us hl => (match us, hl with | [_, _, _], _ => rfl), sc_of sc__law_scaled, ck__law_scaled⟩⟩
  have F21 := fun_mk (st := topS 27) l21 c21 k21
  have s21 : ∃ st ad fdat, Stands K mg T f__law_zero st ad fdat := ⟨_, _, _, ⟨PySem.W.mg_of X G a21, F21, F21.binds (ps := ["n"]) fun _ _ _ _ _ _ us hl => (match us, hl with | [_], _ => rfl), sc_of sc__law_zero, ck__law_zero⟩⟩
  have F22 := fun_mk (st := topS 28) l22 c22 k22
  have s22 : ∃ st ad fdat, Stands K mg T f__law_unit st ad fdat := ⟨_, _, _, ⟨PySem.W.mg_of X G a22, F22, F22.binds (ps := ["n", "at"]) fun _ _ _ _ _ _ us hl => (match us, hl with | [_, _], _ => rfl), sc_of sc__law_unit, ck__law_unit⟩⟩
  have F23 := fun_mk (st := topS 29) l23 c23 k23
  have s23 : ∃ st ad fdat, Stands K mg T f__law_all st ad fdat := ⟨_, _, _, ⟨PySem.W.mg_of X G a23, F23, F23.binds (ps := ["n", "p"]) fun _ _ _ _ _ _ us hl => (match us, hl with | [_, _], _ => rfl), sc_of sc__law_all, ck__law_all⟩⟩
  have F24 := fun_mk (st := topS 30) l24 c24 k24
  have s24 : ∃ st ad fdat, Stands K mg T f__law_element st ad fdat := ⟨_, _, _, ⟨PySem.W.mg_of X G a24, F24, F24.binds (ps := ["state", "p", "n"]) fun _ _ _ _ _ _ us hl => (match us, hl with | [_, _, _], _ => rfl), sc_of sc__law_element, ck__law_element⟩⟩
  have F25 := fun_mk (st := topS 31) l25 c25 k25
  have s25 : ∃ st ad fdat, Stands K mg T f__law_span st ad fdat := ⟨_, _, _, ⟨PySem.W.mg_of X G a25, F25, F25.binds (ps := ["rows", "n", "p"]) fun _ _ _ _ _ _ us hl => (match us, hl with | [_, _, _], _ => rfl), sc_of sc__law_span, ck__law_span⟩⟩
  have F26 := fun_mk (st := topS 32) l26 c26 k26
  have s26 : ∃ st ad fdat, Stands K mg T f__law_prime st ad fdat := ⟨_, _, _, ⟨PySem.W.mg_of X G a26, F26, F26.binds (ps := ["state"]) fun _ _ _ _ _ _ us hl => (match us, hl with | [_], _ => rfl), sc_of sc__law_prime, ck__law_prime⟩⟩
  have F27 := fun_mk (st := topS 33) l27 c27 k27
  have s27 : ∃ st ad fdat, Stands K mg T f__law_total st ad fdat := ⟨_, _, _, ⟨PySem.W.mg_of X G a27, F27, F27.binds (ps := ["p", "rows", "weights", "n"]) fun _ _ _ _ _ _ us hl => (match us, hl with | [_, _, _, _], _ => rfl), sc_of sc__law_total, ck__law_total⟩⟩
  have F28 := fun_mk (st := topS 34) l28 c28 k28
  have s28 : ∃ st ad fdat, Stands K mg T f__law_times st ad fdat := ⟨_, _, _, ⟨PySem.W.mg_of X G a28, F28, F28.binds (ps := ["p", "a", "b"]) fun _ _ _ _ _ _ us hl => (match us, hl with | [_, _, _], _ => rfl), sc_of sc__law_times, ck__law_times⟩⟩
  have F29 := fun_mk (st := topS 35) l29 c29 k29
  have s29 : ∃ st ad fdat, Stands K mg T f__law_reason st ad fdat := ⟨_, _, _, ⟨PySem.W.mg_of X G a29, F29, F29.binds (ps := ["matrix", "p"]) fun _ _ _ _ _ _ us hl => (match us, hl with | [_, _], _ => rfl), sc_of sc__law_reason, ck__law_reason⟩⟩
  have F30 := fun_mk (st := topS 36) l30 c30 k30
  have s30 : ∃ st ad fdat, Stands K mg T f_law st ad fdat := ⟨_, _, _, ⟨PySem.W.mg_of X G a30, F30, F30.binds (ps := ["script"]) fun _ _ _ _ _ _ us hl => (match us, hl with | [_], _ => rfl), sc_of sc_law, ck_law⟩⟩
  have e0 : ∃ C, XcOk l.prog K mg T.X (T.X.getD 0 ⟨"", [], none⟩) C := by
    have w : XcK K T.X (T.X.getD 0 ⟨"", [], none⟩) C0 := ⟨xa0, ⟨xg0, xq0, xb0, xh0⟩, fun x f o q => by cases q; exact xn0, fun c hc => by
      rcases List.mem_cons.1 hc with rfl | hc
      · exact ⟨C0, xa0, exm_by xb0 xi0 xt0 xp0_0⟩
      cases hc⟩
    exact ⟨C0, ⟨w, PySem.W.mg_of X G xa0, xk0, xb0, xt0, ⟨fI0, _, initIn_of ini_Refused ⟨⟨_, _, _, _, _, _, _, _, _, _, _, _, _, _, _, xL0, xr0⟩, xs0, xb0, xt0, xk0⟩ xv0 xm0 xu0 ho xn0 (PySem.W.mg_none_of X G hsu) htop xl0 xc0 xd0 xw0 xf0 xz0, xI0, xy0, .all fun us hl => (match us, hl with | [_, _], _ => rfl)⟩⟩⟩
  have m : Mods l.prog K mg T := by
    refine ⟨fun x hx => ?_, fun x dd hx => ?_, fun f fd hf => ?_, fun c hc => ?_⟩
    · simp only [bltNames, List.mem_cons, List.not_mem_nil, or_false] at hx
      rcases hx with rfl | rfl | rfl | rfl | rfl | rfl | rfl | rfl | rfl | rfl | rfl | rfl | rfl | rfl
      · exact PySem.W.mg_none_of X G z0
      · exact PySem.W.mg_none_of X G z1
      · exact PySem.W.mg_none_of X G z2
      · exact PySem.W.mg_none_of X G z3
      · exact PySem.W.mg_none_of X G z4
      · exact PySem.W.mg_none_of X G z5
      · exact PySem.W.mg_none_of X G z6
      · exact PySem.W.mg_none_of X G z7
      · exact PySem.W.mg_none_of X G z8
      · exact PySem.W.mg_none_of X G z9
      · exact PySem.W.mg_none_of X G z10
      · exact PySem.W.mg_none_of X G z11
      · exact PySem.W.mg_none_of X G z12
      · exact PySem.W.mg_none_of X G z13
    · cases hx
    · match f, hf with
      | 0, hf => cases hf; exact s0
      | 1, hf => cases hf; exact s1
      | 2, hf => cases hf; exact s2
      | 3, hf => cases hf; exact s3
      | 4, hf => cases hf; exact s4
      | 5, hf => cases hf; exact s5
      | 6, hf => cases hf; exact s6
      | 7, hf => cases hf; exact s7
      | 8, hf => cases hf; exact s8
      | 9, hf => cases hf; exact s9
      | 10, hf => cases hf; exact s10
      | 11, hf => cases hf; exact s11
      | 12, hf => cases hf; exact s12
      | 13, hf => cases hf; exact s13
      | 14, hf => cases hf; exact s14
      | 15, hf => cases hf; exact s15
      | 16, hf => cases hf; exact s16
      | 17, hf => cases hf; exact s17
      | 18, hf => cases hf; exact s18
      | 19, hf => cases hf; exact s19
      | 20, hf => cases hf; exact s20
      | 21, hf => cases hf; exact s21
      | 22, hf => cases hf; exact s22
      | 23, hf => cases hf; exact s23
      | 24, hf => cases hf; exact s24
      | 25, hf => cases hf; exact s25
      | 26, hf => cases hf; exact s26
      | 27, hf => cases hf; exact s27
      | 28, hf => cases hf; exact s28
      | 29, hf => cases hf; exact s29
      | 30, hf => cases hf; exact s30
      | (k + 31), hf => cases hf
    ·
      rcases List.mem_cons.1 hc with rfl | hc
      · exact e0
      cases hc
  exact ⟨PySem.W.fnOf "law" "law" (defArgs (topS 36)) (defBody (topS 36)) (defScope (topS 36)) .none kV30 dc30 pm30 an30 cd30 ct30, fun s v => .of_eq rfl, fun base _ _ => law_fn rfl m (n := 20) (f := i_law) (fd := f_law) rfl F30 (PySem.W.mg_of X G a30) (sc_of sc_law) ck_law (by decide) (F30.binds (ps := ["script"]) fun _ _ _ _ _ _ us hl => (match us, hl with | [_], _ => rfl))⟩
end PC
open PySem PySem.W PyProof.Rows
set_option maxHeartbeats 0 in
theorem PySem.Challenge.cw_chieflayers_k05_whole_matrices_holds : PySem.Challenge.rw_chieflayers_k05_whole_matrices.Holds := by
  w_on; o_law; k_head; (case hw => w_witness2)
  k_fill
  refine L2.walk_of (l := PySem.Challenge.rw_chieflayers_k05_whole_matrices) (n := 63) (k := 20 + 3) (x := "script") (CX := fun w => L2.CX (PySem.Challenge.rw_chieflayers_k05_whole_matrices).prog w) (sp := fun w => PC.spL _ PC.T 20 PC.i_law) rfl (by decide) rfl ⟨rfl, by decide, by decide⟩ (fun w h Y => PySem.W.kIn_of Y) ?F (fun w H a ns hl _ hS => (PC.main ns hl).elim fun _ hm => PC.law_end hm hS) (fun w H s e s' z => PC.cx_no z)
  case F =>
    intro w mg fa h KX G hmg
    refine' PC.all_mk KX G hmg ?a0 ?l0 ?c0 ?k0 ?a1 ?l1 ?c1 ?k1 ?a2 ?l2 ?c2 ?k2 ?a3 ?l3 ?c3 ?k3 ?a4 ?l4 ?c4 ?k4 ?a5 ?l5 ?c5 ?k5 ?a6 ?l6 ?c6 ?k6 ?a7 ?l7 ?c7 ?k7 ?a8 ?l8 ?c8 ?k8 ?a9 ?l9 ?c9 ?k9 ?a10 ?l10 ?c10 ?k10 ?a11 ?l11 ?c11 ?k11 ?a12 ?l12 ?c12 ?k12 ?a13 ?l13 ?c13 ?k13 ?a14 ?l14 ?c14 ?k14 ?a15 ?l15 ?c15 ?k15 ?a16 ?l16 ?c16 ?k16 ?a17 ?l17 ?c17 ?k17 ?a18 ?l18 ?c18 ?k18 ?a19 ?l19 ?c19 ?k19 ?a20 ?l20 ?c20 ?k20 ?a21 ?l21 ?c21 ?k21 ?a22 ?l22 ?c22 ?k22 ?a23 ?l23 ?c23 ?k23 ?a24 ?l24 ?c24 ?k24 ?a25 ?l25 ?c25 ?k25 ?a26 ?l26 ?c26 ?k26 ?a27 ?l27 ?c27 ?k27 ?a28 ?l28 ?c28 ?k28 ?a29 ?l29 ?c29 ?k29 ?a30 ?l30 ?c30 ?k30 ?z0 ?z1 ?z2 ?z3 ?z4 ?z5 ?z6 ?z7 ?z8 ?z9 ?z10 ?z11 ?z12 ?z13 ?ho ?hsu ?htop ?xa0 ?xk0 ?xb0 ?xt0 ?xi0 ?xg0 ?xq0 ?xh0 ?xL0 ?xr0 ?xs0 ?xv0 ?xm0 ?xu0 ?xn0 ?xI0 ?xy0 ?xl0 ?xc0 ?xd0 ?xw0 ?xf0 ?xz0 ?xp0_0
    (case a0 => k_is)
    (case l0 => k_is)
    (case c0 => k_is)
    (case k0 => k_is)
    (case a1 => k_is)
    (case l1 => k_is)
    (case c1 => k_is)
    (case k1 => k_is)
    (case a2 => k_is)
    (case l2 => k_is)
    (case c2 => k_is)
    (case k2 => k_is)
    (case a3 => k_is)
    (case l3 => k_is)
    (case c3 => k_is)
    (case k3 => k_is)
    (case a4 => k_is)
    (case l4 => k_is)
    (case c4 => k_is)
    (case k4 => k_is)
    (case a5 => k_is)
    (case l5 => k_is)
    (case c5 => k_is)
    (case k5 => k_is)
    (case a6 => k_is)
    (case l6 => k_is)
    (case c6 => k_is)
    (case k6 => k_is)
    (case a7 => k_is)
    (case l7 => k_is)
    (case c7 => k_is)
    (case k7 => k_is)
    (case a8 => k_is)
    (case l8 => k_is)
    (case c8 => k_is)
    (case k8 => k_is)
    (case a9 => k_is)
    (case l9 => k_is)
    (case c9 => k_is)
    (case k9 => k_is)
    (case a10 => k_is)
    (case l10 => k_is)
    (case c10 => k_is)
    (case k10 => k_is)
    (case a11 => k_is)
    (case l11 => k_is)
    (case c11 => k_is)
    (case k11 => k_is)
    (case a12 => k_is)
    (case l12 => k_is)
    (case c12 => k_is)
    (case k12 => k_is)
    (case a13 => k_is)
    (case l13 => k_is)
    (case c13 => k_is)
    (case k13 => k_is)
    (case a14 => k_is)
    (case l14 => k_is)
    (case c14 => k_is)
    (case k14 => k_is)
    (case a15 => k_is)
    (case l15 => k_is)
    (case c15 => k_is)
    (case k15 => k_is)
    (case a16 => k_is)
    (case l16 => k_is)
    (case c16 => k_is)
    (case k16 => k_is)
    (case a17 => k_is)
    (case l17 => k_is)
    (case c17 => k_is)
    (case k17 => k_is)
    (case a18 => k_is)
    (case l18 => k_is)
    (case c18 => k_is)
    (case k18 => k_is)
    (case a19 => k_is)
    (case l19 => k_is)
    (case c19 => k_is)
    (case k19 => k_is)
    (case a20 => k_is)
    (case l20 => k_is)
    (case c20 => k_is)
    (case k20 => k_is)
    (case a21 => k_is)
    (case l21 => k_is)
    (case c21 => k_is)
    (case k21 => k_is)
    (case a22 => k_is)
    (case l22 => k_is)
    (case c22 => k_is)
    (case k22 => k_is)
    (case a23 => k_is)
    (case l23 => k_is)
    (case c23 => k_is)
    (case k23 => k_is)
    (case a24 => k_is)
    (case l24 => k_is)
    (case c24 => k_is)
    (case k24 => k_is)
    (case a25 => k_is)
    (case l25 => k_is)
    (case c25 => k_is)
    (case k25 => k_is)
    (case a26 => k_is)
    (case l26 => k_is)
    (case c26 => k_is)
    (case k26 => k_is)
    (case a27 => k_is)
    (case l27 => k_is)
    (case c27 => k_is)
    (case k27 => k_is)
    (case a28 => k_is)
    (case l28 => k_is)
    (case c28 => k_is)
    (case k28 => k_is)
    (case a29 => k_is)
    (case l29 => k_is)
    (case c29 => k_is)
    (case k29 => k_is)
    (case a30 => k_is)
    (case l30 => k_is)
    (case c30 => k_is)
    (case k30 => k_is)
    (case z0 => k_is)
    (case z1 => k_is)
    (case z2 => k_is)
    (case z3 => k_is)
    (case z4 => k_is)
    (case z5 => k_is)
    (case z6 => k_is)
    (case z7 => k_is)
    (case z8 => k_is)
    (case z9 => k_is)
    (case z10 => k_is)
    (case z11 => k_is)
    (case z12 => k_is)
    (case z13 => k_is)
    (case ho => k_is)
    (case hsu => k_is)
    (case htop => rfl)
    (case xa0 => k_is)
    (case xk0 => k_is)
    (case xb0 => k_is)
    (case xt0 => k_is)
    (case xi0 => k_is)
    (case xg0 => k_is)
    (case xq0 => k_is)
    (case xh0 => k_is)
    (case xL0 => k_is)
    (case xr0 => decide +kernel)
    (case xs0 => k_is)
    (case xv0 => k_is)
    (case xm0 => ks_is)
    (case xu0 => k_is)
    (case xn0 => k_is)
    (case xI0 => k_is)
    (case xy0 => k_is)
    (case xl0 => k_is)
    (case xc0 => k_is)
    (case xd0 => k_is)
    (case xw0 => rfl)
    (case xf0 => decide +kernel)
    (case xz0 => k_is)
    (case xp0_0 => first | rfl | k_is)
