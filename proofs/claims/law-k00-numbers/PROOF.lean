import PyProof.Rows.All
import Wide.All
import OpenK.AllK
import Wide.FinOn
import HandS.ForMost
import HandS.Exc
import HandS.TryOnly
import HandS.ExcOwn
import HandS.WordsExc
import HandS.Flow
import HandS.Wide
import HandS.TupAny
import HandS.TupMul
import HandS.Style
import HandS.IsInst
import HandS.Deep
import HandS.Conv
import KE.KSortTupG
import HandS.Sort
import HandS.Iter
import HandS.Zip
import HandS.Comp
import HandS.ExcInit
import HandS.ExcField
import KE.KExcSuper
import HandS.TryMany
import HandS.ExcIs
import KE.RegKSuper
import HandS.List
import PyProof.EqLayable
import PySem.Challenge.RW_chieflayers_k00_numbers
set_option Elab.async false
set_option linter.all false
set_option maxRecDepth 100000
namespace PC
open PySem L2

inductive D where
  | non | bl (b : Bool) | int (i : Int) | str (x : Str) | tup (xs : List D) | lst (xs : List D) | cell (n : Nat) | frz (xs : List D)

mutual
def D.py : D → Option PyData
  | .non => some .none
  | .bl b => some (.bool b)
  | .int i => some (.int i)
  | .str x => some (.str x)
  | .tup xs => match D.pys xs with | some ys => some (.tuple ys) | none => none
  | .lst xs => match D.pys xs with | some ys => some (.list ys) | none => none
  | .cell _ => none
  | .frz _ => none
def D.pys : List D → Option (List PyData)
  | [] => some []
  | x :: xs => match D.py x, D.pys xs with
    | some a, some b => some (a :: b)
    | _, _ => none
end
instance : Inhabited D := ⟨.non⟩

/-- what a mutable object holds -/
inductive Cell where
  | lst (xs : List D)
  | dict (kvs : List (D × D))
  | ins (c : Nat) (fs : List (Str × D))
abbrev Mem := List Cell
/-- an exception: its class, its fields -/
structure Exc where
  cls : Str
  anc : List Str
  fs : List (Str × D)
inductive Res (α : Type) where
  | ok (a : α) (M : Mem)
  | err (x : Exc) (M : Mem)
  | bad
def Res.bind {α β : Type} (r : Res α) (f : α → Mem → Res β) : Res β :=
  match r with
  | .ok a M => f a M
  | .err x M => .err x M
  | .bad => .bad
@[simp] theorem Res.bind_ok {α β : Type} (a : α) (M : Mem) (f : α → Mem → Res β) : (Res.ok a M).bind f = f a M := (rfl)
@[simp] theorem Res.bind_err {α β : Type} (x : Exc) (M : Mem) (f : α → Mem → Res β) : (Res.err x M : Res α).bind f = .err x M := (rfl)
@[simp] theorem Res.bind_bad {α β : Type} (f : α → Mem → Res β) : (Res.bad : Res α).bind f = .bad := (rfl)
/-- a slot of a def -/
inductive Slot where
  | un
  | v (d : D)
  | own (xs : List D)
abbrev Ev := List Slot

inductive Bop where | add | sub | mul | fdiv | mod
  deriving DecidableEq
inductive Cop where | eq | ne | lt | le | gt | ge | isin | notin
  deriving DecidableEq
inductive Bi where | len | int | abs | tuple | list | sum | sorted | all | any
  deriving DecidableEq
inductive Ty where | int | bool | str | tuple | list
  deriving DecidableEq
inductive Tg where
  | name (i : Nat)
  | tup (is : List Nat)
mutual
inductive E where
  | var (i : Nat)
  | non | bl (b : Bool) | int (i : Int) | str (x : Str)
  | glob (x : Str) (d : D)
  | bin (o : Bop) (a b : E)
  | neg (a : E) | not (a : E)
  | cmp (o : Cop) (a b : E)
  | chain (o o' : Cop) (a b c : E)
  | isN (a : E) | notN (a : E)
  | isB (a : E) (b : Bool) | notB (a : E) (b : Bool)
  | and (a b : E) | or (a b : E)
  | ite (c a b : E)
  | tup (es : Es) | lst (es : Es) | newL (es : Es)
  | sub (a i : E)
  | slice (a : E) (lo hi : Pt)
  | sliceRev (a : E)
  | lenO (i : Nat) | subO (i : Nat) (k : E)
  | call (f : Nat) (es : Es)
  | bi (b : Bi) (e : E)
  | isi (a : E) (ts : List Ty)
  | comp (it : It) (t : Tg) (ifs : Es) (elt : E)
  | borrow (i : Nat) (e : E)
inductive Es where
  | nil
  | cons (e : E) (es : Es)
inductive Pt where
  | none
  | some (e : E)
inductive It where
  | seq (e : E)
  | own (i : Nat)
  | range1 (e : E)
  | range2 (a b : E)
  | zip (a b : E)
end
/-- what an except clause gives back -/
inductive HE where
  | con (d : D)
  | fld (f : Str)
  | pair (a b : HE)
/-- what an except clause may ask of its exception -/
inductive HC where
  | isi (cs : List Str)
  | not (c : HC)
  | and (a b : HC)
structure Hdl where
  cls : Str
  slot : Option Nat
  c : Option HC := none
  e : HE
mutual
inductive S where
  | set (i : Nat) (e : E)
  | own (i : Nat) (e : E)
  | freeze (i : Nat)
  | unpack (is : List Nat) (e : E)
  | append (i : Nat) (e : E)
  | popAt (j i : Nat) (k : E)
  | setO (i : Nat) (k e : E)
  | setC (a k e : E)
  | expr (e : E)
  | ret (e : E)
  | ite (c : E) (a b : B)
  | whl (n : Nat) (c : E) (b : B)
  | for_ (it : It) (t : Tg) (b : B)
  | never
  | raise_ (c : Str) (anc : List Str) (f : Option Str) (e : E)
  | try_ (b : B) (hs : List Hdl)
inductive B where
  | nil
  | cons (s : S) (b : B)
end
structure FD where
  name : Str
  ps : List Str
  N : List Str
  body : B

def D.flat : D → Bool | .non => true | .bl _ => true | .int _ => true | .str _ => true | _ => false
def Cell.flat : Cell → Bool | .lst xs => xs.all D.flat | _ => false
def Mem.flat (M : Mem) : Bool := M.all Cell.flat
def D.truth (M : Mem) : D → Option Bool
  | .non => some false
  | .bl b => some b
  | .int i => some (i != 0)
  | .str x => if x.length ≤ sizeLine then some (x.length != 0) else none
  | .tup xs => some (!xs.isEmpty)
  | .lst xs => some (!xs.isEmpty)
  | .cell _ => none
  | .frz _ => none
theorem D.truth_str {d : D} {M : Mem} {k : Bool} (h : d.truth M = some k) : ∀ s, d = .str s → s.length ≤ sizeLine := fun s e => by
  subst e
  by_cases hz : s.length ≤ sizeLine
  · exact hz
  · simp [D.truth, hz] at h
def isNon : D → Bool | .non => true | _ => false
def small (n : Nat) : Bool := decide (n ≤ sizeLine)
def mulOk (i j : Int) : Bool := decide ((-(2 ^ 64) < i ∧ i < 2 ^ 64) ∨ (-(2 ^ 64) < j ∧ j < 2 ^ 64))
def HE.ev (x : Exc) : HE → Option D
  | .con d => if d.flat then some d else none
  | .fld f => x.fs.lookup f
  | .pair a b => match HE.ev x a, HE.ev x b with
    | some u, some v => some (.tup [u, v])
    | _, _ => none
def HC.ev (x : Exc) : HC → Bool
  | .isi cs => cs.any fun c => x.anc.contains c
  | .not c => !HC.ev x c
  | .and a b => HC.ev x a && HC.ev x b
/-- a divisor -/
def divOk (j : Int) : Bool := decide (0 < j ∧ j < 2 ^ 80)
def rep {α : Type} (n : Int) (xs : List α) : List α := (List.replicate n.toNat xs).flatten
def Bop.run : Bop → D → D → Option D
  | .add, .int i, .int j => some (.int (i + j))
  | .add, .str x, .str y => if x.length + y.length ≤ sizeLine then some (.str (x ++ y)) else none
  | .add, .tup xs, .tup ys => if xs.length + ys.length ≤ sizeLine then some (.tup (xs ++ ys)) else none
  | .add, .lst xs, .lst ys => if xs.length + ys.length ≤ sizeLine then some (.lst (xs ++ ys)) else none
  | .sub, .int i, .int j => some (.int (i - j))
  | .mul, .int i, .int j => if mulOk i j then some (.int (i * j)) else none
  | .mul, .tup xs, .int n => if -(2 ^ 63) ≤ n ∧ n < 2 ^ 62 ∧ n.toNat * xs.length ≤ sizeLine then some (.tup (rep n xs)) else none
  | .mul, .lst xs, .int n => if -(2 ^ 63) ≤ n ∧ n < 2 ^ 62 ∧ n.toNat * xs.length ≤ sizeLine then some (.lst (rep n xs)) else none
  | .fdiv, .int i, .int j => if divOk j then some (.int (i / j)) else none
  | .mod, .int i, .int j => if 0 < j then some (.int (i % j)) else none
  | _, _, _ => none
def D.eqv? (a b : D) : Option Bool :=
  match a.py, b.py with
  | some p, some q => if SeqAt.shaped p && SeqAt.shaped q then some (PyData.eqv p q) else none
  | _, _ => none
def D.items : D → Option (List D)
  | .tup xs => some xs
  | .lst xs => some xs
  | .frz xs => some xs
  | _ => none
def D.has? (x : D) (l : D) : Option Bool :=
  match l, x.py, l.py with
  | .lst _, some p, some (.list qs) => if SeqAt.shaped p && SeqAt.shaped (.list qs) then some (qs.any fun z => PyData.eqv z p) else none
  | .tup _, some p, some (.tuple qs) => if SeqAt.shaped p && SeqAt.shaped (.tuple qs) then some (qs.any fun z => PyData.eqv z p) else none
  | _, _, _ => none
def Cop.run : Cop → D → D → Option Bool
  | .eq, a, b => D.eqv? a b
  | .ne, a, b => (D.eqv? a b).map (! ·)
  | .lt, .int i, .int j => some (decide (i < j))
  | .le, .int i, .int j => some (decide (i ≤ j))
  | .gt, .int i, .int j => some (decide (j < i))
  | .ge, .int i, .int j => some (decide (j ≤ i))
  | .isin, a, b => D.has? a b
  | .notin, a, b => (D.has? a b).map (! ·)
  | _, _, _ => none
def D.ints : List D → Option (List Int)
  | [] => some []
  | .int i :: r => (D.ints r).map (i :: ·)
  | _ :: _ => none
def D.bools : List D → Option (List Bool)
  | [] => some []
  | .bl b :: r => (D.bools r).map (b :: ·)
  | _ :: _ => none
/-- a list's order as sorted: by a told order of the data (tuples of ints) -/
def D.ltI : List Int → List Int → Bool
  | [], [] => false
  | [], _ :: _ => true
  | _ :: _, [] => false
  | x :: xs, y :: ys => decide (x < y) || (!decide (y < x) && D.ltI xs ys)
def ins (lt : α → α → Bool) (x : α) : List α → List α
  | [] => [x]
  | y :: r => if lt x y then x :: y :: r else y :: ins lt x r
def isort (lt : α → α → Bool) : List α → List α
  | [] => []
  | x :: r => ins lt x (isort lt r)
def D.rows : List D → Option (List (List Int))
  | [] => some []
  | .tup xs :: r => match D.ints xs, D.rows r with
    | some a, some b => some (a :: b)
    | _, _ => none
  | _ :: _ => none
def Bi.run : Bi → D → Option D
  | .len, .tup xs => some (.int xs.length)
  | .len, .lst xs => some (.int xs.length)
  | .len, .str x => if x.length ≤ sizeLine then some (.int x.length) else none
  | .int, .int i => some (.int i)
  | .int, .bl b => some (.int (if b then 1 else 0))
  | .abs, .int i => some (.int (if i < 0 then -i else i))
  | .tuple, .tup xs => some (.tup xs)
  | .tuple, .lst xs => some (.tup xs)
  | .list, .tup xs => some (.lst xs)
  | .list, .lst xs => some (.lst xs)
  | .sum, .lst xs => (D.ints xs).map fun is => .int is.sum
  | .all, .lst xs => (D.bools xs).map fun bs => .bl (bs.all id)
  | .any, .lst xs => (D.bools xs).map fun bs => .bl (bs.any id)
  | .sorted, .lst xs => match D.rows xs with
    | some rs => if xs.length ≤ sizeLine ∧ (rs.length ≤ 1 ∨ rs.all (fun r => !r.isEmpty) = true) then some (.lst ((isort D.ltI rs).map fun r => .tup (r.map .int))) else none
    | none => none
  | _, _ => none
def Ty.is : Ty → D → Option Bool
  | .int, .int _ => some true
  | .int, .bl _ => some true
  | .bool, .bl _ => some true
  | .str, .str _ => some true
  | .tuple, .tup _ => some true
  | .list, .lst _ => some true
  | _, .cell _ => none
  | _, .frz _ => none
  | _, _ => some false
def Ty.any : List Ty → D → Option Bool
  | [], _ => some false
  | t :: r, d => match t.is d with
    | some true => some true
    | some false => Ty.any r d
    | none => none
def ix (n : Nat) (i : Int) : Option Nat := seqIndex? i n
def D.sub : D → D → Option D
  | .tup xs, .int i => L2.atI xs i
  | .lst xs, .int i => L2.atI xs i
  | _, _ => none
def cutD {α : Type} (xs : List α) (lo hi : Option Int) : List α := (xs.drop (HT.sIx xs.length 0 lo)).take (HT.sIx xs.length xs.length hi - HT.sIx xs.length 0 lo)
def D.slice (a : D) (lo hi : Option Int) : Option D :=
  match a with
  | .tup xs => some (.tup (cutD xs lo hi))
  | .lst xs => some (.lst (cutD xs lo hi))
  | .frz xs => some (.lst (cutD xs lo hi))
  | _ => none
def D.rev : D → Option D
  | .tup xs => some (.tup xs.reverse)
  | .lst xs => some (.lst xs.reverse)
  | _ => none
def Res.of {α : Type} (o : Option α) (M : Mem) : Res α := match o with | some a => .ok a M | none => .bad
@[simp] theorem Res.of_some {α : Type} (a : α) (M : Mem) : Res.of (some a) M = .ok a M := (rfl)
@[simp] theorem Res.of_none {α : Type} (M : Mem) : Res.of (none : Option α) M = .bad := (rfl)
/-- an exception may not pass here -/
def Res.calm {α : Type} : Res α → Res α
  | .ok a M => .ok a M
  | .err _ _ => .bad
  | .bad => .bad
def rangeL (lo : Int) : Nat → List D
  | 0 => []
  | n + 1 => .int lo :: rangeL (lo + 1) n
def rngOk (i : Int) : Bool := decide (-(2 ^ 62) ≤ i ∧ i < 2 ^ 62)
def cmpL (f : D → Mem → Res (Option D)) : List D → List D → Mem → Res (List D)
  | [], acc, M => .ok acc M
  | d :: ds, acc, M => (f d M).bind fun o M1 => match o with
    | none => cmpL f ds acc M1
    | some y => if acc.length < sizeLine then cmpL f ds (acc ++ [y]) M1 else .bad
def Tg.slots : Tg → List Nat
  | .name i => [i]
  | .tup is => is
def setsL : List Nat → List D → Ev → Option Ev
  | [], [], ρ => some ρ
  | i :: is, d :: ds, ρ => setsL is ds (ρ.set i (.v d))
  | _, _, _ => none
def Tg.put : Tg → D → Ev → Option Ev
  | .name i, d, ρ => some (ρ.set i (.v d))
  | .tup is, .tup ds, ρ => setsL is ds ρ
  | .tup _, _, _ => none
def wipeE (ρ : Ev) : List Nat → Ev
  | [] => ρ
  | v :: vs => (wipeE ρ vs).set v .un
abbrev Fns := Nat → List D → Mem → Res D
def slotV (ρ : Ev) (i : Nat) : Option D := match ρ[i]? with | some (.v d) => some d | _ => none
def slotO (ρ : Ev) (i : Nat) : Option (List D) := match ρ[i]? with | some (.own xs) => some xs | _ => none
/-- o[k], lists that may change among them -/
def subM (M : Mem) : D → D → Option D
  | .cell n, .int i => match M[n]? with | some (.lst xs) => L2.atI xs i | _ => none
  | a, b => D.sub a b
def lenM (M : Mem) : Bi → D → Option D
  | .len, .cell n => match M[n]? with | some (.lst xs) => some (.int xs.length) | _ => none
  | b, d => Bi.run b d
def zipL : List D → List D → List D
  | x :: xs, y :: ys => .tup [x, y] :: zipL xs ys
  | _, _ => []
mutual
def ev (Φ : Fns) : E → Ev → Mem → Res D
  | .var i, ρ, M => .of (slotV ρ i) M
  | .non, _, M => .ok .non M
  | .bl b, _, M => .ok (.bl b) M
  | .int i, _, M => .ok (.int i) M
  | .str x, _, M => .ok (.str x) M
  | .glob _ d, _, M => .ok d M
  | .bin o a b, ρ, M => (ev Φ a ρ M).bind fun x M1 => (ev Φ b ρ M1).bind fun y M2 => .of (o.run x y) M2
  | .neg a, ρ, M => (ev Φ a ρ M).bind fun x M1 => match x with | .int i => .ok (.int (-i)) M1 | _ => .bad
  | .not a, ρ, M => (ev Φ a ρ M).bind fun x M1 => .of ((x.truth M1).map fun k => .bl (!k)) M1
  | .cmp o a b, ρ, M => (ev Φ a ρ M).bind fun x M1 => (ev Φ b ρ M1).bind fun y M2 => .of ((o.run x y).map .bl) M2
  | .chain o o' a b c, ρ, M => (ev Φ a ρ M).bind fun x M1 => (ev Φ b ρ M1).bind fun y M2 => match o.run x y with
    | some true => (ev Φ c ρ M2).bind fun z M3 => .of ((o'.run y z).map .bl) M3
    | some false => .ok (.bl false) M2
    | none => .bad
  | .isN a, ρ, M => (ev Φ a ρ M).bind fun x M1 => .ok (.bl (isNon x)) M1
  | .notN a, ρ, M => (ev Φ a ρ M).bind fun x M1 => .ok (.bl (!isNon x)) M1
  | .isB a b, ρ, M => (ev Φ a ρ M).bind fun x M1 => match x with | .bl c => .ok (.bl (c == b)) M1 | _ => .bad
  | .notB a b, ρ, M => (ev Φ a ρ M).bind fun x M1 => match x with | .bl c => .ok (.bl (!(c == b))) M1 | _ => .bad
  | .and a b, ρ, M => (ev Φ a ρ M).bind fun x M1 => match x.truth M1 with
    | some true => ev Φ b ρ M1
    | some false => .ok x M1
    | none => .bad
  | .or a b, ρ, M => (ev Φ a ρ M).bind fun x M1 => match x.truth M1 with
    | some true => .ok x M1
    | some false => ev Φ b ρ M1
    | none => .bad
  | .ite c a b, ρ, M => (ev Φ c ρ M).bind fun x M1 => match x.truth M1 with
    | some true => ev Φ a ρ M1
    | some false => ev Φ b ρ M1
    | none => .bad
  | .tup es, ρ, M => (evs Φ es ρ M).bind fun xs M1 => if xs.length ≤ sizeLine then .ok (.tup xs) M1 else .bad
  | .lst es, ρ, M => (evs Φ es ρ M).bind fun xs M1 => if xs.length ≤ sizeLine then .ok (.lst xs) M1 else .bad
  | .newL es, ρ, M => (evs Φ es ρ M).bind fun xs M1 => if xs.length ≤ sizeLine then .ok (.cell M1.length) (M1 ++ [.lst xs]) else .bad
  | .sub a i, ρ, M => (ev Φ a ρ M).bind fun x M1 => (ev Φ i ρ M1).bind fun y M2 => .of (subM M2 x y) M2
  | .slice a lo hi, ρ, M => (ev Φ a ρ M).bind fun x M1 => (evP Φ lo ρ M1).bind fun y M2 => (evP Φ hi ρ M2).bind fun z M3 => .of (x.slice y z) M3
  | .sliceRev a, ρ, M => (ev Φ a ρ M).bind fun x M1 => .of x.rev M1
  | .lenO i, ρ, M => .of ((slotO ρ i).map fun xs => .int xs.length) M
  | .subO i k, ρ, M => match slotO ρ i with
    | some xs => (ev Φ k ρ M).bind fun y M1 => .of (D.sub (.lst xs) y) M1
    | none => .bad
  | .call f es, ρ, M => (evs Φ es ρ M).bind fun xs M1 => Φ f xs M1
  | .bi b e, ρ, M => (ev Φ e ρ M).bind fun x M1 => .of (lenM M1 b x) M1
  | .isi a ts, ρ, M => (ev Φ a ρ M).bind fun x M1 => .of ((Ty.any ts x).map .bl) M1
  | .comp it t ifs elt, ρ, M => (evI Φ it ρ M).bind fun ds M1 =>
      ((cmpL (fun d M2 => match t.put d (wipeE ρ t.slots) with
        | some ρ2 => (tst Φ ifs ρ2 M2).bind fun k M3 => if k = true then (ev Φ elt ρ2 M3).bind fun y M4 => .ok (some y) M4 else .ok none M3
        | none => .bad) ds [] M1).bind fun xs M4 => .ok (.lst xs) M4).calm
  | .borrow i e, ρ, M => match slotO ρ i with
    | some xs => (ev Φ e (ρ.set i (.v (.lst xs))) M).calm.bind fun x M1 => if x.flat && Mem.flat M1 then .ok x M1 else .bad
    | none => .bad
def evs (Φ : Fns) : Es → Ev → Mem → Res (List D)
  | .nil, _, M => .ok [] M
  | .cons e es, ρ, M => (ev Φ e ρ M).bind fun x M1 => (evs Φ es ρ M1).bind fun xs M2 => .ok (x :: xs) M2
def evP (Φ : Fns) : Pt → Ev → Mem → Res (Option Int)
  | .none, _, M => .ok Option.none M
  | .some e, ρ, M => (ev Φ e ρ M).bind fun x M1 => match x with
    | .int i => .ok (Option.some i) M1
    | _ => .bad
/-- a clause's tests: none or one -/
def tst (Φ : Fns) : Es → Ev → Mem → Res Bool
  | .nil, _, M => .ok true M
  | .cons e .nil, ρ, M => (ev Φ e ρ M).bind fun x M1 => .of (x.truth M1) M1
  | .cons _ (.cons _ _), _, _ => .bad
def evI (Φ : Fns) : It → Ev → Mem → Res (List D)
  | .seq e, ρ, M => (ev Φ e ρ M).bind fun x M1 => .of x.items M1
  | .own i, ρ, M => .of (slotO ρ i) M
  | .range1 e, ρ, M => (ev Φ e ρ M).bind fun x M1 => match x with
    | .int j => if rngOk j then .ok (rangeL 0 j.toNat) M1 else .bad
    | _ => .bad
  | .range2 a b, ρ, M => (ev Φ a ρ M).bind fun x M1 => (ev Φ b ρ M1).bind fun y M2 => match x, y with
    | .int i, .int j => if rngOk i && rngOk j then .ok (rangeL i (j - i).toNat) M2 else .bad
    | _, _ => .bad
  | .zip a b, ρ, M => (ev Φ a ρ M).bind fun x M1 => (ev Φ b ρ M1).bind fun y M2 => match x, y with
    | .tup xs, .tup ys => .ok (zipL xs ys) M2
    | .lst xs, .lst ys => .ok (zipL xs ys) M2
    | .lst xs, .tup ys => .ok (zipL xs ys) M2
    | _, _ => .bad
end
/-- a statement's end -/
inductive Out where
  | nx (ρ : Ev) (M : Mem)
  | rt (d : D) (M : Mem)
  | er (x : Exc) (ρ : Ev) (M : Mem)
  | bad
def Res.out {α : Type} (r : Res α) (ρ : Ev) (f : α → Mem → Out) : Out :=
  match r with
  | .ok a M => f a M
  | .err x M => .er x ρ M
  | .bad => .bad
@[simp] theorem Res.out_ok {α : Type} (a : α) (M : Mem) (ρ : Ev) (f : α → Mem → Out) : (Res.ok a M).out ρ f = f a M := (rfl)
@[simp] theorem Res.out_err {α : Type} (x : Exc) (M : Mem) (ρ : Ev) (f : α → Mem → Out) : (Res.err x M : Res α).out ρ f = .er x ρ M := (rfl)
@[simp] theorem Res.out_bad {α : Type} (ρ : Ev) (f : α → Mem → Out) : (Res.bad : Res α).out ρ f = .bad := (rfl)
def Out.then (o : Out) (f : Ev → Mem → Out) : Out :=
  match o with
  | .nx ρ M => f ρ M
  | .rt d M => .rt d M
  | .er x ρ M => .er x ρ M
  | .bad => .bad
@[simp] theorem Out.then_nx (ρ : Ev) (M : Mem) (f : Ev → Mem → Out) : (Out.nx ρ M).then f = f ρ M := (rfl)
@[simp] theorem Out.then_rt (d : D) (M : Mem) (f : Ev → Mem → Out) : (Out.rt d M).then f = .rt d M := (rfl)
@[simp] theorem Out.then_er (x : Exc) (ρ : Ev) (M : Mem) (f : Ev → Mem → Out) : (Out.er x ρ M).then f = .er x ρ M := (rfl)
@[simp] theorem Out.then_bad (f : Ev → Mem → Out) : Out.bad.then f = .bad := (rfl)
def forL (t : Tg) (f : Ev → Mem → Out) : List D → Ev → Mem → Out
  | [], ρ, M => .nx ρ M
  | d :: ds, ρ, M => match t.put d ρ with
    | some ρ1 => (f ρ1 M).then fun ρ2 M2 => forL t f ds ρ2 M2
    | none => .bad
def whlL (c : Ev → Mem → Res Bool) (f : Ev → Mem → Out) : Nat → Ev → Mem → Out
  | 0, _, _ => .bad
  | n + 1, ρ, M => (c ρ M).out ρ fun k M1 => if k = true then (f ρ M1).then fun ρ2 M2 => whlL c f n ρ2 M2 else .nx ρ M1
def evT (Φ : Fns) (c : E) (ρ : Ev) (M : Mem) : Res Bool := (ev Φ c ρ M).bind fun x M1 => .of (x.truth M1) M1
/-- may the slot be stored to: it is no list of its own (that would be dropped: also fine) -/
def unE (ρ : Ev) : Option Nat → Ev
  | none => ρ
  | some k => ρ.set k .un
def putE (ρ : Ev) (i : Nat) (d : D) : Ev := ρ.set i (.v d)
mutual
def ex (Φ : Fns) : S → Ev → Mem → Out
  | .set i e, ρ, M => (ev Φ e ρ M).out ρ fun x M1 => .nx (ρ.set i (.v x)) M1
  | .own i e, ρ, M => (ev Φ e ρ M).out ρ fun x M1 => match x with
    | .lst xs => .nx (ρ.set i (.own xs)) M1
    | _ => .bad
  | .freeze i, ρ, M => match slotO ρ i with
    | some xs => .nx (ρ.set i (.v (.lst xs))) M
    | none => .bad
  | .unpack is e, ρ, M => (ev Φ e ρ M).out ρ fun x M1 => match x with
    | .tup ds => match setsL is ds ρ with | some ρ2 => .nx ρ2 M1 | none => .bad
    | _ => .bad
  | .append i e, ρ, M => match slotO ρ i with
    | some xs => (ev Φ e ρ M).out ρ fun x M1 => if xs.length < sizeLine then .nx (ρ.set i (.own (xs ++ [x]))) M1 else .bad
    | none => .bad
  | .popAt j i k, ρ, M => match slotO ρ i with
    | some xs => (ev Φ k ρ M).out ρ fun y M1 => match y with
      | .int z => match seqIndex? z xs.length with
        | some m => match xs[m]? with
          | some x => if -(2 ^ 63) ≤ z ∧ z < 2 ^ 63 ∧ j ≠ i then .nx ((ρ.set i (.own (xs.eraseIdx m))).set j (.v x)) M1 else .bad
          | none => .bad
        | none => .bad
      | _ => .bad
    | none => .bad
  | .setO i k e, ρ, M => match slotO ρ i with
    | some xs => (ev Φ e ρ M).out ρ fun x M1 => (ev Φ k ρ M1).out ρ fun y M2 => match y with
      | .int z => match ixN xs.length z with
        | some m => .nx (ρ.set i (.own (xs.set m x))) M2
        | none => .bad
      | _ => .bad
    | none => .bad
  | .setC a k e, ρ, M => (ev Φ e ρ M).out ρ fun x M1 => (ev Φ a ρ M1).out ρ fun o M2 => (ev Φ k ρ M2).out ρ fun y M3 => match o, y with
    | .cell n, .int z => match M3[n]? with
      | some (.lst xs) => match ixN xs.length z with
        | some m => .nx ρ (M3.set n (.lst (xs.set m x)))
        | none => .bad
      | _ => .bad
    | _, _ => .bad
  | .expr e, ρ, M => (ev Φ e ρ M).out ρ fun _ M1 => .nx ρ M1
  | .ret e, ρ, M => (ev Φ e ρ M).out ρ fun x M1 => .rt x M1
  | .ite c a b, ρ, M => (evT Φ c ρ M).out ρ fun k M1 => if k = true then exs Φ a ρ M1 else exs Φ b ρ M1
  | .whl n c b, ρ, M => whlL (evT Φ c) (exs Φ b) n ρ M
  | .for_ it t b, ρ, M => (evI Φ it ρ M).out ρ fun ds M1 => forL t (exs Φ b) ds ρ M1
  | .never, _, _ => .bad
  | .raise_ c anc f e, ρ, M => (ev Φ e ρ M).out ρ fun x M1 => match f with
    | some f => if x.flat then .er ⟨c, anc, [(f, x)]⟩ ρ M1 else .bad
    | none => .er ⟨c, anc, []⟩ ρ M1
  | .try_ b hs, ρ, M => match exs Φ b ρ M with
    | .er x ρ1 M1 => match hs.find? fun h => x.anc.contains h.cls with
      | some h => if (h.slot.all fun k => decide (k < ρ1.length)) = true then
          (if (h.c.all fun c => c.ev x) = true then (match h.e.ev x with | some d => .rt d M1 | none => .bad) else .nx (unE ρ1 h.slot) M1)
        else .bad
      | none => .er x ρ1 M1
    | o => o
def exs (Φ : Fns) : B → Ev → Mem → Out
  | .nil, ρ, M => .nx ρ M
  | .cons s b, ρ, M => (ex Φ s ρ M).then fun ρ1 M1 => exs Φ b ρ1 M1
end
def startE (N : List Str) (ds : List D) : Ev := ds.map .v ++ List.replicate (N.length - ds.length) .un
def FD.run (Φ : Fns) (fd : FD) (ds : List D) (M : Mem) : Res D :=
  if ds.length = fd.ps.length then
    match exs Φ fd.body (startE fd.N ds) M with
    | .nx _ M1 => .ok .non M1
    | .rt d M1 => .ok d M1
    | .er x _ M1 => .err x M1
    | .bad => .bad
  else .bad
/-- the defs of the table, called to a depth -/
def callN (T : Nat → Option FD) : Nat → Fns
  | 0, _, _, _ => .bad
  | n + 1, f, ds, M => match T f with
    | some fd => fd.run (callN T n) ds M
    | none => .bad
end PC

namespace PC
open PySem L2

def LsAt (K : PySem.W.Frag) (H : Hp) (B : Addr → Prop) (a : Addr) (vs : List V) : Prop := H a = some (.lst vs) ∧ ¬ B a
def FzAt (K : PySem.W.Frag) (H : Hp) (B : Addr → Prop) (a : Addr) (vs : List V) : Prop := (Rd H a (.lst vs) ∧ ¬ B a) ∨ ∀ H' : Hp, SqL K H' a vs
def TpAt (K : PySem.W.Frag) (H : Hp) (B : Addr → Prop) (a : Addr) (vs : List V) : Prop := (Rd H a (.tup vs) ∧ ¬ B a) ∨ ∀ H' : Hp, SqT K H' a vs
mutual
inductive Rp (K : PySem.W.Frag) (H : Hp) (B : Addr → Prop) (μ : List Addr) : D → V → Prop
  | non : Rp K H B μ .non .non
  | bl (b : Bool) : Rp K H B μ (.bl b) (.bl b)
  | int (i : Int) : Rp K H B μ (.int i) (.int i)
  | str (x : Str) : Rp K H B μ (.str x) (.str x)
  | tup {a : Addr} {vs : List V} {ds : List D} : TpAt K H B a vs → Rps K H B μ ds vs → Rp K H B μ (.tup ds) (.ref a)
  | lst {a : Addr} {vs : List V} {ds : List D} : LsAt K H B a vs → Rps K H B μ ds vs → Rp K H B μ (.lst ds) (.ref a)
  | frz {a : Addr} {vs : List V} {ds : List D} : FzAt K H B a vs → Rps K H B μ ds vs → Rp K H B μ (.frz ds) (.ref a)
  | cell {n : Nat} {a : Addr} : μ[n]? = some a → Rp K H B μ (.cell n) (.ref a)
inductive Rps (K : PySem.W.Frag) (H : Hp) (B : Addr → Prop) (μ : List Addr) : List D → List V → Prop
  | nil : Rps K H B μ [] []
  | cons {d : D} {v : V} {ds : List D} {vs : List V} : Rp K H B μ d v → Rps K H B μ ds vs → Rps K H B μ (d :: ds) (v :: vs)
end
section
variable {K : PySem.W.Frag} {H H' : Hp} {B B' : Addr → Prop} {μ μ' : List Addr}
theorem TpAt.sq {a : Addr} {vs : List V} (h : TpAt K H B a vs) : SqT K H a vs := by
  rcases h with h | h
  · exact .inl h.1
  · exact h H
theorem LsAt.sq {a : Addr} {vs : List V} (h : LsAt K H B a vs) : SqL K H a vs := .inl (.inl h.1)
theorem FzAt.sq {a : Addr} {vs : List V} (h : FzAt K H B a vs) : SqL K H a vs := by
  rcases h with h | h
  · exact .inl h.1
  · exact h H
/-- what a datum leans on stays -/
structure Kp (H H' : Hp) (B B' : Addr → Prop) (μ μ' : List Addr) : Prop where
  k : ∀ (a : Addr) (o : HO), H a = some o → ¬ B a → H' a = some o ∧ ¬ B' a
  m : ∀ (n : Nat) (a : Addr), μ[n]? = some a → μ'[n]? = some a
theorem Kp.refl : Kp H H B B μ μ := ⟨fun _ _ h b => ⟨h, b⟩, fun _ _ h => h⟩
theorem Kp.trans {H'' : Hp} {B'' : Addr → Prop} {μ'' : List Addr} (x : Kp H H' B B' μ μ') (y : Kp H' H'' B' B'' μ' μ'') : Kp H H'' B B'' μ μ'' :=
  ⟨fun a o h b => let ⟨h1, b1⟩ := x.k a o h b; y.k a o h1 b1, fun n a h => y.m n a (x.m n a h)⟩
theorem TpAt.mono {a : Addr} {vs : List V} (k : Kp H H' B B' μ μ') (h : TpAt K H B a vs) : TpAt K H' B' a vs := by
  rcases h with ⟨h | ⟨o, h⟩, b⟩ | h
  · exact .inl ⟨.inl (k.k _ _ h b).1, (k.k _ _ h b).2⟩
  · exact .inl ⟨.inr ⟨o, (k.k _ _ h b).1⟩, (k.k _ _ h b).2⟩
  · exact .inr h
theorem LsAt.mono {a : Addr} {vs : List V} (k : Kp H H' B B' μ μ') (h : LsAt K H B a vs) : LsAt K H' B' a vs := k.k _ _ h.1 h.2
theorem FzAt.mono {a : Addr} {vs : List V} (k : Kp H H' B B' μ μ') (h : FzAt K H B a vs) : FzAt K H' B' a vs := by
  rcases h with ⟨h | ⟨o, h⟩, b⟩ | h
  · exact .inl ⟨.inl (k.k _ _ h b).1, (k.k _ _ h b).2⟩
  · exact .inl ⟨.inr ⟨o, (k.k _ _ h b).1⟩, (k.k _ _ h b).2⟩
  · exact .inr h
mutual
theorem Rp.mono (k : Kp H H' B B' μ μ') : ∀ {d : D} {v : V}, Rp K H B μ d v → Rp K H' B' μ' d v
  | _, _, .non => .non
  | _, _, .bl b => .bl b
  | _, _, .int i => .int i
  | _, _, .str x => .str x
  | _, _, .tup h r => .tup (h.mono k) (Rps.mono k r)
  | _, _, .lst h r => .lst (h.mono k) (Rps.mono k r)
  | _, _, .frz h r => .frz (h.mono k) (Rps.mono k r)
  | _, _, .cell h => .cell (k.m _ _ h)
theorem Rps.mono (k : Kp H H' B B' μ μ') : ∀ {ds : List D} {vs : List V}, Rps K H B μ ds vs → Rps K H' B' μ' ds vs
  | _, _, .nil => .nil
  | _, _, .cons h r => .cons (Rp.mono k h) (Rps.mono k r)
end
theorem Rps.length : ∀ {ds : List D} {vs : List V}, Rps K H B μ ds vs → ds.length = vs.length
  | _, _, .nil => rfl
  | _, _, .cons _ r => congrArg (· + 1) (Rps.length r)
theorem Rps.get : ∀ {ds : List D} {vs : List V} {i : Nat} {d : D}, Rps K H B μ ds vs → ds[i]? = some d → ∃ v, vs[i]? = some v ∧ Rp K H B μ d v
  | _, _, _, _, .nil, e => by simp at e
  | _, _, 0, _, .cons h _, e => by simp at e; subst e; exact ⟨_, rfl, h⟩
  | _, _, i + 1, _, .cons _ r, e => by
    obtain ⟨v, h1, h2⟩ := Rps.get (i := i) r (by simpa using e)
    exact ⟨v, by simpa using h1, h2⟩
theorem Rps.append : ∀ {ds es : List D} {vs ws : List V}, Rps K H B μ ds vs → Rps K H B μ es ws → Rps K H B μ (ds ++ es) (vs ++ ws)
  | _, _, _, _, .nil, s => s
  | _, _, _, _, .cons h r, s => .cons h (Rps.append r s)
theorem Rps.set {d : D} {v : V} (h : Rp K H B μ d v) : ∀ {ds : List D} {vs : List V} (i : Nat), Rps K H B μ ds vs → Rps K H B μ (ds.set i d) (vs.set i v)
  | _, _, _, .nil => .nil
  | _, _, 0, .cons _ r => .cons h r
  | _, _, i + 1, .cons q r => .cons q (Rps.set h i r)
theorem Rps.eraseIdx : ∀ {ds : List D} {vs : List V} (i : Nat), Rps K H B μ ds vs → Rps K H B μ (ds.eraseIdx i) (vs.eraseIdx i)
  | _, _, _, .nil => .nil
  | _, _, 0, .cons _ r => r
  | _, _, i + 1, .cons q r => .cons q (Rps.eraseIdx i r)
theorem Rps.take : ∀ {ds : List D} {vs : List V} (n : Nat), Rps K H B μ ds vs → Rps K H B μ (ds.take n) (vs.take n)
  | _, _, 0, _ => by simp; exact .nil
  | _, _, _ + 1, .nil => .nil
  | _, _, n + 1, .cons h r => .cons h (Rps.take n r)
theorem Rps.drop : ∀ {ds : List D} {vs : List V} (n : Nat), Rps K H B μ ds vs → Rps K H B μ (ds.drop n) (vs.drop n)
  | _, _, 0, r => r
  | _, _, _ + 1, .nil => .nil
  | _, _, n + 1, .cons _ r => Rps.drop n r
theorem Rps.reverse : ∀ {ds : List D} {vs : List V}, Rps K H B μ ds vs → Rps K H B μ ds.reverse vs.reverse
  | _, _, .nil => .nil
  | _, _, .cons h r => by
    rw [List.reverse_cons, List.reverse_cons]
    exact (Rps.reverse r).append (.cons h .nil)
theorem Rps.rep {ds : List D} {vs : List V} (r : Rps K H B μ ds vs) : ∀ n : Nat, Rps K H B μ (List.replicate n ds).flatten (List.replicate n vs).flatten
  | 0 => .nil
  | n + 1 => by
    rw [List.replicate_succ, List.replicate_succ, List.flatten_cons, List.flatten_cons]
    exact r.append (Rps.rep r n)
theorem Rps.cut {ds : List D} {vs : List V} (r : Rps K H B μ ds vs) (lo hi : Option Int) : Rps K H B μ (cutD ds lo hi) (cutV vs lo hi) := by
  unfold cutD cutV
  rw [r.length]
  exact (r.drop _).take _
theorem Rps.ints : ∀ {ds : List D} {is : List Int} {vs : List V}, D.ints ds = some is → Rps K H B μ ds vs → vs = is.map V.int
  | [], is, vs, h, r => by cases r; cases h; rfl
  | d :: ds, is, vs, h, r => by
    cases r with
    | cons h1 r =>
      cases h1 <;> simp only [D.ints] at h <;> try cases h
      cases e : D.ints ds with
      | none => rw [e] at h; cases h
      | some js =>
        rw [e] at h
        cases h
        rw [Rps.ints e r]
        rfl
theorem Rps.of_ints : ∀ (is : List Int), Rps K H B μ (is.map D.int) (is.map V.int)
  | [] => .nil
  | i :: is => .cons (.int i) (Rps.of_ints is)
theorem Rps.of_get : ∀ {ds : List D} {vs : List V}, ds.length = vs.length → (∀ (i : Nat) (d : D) (v : V), ds[i]? = some d → vs[i]? = some v → Rp K H B μ d v) → Rps K H B μ ds vs
  | [], [], _, _ => .nil
  | [], _ :: _, h, _ => by cases h
  | _ :: _, [], h, _ => by cases h
  | d :: ds, v :: vs, h, f => .cons (f 0 d v rfl rfl) (Rps.of_get (Nat.succ.inj h) fun i d' v' h1 h2 => f (i + 1) d' v' (by simpa using h1) (by simpa using h2))
mutual
theorem Rp.dp : ∀ {d : D} {v : V} {p : PyData}, Rp K H B μ d v → d.py = some p → Dp K H v p
  | _, _, _, .non, e => by simp only [D.py] at e; cases e; exact .non
  | _, _, _, .bl b, e => by simp only [D.py] at e; cases e; exact .bl b
  | _, _, _, .int i, e => by simp only [D.py] at e; cases e; exact .int i
  | _, _, _, .str x, e => by simp only [D.py] at e; cases e; exact .str x
  | .tup ds, _, _, .tup h r, e => by
    simp only [D.py] at e
    cases q : D.pys ds with
    | none => rw [q] at e; cases e
    | some ys => rw [q] at e; cases e; exact .tup h.sq (Rps.dp r q)
  | .lst ds, _, _, .lst h r, e => by
    simp only [D.py] at e
    cases q : D.pys ds with
    | none => rw [q] at e; cases e
    | some ys => rw [q] at e; cases e; exact .lst h.sq (Rps.dp r q)
  | _, _, _, .frz _ _, e => by simp only [D.py] at e; cases e
  | _, _, _, .cell _, e => by simp only [D.py] at e; cases e
theorem Rps.dp : ∀ {ds : List D} {vs : List V} {ps : List PyData}, Rps K H B μ ds vs → D.pys ds = some ps → DpAll K H vs ps
  | _, _, _, .nil, e => by simp only [D.pys] at e; cases e; exact .nil
  | d :: ds, _, _, .cons h r, e => by
    simp only [D.pys] at e
    cases q : d.py with
    | none => rw [q] at e; cases e
    | some a =>
      cases q2 : D.pys ds with
      | none => rw [q, q2] at e; cases e
      | some b => rw [q, q2] at e; cases e; exact .cons (Rp.dp h q) (Rps.dp r q2)
end
end

structure Fr where
  H0 : Hp
  B0 : Addr → Prop
  μ0 : List Addr
def CellR (K : PySem.W.Frag) (H : Hp) (B : Addr → Prop) (μ : List Addr) : Cell → Addr → Prop
  | .lst ds, a => ∃ vs, H a = some (.lst vs) ∧ Rps K H B μ ds vs
  | .dict _, _ => False
  | .ins _ _, _ => False
def SlotR (K : PySem.W.Frag) (H : Hp) (B : Addr → Prop) (μ : List Addr) (oa : Option Addr) (σi : Option (Option V)) : Slot → Prop
  | .un => oa = none
  | .v d => oa = none ∧ ∃ v, σi = some (some v) ∧ Rp K H B μ d v
  | .own ds => ∃ a vs, oa = some a ∧ σi = some (some (.ref a)) ∧ H a = some (.lst vs) ∧ Rps K H B μ ds vs
/-- the cells -/
structure Cs (K : PySem.W.Frag) (H : Hp) (B : Addr → Prop) (μ : List Addr) (M : Mem) : Prop where
  nd : μ.Nodup
  len : M.length = μ.length
  ban : ∀ a ∈ μ, B a
  at_ : ∀ (n : Nat) (c : Cell) (a : Addr), M[n]? = some c → μ[n]? = some a → CellR K H B μ c a
structure Rel (K : PySem.W.Frag) (fr : Fr) (B : Addr → Prop) (μ : List Addr) (oa : Nat → Option Addr) (ρ : Ev) (M : Mem) (σ : St) (H : Hp) : Prop where
  cs : Cs K H B μ M
  b0 : ∀ a, fr.B0 a → B a
  bt : ∀ a, B a → H a ≠ none
  bo : ∀ i a, oa i = some a → B a
  oi : ∀ i j a, oa i = some a → oa j = some a → i = j
  on : ∀ i a, oa i = some a → fr.H0 a = none ∧ ¬ fr.B0 a ∧ a ∉ μ
  sl : ∀ (i : Nat) (s : Slot), ρ[i]? = some s → SlotR K H B μ (oa i) σ[i]? s
  so : ∀ (i : Nat), ρ[i]? = none → oa i = none
  ln : ρ.length = σ.length
  m0 : ∃ t, μ = fr.μ0 ++ t ∧ ∀ a ∈ t, fr.H0 a = none ∧ ¬ fr.B0 a
  ev : ∀ a o, fr.H0 a = some o → a ∉ fr.μ0 → H a = some o
/-- the bans behind: what was, and the cells -/
def ban (B : Addr → Prop) (μ : List Addr) : Addr → Prop := fun a => B a ∨ a ∈ μ
/-- from one state to a later one within an expression -/
structure Evo (μ : List Addr) (H : Hp) (μ' : List Addr) (H' : Hp) : Prop where
  pre : ∃ t, μ' = μ ++ t ∧ ∀ a ∈ t, H a = none
  keep : ∀ a o, H a = some o → a ∉ μ → H' a = some o
section
variable {K : PySem.W.Frag} {fr : Fr} {H H' H'' : Hp} {B : Addr → Prop} {μ μ' μ'' : List Addr} {oa : Nat → Option Addr} {ρ : Ev} {M M' : Mem} {σ : St}
theorem Evo.refl : Evo μ H μ H := ⟨⟨[], by simp, by simp⟩, fun _ _ h _ => h⟩
theorem Evo.mem (e : Evo μ H μ' H') {a : Addr} (h : a ∈ μ) : a ∈ μ' := by
  obtain ⟨t, rfl, _⟩ := e.pre
  exact List.mem_append_left _ h
theorem Evo.old (e : Evo μ H μ' H') {a : Addr} {o : HO} (h : a ∈ μ') (q : H a = some o) : a ∈ μ := by
  obtain ⟨t, rfl, n⟩ := e.pre
  rcases List.mem_append.mp h with h | h
  · exact h
  · rw [n a h] at q; cases q
theorem Evo.get (e : Evo μ H μ' H') {n : Nat} {a : Addr} (h : μ[n]? = some a) : μ'[n]? = some a := by
  obtain ⟨t, rfl, _⟩ := e.pre
  rw [List.getElem?_append_left (List.getElem?_eq_some_iff.mp h).1]
  exact h
theorem Evo.kp (e : Evo μ H μ' H') : Kp H H' (ban B μ) (ban B μ') μ μ' :=
  ⟨fun a o h b => ⟨e.keep a o h fun z => b (.inr z), fun z => z.elim (fun z => b (.inl z)) fun z => b (.inr (e.old z h))⟩, fun _ _ h => e.get h⟩
theorem Evo.trans (e : Evo μ H μ' H') (f : Evo μ' H' μ'' H'') (tr : ∀ a ∈ μ, H a ≠ none) (hm : ∀ a ∈ μ, H' a ≠ none) : Evo μ H μ'' H'' := by
  obtain ⟨t, rfl, n⟩ := e.pre
  obtain ⟨u, rfl, n'⟩ := f.pre
  refine ⟨⟨t ++ u, by rw [List.append_assoc], fun a h => ?_⟩, fun a o h hn => ?_⟩
  · rcases List.mem_append.mp h with h | h
    · exact n a h
    · cases q : H a with
      | none => rfl
      | some o =>
        by_cases hm' : a ∈ μ
        · exact absurd (n' a h) (hm a hm')
        · exact (e.keep a o q hm').symm.trans (n' a h)
  · refine f.keep a o (e.keep a o h hn) fun z => ?_
    rcases List.mem_append.mp z with z | z
    · exact hn z
    · rw [n a z] at h; cases h
end
end PC

namespace PC
open PySem PySem.Spec PyProof.Rows L2
section
variable {K : PySem.W.Frag} {H H' : Hp} {B : Addr → Prop} {μ : List Addr}
theorem same_upd {p : Addr} {o : HO} (h : H p = none) : Same H (upd H p o) := fun b x e => by
  rw [upd_ne (ne_of_none e h)]
  exact e
theorem Same.kp (s : Same H H') : Kp H H' B B μ μ := ⟨fun a o h b => ⟨s a o h, b⟩, fun _ _ h => h⟩
theorem new_tup {p : Addr} {ds : List D} {vs : List V} (bt : ∀ a, B a → H a ≠ none) (h : H p = none) (r : Rps K H B μ ds vs) : Rp K (upd H p (.tup vs)) B μ (.tup ds) (.ref p) :=
  .tup (.inl ⟨.inl upd_same, fun b => bt p b h⟩) (r.mono (Same.kp (same_upd h)))
theorem new_lst {p : Addr} {ds : List D} {vs : List V} (bt : ∀ a, B a → H a ≠ none) (h : H p = none) (r : Rps K H B μ ds vs) : Rp K (upd H p (.lst vs)) B μ (.lst ds) (.ref p) :=
  .lst ⟨upd_same, fun b => bt p b h⟩ (r.mono (Same.kp (same_upd h)))
end

/-- an operator's wish, by data -/
def rD (K : PySem.W.Frag) (run : D → D → Option D) : R2 := fun x y H Q => ∃ B μ a b d, (∀ z : Addr, B z → H z ≠ none) ∧ Rp K H B μ a x ∧ Rp K H B μ b y ∧ run a b = some d ∧
  ∀ v H', Same H H' → Rp K H' B μ d v → Q v H'
section
variable {X : Cx}
theorem tup_rep1 (l : Addr) (items : Array Value) (n : Nat) (dd : Option Addr) (sl : Array (Option Value)) (x : Int) (u : Tok) (c0 : (decide (x < -(2 ^ 63)) || decide (x ≥ 2 ^ 63)) = false) (c1 : (items.isEmpty || x == 1) = true) :
    Meets (Builtin.«tuple.__mul__» ⟨[.ref l, .int x u], []⟩) (fun _ R s => s.heap.get? l = some { cls := .type "tuple", dict := dd, data := .seq items n, slots := sl } ∧
      R (.ok (.ret (Value.ref l))) s) :=
  .of_wp fun prog w A R s h => by
    obtain ⟨hp, g, d, tk, os⟩ := s
    obtain ⟨hl, h⟩ := h
    have f1 := AutoSeq1.idx_int
    wp_walk using wpAny_loadPart' hl
    repeat (first
      | (refine wpAny_ite_false (decide_eq_false (by rw [c0]; exact Bool.false_ne_true)) ?_; wp_walk using wpAny_loadPart' hl)
      | (refine wpAny_ite_true (decide_eq_true c1) ?_; wp_walk using wpAny_loadPart' hl))
    exact ⟨_, rfl, h⟩
theorem tup_rep0 (l : Addr) (items : Array Value) (n : Nat) (dd : Option Addr) (sl : Array (Option Value)) (x : Int) (u : Tok) (c0 : (decide (x < -(2 ^ 63)) || decide (x ≥ 2 ^ 63)) = false) (c1 : (items.isEmpty || x == 1) = false) (c2 : (decide (x ≤ 0) || items.isEmpty) = true) :
    Meets (Builtin.«tuple.__mul__» ⟨[.ref l, .int x u], []⟩) (fun _ R s => s.heap.get? l = some { cls := .type "tuple", dict := dd, data := .seq items n, slots := sl } ∧
      R (.ok (.ret (Value.ref s.heap.objs.size))) { s with heap := s.heap.push { cls := Value.type "tuple", data := Data.seq #[] }, toks := s.toks }) :=
  .of_wp fun prog w A R s h => by
    obtain ⟨hp, g, d, tk, os⟩ := s
    obtain ⟨hl, h⟩ := h
    have f1 := AutoSeq1.idx_int
    wp_walk using wpAny_loadPart' hl
    repeat (first
      | (refine wpAny_ite_false (decide_eq_false (by rw [c0]; exact Bool.false_ne_true)) ?_; wp_walk using wpAny_loadPart' hl)
      | (refine wpAny_ite_false (decide_eq_false (by rw [c1]; exact Bool.false_ne_true)) ?_; wp_walk using wpAny_loadPart' hl)
      | (refine wpAny_ite_true (decide_eq_true c2) ?_; wp_walk using wpAny_loadPart' hl))
    exact ⟨_, rfl, h⟩
/-- t * k, any k -/
def rRepA (K : PySem.W.Frag) : R2 := fun x y H Q => ∃ l k xs, x = .ref l ∧ y = .int k ∧ SqT K H l xs ∧ -(2 ^ 63) ≤ k ∧ k < 2 ^ 62 ∧ k.toNat * xs.length ≤ sizeLine ∧
  (xs = [] ∨ k = 1 → Q (.ref l) H) ∧ (∀ p, H p = none → Q (.ref p) (upd H p (.tup (List.replicate k.toNat xs).flatten)))
theorem op_repA : OpR X (binaryOp .Mult) (rRepA X.K) := by
  intro pins s σ H x y v u Q I rx ry h
  obtain ⟨l, k, xs, rfl, rfl, hT, h1, h2, hz, q1, q⟩ := h
  cases rx
  obtain ⟨t, rfl⟩ := ry
  obtain ⟨its, r, ⟨⟨cls, dd, data, sl⟩, ho, hc, n, hd⟩, hs⟩ := I.tuple hT
  simp only at hc hd
  subst hc hd
  have hle : its.length = xs.length := r.length.symm
  have hsz0 : its.toArray.size = xs.length := by rw [List.size_toArray, hle]
  have c0 : (decide (k < -(2 ^ 63)) || decide (k ≥ 2 ^ 63)) = false := by
    rw [decide_eq_false (by omega), decide_eq_false (by omega)] <;> rfl
  have sz := sizeLine_eq
  refine wpAny_binaryOp_repeat_ref (T := "tuple") (U := "int") (by decide) ⟨_, ho, rfl⟩ (fun s' => typeIs_int s' k t) noFill_tuple_mul F.fills_int_mul F.slot_int_rmul repeat_tuple F.slot_int_index.lookup
    (call_meets F.slot_int_rmul (typeIs_int s k t) F.entry_int_rmul (F.args_int_rmul_2 _ _) (int_rmul_tuple k t l its.toArray n dd sl) ⟨ho, rfl, ⟨_, ho, rfl⟩, ?_⟩)
  by_cases hx : xs = [] ∨ k = 1
  · have c1 : (its.toArray.isEmpty || k == 1) = true := by
      rcases hx with e | e
      · have : its = [] := List.eq_nil_of_length_eq_zero (by rw [hle, e]; rfl)
        subst this
        rfl
      · subst e
        exact Bool.or_true _
    exact call_meets F.slot_tuple_mul ⟨_, ho, rfl⟩ F.entry_tuple_mul (F.args_tuple_mul_2 _ _) (tup_rep1 l its.toArray n dd sl k t c0 c1) ⟨ho, .ref l, H, I, rfl, q1 hx⟩
  · have hne : xs ≠ [] := fun e => hx (.inl e)
    have hk : k ≠ 1 := fun e => hx (.inr e)
    have hn : its ≠ [] := fun e => hne (by
      rw [e] at hle
      exact List.eq_nil_of_length_eq_zero hle.symm)
    have hi : its.toArray.isEmpty = false := by
      cases its with
      | nil => exact absurd rfl hn
      | cons a b => rfl
    have hpos : 0 < xs.length := by
      cases xs with
      | nil => exact absurd rfl hne
      | cons a b => exact Nat.succ_pos _
    have c1 : (its.toArray.isEmpty || k == 1) = false := by
      rw [hi, Bool.false_or]
      exact beq_eq_false_iff_ne.mpr hk
    by_cases h0 : k ≤ 0
    · have c2 : (decide (k ≤ 0) || its.toArray.isEmpty) = true := by rw [decide_eq_true h0]; rfl
      refine call_meets F.slot_tuple_mul ⟨_, ho, rfl⟩ F.entry_tuple_mul (F.args_tuple_mul_2 _ _) (tup_rep0 l its.toArray n dd sl k t c0 c1 c2) ⟨ho, ?_⟩
      have e0 : k.toNat = 0 := by omega
      have q' := q _ (I.hok.fresh (Nat.le_refl _))
      rw [e0] at q'
      refine ⟨.ref s.heap.objs.size, _, I.laid (t' := s.toks) (o := .tup []) (fun b ob q => Heap.get?_push_of_some _ q) (Nat.le_refl _) ?_, rfl, q'⟩
      exact ⟨Nat.zero_le _, [], .nil, IsTup.new _ _⟩
    · have flen : (List.replicate k.toNat its).flatten.length ≤ sizeLine := by
        rw [PyProof.Rows.lm_len_rep_flat, hle]
        exact hz
      have c2 : (decide (k ≤ 0) || its.toArray.isEmpty) = false := by
        rw [hi, Bool.or_false]
        exact decide_eq_false h0
      have em : ((its.toArray.size : Nat) : Int) * k = ((k.toNat * xs.length : Nat) : Int) := by
        rw [hsz0, Int.natCast_mul, Int.toNat_of_nonneg (by omega), Int.mul_comm]
      have c4 : Builtin.Tuple.tupleTooMany (((its.toArray.size : Nat) : Int) * k) = false := by
        unfold Builtin.Tuple.tupleTooMany
        rw [em, sizeLine_eq]
        exact decide_eq_false (by omega)
      refine call_meets F.slot_tuple_mul ⟨_, ho, rfl⟩ F.entry_tuple_mul (F.args_tuple_mul_2 _ _) (tuple_mulW l its.toArray n dd sl k t c0 c1 c2 (by rw [em]; omega) c4 (by rw [size_rep, List.size_toArray]; exact flen)) ⟨ho, ?_⟩
      rw [size_rep]
      refine ⟨.ref s.heap.objs.size, _, I.laid (t' := s.toks) (o := .tup (List.replicate k.toNat xs).flatten) (fun b ob q => Heap.get?_push_of_some _ q) (Nat.le_refl _) ?_, rfl, q _ (I.hok.fresh (Nat.le_refl _))⟩
      exact ⟨by rw [PyProof.Rows.lm_len_rep_flat]; exact hz, _, r.rep k.toNat, IsTup.new _ _⟩

def bopOf : Bop → Operator
  | .add => .Add | .sub => .Sub | .mul => .Mult | .fdiv => .FloorDiv | .mod => .Mod
theorem op_bop (o : Bop) : OpR X (binaryOp (bopOf o)) (rD X.K o.run) := by
  intro pins s σ H x y v u Q I rx ry h
  obtain ⟨B, μ, a, b, d, bt, ra, rb, hr, q⟩ := h
  cases o with
  | add =>
    cases ra <;> cases rb <;> simp only [Bop.run] at hr <;> try cases hr
    · exact op_add pins s σ H _ _ v u Q I rx ry ⟨_, _, rfl, rfl, q _ H (Same.refl H) (.int _)⟩
    · split at hr
      · cases hr
        exact op_add_str pins s σ H _ _ v u Q I rx ry ⟨_, _, rfl, rfl, by assumption, q _ H (Same.refl H) (.str _)⟩
      · cases hr
    · rename_i a1 vs1 ds1 t1 r1 a2 vs2 ds2 t2 r2
      split at hr
      · rename_i hz
        cases hr
        rw [r1.length, r2.length] at hz
        refine op_catA pins s σ H _ _ v u Q I rx ry ⟨_, _, _, _, rfl, rfl, t1.sq, t2.sq, hz, fun e => q _ H (Same.refl H) ?_, fun _ e => q _ H (Same.refl H) ?_, fun _ _ p hp => q _ _ (same_upd hp) (new_tup bt hp (r1.append r2))⟩
        · subst e
          cases r1
          exact .tup t2 r2
        · subst e
          cases r2
          rw [List.append_nil]
          exact .tup t1 r1
      · cases hr
    · rename_i a1 vs1 ds1 t1 r1 a2 vs2 ds2 t2 r2
      split at hr
      · rename_i hz
        cases hr
        rw [r1.length, r2.length] at hz
        exact op_cat pins s σ H _ _ v u Q I rx ry ⟨_, _, _, _, rfl, rfl, t1.1, t2.1, hz, fun p hp => q _ _ (same_upd hp) (new_lst bt hp (r1.append r2))⟩
      · cases hr
  | sub =>
    cases ra <;> cases rb <;> simp only [Bop.run] at hr <;> try cases hr
    exact op_sub pins s σ H _ _ v u Q I rx ry ⟨_, _, rfl, rfl, q _ H (Same.refl H) (.int _)⟩
  | mul =>
    cases ra <;> cases rb <;> simp only [Bop.run] at hr <;> try cases hr
    · split at hr
      · rename_i hm
        cases hr
        exact op_mul pins s σ H _ _ v u Q I rx ry ⟨_, _, rfl, rfl, (show CMul _ _ from of_decide_eq_true (p := (_ ∨ _)) hm), q _ H (Same.refl H) (.int _)⟩
      · cases hr
    · rename_i a1 vs1 ds1 t1 r1 n
      split at hr
      · rename_i hz
        cases hr
        obtain ⟨h0, h1, h2⟩ := hz
        rw [r1.length] at h2
        refine op_repA pins s σ H _ _ v u Q I rx ry ⟨_, _, _, rfl, rfl, t1.sq, h0, h1, h2, fun e => q _ H (Same.refl H) ?_, fun p hp => q _ _ (same_upd hp) (new_tup bt hp (r1.rep _))⟩
        rcases e with e | e
        · subst e
          cases r1
          unfold rep
          rw [show (List.replicate n.toNat ([] : List D)).flatten = [] by simp]
          exact .tup t1 .nil
        · subst e
          unfold rep
          rw [show (List.replicate (1 : Int).toNat ds1).flatten = ds1 by simp]
          exact .tup t1 r1
      · cases hr
    · rename_i a1 vs1 ds1 t1 r1 n
      split at hr
      · rename_i hz
        cases hr
        obtain ⟨h0, h1, h2⟩ := hz
        rw [r1.length] at h2
        exact op_rep pins s σ H _ _ v u Q I rx ry ⟨_, _, _, rfl, rfl, t1.1, by omega, by omega, by rw [Nat.mul_comm]; exact h2, fun p hp => q _ _ (same_upd hp) (new_lst bt hp (r1.rep _))⟩
      · cases hr
  | fdiv =>
    cases ra <;> cases rb <;> simp only [Bop.run] at hr <;> try cases hr
    split at hr
    · rename_i hm
      cases hr
      have hm := of_decide_eq_true hm
      exact op_fdivW pins s σ H _ _ v u Q I rx ry ⟨_, _, rfl, rfl, wide_div (b := 80) hm.1 (by omega) (by omega) (by omega), q _ H (Same.refl H) (.int _)⟩
    · cases hr
  | mod =>
    cases ra <;> cases rb <;> simp only [Bop.run] at hr <;> try cases hr
    split at hr
    · rename_i hm
      cases hr
      exact op_mod pins s σ H _ _ v u Q I rx ry ⟨_, _, rfl, rfl, hm, q _ H (Same.refl H) (.int _)⟩
    · cases hr

def copOf : Cop → CmpOp
  | .eq => .Eq | .ne => .NotEq | .lt => .Lt | .le => .LtE | .gt => .Gt | .ge => .GtE | .isin => .In | .notin => .NotIn
def rInT (K : PySem.W.Frag) : R2 := fun x y H Q => ∃ d ds, Dp K H x d ∧ Dp K H y (.tuple ds) ∧ SeqAt.shaped d = true ∧ SeqAt.shaped (.tuple ds) = true ∧ Q (.bl (ds.any fun z => PyData.eqv z d)) H
def rNotInT (K : PySem.W.Frag) : R2 := fun x y H Q => ∃ d ds, Dp K H x d ∧ Dp K H y (.tuple ds) ∧ SeqAt.shaped d = true ∧ SeqAt.shaped (.tuple ds) = true ∧ Q (.bl (!ds.any fun z => PyData.eqv z d)) H
theorem op_inT (hu : X.A.units + 65 < cLine) : OpR X (compareOp .In) (rInT X.K) := by
  intro pins s σ H x y v u Q I rx ry h
  obtain ⟨d, ds, hd, he, sd, se, q⟩ := h
  obtain ⟨as, r1⟩ := Dp.reads I d x v hd rx
  obtain ⟨bs, r2⟩ := Dp.reads I (.tuple ds) y u he ry
  exact PySem.SeqAt.in_tuple_reads r2 r1 (SeqAt.canLay_of_shaped se) (SeqAt.canLay_of_shaped sd) (room_in_shaped sd hu) ⟨.bl _, H, I, rfl, q⟩
theorem op_notInT (hu : X.A.units + 65 < cLine) : OpR X (compareOp .NotIn) (rNotInT X.K) := by
  intro pins s σ H x y v u Q I rx ry h
  obtain ⟨d, ds, hd, he, sd, se, q⟩ := h
  obtain ⟨as, r1⟩ := Dp.reads I d x v hd rx
  obtain ⟨bs, r2⟩ := Dp.reads I (.tuple ds) y u he ry
  exact PySem.SeqAt.notIn_tuple_reads r2 r1 (SeqAt.canLay_of_shaped se) (SeqAt.canLay_of_shaped sd) (room_in_shaped sd hu) ⟨.bl _, H, I, rfl, q⟩
def rC (K : PySem.W.Frag) (run : D → D → Option Bool) : R2 := fun x y H Q => ∃ B μ a b k, Rp K H B μ a x ∧ Rp K H B μ b y ∧ run a b = some k ∧ Q (.bl k) H
theorem op_cop (hu : X.A.units + 65 < cLine) (o : Cop) : OpR X (compareOp (copOf o)) (rC X.K o.run) := by
  intro pins s σ H x y v u Q I rx ry h
  obtain ⟨B, μ, a, b, k, ra, rb, hr, q⟩ := h
  have hu4 : X.A.units + 64 < cLine := by omega
  have eqv : ∀ k, D.eqv? a b = some k → ∃ p p', Dp X.K H x p ∧ Dp X.K H y p' ∧ SeqAt.shaped p = true ∧ SeqAt.shaped p' = true ∧ PyData.eqv p p' = k := fun k h => by
    unfold D.eqv? at h
    split at h
    · rename_i p p' h1 h2
      split at h
      · rename_i hs
        cases h
        rw [Bool.and_eq_true] at hs
        exact ⟨p, p', ra.dp h1, rb.dp h2, hs.1, hs.2, rfl⟩
      · cases h
    · cases h
  have has : ∀ k, D.has? a b = some k → (∃ p ps, Dp X.K H x p ∧ Dp X.K H y (.list ps) ∧ SeqAt.shaped p = true ∧ SeqAt.shaped (.list ps) = true ∧ (ps.any fun z => PyData.eqv z p) = k) ∨
      (∃ p ps, Dp X.K H x p ∧ Dp X.K H y (.tuple ps) ∧ SeqAt.shaped p = true ∧ SeqAt.shaped (.tuple ps) = true ∧ (ps.any fun z => PyData.eqv z p) = k) := fun k h => by
    unfold D.has? at h
    split at h
    · rename_i p qs h1 h2
      split at h
      · rename_i hs
        cases h
        rw [Bool.and_eq_true] at hs
        exact .inl ⟨p, qs, ra.dp h1, rb.dp h2, hs.1, hs.2, rfl⟩
      · cases h
    · rename_i p qs h1 h2
      split at h
      · rename_i hs
        cases h
        rw [Bool.and_eq_true] at hs
        exact .inr ⟨p, qs, ra.dp h1, rb.dp h2, hs.1, hs.2, rfl⟩
      · cases h
    · cases h
  cases o with
  | eq =>
    obtain ⟨p, p', h1, h2, h3, h4, rfl⟩ := eqv k hr
    exact op_eqD hu4 pins s σ H x y v u Q I rx ry ⟨p, p', h1, h2, h3, h4, q⟩
  | ne =>
    cases e : D.eqv? a b with
    | none => simp only [Cop.run, e] at hr; cases hr
    | some k' =>
      simp only [Cop.run, e] at hr
      cases hr
      obtain ⟨p, p', h1, h2, h3, h4, rfl⟩ := eqv k' e
      exact op_neD hu4 pins s σ H x y v u Q I rx ry ⟨p, p', h1, h2, h3, h4, q⟩
  | isin =>
    rcases has k hr with ⟨p, p', h1, h2, h3, h4, rfl⟩ | ⟨p, p', h1, h2, h3, h4, rfl⟩
    · exact op_inD hu pins s σ H x y v u Q I rx ry ⟨p, p', h1, h2, h3, h4, q⟩
    · exact op_inT hu pins s σ H x y v u Q I rx ry ⟨p, p', h1, h2, h3, h4, q⟩
  | notin =>
    cases e : D.has? a b with
    | none => simp only [Cop.run, e] at hr; cases hr
    | some k' =>
      simp only [Cop.run, e] at hr
      cases hr
      rcases has k' e with ⟨p, p', h1, h2, h3, h4, rfl⟩ | ⟨p, p', h1, h2, h3, h4, rfl⟩
      · exact op_notInD hu pins s σ H x y v u Q I rx ry ⟨p, p', h1, h2, h3, h4, q⟩
      · exact op_notInT hu pins s σ H x y v u Q I rx ry ⟨p, p', h1, h2, h3, h4, q⟩
  | lt =>
    cases ra <;> cases rb <;> simp only [Cop.run] at hr <;> try cases hr
    exact op_lt pins s σ H _ _ v u Q I rx ry ⟨_, _, rfl, rfl, q⟩
  | le =>
    cases ra <;> cases rb <;> simp only [Cop.run] at hr <;> try cases hr
    exact op_le pins s σ H _ _ v u Q I rx ry ⟨_, _, rfl, rfl, q⟩
  | gt =>
    cases ra <;> cases rb <;> simp only [Cop.run] at hr <;> try cases hr
    exact op_gt pins s σ H _ _ v u Q I rx ry ⟨_, _, rfl, rfl, q⟩
  | ge =>
    cases ra <;> cases rb <;> simp only [Cop.run] at hr <;> try cases hr
    exact op_ge pins s σ H _ _ v u Q I rx ry ⟨_, _, rfl, rfl, q⟩
end
end PC

namespace PC
open PySem PySem.Spec PyProof.Rows L2

theorem _root_.L2.PE.imp {X : Cx} {e : Expr} {t t' : TE} (h : PE X e t) (f : ∀ σ H Q, t' σ H Q → t σ H Q) : PE X e t' := ⟨fun pins s σ H Q I w => h.run pins s σ H Q I (f σ H Q w)⟩
theorem _root_.L2.PT.imp {X : Cx} {e : Expr} {t t' : TT} (h : PT X e t) (f : ∀ σ H Q, t' σ H Q → t σ H Q) : PT X e t' := ⟨fun pins s σ H Q I w => h.run pins s σ H Q I (f σ H Q w)⟩
theorem _root_.L2.PW.imp {X : Cx} {e : Expr} {t t' : TT} (h : PW X e t) (f : ∀ σ H Q, t' σ H Q → t σ H Q) : PW X e t' := ⟨fun wh pins s σ H Q I w => h.run wh pins s σ H Q I (f σ H Q w)⟩
theorem _root_.L2.PA.imp {X : Cx} {e : List Expr} {t t' : TA} (h : PA X e t) (f : ∀ σ H Q, t' σ H Q → t σ H Q) : PA X e t' := ⟨fun pos pins s σ H Q I w => h.run pos pins s σ H Q I (f σ H Q w)⟩
theorem _root_.L2.PI.imp {X : Cx} {tg e : Expr} {t t' : TI} (h : PI X tg e t) (f : ∀ σ H R, t' σ H R → t σ H R) : PI X tg e t' := ⟨fun pins s σ H R I w => h.run pins s σ H R I (f σ H R w)⟩

structure Lg where
  /-- what an exception of the core is: the class, the own dict -/
  xr : Hp → Exc → Value → Option Addr → Prop
section
variable {K : PySem.W.Frag} {fr : Fr} {H H' H'' : Hp} {B : Addr → Prop} {μ μ' μ'' : List Addr} {oa : Nat → Option Addr} {ρ : Ev} {M M' : Mem} {σ : L2.St} {α β : Type} {L : Lg} {W : WX}
/-- a state -/
abbrev Rl (K : PySem.W.Frag) (fr : Fr) (B : Addr → Prop) (μ : List Addr) (oa : Nat → Option Addr) (ρ : Ev) (M : Mem) (σ : L2.St) (H : Hp) : Prop := Rel K fr (ban B μ) μ oa ρ M σ H
/-- what is wanted of a result -/
def Pst (K : PySem.W.Frag) (L : Lg) (W : WX) (fr : Fr) (B : Addr → Prop) (μ : List Addr) (oa : Nat → Option Addr) (ρ : Ev) (σ : L2.St) (H : Hp) (r : Res α) (R : Hp → List Addr → α → Mem → Prop) : Prop :=
  match r with
  | .ok a M' => ∀ H' μ', Evo μ H μ' H' → Rl K fr B μ' oa ρ M' σ H' → R H' μ' a M'
  | .err x M' => ∀ cls dd H' μ', Evo μ H μ' H' → Rl K fr B μ' oa ρ M' σ H' → L.xr H' x cls dd → W cls dd σ H'
  | .bad => False
theorem Rel.tr (r : Rel K fr B μ oa ρ M σ H) : ∀ a ∈ μ, H a ≠ none := fun a h => r.bt a (r.cs.ban a h)
theorem Rel.later_tr (r : Rl K fr B μ' oa ρ M σ H') (e : Evo μ H μ' H') : ∀ a ∈ μ, H' a ≠ none := fun a h => r.bt a (.inr (e.mem h))
/-- from a later state -/
theorem Pst.shift {r : Res α} {R : Hp → List Addr → α → Mem → Prop} (e : Evo μ H μ' H') (tr : ∀ a ∈ μ, H a ≠ none) (tr' : ∀ a ∈ μ, H' a ≠ none) (h : Pst K L W fr B μ oa ρ σ H r R) : Pst K L W fr B μ' oa ρ σ H' r R := by
  cases r with
  | ok a M2 => exact fun H2 μ2 e2 r2 => h H2 μ2 (e.trans e2 tr tr') r2
  | err x M2 => exact fun cls dd H2 μ2 e2 r2 hx => h cls dd H2 μ2 (e.trans e2 tr tr') r2 hx
  | bad => exact h
theorem Pst.imp {r : Res α} {R R' : Hp → List Addr → α → Mem → Prop} (h : Pst K L W fr B μ oa ρ σ H r R) (f : ∀ H' μ' a M', Evo μ H μ' H' → Rl K fr B μ' oa ρ M' σ H' → R H' μ' a M' → R' H' μ' a M') : Pst K L W fr B μ oa ρ σ H r R' := by
  cases r with
  | ok a M2 => exact fun H' μ' e r => f H' μ' a M2 e r (h H' μ' e r)
  | err x M2 => exact h
  | bad => exact h
/-- the first part of a longer evaluation -/
theorem Pst.first {r : Res α} {f : α → Mem → Res β} {R : Hp → List Addr → β → Mem → Prop} (rel : Rl K fr B μ oa ρ M σ H) (h : Pst K L W fr B μ oa ρ σ H (r.bind f) R) :
    Pst K L W fr B μ oa ρ σ H r (fun H1 μ1 a M1 => Pst K L W fr B μ1 oa ρ σ H1 (f a M1) R) := by
  cases r with
  | ok a M2 => exact fun H1 μ1 e1 r1 => Pst.shift e1 rel.tr (r1.later_tr e1) h
  | err x M2 => exact h
  | bad => exact h
theorem SlotR.same {oi : Option Addr} {si : Option (Option V)} {s : Slot} (k : Same H H') (h : SlotR K H B μ oi si s) : SlotR K H' B μ oi si s := by
  cases s with
  | un => exact h
  | v d => obtain ⟨h1, v, h2, h3⟩ := h; exact ⟨h1, v, h2, h3.mono (Same.kp k)⟩
  | own ds => obtain ⟨a, vs, h1, h2, h3, h4⟩ := h; exact ⟨a, vs, h1, h2, k _ _ h3, h4.mono (Same.kp k)⟩
theorem CellR.same {c : Cell} {a : Addr} (k : Same H H') (h : CellR K H B μ c a) : CellR K H' B μ c a := by
  cases c with
  | lst ds => obtain ⟨vs, h1, h2⟩ := h; exact ⟨vs, k _ _ h1, h2.mono (Same.kp k)⟩
  | dict _ => exact h
  | ins _ _ => exact h
/-- the heap has grown -/
theorem Rel.same (r : Rel K fr B μ oa ρ M σ H) (k : Same H H') : Rel K fr B μ oa ρ M σ H' where
  cs := ⟨r.cs.nd, r.cs.len, r.cs.ban, fun n c a h1 h2 => (r.cs.at_ n c a h1 h2).same k⟩
  b0 := r.b0
  bt := fun a h => by
    cases e : H a with
    | none => exact absurd e (r.bt a h)
    | some o => rw [k a o e]; exact fun z => nomatch z
  bo := r.bo
  oi := r.oi
  on := r.on
  sl := fun i s h => (r.sl i s h).same k
  so := r.so
  ln := r.ln
  m0 := r.m0
  ev := fun a o h n => k a o (r.ev a o h n)
theorem Evo.same (k : Same H H') : Evo μ H μ H' := ⟨⟨[], by simp, by simp⟩, fun a o h _ => k a o h⟩
/-- an end that leaves the cells -/
theorem Pst.fin {a : α} {R : Hp → List Addr → α → Mem → Prop} (rel : Rl K fr B μ oa ρ M σ H) (k : Same H H') (h : Pst K L W fr B μ oa ρ σ H (.ok a M) R) : R H' μ a M :=
  h H' μ (Evo.same k) (rel.same k)

def tE (K : PySem.W.Frag) (L : Lg) (W : WX) (Φ : Fns) (c : E) : TE := fun σ H Q => ∃ fr B μ oa ρ M, Rl K fr B μ oa ρ M σ H ∧
  Pst K L W fr B μ oa ρ σ H (ev Φ c ρ M) fun H' μ' d _ => ∀ v, Rp K H' (ban B μ') μ' d v → Q v H'
def tEs (K : PySem.W.Frag) (L : Lg) (W : WX) (Φ : Fns) (c : Es) : TA := fun σ H Q => ∃ fr B μ oa ρ M, Rl K fr B μ oa ρ M σ H ∧
  Pst K L W fr B μ oa ρ σ H (evs Φ c ρ M) fun H' μ' ds _ => ∀ vs, Rps K H' (ban B μ') μ' ds vs → Q vs H'
def tT (K : PySem.W.Frag) (L : Lg) (W : WX) (Φ : Fns) (c : E) : TT := fun σ H Q => ∃ fr B μ oa ρ M, Rl K fr B μ oa ρ M σ H ∧
  Pst K L W fr B μ oa ρ σ H (evT Φ c ρ M) fun H' _ k _ => Q k H'

/-- a part is read, then the rest -/
theorem tE_first {Φ : Fns} {c : E} {f : D → Mem → Res β} {R : Hp → List Addr → β → Mem → Prop} {Q : VK} (rel : Rl K fr B μ oa ρ M σ H) (h : Pst K L W fr B μ oa ρ σ H ((ev Φ c ρ M).bind f) R)
    (g : ∀ H1 μ1 d M1 v, Rl K fr B μ1 oa ρ M1 σ H1 → Evo μ H μ1 H1 → Rp K H1 (ban B μ1) μ1 d v → Pst K L W fr B μ1 oa ρ σ H1 (f d M1) R → Q v H1) : tE K L W Φ c σ H Q :=
  ⟨fr, B, μ, oa, ρ, M, rel, (Pst.first rel h).imp fun H1 μ1 d M1 e1 r1 h1 v rv => g H1 μ1 d M1 v r1 e1 rv h1⟩
theorem tEs_first {Φ : Fns} {c : Es} {f : List D → Mem → Res β} {R : Hp → List Addr → β → Mem → Prop} {Q : List V → Hp → Prop} (rel : Rl K fr B μ oa ρ M σ H) (h : Pst K L W fr B μ oa ρ σ H ((evs Φ c ρ M).bind f) R)
    (g : ∀ H1 μ1 d M1 v, Rl K fr B μ1 oa ρ M1 σ H1 → Evo μ H μ1 H1 → Rps K H1 (ban B μ1) μ1 d v → Pst K L W fr B μ1 oa ρ σ H1 (f d M1) R → Q v H1) : tEs K L W Φ c σ H Q :=
  ⟨fr, B, μ, oa, ρ, M, rel, (Pst.first rel h).imp fun H1 μ1 d M1 e1 r1 h1 v rv => g H1 μ1 d M1 v r1 e1 rv h1⟩
theorem tT_first {Φ : Fns} {c : E} {f : Bool → Mem → Res β} {R : Hp → List Addr → β → Mem → Prop} {Q : Bool → Hp → Prop} (rel : Rl K fr B μ oa ρ M σ H) (h : Pst K L W fr B μ oa ρ σ H ((evT Φ c ρ M).bind f) R)
    (g : ∀ H1 μ1 d M1, Rl K fr B μ1 oa ρ M1 σ H1 → Evo μ H μ1 H1 → Pst K L W fr B μ1 oa ρ σ H1 (f d M1) R → Q d H1) : tT K L W Φ c σ H Q :=
  ⟨fr, B, μ, oa, ρ, M, rel, (Pst.first rel h).imp fun H1 μ1 d M1 e1 r1 h1 => g H1 μ1 d M1 r1 e1 h1⟩
/-- an earlier value at a later state -/
theorem Rp.later {d : D} {v : V} (e : Evo μ H μ' H') (h : Rp K H (ban B μ) μ d v) : Rp K H' (ban B μ') μ' d v := h.mono e.kp
theorem Rps.later {d : List D} {v : List V} (e : Evo μ H μ' H') (h : Rps K H (ban B μ) μ d v) : Rps K H' (ban B μ') μ' d v := h.mono e.kp
theorem bind_id {r : Res α} : r.bind (fun a M => .ok a M) = r := by cases r <;> rfl
theorem of_ok {o : Option α} {R : Hp → List Addr → α → Mem → Prop} (h : Pst K L W fr B μ oa ρ σ H (.of o M) R) : ∃ a, o = some a ∧ Pst K L W fr B μ oa ρ σ H (.ok a M) R := by
  cases o with
  | none => exact h.elim
  | some a => exact ⟨a, rfl, h⟩
end
end PC

namespace PC
open PySem PySem.Spec PyProof.Rows L2
section
variable {X : Cx} {L : Lg} {W : WX} {Φ : Fns} {a b c i : E} {x y z : Expr} {pos : Pos}

theorem s_var {i : Nat} {n : Str} (hN : X.N[i]? = some n) (hv : Vis X.env.scope n) (hd : (n == ("__debug__" : Str)) = false) (hc : (n == ("__classdict__" : Str)) = false) : PE X (.Name n pos) (tE X.K L W Φ (.var i)) := by
  refine (pe_var hN hv hd hc).imp fun σ H Q ⟨fr, B, μ, oa, ρ, M, rel, h⟩ => ?_
  have h : Pst X.K L W fr B μ oa ρ σ H (.of (slotV ρ i) M) _ := h
  obtain ⟨d, hs, h1⟩ := of_ok h
  unfold slotV at hs
  split at hs
  · rename_i d' e
    cases hs
    obtain ⟨_, v, h2, h3⟩ := rel.sl i _ e
    exact ⟨v, h2, Pst.fin rel (Same.refl H) h1 v h3⟩
  · cases hs
/-- a value that stands in the text -/
theorem s_const {e : Expr} {c : E} {v : V} {d : D} (h : PE X e (tC v)) (hc : ∀ ρ M, ev Φ c ρ M = .ok d M) (r : ∀ H B μ, Rp X.K H B μ d v) : PE X e (tE X.K L W Φ c) := by
  refine h.imp fun σ H Q ⟨fr, B, μ, oa, ρ, M, rel, h⟩ => ?_
  rw [hc] at h
  exact Pst.fin rel (Same.refl H) h v (r _ _ _)
theorem s_bin (o : Bop) (ha : PE X x (tE X.K L W Φ a)) (hb : PE X y (tE X.K L W Φ b)) : PE X (.BinOp x (bopOf o) y pos) (tE X.K L W Φ (.bin o a b)) := by
  refine (pe_op (op_bop o) ha hb).imp fun σ H Q ⟨fr, B, μ, oa, ρ, M, rel, h⟩ => ?_
  rw [ev] at h
  refine tE_first rel h fun H1 μ1 d1 M1 v1 r1 e1 p1 h1 => tE_first r1 h1 fun H2 μ2 d2 M2 v2 r2 e2 p2 h2 => ?_
  obtain ⟨d, hd, h3⟩ := of_ok h2
  exact ⟨ban B μ2, μ2, d1, d2, d, r2.bt, p1.later e2, p2, hd, fun v H' k rv => Pst.fin r2 k h3 v rv⟩
theorem s_neg (ha : PE X x (tE X.K L W Φ a)) : PE X (.UnaryOp .USub x pos) (tE X.K L W Φ (.neg a)) := by
  refine (pe_un un_neg ha).imp fun σ H Q ⟨fr, B, μ, oa, ρ, M, rel, h⟩ => ?_
  rw [ev] at h
  refine tE_first rel h fun H1 μ1 d1 M1 v1 r1 e1 p1 h1 => ?_
  cases p1 <;> try exact h1.elim
  exact ⟨_, rfl, Pst.fin r1 (Same.refl _) h1 _ (.int _)⟩
theorem truV {K : PySem.W.Frag} {H : Hp} {B : Addr → Prop} {μ : List Addr} {d : D} {v : V} {M : Mem} {k : Bool} (r : Rp K H B μ d v) (h : d.truth M = some k) (hz : ∀ s, d = .str s → s.length ≤ sizeLine) : TruV K v H k := by
  cases r with
  | non => cases h; rfl
  | bl b => cases h; rfl
  | int i => cases h; rfl
  | str s =>
    simp only [D.truth, if_pos (hz s rfl)] at h
    cases h
    refine ⟨hz s rfl, ?_⟩
    by_cases e : s.length = 0
    · rw [e]; rfl
    · have e2 : ((s.length : Nat) : Int) ≠ 0 := by omega
      rw [bne_iff_ne.mpr e, bne_iff_ne.mpr e2]
  | tup t rs =>
    cases h
    refine .inr (.inl ⟨_, t.sq, ?_⟩)
    cases rs <;> rfl
  | lst t rs =>
    cases h
    refine .inl ⟨_, t.sq, ?_⟩
    cases rs <;> rfl
  | frz t rs => cases h
  | cell _ => cases h
theorem s_not (ha : PE X x (tE X.K L W Φ a)) : PE X (.UnaryOp .Not x pos) (tE X.K L W Φ (.not a)) := by
  refine (pe_notT ha).imp fun σ H Q ⟨fr, B, μ, oa, ρ, M, rel, h⟩ => ?_
  rw [ev] at h
  refine tE_first rel h fun H1 μ1 d1 M1 v1 r1 e1 p1 h1 => ?_
  obtain ⟨d, hd, h2⟩ := of_ok h1
  cases e : d1.truth M1 with
  | none => rw [e] at hd; cases hd
  | some k =>
    rw [e] at hd
    cases hd
    exact ⟨k, truV p1 e (D.truth_str e), Pst.fin r1 (Same.refl _) h2 _ (.bl _)⟩
theorem s_cmp (hu : X.A.units + 65 < cLine) (o : Cop) (ha : PE X x (tE X.K L W Φ a)) (hb : PE X y (tE X.K L W Φ b)) (hm : behindInMarks (copOf o) y = false) : PE X (.Compare x [copOf o] [y] pos) (tE X.K L W Φ (.cmp o a b)) := by
  refine (pe_cmpR (op_cop hu o) ha hb hm).imp fun σ H Q ⟨fr, B, μ, oa, ρ, M, rel, h⟩ => ?_
  rw [ev] at h
  refine tE_first rel h fun H1 μ1 d1 M1 v1 r1 e1 p1 h1 => tE_first r1 h1 fun H2 μ2 d2 M2 v2 r2 e2 p2 h2 => ?_
  obtain ⟨d, hd, h3⟩ := of_ok h2
  cases e : o.run d1 d2 with
  | none => rw [e] at hd; cases hd
  | some k =>
    rw [e] at hd
    cases hd
    exact ⟨ban B μ2, μ2, d1, d2, k, p1.later e2, p2, e, Pst.fin r2 (Same.refl _) h3 _ (.bl k)⟩
theorem s_cmpT (hu : X.A.units + 65 < cLine) (o : Cop) (ha : PE X x (tE X.K L W Φ a)) (hb : PE X y (tE X.K L W Φ b)) (hm : behindInMarks (copOf o) y = false) : PT X (.Compare x [copOf o] [y] pos) (tT X.K L W Φ (.cmp o a b)) := by
  refine (pt_cmpR (op_cop hu o) ha hb hm).imp fun σ H Q ⟨fr, B, μ, oa, ρ, M, rel, h⟩ => ?_
  unfold evT at h
  have h := Pst.first rel h
  rw [ev] at h
  refine tE_first rel h fun H1 μ1 d1 M1 v1 r1 e1 p1 h1 => tE_first r1 h1 fun H2 μ2 d2 M2 v2 r2 e2 p2 h2 => ?_
  obtain ⟨d, hd, h3⟩ := of_ok h2
  cases e : o.run d1 d2 with
  | none => rw [e] at hd; cases hd
  | some k =>
    rw [e] at hd
    cases hd
    refine ⟨ban B μ2, μ2, d1, d2, k, p1.later e2, p2, e, k, rfl, ?_⟩
    exact Pst.fin r2 (Same.refl _) (Pst.fin r2 (Same.refl _) h3)
theorem s_chain (hu : X.A.units + 65 < cLine) (o o' : Cop) (ha : PE X x (tE X.K L W Φ a)) (hb : PE X y (tE X.K L W Φ b)) (hc : PE X z (tE X.K L W Φ c)) (hm : lastMarks [copOf o, copOf o'] [y, z] = false) : PE X (.Compare x [copOf o, copOf o'] [y, z] pos) (tE X.K L W Φ (.chain o o' a b c)) := by
  refine (pe_chain (op_cop hu o) (op_cop hu o') ha hb hc hm).imp fun σ H Q ⟨fr, B, μ, oa, ρ, M, rel, h⟩ => ?_
  rw [ev] at h
  refine tE_first rel h fun H1 μ1 d1 M1 v1 r1 e1 p1 h1 => tE_first r1 h1 fun H2 μ2 d2 M2 v2 r2 e2 p2 h2 => ?_
  cases e : o.run d1 d2 with
  | none => rw [e] at h2; exact h2.elim
  | some k =>
    rw [e] at h2
    refine ⟨ban B μ2, μ2, d1, d2, k, p1.later e2, p2, e, k, rfl, ?_⟩
    cases k with
    | false => exact iteF (Pst.fin r2 (Same.refl _) h2 _ (.bl _))
    | true =>
      refine iteT (tE_first r2 h2 fun H3 μ3 d3 M3 v3 r3 e3 p3 h3 => ?_)
      obtain ⟨d, hd, h4⟩ := of_ok h3
      cases e4 : o'.run d2 d3 with
      | none => rw [e4] at hd; cases hd
      | some k =>
        rw [e4] at hd
        cases hd
        exact ⟨ban B μ3, μ3, d2, d3, k, p2.later e3, p3, e4, Pst.fin r3 (Same.refl _) h4 _ (.bl k)⟩
theorem s_chainT (hu : X.A.units + 65 < cLine) (o o' : Cop) (ha : PE X x (tE X.K L W Φ a)) (hb : PE X y (tE X.K L W Φ b)) (hc : PE X z (tE X.K L W Φ c)) (hm : lastMarks [copOf o, copOf o'] [y, z] = false) : PT X (.Compare x [copOf o, copOf o'] [y, z] pos) (tT X.K L W Φ (.chain o o' a b c)) := by
  refine (pt_chain (op_cop hu o) (op_cop hu o') ha hb hc hm).imp fun σ H Q ⟨fr, B, μ, oa, ρ, M, rel, h⟩ => ?_
  unfold evT at h
  have h := Pst.first rel h
  rw [ev] at h
  refine tE_first rel h fun H1 μ1 d1 M1 v1 r1 e1 p1 h1 => tE_first r1 h1 fun H2 μ2 d2 M2 v2 r2 e2 p2 h2 => ?_
  cases e : o.run d1 d2 with
  | none => rw [e] at h2; exact h2.elim
  | some k =>
    rw [e] at h2
    refine ⟨ban B μ2, μ2, d1, d2, k, p1.later e2, p2, e, k, rfl, ?_⟩
    cases k with
    | false => exact iteF ⟨false, rfl, Pst.fin r2 (Same.refl _) (Pst.fin r2 (Same.refl _) h2)⟩
    | true =>
      refine iteT (tE_first r2 h2 fun H3 μ3 d3 M3 v3 r3 e3 p3 h3 => ?_)
      obtain ⟨d, hd, h4⟩ := of_ok h3
      cases e4 : o'.run d2 d3 with
      | none => rw [e4] at hd; cases hd
      | some k =>
        rw [e4] at hd
        cases hd
        exact ⟨ban B μ3, μ3, d2, d3, k, p2.later e3, p3, e4, k, rfl, Pst.fin r3 (Same.refl _) (Pst.fin r3 (Same.refl _) h4)⟩
theorem Rp.non_iff {K : PySem.W.Frag} {H : Hp} {B : Addr → Prop} {μ : List Addr} {d : D} {v : V} (r : Rp K H B μ d v) : decide (v = .non) = isNon d := by
  cases r <;> rfl
theorem s_isN {k : Nat} {p : Pos} (ha : PE X x (tE X.K L W Φ a)) : PE X (.Compare x [.Is] [.Constant .none k p] pos) (tE X.K L W Φ (.isN a)) := by
  refine (pe_cmpR op_isN ha pe_non (nomark _)).imp fun σ H Q ⟨fr, B, μ, oa, ρ, M, rel, h⟩ => ?_
  rw [ev] at h
  refine tE_first rel h fun H1 μ1 d1 M1 v1 r1 e1 p1 h1 => ?_
  refine ⟨rfl, ?_⟩
  have q := Pst.fin r1 (Same.refl _) h1 _ (.bl _)
  rw [p1.non_iff]
  exact q
theorem s_notN {k : Nat} {p : Pos} (ha : PE X x (tE X.K L W Φ a)) : PE X (.Compare x [.IsNot] [.Constant .none k p] pos) (tE X.K L W Φ (.notN a)) := by
  refine (pe_cmpR op_notN ha pe_non (nomark _)).imp fun σ H Q ⟨fr, B, μ, oa, ρ, M, rel, h⟩ => ?_
  rw [ev] at h
  refine tE_first rel h fun H1 μ1 d1 M1 v1 r1 e1 p1 h1 => ?_
  refine ⟨rfl, ?_⟩
  have q := Pst.fin r1 (Same.refl _) h1 _ (.bl _)
  rw [p1.non_iff]
  exact q
theorem s_isNT {k : Nat} {p : Pos} (ha : PE X x (tE X.K L W Φ a)) : PT X (.Compare x [.Is] [.Constant .none k p] pos) (tT X.K L W Φ (.isN a)) := by
  refine (pt_cmpR op_isN ha pe_non (nomark _)).imp fun σ H Q ⟨fr, B, μ, oa, ρ, M, rel, h⟩ => ?_
  unfold evT at h
  have h := Pst.first rel h
  rw [ev] at h
  refine tE_first rel h fun H1 μ1 d1 M1 v1 r1 e1 p1 h1 => ?_
  refine ⟨rfl, _, rfl, ?_⟩
  rw [p1.non_iff]
  exact Pst.fin r1 (Same.refl _) (Pst.fin r1 (Same.refl _) h1)
theorem s_notNT {k : Nat} {p : Pos} (ha : PE X x (tE X.K L W Φ a)) : PT X (.Compare x [.IsNot] [.Constant .none k p] pos) (tT X.K L W Φ (.notN a)) := by
  refine (pt_cmpR op_notN ha pe_non (nomark _)).imp fun σ H Q ⟨fr, B, μ, oa, ρ, M, rel, h⟩ => ?_
  unfold evT at h
  have h := Pst.first rel h
  rw [ev] at h
  refine tE_first rel h fun H1 μ1 d1 M1 v1 r1 e1 p1 h1 => ?_
  refine ⟨rfl, _, rfl, ?_⟩
  rw [p1.non_iff]
  have q := Pst.fin r1 (Same.refl _) (Pst.fin r1 (Same.refl _) h1)
  exact q
theorem s_isB {b : Bool} {k : Nat} {p : Pos} (ha : PE X x (tE X.K L W Φ a)) : PE X (.Compare x [.Is] [.Constant (.bool b) k p] pos) (tE X.K L W Φ (.isB a b)) := by
  refine (pe_cmpR op_isBl ha pe_bl (nomark _)).imp fun σ H Q ⟨fr, B, μ, oa, ρ, M, rel, h⟩ => ?_
  rw [ev] at h
  refine tE_first rel h fun H1 μ1 d1 M1 v1 r1 e1 p1 h1 => ?_
  cases p1 <;> try exact h1.elim
  refine ⟨_, _, rfl, rfl, ?_⟩
  rw [← Bool.beq_eq_decide_eq]
  exact Pst.fin r1 (Same.refl _) h1 _ (.bl _)
theorem s_notB {b : Bool} {k : Nat} {p : Pos} (ha : PE X x (tE X.K L W Φ a)) : PE X (.Compare x [.IsNot] [.Constant (.bool b) k p] pos) (tE X.K L W Φ (.notB a b)) := by
  refine (pe_cmpR op_notBl ha pe_bl (nomark _)).imp fun σ H Q ⟨fr, B, μ, oa, ρ, M, rel, h⟩ => ?_
  rw [ev] at h
  refine tE_first rel h fun H1 μ1 d1 M1 v1 r1 e1 p1 h1 => ?_
  cases p1 <;> try exact h1.elim
  refine ⟨_, _, rfl, rfl, ?_⟩
  rw [← Bool.beq_eq_decide_eq]
  exact Pst.fin r1 (Same.refl _) h1 _ (.bl _)
theorem s_isBT {b : Bool} {k : Nat} {p : Pos} (ha : PE X x (tE X.K L W Φ a)) : PT X (.Compare x [.Is] [.Constant (.bool b) k p] pos) (tT X.K L W Φ (.isB a b)) := by
  refine (pt_cmpR op_isBl ha pe_bl (nomark _)).imp fun σ H Q ⟨fr, B, μ, oa, ρ, M, rel, h⟩ => ?_
  unfold evT at h
  have h := Pst.first rel h
  rw [ev] at h
  refine tE_first rel h fun H1 μ1 d1 M1 v1 r1 e1 p1 h1 => ?_
  cases p1 <;> try exact h1.elim
  refine ⟨_, _, rfl, rfl, _, rfl, ?_⟩
  rw [← Bool.beq_eq_decide_eq]
  exact Pst.fin r1 (Same.refl _) (Pst.fin r1 (Same.refl _) h1)
theorem s_notBT {b : Bool} {k : Nat} {p : Pos} (ha : PE X x (tE X.K L W Φ a)) : PT X (.Compare x [.IsNot] [.Constant (.bool b) k p] pos) (tT X.K L W Φ (.notB a b)) := by
  refine (pt_cmpR op_notBl ha pe_bl (nomark _)).imp fun σ H Q ⟨fr, B, μ, oa, ρ, M, rel, h⟩ => ?_
  unfold evT at h
  have h := Pst.first rel h
  rw [ev] at h
  refine tE_first rel h fun H1 μ1 d1 M1 v1 r1 e1 p1 h1 => ?_
  cases p1 <;> try exact h1.elim
  refine ⟨_, _, rfl, rfl, _, rfl, ?_⟩
  rw [← Bool.beq_eq_decide_eq]
  exact Pst.fin r1 (Same.refl _) (Pst.fin r1 (Same.refl _) h1)
theorem s_and {rest : List Expr} (ha : PE X x (tE X.K L W Φ a)) (hb : PE X (.BoolOp .And (y :: rest) pos) (tE X.K L W Φ b)) : PE X (.BoolOp .And (x :: y :: rest) pos) (tE X.K L W Φ (.and a b)) := by
  refine (pe_andT ha hb).imp fun σ H Q ⟨fr, B, μ, oa, ρ, M, rel, h⟩ => ?_
  rw [ev] at h
  refine tE_first rel h fun H1 μ1 d1 M1 v1 r1 e1 p1 h1 => ?_
  cases e : d1.truth M1 with
  | none => rw [e] at h1; exact h1.elim
  | some k =>
    rw [e] at h1
    refine ⟨k, truV p1 e (D.truth_str e), ?_⟩
    cases k with
    | false => exact iteF (Pst.fin r1 (Same.refl _) h1 _ p1)
    | true => exact iteT ⟨fr, B, μ1, oa, ρ, M1, r1, h1⟩
theorem s_or {rest : List Expr} (ha : PE X x (tE X.K L W Φ a)) (hb : PE X (.BoolOp .Or (y :: rest) pos) (tE X.K L W Φ b)) : PE X (.BoolOp .Or (x :: y :: rest) pos) (tE X.K L W Φ (.or a b)) := by
  refine (pe_orT ha hb).imp fun σ H Q ⟨fr, B, μ, oa, ρ, M, rel, h⟩ => ?_
  rw [ev] at h
  refine tE_first rel h fun H1 μ1 d1 M1 v1 r1 e1 p1 h1 => ?_
  cases e : d1.truth M1 with
  | none => rw [e] at h1; exact h1.elim
  | some k =>
    rw [e] at h1
    refine ⟨k, truV p1 e (D.truth_str e), ?_⟩
    cases k with
    | true => exact iteT (Pst.fin r1 (Same.refl _) h1 _ p1)
    | false => exact iteF ⟨fr, B, μ1, oa, ρ, M1, r1, h1⟩
theorem evT_and {ρ : Ev} {M : Mem} : evT Φ (.and a b) ρ M = (evT Φ a ρ M).bind fun k M1 => if k = true then evT Φ b ρ M1 else .ok false M1 := by
  unfold evT
  rw [ev]
  cases ev Φ a ρ M with
  | bad => rfl
  | err x M1 => rfl
  | ok d M1 =>
    simp only [Res.bind_ok]
    cases e : d.truth M1 with
    | none => rfl
    | some k => cases k <;> simp [evT, e]
theorem evT_or {ρ : Ev} {M : Mem} : evT Φ (.or a b) ρ M = (evT Φ a ρ M).bind fun k M1 => if k = true then .ok true M1 else evT Φ b ρ M1 := by
  unfold evT
  rw [ev]
  cases ev Φ a ρ M with
  | bad => rfl
  | err x M1 => rfl
  | ok d M1 =>
    simp only [Res.bind_ok]
    cases e : d.truth M1 with
    | none => rfl
    | some k => cases k <;> simp [evT, e]
theorem evT_not {ρ : Ev} {M : Mem} : evT Φ (.not a) ρ M = (evT Φ a ρ M).bind fun k M1 => .ok (!k) M1 := by
  unfold evT
  rw [ev]
  cases ev Φ a ρ M with
  | bad => rfl
  | err x M1 => rfl
  | ok d M1 =>
    simp only [Res.bind_ok]
    cases e : d.truth M1 with
    | none => rfl
    | some k => cases k <;> simp [D.truth]
theorem s_andT {rest : List Expr} (ha : PT X x (tT X.K L W Φ a)) (hb : PW X (.BoolOp .And (y :: rest) pos) (tT X.K L W Φ b)) : PW X (.BoolOp .And (x :: y :: rest) pos) (tT X.K L W Φ (.and a b)) := by
  refine (pw_and ha hb).imp fun σ H Q ⟨fr, B, μ, oa, ρ, M, rel, h⟩ => ?_
  rw [evT_and] at h
  refine tT_first rel h fun H1 μ1 k M1 r1 e1 h1 => ?_
  cases k with
  | true => exact iteT ⟨fr, B, μ1, oa, ρ, M1, r1, h1⟩
  | false => exact iteF (Pst.fin r1 (Same.refl _) h1)
theorem s_orT {rest : List Expr} (ha : PT X x (tT X.K L W Φ a)) (hb : PW X (.BoolOp .Or (y :: rest) pos) (tT X.K L W Φ b)) : PW X (.BoolOp .Or (x :: y :: rest) pos) (tT X.K L W Φ (.or a b)) := by
  refine (pw_or ha hb).imp fun σ H Q ⟨fr, B, μ, oa, ρ, M, rel, h⟩ => ?_
  rw [evT_or] at h
  refine tT_first rel h fun H1 μ1 k M1 r1 e1 h1 => ?_
  cases k with
  | true => exact iteT (Pst.fin r1 (Same.refl _) h1)
  | false => exact iteF ⟨fr, B, μ1, oa, ρ, M1, r1, h1⟩
theorem s_notT (ha : PT X x (tT X.K L W Φ a)) : PT X (.UnaryOp .Not x pos) (tT X.K L W Φ (.not a)) := by
  refine (pt_not ha).imp fun σ H Q ⟨fr, B, μ, oa, ρ, M, rel, h⟩ => ?_
  rw [evT_not] at h
  exact tT_first rel h fun H1 μ1 k M1 r1 e1 h1 => Pst.fin r1 (Same.refl _) h1
/-- any other expression as a test -/
theorem s_truth (ha : PE X x (tE X.K L W Φ a)) (he : ∀ whole, isTrue x X.env whole = (do let v ← whole; standAt x.pos; holding [v] (truthy v))) : PT X x (tT X.K L W Φ a) := by
  refine (pt_truth ha he).imp fun σ H Q ⟨fr, B, μ, oa, ρ, M, rel, h⟩ => ?_
  unfold evT at h
  refine tE_first rel h fun H1 μ1 d1 M1 v1 r1 e1 p1 h1 => ?_
  obtain ⟨k, hk, h2⟩ := of_ok h1
  exact ⟨k, truV p1 hk (D.truth_str hk), Pst.fin r1 (Same.refl _) h2⟩
theorem s_ite {p : Pos} {cond : Expr} (hc : PT X cond (tT X.K L W Φ c)) (ha : PE X x (tE X.K L W Φ a)) (hb : PE X y (tE X.K L W Φ b)) : PE X (.IfExp cond x y p) (tE X.K L W Φ (.ite c a b)) := by
  refine (pe_ifExp hc ha hb).imp fun σ H Q ⟨fr, B, μ, oa, ρ, M, rel, h⟩ => ?_
  have e : ev Φ (.ite c a b) ρ M = (evT Φ c ρ M).bind fun k M1 => if k = true then ev Φ a ρ M1 else ev Φ b ρ M1 := by
    unfold evT
    rw [ev]
    cases ev Φ c ρ M with
    | bad => rfl
    | err x M1 => rfl
    | ok d M1 =>
      simp only [Res.bind_ok]
      cases e : d.truth M1 with
      | none => rfl
      | some k => cases k <;> simp
  rw [e] at h
  refine tT_first rel h fun H1 μ1 k M1 r1 e1 h1 => ?_
  cases k with
  | true => exact iteT ⟨fr, B, μ1, oa, ρ, M1, r1, h1⟩
  | false => exact iteF ⟨fr, B, μ1, oa, ρ, M1, r1, h1⟩
end
end PC

namespace PC
open PySem PySem.Spec PyProof.Rows L2
section
variable {K : PySem.W.Frag} {fr : Fr} {H H' H1 H2 : Hp} {B : Addr → Prop} {μ μ' : List Addr} {oa : Nat → Option Addr} {ρ : Ev} {M M' : Mem} {σ : L2.St}
theorem atI_len {α : Type} {xs : List α} {i : Int} {d : α} (h : atI xs i = some d) : ∃ j, ixN xs.length i = some j ∧ xs[j]? = some d := by
  unfold atI at h
  cases e : ixN xs.length i with
  | none => rw [e] at h; cases h
  | some j => rw [e] at h; exact ⟨j, rfl, h⟩
theorem Rps.at {ds : List D} {vs : List V} {i : Int} {d : D} (r : Rps K H B μ ds vs) (h : atI ds i = some d) : ∃ v, atI vs i = some v ∧ Rp K H B μ d v := by
  obtain ⟨j, h1, h2⟩ := atI_len h
  obtain ⟨v, h3, h4⟩ := r.get h2
  refine ⟨v, ?_, h4⟩
  unfold atI
  rw [← r.length, h1]
  exact h3
theorem Same.evo (k : Same H H') : Evo μ H μ H' := Evo.same k
theorem Rel.free_old (r : Rel K fr B μ oa ρ M σ H) {p : Addr} (hp : H p = none) : fr.H0 p = none ∧ ¬ fr.B0 p := by
  refine ⟨?_, fun b => r.bt p (r.b0 p b) hp⟩
  cases e : fr.H0 p with
  | none => rfl
  | some o =>
    by_cases hm : p ∈ fr.μ0
    · obtain ⟨t, ht, _⟩ := r.m0
      exact absurd hp (r.tr p (by rw [ht]; exact List.mem_append_left _ hm))
    · rw [r.ev p o e hm] at hp; cases hp
/-- behind a call: the cells are new, the slots stand -/
theorem Rel.after (r : Rl K fr B μ oa ρ M σ H) (e : Evo μ H μ' H') (c : Cs K H' (ban B μ') μ' M') (bt : ∀ a, ban B μ' a → H' a ≠ none) : Rl K fr B μ' oa ρ M' σ H' where
  cs := c
  b0 := fun a h => (r.b0 a h).elim .inl fun z => .inr (e.mem z)
  bt := bt
  bo := fun i a h => (r.bo i a h).elim .inl fun z => .inr (e.mem z)
  oi := r.oi
  on := fun i a h => by
    obtain ⟨h1, h2, h3⟩ := r.on i a h
    refine ⟨h1, h2, fun z => ?_⟩
    cases q : H a with
    | none => exact r.bt a (r.bo i a h) q
    | some o => exact h3 (e.old z q)
  sl := fun i s h => by
    have q := r.sl i s h
    cases s with
    | un => exact q
    | v d => obtain ⟨h1, v, h2, h3⟩ := q; exact ⟨h1, v, h2, h3.mono e.kp⟩
    | own ds =>
      obtain ⟨a, vs, h1, h2, h3, h4⟩ := q
      exact ⟨a, vs, h1, h2, e.keep a _ h3 (r.on i a h1).2.2, h4.mono e.kp⟩
  so := r.so
  ln := r.ln
  m0 := by
    obtain ⟨t, ht, h1⟩ := r.m0
    obtain ⟨u, hu, h2⟩ := e.pre
    refine ⟨t ++ u, by rw [hu, ht, List.append_assoc], fun a ha => ?_⟩
    rcases List.mem_append.mp ha with ha | ha
    · exact h1 a ha
    · exact r.free_old (h2 a ha)
  ev := fun a o h n => by
    refine e.keep a o (r.ev a o h n) fun z => ?_
    obtain ⟨t, ht, h1⟩ := r.m0
    rw [ht] at z
    rcases List.mem_append.mp z with z | z
    · exact n z
    · rw [(h1 a z).1] at h; cases h
/-- a new cell -/
theorem Rel.newCell (r : Rl K fr B μ oa ρ M σ H) {p : Addr} (hp : H p = none) {o : HO} {c : Cell} (hc : ∀ {H' : Hp} {B' : Addr → Prop} {μ' : List Addr}, Kp H H' (ban B μ) B' μ μ' → H' p = some o → CellR K H' B' μ' c p) :
    Rl K fr B (μ ++ [p]) oa ρ (M ++ [c]) σ (upd H p o) ∧ Evo μ H (μ ++ [p]) (upd H p o) := by
  have e : Evo μ H (μ ++ [p]) (upd H p o) := ⟨⟨[p], rfl, fun a h => by rw [List.mem_singleton.mp h]; exact hp⟩, fun a q h _ => same_upd hp a q h⟩
  have hpm : p ∉ μ := fun h => r.tr p h hp
  refine ⟨r.after e ⟨?_, ?_, fun a h => .inr h, fun n c' a h1 h2 => ?_⟩ fun a h => ?_, e⟩
  · rw [List.nodup_append]
    exact ⟨r.cs.nd, by simp, fun a h b h2 z => hpm (by rw [← List.mem_singleton.mp h2, ← z]; exact h)⟩
  · rw [List.length_append, List.length_append, r.cs.len]
    rfl
  · by_cases hn : n < μ.length
    · have h2' : μ[n]? = some a := by rw [List.getElem?_append_left hn] at h2; exact h2
      have h1' : M[n]? = some c' := by rw [List.getElem?_append_left (by rw [r.cs.len]; exact hn)] at h1; exact h1
      have q := r.cs.at_ n c' a h1' h2'
      cases c' with
      | lst ds =>
        obtain ⟨vs, q1, q2⟩ := q
        exact ⟨vs, same_upd hp a _ q1, q2.mono e.kp⟩
      | dict _ => exact q
      | ins _ _ => exact q
    · have hn' : n = μ.length := by
        have := (List.getElem?_eq_some_iff.mp h2).1
        rw [List.length_append, List.length_singleton] at this
        omega
      subst hn'
      have ea : p = a := by simpa using h2
      have ec : c = c' := by
        rw [← r.cs.len] at h1
        simpa using h1
      subst ea ec
      exact hc e.kp upd_same
  · rcases h with h | h
    · have q := r.bt a (.inl h)
      cases z : H a with
      | none => exact absurd z q
      | some x => rw [same_upd hp a x z]; exact fun w => nomatch w
    · rcases List.mem_append.mp h with h | h
      · have q := r.tr a h
        cases z : H a with
        | none => exact absurd z q
        | some x => rw [same_upd hp a x z]; exact fun w => nomatch w
      · rw [List.mem_singleton.mp h, upd_same]
        exact fun w => nomatch w
end
section
variable {X : Cx} {L : Lg} {W : WX} {Φ : Fns} {a b c i : E} {es : Es} {x y z : Expr} {xs : List Expr} {pos : Pos}
theorem s_nil : PA X [] (tEs X.K L W Φ .nil) := by
  refine pa_nil.imp fun σ H Q ⟨fr, B, μ, oa, ρ, M, rel, h⟩ => ?_
  rw [evs] at h
  exact Pst.fin rel (Same.refl H) h [] .nil
theorem s_cons (ha : PE X x (tE X.K L W Φ a)) (hr : PA X xs (tEs X.K L W Φ es)) (hs : starEach (x :: xs) X.env = (false, eval x X.env) :: starEach xs X.env) : PA X (x :: xs) (tEs X.K L W Φ (.cons a es)) := by
  refine (pa_cons ha hr hs).imp fun σ H Q ⟨fr, B, μ, oa, ρ, M, rel, h⟩ => ?_
  rw [evs] at h
  exact tE_first rel h fun H1 μ1 d1 M1 v1 r1 e1 p1 h1 => tEs_first r1 h1 fun H2 μ2 ds M2 vs r2 e2 p2 h2 => Pst.fin r2 (Same.refl _) h2 _ (.cons (p1.later e2) p2)
theorem s_tup {k : Nat} (hr : PA X xs (tEs X.K L W Φ es)) : PE X (.Tuple xs k pos) (tE X.K L W Φ (.tup es)) := by
  refine (pe_tup hr).imp fun σ H Q ⟨fr, B, μ, oa, ρ, M, rel, h⟩ => ?_
  rw [ev] at h
  refine tEs_first rel h fun H1 μ1 ds M1 vs r1 e1 p1 h1 => ?_
  split at h1
  · rename_i hz
    rw [p1.length] at hz
    exact ⟨hz, fun p hp => Pst.fin r1 (same_upd hp) h1 _ (new_tup r1.bt hp p1)⟩
  · exact h1.elim
theorem s_lst (hr : PA X xs (tEs X.K L W Φ es)) : PE X (.List xs pos) (tE X.K L W Φ (.lst es)) := by
  refine (pe_lst hr).imp fun σ H Q ⟨fr, B, μ, oa, ρ, M, rel, h⟩ => ?_
  rw [ev] at h
  refine tEs_first rel h fun H1 μ1 ds M1 vs r1 e1 p1 h1 => ?_
  split at h1
  · rename_i hz
    rw [p1.length] at hz
    exact ⟨hz, fun p hp => Pst.fin r1 (same_upd hp) h1 _ (new_lst r1.bt hp p1)⟩
  · exact h1.elim
theorem s_newL (hr : PA X xs (tEs X.K L W Φ es)) : PE X (.List xs pos) (tE X.K L W Φ (.newL es)) := by
  refine (pe_lst hr).imp fun σ H Q ⟨fr, B, μ, oa, ρ, M, rel, h⟩ => ?_
  rw [ev] at h
  refine tEs_first rel h fun H1 μ1 ds M1 vs r1 e1 p1 h1 => ?_
  split at h1
  · rename_i hz
    rw [p1.length] at hz
    refine ⟨hz, fun p hp => ?_⟩
    obtain ⟨r2, e2⟩ := r1.newCell hp (o := .lst vs) (c := .lst ds) fun k q => ⟨vs, q, p1.mono k⟩
    refine h1 _ _ e2 r2 _ (.cell ?_)
    rw [r1.cs.len, List.getElem?_append_right (Nat.le_refl _), Nat.sub_self]
    rfl
  · exact h1.elim
theorem plainIx (hs : ∀ l h p, y ≠ .Slice l h none p) : PlainIx y := by
  intro o i
  unfold subscripted
  split
  · exact absurd rfl (hs _ _ _)
  · rename_i e
    cases e
  · rfl
def rSub (K : PySem.W.Frag) : R2 := fun x y H Q => ∃ p vs i v, x = .ref p ∧ y = .int i ∧ (SqL K H p vs ∨ SqT K H p vs) ∧ atI vs i = some v ∧ Q v H
theorem ix_any : IxR X (rSub X.K) := by
  intro value slice pins s σ H x y v u Q I rx ry h hs
  obtain ⟨p, vs, i, z, hx, hy, hq | hq, ha, q⟩ := h
  · exact ix_list value slice pins s σ H x y v u Q I rx ry ⟨p, vs, i, z, hx, hy, hq, ha, q⟩ hs
  · exact ix_tup value slice pins s σ H x y v u Q I rx ry ⟨p, vs, i, z, hx, hy, hq, ha, q⟩ hs
theorem s_sub (ha : PE X x (tE X.K L W Φ a)) (hb : PE X y (tE X.K L W Φ i)) (hs : ∀ l h p, y ≠ .Slice l h none p) : PE X (.Subscript x y pos) (tE X.K L W Φ (.sub a i)) := by
  refine (pe_ix ix_any ha hb (plainIx hs)).imp fun σ H Q ⟨fr, B, μ, oa, ρ, M, rel, h⟩ => ?_
  rw [ev] at h
  refine tE_first rel h fun H1 μ1 d1 M1 v1 r1 e1 p1 h1 => tE_first r1 h1 fun H2 μ2 d2 M2 v2 r2 e2 p2 h2 => ?_
  obtain ⟨d, hd, h3⟩ := of_ok h2
  have p1' := p1.later e2
  cases p1' with
  | tup t rs =>
    cases p2 <;> simp only [subM, D.sub] at hd <;> try cases hd
    obtain ⟨v, h4, h5⟩ := rs.at hd
    exact ⟨_, _, _, v, rfl, rfl, .inr t.sq, h4, Pst.fin r2 (Same.refl _) h3 _ h5⟩
  | lst t rs =>
    cases p2 <;> simp only [subM, D.sub] at hd <;> try cases hd
    obtain ⟨v, h4, h5⟩ := rs.at hd
    exact ⟨_, _, _, v, rfl, rfl, .inl t.sq, h4, Pst.fin r2 (Same.refl _) h3 _ h5⟩
  | @cell n aa hm =>
    cases p2 <;> simp only [subM, D.sub] at hd <;> try cases hd
    rename_i j
    split at hd
    · rename_i ds hc
      obtain ⟨vs, q1, q2⟩ := r2.cs.at_ n _ aa hc hm
      obtain ⟨v, h4, h5⟩ := q2.at hd
      exact ⟨_, _, _, v, rfl, rfl, .inl (.of q1), h4, Pst.fin r2 (Same.refl _) h3 _ h5⟩
    · cases hd
  | non => cases d2 <;> cases hd
  | bl _ => cases d2 <;> cases hd
  | int _ => cases d2 <;> cases hd
  | str _ => cases d2 <;> cases hd
  | frz t rs => cases d2 <;> cases hd
def tP (K : PySem.W.Frag) (L : Lg) (W : WX) (Φ : Fns) (c : Pt) : TO := fun σ H Q => ∃ fr B μ oa ρ M, Rl K fr B μ oa ρ M σ H ∧
  Pst K L W fr B μ oa ρ σ H (evP Φ c ρ M) fun H' _ o _ => Q o H'
theorem s_pnone : PO X none (tP X.K L W Φ .none) := by
  refine ⟨fun pins s σ H Q I ⟨fr, B, μ, oa, ρ, M, rel, h⟩ => po_none.run pins s σ H Q I ?_⟩
  rw [evP] at h
  exact Pst.fin rel (Same.refl H) h
theorem s_psome (ha : PE X x (tE X.K L W Φ a)) : PO X (some x) (tP X.K L W Φ (.some a)) := by
  refine ⟨fun pins s σ H Q I ⟨fr, B, μ, oa, ρ, M, rel, h⟩ => (po_some ha).run pins s σ H Q I ?_⟩
  rw [evP] at h
  refine tE_first rel h fun H1 μ1 d1 M1 v1 r1 e1 p1 h1 => ?_
  cases p1 <;> try exact h1.elim
  exact ⟨_, rfl, Pst.fin r1 (Same.refl _) h1⟩
theorem tP_first {β : Type} {K : PySem.W.Frag} {fr : Fr} {H : Hp} {B : Addr → Prop} {μ : List Addr} {oa : Nat → Option Addr} {ρ : Ev} {M : Mem} {σ : L2.St} {c : Pt} {f : Option Int → Mem → Res β} {R : Hp → List Addr → β → Mem → Prop} {Q : Option Int → Hp → Prop}
    (rel : Rl K fr B μ oa ρ M σ H) (h : Pst K L W fr B μ oa ρ σ H ((evP Φ c ρ M).bind f) R)
    (g : ∀ H1 μ1 o M1, Rl K fr B μ1 oa ρ M1 σ H1 → Evo μ H μ1 H1 → Pst K L W fr B μ1 oa ρ σ H1 (f o M1) R → Q o H1) : tP K L W Φ c σ H Q :=
  ⟨fr, B, μ, oa, ρ, M, rel, (Pst.first rel h).imp fun H1 μ1 o M1 e1 r1 h1 => g H1 μ1 o M1 r1 e1 h1⟩
theorem cut_whole {α : Type} {xs : List α} {lo hi : Option Int} (h : HT.sIx xs.length 0 lo = 0 ∧ HT.sIx xs.length xs.length hi = xs.length) : cutD xs lo hi = xs := by
  unfold cutD
  rw [h.1, h.2]
  simp
theorem s_slice {lo hi : Pt} {xl xh : Option Expr} {p2 : Pos} (ha : PE X x (tE X.K L W Φ a)) (hl : PO X xl (tP X.K L W Φ lo)) (hh : PO X xh (tP X.K L W Φ hi)) : PE X (.Subscript x (.Slice xl xh none p2) pos) (tE X.K L W Φ (.slice a lo hi)) := by
  refine (pe_slice (SlR.or sl_list sl_tupA) ha hl hh).imp fun σ H Q ⟨fr, B, μ, oa, ρ, M, rel, h⟩ => ?_
  rw [ev] at h
  refine tE_first rel h fun H1 μ1 d1 M1 v1 r1 e1 p1 h1 => tP_first r1 h1 fun H2 μ2 o2 M2 r2 e2 h2 => tP_first r2 h2 fun H3 μ3 o3 M3 r3 e3 h3 => ?_
  obtain ⟨d, hd, h4⟩ := of_ok h3
  have p1' := (p1.later e2).later e3
  cases p1' with
  | tup t rs =>
    simp only [D.slice] at hd
    cases hd
    refine .inr ⟨_, _, rfl, t.sq, fun w => Pst.fin r3 (Same.refl _) h4 _ ?_, fun _ p hp => Pst.fin r3 (same_upd hp) h4 _ (new_tup r3.bt hp (rs.cut _ _))⟩
    rw [← rs.length] at w
    rw [cut_whole w]
    exact .tup t rs
  | lst t rs =>
    simp only [D.slice] at hd
    cases hd
    exact .inl ⟨_, _, rfl, t.sq, fun p hp => Pst.fin r3 (same_upd hp) h4 _ (new_lst r3.bt hp (rs.cut _ _))⟩
  | frz t rs =>
    simp only [D.slice] at hd
    cases hd
    exact .inl ⟨_, _, rfl, t.sq, fun p hp => Pst.fin r3 (same_upd hp) h4 _ (new_lst r3.bt hp (rs.cut _ _))⟩
  | non => cases hd
  | bl _ => cases hd
  | int _ => cases hd
  | str _ => cases hd
  | cell _ => cases hd

theorem slotO_eq {ρ : Ev} {i : Nat} {xs : List D} (h : slotO ρ i = some xs) : ρ[i]? = some (.own xs) := by
  unfold slotO at h
  split at h
  · rename_i e
    cases h
    exact e
  · cases h
theorem slotV_eq {ρ : Ev} {i : Nat} {d : D} (h : slotV ρ i = some d) : ρ[i]? = some (.v d) := by
  unfold slotV at h
  split at h
  · rename_i e
    cases h
    exact e
  · cases h
variable {n : Str} {p q : Pos} {j : Nat}
structure IsName (X : Cx) (j : Nat) (n : Str) : Prop where
  hN : X.N[j]? = some n
  hv : Vis X.env.scope n
  hd : (n == ("__debug__" : Str)) = false
  hc : (n == ("__classdict__" : Str)) = false
theorem s_lenO (hn : IsName X j n) (hg : Gl X "len") (hm : X.mg "len" = none) : PE X (.Call (.Name "len" p) [.Name n q] [] pos) (tE X.K L W Φ (.lenO j)) := by
  refine (pe_callB call_len_seq hg hm boot_len (pa_cons (pe_var hn.hN hn.hv hn.hd hn.hc) pa_nil)).imp fun σ H Q ⟨fr, B, μ, oa, ρ, M, rel, h⟩ => ?_
  rw [ev] at h
  obtain ⟨d, hd, h1⟩ := of_ok h
  cases e : slotO ρ j with
  | none => rw [e] at hd; cases hd
  | some xs =>
    rw [e] at hd
    cases hd
    obtain ⟨a, vs, q1, q2, q3, q4⟩ := rel.sl j _ (slotO_eq e)
    refine ⟨_, q2, a, vs, rfl, .inl (.of q3), ?_⟩
    rw [← q4.length]
    exact Pst.fin rel (Same.refl H) h1 _ (.int _)
theorem s_subO (hn : IsName X j n) (hb : PE X y (tE X.K L W Φ i)) (hs : ∀ l h p, y ≠ .Slice l h none p) : PE X (.Subscript (.Name n q) y pos) (tE X.K L W Φ (.subO j i)) := by
  refine (pe_ix ix_any (pe_var hn.hN hn.hv hn.hd hn.hc) hb (plainIx hs)).imp fun σ H Q ⟨fr, B, μ, oa, ρ, M, rel, h⟩ => ?_
  rw [ev] at h
  cases e : slotO ρ j with
  | none => rw [e] at h; exact h.elim
  | some xs =>
    rw [e] at h
    obtain ⟨a, vs, q1, q2, q3, q4⟩ := rel.sl j _ (slotO_eq e)
    refine ⟨_, q2, tE_first rel h fun H1 μ1 d1 M1 v1 r1 e1 p1 h1 => ?_⟩
    obtain ⟨d, hd, h2⟩ := of_ok h1
    cases p1 <;> simp only [D.sub] at hd <;> try cases hd
    have q4' := Rps.later e1 q4
    obtain ⟨v, h4, h5⟩ := q4'.at hd
    exact ⟨a, vs, _, v, rfl, rfl, .inl (.of (e1.keep a _ q3 (rel.on j a q1).2.2)), h4, Pst.fin r1 (Same.refl _) h2 _ h5⟩

def rBi (K : PySem.W.Frag) (b : Bi) : List V → Hp → VK → Prop := fun xs H Q => ∃ B μ M d d' v, Cs K H B μ M ∧ (∀ a, B a → H a ≠ none) ∧ Rp K H B μ d v ∧ xs = [v] ∧ lenM M b d = some d' ∧ ∀ v' H', Same H H' → Rp K H' B μ d' v' → Q v' H'
def biName : Bi → Str
  | .len => "len" | .int => "int" | .abs => "abs" | .tuple => "tuple" | .list => "list" | .sum => "sum" | .sorted => "sorted" | .all => "all" | .any => "any"
theorem c_len : CallR X (.builtin "len") (rBi X.K .len) := by
  intro pins s σ H xs us Q I r ⟨B, μ, M, d, d', v, cs, bt, rp, e, hd, q⟩
  cases rp with
  | tup t rs =>
    cases hd
    refine call_len_seq pins s σ H xs us Q I r ⟨_, _, e, .inr t.sq, ?_⟩
    rw [← rs.length]
    exact q _ _ (Same.refl H) (.int _)
  | lst t rs =>
    cases hd
    refine call_len_seq pins s σ H xs us Q I r ⟨_, _, e, .inl t.sq, ?_⟩
    rw [← rs.length]
    exact q _ _ (Same.refl H) (.int _)
  | @cell n a hm =>
    simp only [lenM] at hd
    split at hd
    · rename_i ds hc
      cases hd
      obtain ⟨vs, q1, q2⟩ := cs.at_ n _ a hc hm
      refine call_len_seq pins s σ H xs us Q I r ⟨_, _, e, .inl (.of q1), ?_⟩
      rw [← q2.length]
      exact q _ _ (Same.refl H) (.int _)
    · cases hd
  | str x =>
    simp only [lenM, Bi.run] at hd
    split at hd
    · cases hd
      exact call_len_str pins s σ H xs us Q I r ⟨_, e, by assumption, q _ _ (Same.refl H) (.int _)⟩
    · cases hd
  | non => cases hd
  | bl _ => cases hd
  | int _ => cases hd
  | frz t rs => cases hd
theorem c_int : CallR X (.type "int") (rBi X.K .int) := by
  intro pins s σ H xs us Q I r ⟨B, μ, M, d, d', v, cs, bt, rp, e, hd, q⟩
  cases rp <;> simp only [lenM, Bi.run] at hd <;> try cases hd
  · exact call_int1 pins s σ H xs us Q I r (.inr ⟨_, e, q _ _ (Same.refl H) (.int _)⟩)
  · exact call_int1 pins s σ H xs us Q I r (.inl ⟨_, e, q _ _ (Same.refl H) (.int _)⟩)
theorem c_abs : CallR X (.builtin "abs") (rBi X.K .abs) := by
  intro pins s σ H xs us Q I r ⟨B, μ, M, d, d', v, cs, bt, rp, e, hd, q⟩
  cases rp <;> simp only [lenM, Bi.run] at hd <;> try cases hd
  exact call_abs pins s σ H xs us Q I r ⟨_, e, q _ _ (Same.refl H) (.int _)⟩
theorem c_tuple : CallR X (.type "tuple") (rBi X.K .tuple) := by
  intro pins s σ H xs us Q I r ⟨B, μ, M, d, d', v, cs, bt, rp, e, hd, q⟩
  cases rp with
  | tup t rs =>
    cases hd
    exact call_tuple_of pins s σ H xs us Q I r ⟨_, _, e, .inr ⟨t.sq, q _ _ (Same.refl H) (.tup t rs)⟩⟩
  | lst t rs =>
    cases hd
    exact call_tuple_of pins s σ H xs us Q I r ⟨_, _, e, .inl ⟨t.sq, fun l hl => q _ _ (same_upd hl) (new_tup bt hl rs)⟩⟩
  | @cell n a hm => cases hd
  | str x => cases hd
  | non => cases hd
  | bl _ => cases hd
  | int _ => cases hd
  | frz t rs => cases hd
theorem c_list : CallR X (.type "list") (rBi X.K .list) := by
  intro pins s σ H xs us Q I r ⟨B, μ, M, d, d', v, cs, bt, rp, e, hd, q⟩
  cases rp with
  | tup t rs =>
    cases hd
    exact call_list_of pins s σ H xs us Q I r ⟨_, _, e, .inr t.sq, fun l hl => q _ _ (same_upd hl) (new_lst bt hl rs)⟩
  | lst t rs =>
    cases hd
    exact call_list_of pins s σ H xs us Q I r ⟨_, _, e, .inl t.sq, fun l hl => q _ _ (same_upd hl) (new_lst bt hl rs)⟩
  | @cell n a hm => cases hd
  | str x => cases hd
  | non => cases hd
  | bl _ => cases hd
  | int _ => cases hd
  | frz t rs => cases hd
theorem c_sum (hc : X.calm = true) : CallR X (.builtin "sum") (rBi X.K .sum) := by
  intro pins s σ H xs us Q I r ⟨B, μ, M, d, d', v, cs, bt, rp, e, hd, q⟩
  cases rp with
  | lst t rs =>
    simp only [lenM, Bi.run] at hd
    rename_i a vs ds
    cases e2 : D.ints ds with
    | none => rw [e2] at hd; cases hd
    | some is =>
      rw [e2] at hd
      cases hd
      have ev := rs.ints e2
      subst ev
      exact cr_sum hc pins s σ H xs us Q I r ⟨_, is, e, t.sq, q _ _ (Same.refl H) (.int _)⟩
  | tup t rs => cases hd
  | @cell n a hm => cases hd
  | str x => cases hd
  | non => cases hd
  | bl _ => cases hd
  | int _ => cases hd
  | frz t rs => cases hd
theorem Rps.bools {K : PySem.W.Frag} {H : Hp} {B : Addr → Prop} {μ : List Addr} : ∀ {ds : List D} {vs : List V} {bs : List Bool}, Rps K H B μ ds vs → D.bools ds = some bs → vs = bs.map V.bl
  | [], _, bs, .nil, h => by rw [D.bools] at h; cases h; rfl
  | d :: ds, _, bs, .cons h r, e => by
    cases h <;> simp only [D.bools] at e <;> try cases e
    rename_i b
    cases e2 : D.bools ds with
    | none => rw [e2] at e; cases e
    | some cs =>
      rw [e2] at e
      cases e
      rw [Rps.bools r e2]
      rfl
theorem c_all (hc : X.calm = true) : CallR X (.builtin "all") (rBi X.K .all) := by
  intro pins s σ H xs us Q I r ⟨B, μ, M, d, d', v, cs, bt, rp, e, hd, q⟩
  cases rp <;> simp only [lenM, Bi.run] at hd <;> try cases hd
  rename_i t rs
  cases e2 : D.bools _ with
  | none => rw [e2] at hd; cases hd
  | some bs =>
    rw [e2] at hd
    cases hd
    have ev := rs.bools e2
    subst ev
    exact cr_all hc pins s σ H xs us Q I r ⟨_, bs, e, t.sq, q _ _ (Same.refl H) (.bl _)⟩
theorem c_any (hc : X.calm = true) : CallR X (.builtin "any") (rBi X.K .any) := by
  intro pins s σ H xs us Q I r ⟨B, μ, M, d, d', v, cs, bt, rp, e, hd, q⟩
  cases rp <;> simp only [lenM, Bi.run] at hd <;> try cases hd
  rename_i t rs
  cases e2 : D.bools _ with
  | none => rw [e2] at hd; cases hd
  | some bs =>
    rw [e2] at hd
    cases hd
    have ev := rs.bools e2
    subst ev
    exact cr_any hc pins s σ H xs us Q I r ⟨_, bs, e, t.sq, q _ _ (Same.refl H) (.bl _)⟩
theorem s_bi {bi : Bi} (hp : ∀ {tt : TA}, PA X [x] tt → PE X (.Call (.Name (biName bi) p) [x] [] pos) (tCB (rBi X.K bi) tt)) (ha : PA X [x] (tCons (tE X.K L W Φ a) tNil)) : PE X (.Call (.Name (biName bi) p) [x] [] pos) (tE X.K L W Φ (.bi bi a)) := by
  refine (hp ha).imp fun σ H Q ⟨fr, B, μ, oa, ρ, M, rel, h⟩ => ?_
  rw [ev] at h
  refine tE_first rel h fun H1 μ1 d1 M1 v1 r1 e1 p1 h1 => ?_
  obtain ⟨d, hd, h2⟩ := of_ok h1
  exact ⟨ban B μ1, μ1, M1, d1, d, v1, r1.cs, r1.bt, p1, rfl, hd, fun v' H' k rv => Pst.fin r1 k h2 v' rv⟩
end
end PC

namespace PC
open PySem PySem.Spec PyProof.Rows L2
section
variable {prog : Program} {w : World} {A : Around} {E : Value → Shared → Prop} {s : Shared}
theorem applied_rev {sl : Addr} {vl vu vs : Value} {n : Nat} {Q : Int × Int × Nat → Shared → Prop} (hs : s.heap.IsSliceOf sl vl vu vs) (pl : IsPart vl none) (pu : IsPart vu none) (ps : IsPart vs (some (-1)))
    (h : Q ((n : Int) - 1, -1, n) s) : wpAny (model prog w) A (Builtin.Slice.sliceApplied (.ref sl) (pure (n : Int))) Q E s := by
  obtain ⟨os, hos, hcs, hds⟩ := id hs
  unfold Builtin.Slice.sliceApplied Builtin.Slice.sliceFields
  refine wpAny_bind (wpAny_bind (wpAny_field hos hds (x := vl) rfl (wpAny_bind (wpAny_field hos hds (x := vu) rfl (wpAny_bind (wpAny_field hos hds (x := vs) rfl (wpAny_pure ?_)))))))
  refine wpAny_bind (HT.slicePart_ ps ?_)
  show wpAny _ _ (if ((-1 : Int) == 0) = true then _ else _) _ _ s
  rw [if_neg (by decide)]
  refine wpAny_bind (HT.slicePart_ pl (wpAny_bind (HT.slicePart_ pu (wpAny_bind (wpAny_pure ?_)))))
  have e : Builtin.Slice.slicePlaces ((n : Int) - 1) (-1) (-1) = n := by
    unfold Builtin.Slice.slicePlaces
    rw [if_neg (by decide)]
    split
    · have : ((n : Int) - 1 - -1 - 1) / (- -1) = (n : Int) - 1 := by
        rw [show (- -1 : Int) = 1 by decide, Int.ediv_one]
        omega
      rw [this]
      omega
    · omega
  show wpAny _ _ (pure ((n : Int) - 1, (-1 : Int), Builtin.Slice.slicePlaces ((n : Int) - 1) (-1) (-1))) _ _ s
  rw [e]
  exact wpAny_pure h
theorem pick_rev (xs : Array Value) : ((List.range xs.size).filterMap fun (m : Nat) => xs[(((xs.size : Int) - 1) + (m : Int) * (-1)).toNat]?).toArray = xs.toList.reverse.toArray := by
  congr 1
  have e : (List.range xs.size).filterMap (fun (m : Nat) => xs[(((xs.size : Int) - 1) + (m : Int) * (-1)).toNat]?) = (List.range xs.size).filterMap (fun m => xs.toList.reverse[m]?) := by
    have key : ∀ m ∈ List.range xs.size, xs[(((xs.size : Int) - 1) + (m : Int) * (-1)).toNat]? = xs.toList.reverse[m]? := fun m hm => by
      have hm := List.mem_range.mp hm
      rw [List.getElem?_reverse (by simpa using hm), Array.length_toList]
      have : (((xs.size : Int) - 1) + (m : Int) * (-1)).toNat = xs.size - 1 - m := by omega
      rw [this]
      simp
    have gen : ∀ l : List Nat, (∀ m ∈ l, xs[(((xs.size : Int) - 1) + (m : Int) * (-1)).toNat]? = xs.toList.reverse[m]?) → l.filterMap (fun (m : Nat) => xs[(((xs.size : Int) - 1) + (m : Int) * (-1)).toNat]?) = l.filterMap (fun m => xs.toList.reverse[m]?) := by
      intro l
      induction l with
      | nil => intro _; rfl
      | cons a l ih =>
        intro h
        rw [List.filterMap_cons, List.filterMap_cons, h a List.mem_cons_self, ih fun m hm => h m (List.mem_cons_of_mem _ hm)]
    exact gen _ key
  rw [e]
  have := PySem.W.krv_all xs.toList.reverse.toArray
  simpa using this
theorem getItem_tuple_rev {t sl : Addr} {items : Array Value} {vl vu vs : Value} {Q : Value → Shared → Prop} (ht : IsTup s.heap t items) (hs : s.heap.IsSliceOf sl vl vu vs) (pl : IsPart vl none) (pu : IsPart vu none) (ps : IsPart vs (some (-1)))
    (h : Q (.ref s.heap.objs.size) { s with heap := s.heap.push { cls := .type "tuple", data := .seq items.toList.reverse.toArray } })
    (hsz : items.size ≤ sizeLine) : wpAny (model prog w) A (getItem (.ref t) (.ref sl)) Q E s := by
  have htake : sizeOk (.seq items.toList.reverse.toArray) := by
    show items.toList.reverse.toArray.size ≤ sizeLine
    rw [List.size_toArray, List.length_reverse, Array.length_toList]
    exact hsz
  obtain ⟨os, hos, hcs, hds⟩ := id hs
  have hTs : s.TypeIs (.ref sl) "slice" := ⟨os, hos, hcs⟩
  unfold getItem
  try with_reducible refine wpAny_holding ?_
  first | refine wpAny_bind (wpAny_pure ?_) | skip
  refine wpAny_bind (wpAny_sequenceKey ht.typeIs (by decide) ?_)
  refine wpAny_bind (wpAny_callSpecial?_slot (name := Str.ofString "__getitem__") ht.typeIs PyProof.Rows.slot_tuple_getitem
    (wpAny_call_entry PyProof.Rows.slot_tuple_getitem ht.typeIs entry_tuple_getitem ?_ (args_tuple_getitem _ _)))
  show wpAny _ _ (Builtin.Tuple.tupleItemsOf (.ref t) >>= _) _ _ s
  refine wpAny_bind (tupleItemsOf_ ht ?_)
  refine wpAny_bind (wpAny_typeOf hTs ?_)
  rw [if_pos (by decide)]
  refine wpAny_bind (applied_rev hs pl pu ps ?_)
  have hno : ¬ ((((items.size : Int) - 1) == 0 && (-1 : Int) == 1 && items.size == items.size) = true) := by
    intro q
    rw [Bool.and_eq_true, Bool.and_eq_true] at q
    exact absurd (eq_of_beq q.1.2) (by decide)
  show wpAny _ _ (if (((items.size : Int) - 1) == 0 && (-1 : Int) == 1 && items.size == items.size) = true then _ else _) _ _ s
  rw [if_neg hno, pick_rev]
  first
    | exact wpAny_bind (m := Builtin.Tuple.tupleExact _) (wpAny_newObj_type (wpAny_pure ⟨_, rfl, wpAny_pure h⟩) htake)
    | exact wpAny_bind (m := Builtin.Tuple.tupleExact _) (wpAny_newObj_type (wpAny_bind (wpAny_pure (wpAny_pure ⟨_, rfl, wpAny_pure h⟩))) htake)
    | exact wpAny_bind (wpAny_bind (m := Builtin.Tuple.tupleExact _) (wpAny_newObj_type (wpAny_pure (wpAny_pure ⟨_, rfl, wpAny_pure h⟩)) htake))
    | exact wpAny_bind (wpAny_bind (m := Builtin.Tuple.tupleExact _) (wpAny_newObj_type (wpAny_pure ⟨_, rfl, wpAny_pure h⟩) htake))
end
def tRevA (K : PySem.W.Frag) (te : TE) : TE := fun σ H Q => te σ H fun x H1 => ∃ a xs, x = .ref a ∧ ((SqL K H1 a xs ∧ ∀ p, H1 p = none → Q (.ref p) (upd H1 p (.lst xs.reverse))) ∨ (SqT K H1 a xs ∧ ∀ p, H1 p = none → Q (.ref p) (upd H1 p (.tup xs.reverse))))
theorem pe_revA {X : Cx} {e : Expr} {te : TE} {k : Nat} {p1 p2 p3 pos : Pos} (he : PE X e te) : PE X (.Subscript e (.Slice none none (some (.UnaryOp .USub (.Constant (.int 1) k p1) p2)) p3) pos) (tRevA X.K te) := by
  refine ⟨fun pins s σ H Q I h => ?_⟩
  refine Subscript_ (thn (he.run pins s σ H _ I h) fun v s1 ⟨x, H1, I1, r1, q1⟩ => ?_)
  obtain ⟨a, xs, ex, hx⟩ := q1
  subst ex
  cases r1
  have hst : PO X (some (.UnaryOp .USub (.Constant (.int 1) k p1) p2)) (tPart (tUn (rU fun i => .int (-i)) (tC (.int 1)))) := po_some (pe_un un_neg pe_int)
  refine wpAny_Slice (thn (po_none.run pins s1 σ H1 (fun o H2 => o = none ∧ H2 = H1) I1 ⟨rfl, rfl⟩) fun vl s2 ⟨l, H2, I2, pl, el, e2⟩ => ?_)
  subst el e2
  refine thn (po_none.run pins s2 σ H2 (fun o H3 => o = none ∧ H3 = H2) I2 ⟨rfl, rfl⟩) fun vu s3 ⟨u, H3, I3, pu, eu, e3⟩ => ?_
  subst eu e3
  refine thn (hst.run pins s3 σ H3 (fun o H4 => o = some (-1) ∧ H4 = H3) I3 ⟨1, rfl, -1, rfl, rfl, rfl⟩) fun vs s4 ⟨o, H4, I4, ps, eo, e4⟩ => ?_
  subst eo e4
  have I5 : Inv X pins σ H4 { s4 with heap := s4.heap.push { cls := .type "slice", data := .fields #[vl, vu, vs] } } := I4.kept (t' := s4.toks) fun b ob q => Heap.get?_push_of_some _ q
  show wpAny (model X.prog X.w) X.A (subscriptTail e (.Slice none none (some (.UnaryOp .USub (.Constant (.int 1) k p1) p2)) p3) (.ref a) (.ref s4.heap.objs.size)) (EP X pins σ Q) X.xe { s4 with heap := s4.heap.push { cls := .type "slice", data := .fields #[vl, vu, vs] } }
  rcases hx with ⟨hx, q⟩ | ⟨hx, q⟩
  · obtain ⟨its, r, ht, hz⟩ := I5.list hx
    have hlen := r.length
    refine tail_any (ops := [.ref a, .ref s4.heap.objs.size]) ht.isList.typeIs (PySem.slot_list_getitem.lookup) ?_ (by with_unfolding_all rfl)
    refine wpAny_getItem_list_slice ht.isList (Heap.IsSliceOf.new _ vl vu vs) pl pu ps (by decide) ?_ (by rw [List.size_toArray]; omega)
    rw [PySem.W.krv_pick]
    refine ⟨.ref _, _, I5.laid (t' := s4.toks) (o := .lst xs.reverse) (fun b ob q => Heap.get?_push_of_some _ q) (Nat.le_refl _) ?_, rfl, q _ (I5.hok.fresh (Nat.le_refl _))⟩
    exact ⟨by rw [List.length_reverse]; exact hz, _, 0, r.reverse, Heap.get?_push_size _ rfl⟩
  · obtain ⟨its, r, ht, hz⟩ := I5.tuple hx
    have hlen := r.length
    refine tail_any (ops := [.ref a, .ref s4.heap.objs.size]) ht.typeIs (PyProof.Rows.slot_tuple_getitem.lookup) ?_ (by with_unfolding_all rfl)
    refine getItem_tuple_rev ht (Heap.IsSliceOf.new _ vl vu vs) pl pu ps ?_ (by rw [List.size_toArray]; omega)
    refine ⟨.ref _, _, I5.laid (t' := s4.toks) (o := .tup xs.reverse) (fun b ob q => Heap.get?_push_of_some _ q) (Nat.le_refl _) ?_, rfl, q _ (I5.hok.fresh (Nat.le_refl _))⟩
    exact ⟨by rw [List.length_reverse]; exact hz, _, r.reverse, IsTup.new _ _⟩
theorem s_sliceRev {X : Cx} {L : Lg} {W : WX} {Φ : Fns} {a : E} {x : Expr} {k : Nat} {p1 p2 p3 pos : Pos} (ha : PE X x (tE X.K L W Φ a)) : PE X (.Subscript x (.Slice none none (some (.UnaryOp .USub (.Constant (.int 1) k p1) p2)) p3) pos) (tE X.K L W Φ (.sliceRev a)) := by
  refine (pe_revA ha).imp fun σ H Q ⟨fr, B, μ, oa, ρ, M, rel, h⟩ => ?_
  rw [ev] at h
  refine tE_first rel h fun H1 μ1 d1 M1 v1 r1 e1 p1 h1 => ?_
  obtain ⟨d, hd, h2⟩ := of_ok h1
  cases p1 with
  | tup t rs =>
    cases hd
    exact ⟨_, _, rfl, .inr ⟨t.sq, fun p hp => Pst.fin r1 (same_upd hp) h2 _ (new_tup r1.bt hp rs.reverse)⟩⟩
  | lst t rs =>
    cases hd
    exact ⟨_, _, rfl, .inl ⟨t.sq, fun p hp => Pst.fin r1 (same_upd hp) h2 _ (new_lst r1.bt hp rs.reverse)⟩⟩
  | non => cases hd
  | bl _ => cases hd
  | int _ => cases hd
  | str _ => cases hd
  | frz _ _ => cases hd
  | cell _ => cases hd
end PC

namespace PC
open PySem PySem.Spec PyProof.Rows L2
theorem D.ints_eq : ∀ {xs : List D} {r : List Int}, D.ints xs = some r → xs = r.map .int
  | [], r, h => by simp [D.ints] at h; subst h; rfl
  | d :: xs, r, h => by
    cases d <;> simp [D.ints] at h
    obtain ⟨r', h1, rfl⟩ := h
    rw [D.ints_eq h1]
    rfl
theorem D.ints_map : ∀ r : List Int, D.ints (r.map .int) = some r
  | [] => rfl
  | x :: r => by
    show (D.ints (r.map .int)).map (x :: ·) = _
    rw [D.ints_map r]
    rfl
theorem D.rows_eq : ∀ {xs : List D} {rs : List (List Int)}, D.rows xs = some rs → xs = rs.map fun r => .tup (r.map .int)
  | [], rs, h => by simp [D.rows] at h; subst h; rfl
  | d :: xs, rs, h => by
    cases d <;> simp only [D.rows] at h <;> try cases h
    rename_i ys
    cases e1 : D.ints ys with
    | none => rw [e1] at h; cases h
    | some a =>
      cases e2 : D.rows xs with
      | none => rw [e1, e2] at h; cases h
      | some b =>
        rw [e1, e2] at h
        cases h
        rw [D.rows_eq e2, D.ints_eq e1]
        rfl
def inlL (r : List Int) : List (Int ⊕ List Nat) := r.map Sum.inl
theorem ltI_lex : ∀ a b : List Int, D.ltI a b = lexLt itemOrd (inlL a) (inlL b)
  | [], [] => rfl
  | [], _ :: _ => rfl
  | _ :: _, [] => rfl
  | x :: a, y :: b => by
    show (decide (x < y) || (!decide (y < x) && D.ltI a b)) = (decide (x < y) || (!decide (y < x) && lexLt itemOrd (inlL a) (inlL b)))
    rw [ltI_lex a b]
/-- ordered: no later one is less -/
def Ord (l : List (List Int)) : Prop := l.Pairwise fun a b => D.ltI b a = false
theorem ltI_irr (a : List Int) : D.ltI a a = false := by rw [ltI_lex]; exact (listOrd itemOrd).irrefl _
theorem ltI_anti {a b : List Int} (h1 : D.ltI a b = false) (h2 : D.ltI b a = false) : a = b := by
  rw [ltI_lex] at h1 h2
  have e := (listOrd itemOrd).total _ _ h1 h2
  exact (List.map_inj_right fun x y h => Sum.inl.inj h).mp e
theorem ltI_neg {a b c : List Int} (h1 : D.ltI b a = false) (h2 : D.ltI c b = false) : D.ltI c a = false := by
  rw [ltI_lex] at h1 h2 ⊢
  cases e : lexLt itemOrd (inlL c) (inlL a) with
  | false => rfl
  | true =>
    rcases (listOrd itemOrd).negTrans _ (inlL b) _ e with h | h
    · have h' : lexLt itemOrd (inlL c) (inlL b) = true := h
      rw [h'] at h2; cases h2
    · have h' : lexLt itemOrd (inlL b) (inlL a) = true := h
      rw [h'] at h1; cases h1
theorem ltI_asym {a b : List Int} (h : D.ltI a b = true) : D.ltI b a = false := by
  cases e : D.ltI b a with
  | false => rfl
  | true =>
    rw [ltI_lex] at h e
    have := (listOrd itemOrd).trans _ _ _ h e
    rw [(listOrd itemOrd).irrefl] at this
    cases this
theorem ins_perm {α : Type} (lt : α → α → Bool) (x : α) : ∀ l : List α, (ins lt x l).Perm (x :: l)
  | [] => .refl _
  | y :: l => by
    unfold ins
    split
    · exact .refl _
    · exact ((ins_perm lt x l).cons y).trans (.swap x y l)
theorem isort_perm {α : Type} (lt : α → α → Bool) : ∀ l : List α, (isort lt l).Perm l
  | [] => .refl _
  | x :: l => (ins_perm lt x _).trans ((isort_perm lt l).cons x)
theorem ins_ord (x : List Int) : ∀ l : List (List Int), Ord l → Ord (ins D.ltI x l)
  | [], _ => by unfold ins Ord; exact List.pairwise_singleton _ _
  | y :: l, h => by
    have h' := List.pairwise_cons.mp h
    unfold ins
    split
    · rename_i hlt
      refine List.pairwise_cons.mpr ⟨fun z hz => ?_, h⟩
      rcases List.mem_cons.mp hz with rfl | hz
      · exact ltI_asym hlt
      · exact ltI_neg (ltI_asym hlt) (h'.1 z hz)
    · rename_i hlt
      refine List.pairwise_cons.mpr ⟨fun z hz => ?_, ins_ord x l h'.2⟩
      rcases List.mem_cons.mp ((ins_perm D.ltI x l).mem_iff.mp hz) with rfl | hz
      · exact Bool.eq_false_iff.mpr hlt
      · exact h'.1 z hz
theorem isort_ord : ∀ l : List (List Int), Ord (isort D.ltI l)
  | [] => List.Pairwise.nil
  | x :: l => ins_ord x _ (isort_ord l)
/-- two ordered lists of the same rows are one -/
theorem ord_uniq : ∀ {l m : List (List Int)}, Ord l → Ord m → l.Perm m → l = m
  | [], m, _, _, h => (List.nil_perm.mp h).symm
  | x :: l, [], _, _, h => absurd (List.perm_nil.mp h) (by simp)
  | x :: l, y :: m, hl, hm, h => by
    have hl' := List.pairwise_cons.mp hl
    have hm' := List.pairwise_cons.mp hm
    have e : x = y := by
      refine ltI_anti ?_ ?_
      · rcases List.mem_cons.mp (h.mem_iff.mp List.mem_cons_self) with e | hx
        · rw [e]; exact ltI_irr _
        · exact hm'.1 x hx
      · rcases List.mem_cons.mp (h.mem_iff.mpr List.mem_cons_self) with e | hy
        · rw [e]; exact ltI_irr _
        · exact hl'.1 y hy
    subst e
    rw [ord_uniq hl'.2 hm'.2 h.cons_inv]
theorem isort_eq {l m : List (List Int)} (ho : Ord l) (hp : l.Perm m) : l = isort D.ltI m := ord_uniq ho (isort_ord m) (hp.trans (isort_perm D.ltI m).symm)
def rowOf (h : Heap) (u : Value) : List Int := match G.tupKeyC h (fun _ => false) u with
  | some l => l.filterMap fun x => match x with | .inl i => some i | .inr _ => none
  | none => []
theorem rowOf_of {h : Heap} {u : Value} {r : List Int} (e : G.tupKeyC h (fun _ => false) u = some (inlL r)) : rowOf h u = r := by
  unfold rowOf
  rw [e]
  show (inlL r).filterMap _ = r
  unfold inlL
  rw [List.filterMap_map]
  clear e
  induction r with
  | nil => rfl
  | cons x r ih => simp [List.filterMap_cons, ih]
theorem tupItems_ints : ∀ {us : List Value} {ns : List Int} (i : Nat), IntsAre us ns → tupItems (fun _ => false) i us = some (inlL ns)
  | _, _, _, .nil => rfl
  | _, _, i, .cons n t r => by
    show (tupItems (fun _ => false) (i + 1) _).map _ = _
    rw [tupItems_ints (i + 1) r]
    rfl
section
variable {X : Cx}
theorem row_facts {pins : List (Addr × Obj)} {s : Shared} {σ : L2.St} {H : Hp} (I : Inv X pins σ H s) {a : Addr} {r : List Int} (h : SqT X.K H a (r.map V.int)) :
    G.tupKeyC s.heap (fun _ => false) (.ref a) = some (inlL r) ∧ (r ≠ [] → ∃ f, TupOf s.heap (fun _ => false) (.ref a) f) := by
  obtain ⟨its, rv, ⟨⟨cls, dd, data, sl⟩, ho, hc, n, hd⟩, hz⟩ := I.tuple h
  simp only at hc hd
  subst hc hd
  have hi := intsAre_of rv
  refine ⟨?_, fun hr => ?_⟩
  · unfold G.tupKeyC
    have h1 : G.isTupObj s.heap (.ref a) = true := by
      simp only [G.isTupObj, ho]
      rfl
    rw [if_pos h1]
    simp only [tupKey, ho]
    exact tupItems_ints 0 (by simpa using hi)
  · cases hi with
    | nil => exact absurd rfl hr
    | cons k t rest => exact ⟨.int k t, a, _, _, n, rfl, ho, rfl, rfl, rfl, fun _ => ⟨k, t, rfl⟩, fun z => by cases z⟩
theorem c_sorted : CallR X (.builtin "sorted") (rBi X.K .sorted) := by
  intro pins s σ H xs us Q I r ⟨B, μ, M, d, d', v, cs, bt, rp, e, hd, q⟩
  cases rp with
  | tup t rs => cases hd
  | @cell n a hm => cases hd
  | str x => cases hd
  | non => cases hd
  | bl _ => cases hd
  | int _ => cases hd
  | frz t rs => cases hd
  | @lst a vs ds t rs =>
    simp only [lenM, Bi.run] at hd
    cases er : D.rows ds with
    | none => rw [er] at hd; cases hd
    | some rows =>
      rw [er] at hd
      dsimp only at hd
      split at hd
      · rename_i hok
        cases hd
        obtain ⟨hsz, hne⟩ := hok
        have eds := D.rows_eq er
        subst eds
        subst e
        obtain ⟨u, rfl, ru⟩ := vals1 r
        obtain rfl : u = Value.ref a := ru
        obtain ⟨its, rv, hl, hz⟩ := I.list t.sq
        -- each item is a row
        have each : ∀ (i : Nat) (rw_ : List Int), rows[i]? = some rw_ → ∃ b, vs[i]? = some (.ref b) ∧ its[i]? = some (.ref b) ∧ SqT X.K H b (rw_.map V.int) ∧ Rp X.K H B μ (.tup (rw_.map .int)) (.ref b) := fun i rw_ hi => by
          have h1 : (rows.map fun r => D.tup (r.map .int))[i]? = some (.tup (rw_.map .int)) := by rw [List.getElem?_map, hi]; rfl
          obtain ⟨v, h2, h3⟩ := rs.get h1
          obtain ⟨u, h4, h5⟩ := rv.get h2
          cases h3 with
          | tup t2 rs2 =>
            have := rs2.ints (is := rw_) (D.ints_map rw_)
            subst this
            cases h5
            exact ⟨_, h2, h4, t2.sq, .tup t2 rs2⟩
        have hlen : rows.length = its.length := by rw [← rv.length, ← rs.length, List.length_map]
        have hits : ∀ u ∈ its, ∃ b rw_, u = .ref b ∧ SqT X.K H b (rw_.map V.int) ∧ Rp X.K H B μ (.tup (rw_.map .int)) (.ref b) ∧ rw_ ∈ rows := fun u hu => by
          obtain ⟨i, hi, e⟩ := List.getElem_of_mem hu
          have h1 : rows[i]? = some rows[i] := List.getElem?_eq_getElem (by omega)
          obtain ⟨b, _, h2, h3, h4⟩ := each i _ h1
          rw [List.getElem?_eq_getElem hi, e] at h2
          exact ⟨b, rows[i], Option.some.inj h2, h3, h4, List.getElem_mem _⟩
        have hrow : ∀ u ∈ its, Rp X.K H B μ (.tup ((rowOf s.heap u).map .int)) (backV u) ∧ (∃ b, u = .ref b) ∧ G.tupKeyC s.heap (fun _ => false) u = some (inlL (rowOf s.heap u)) := fun u hu => by
          obtain ⟨b, rw_, rfl, h1, h2, _⟩ := hits u hu
          have hk := (row_facts I h1).1
          rw [rowOf_of hk]
          exact ⟨h2, ⟨b, rfl⟩, hk⟩
        have hmap : its.map (rowOf s.heap) = rows := by
          apply List.ext_getElem?
          intro i
          rw [List.getElem?_map]
          by_cases hi : i < rows.length
          · obtain ⟨b, _, h2, h3, _⟩ := each i _ (List.getElem?_eq_getElem hi)
            rw [h2, List.getElem?_eq_getElem hi]
            exact congrArg some (rowOf_of (row_facts I h3).1)
          · rw [List.getElem?_eq_none (by omega), List.getElem?_eq_none (by omega)]
            rfl
        have keys : KeysOf (G.tupKindC s.heap fun _ => false) (pairsOf its) := G.tupKeys fun u hu => ⟨_, (hrow u hu).2.2⟩
        refine G.sortedG (κ := G.tupKindC s.heap fun _ => false) (kd := tuples' true) hl.isList keys (fun s₂ k => G.tupC_ltAt (s := s₂) true k) (fun h2 A' E' s₂ Q' k hq => ?_) (by rw [← hlen]; simpa using hsz) fun st' hperm hsort hstab => ?_
        · have hne' : ∀ r ∈ rows, r ≠ [] := by
            rcases hne with z | z
            · omega
            · intro r hr er
              have := (List.all_eq_true.mp z) r hr
              rw [er] at this
              cases this
          have ht : ∀ l : List Value, (∀ u ∈ l, u ∈ its) → ∃ fs, TupsOf s.heap (fun _ => false) l fs := fun l => by
            induction l with
            | nil => exact fun _ => ⟨[], .nil⟩
            | cons u l ih =>
              intro hm
              obtain ⟨fs, h1⟩ := ih fun u hu => hm u (List.mem_cons_of_mem _ hu)
              obtain ⟨b, rw_, rfl, h3, h4, h5⟩ := hits u (hm u List.mem_cons_self)
              obtain ⟨f, h6⟩ := (row_facts I h3).2 (hne' _ h5)
              exact ⟨f :: fs, .cons h6 h1⟩
          obtain ⟨fs, hfs⟩ := ht its fun _ h => h
          exact tup_kind (s := s₂) (by rw [G.TupsOf.length hfs]; omega) (G.TupsOf.keep k hfs) hq
        · -- the result
          have hmem : ∀ p ∈ (arrOf st').toList, p.1 = p.2 ∧ p.1 ∈ its := fun p hp => by
            have : p ∈ (pairsOf its).toList := (Array.perm_iff_toList_perm.mp hperm).mem_iff.mp hp
            rw [pairsOf_toList] at this
            exact mem_zip_self this
          have houtmem : ∀ u ∈ ((arrOf st').map (·.2)).toList, u ∈ its := fun u hu => by
            rw [Array.toList_map] at hu
            obtain ⟨p, hp, rfl⟩ := List.mem_map.mp hu
            obtain ⟨e1, e2⟩ := hmem p hp
            rw [← e1]; exact e2
          have hperm2 : ((arrOf st').map (·.2)).toList.Perm its := by
            rw [Array.toList_map]
            have h1 := (Array.perm_iff_toList_perm.mp hperm).map (·.2)
            rw [pairsOf_toList] at h1
            refine h1.trans ?_
            have : (its.zip its).map (·.2) = its := by
              clear h1
              have gen : ∀ l : List Value, (l.zip l).map (·.2) = l := fun l => by
                induction l with
                | nil => rfl
                | cons x l ih => simp [ih]
              exact gen its
            rw [this]
          have hout : ((arrOf st').map (·.2)).toList.map (rowOf s.heap) = isort D.ltI rows := by
            refine isort_eq ?_ (by rw [← hmap]; exact hperm2.map _)
            rw [Array.toList_map, List.map_map]
            unfold Ord
            rw [List.pairwise_iff_getElem]
            intro i j hi hj hij
            rw [List.getElem_map, List.getElem_map]
            rw [List.length_map] at hi hj
            have hsz2 : (arrOf st').size = (pairsOf its).size := hperm.size_eq
            have hs := hsort i j (Nat.le_of_lt hij) (by rw [← hsz2]; simpa using hj)
            have kk : ∀ (m : Nat) (hm : m < (arrOf st').toList.length), KK (G.tupKindC s.heap fun _ => false) (arrOf st') m = inlL (rowOf s.heap (arrOf st').toList[m].2) := fun m hm => by
              have hm' : m < (arrOf st').size := by simpa using hm
              have e1 : (arrOf st')[m]? = some (arrOf st').toList[m] := by simp [hm']
              obtain ⟨q1, q2⟩ := hmem _ (List.getElem_mem hm)
              show (match (arrOf st')[m]? with | some p => (G.tupKeyC s.heap (fun _ => false) p.1).getD [] | none => []) = _
              rw [e1]
              dsimp only
              rw [(hrow _ q2).2.2, q1]
              rfl
            rw [kk i hi, kk j hj] at hs
            show D.ltI (rowOf s.heap (arrOf st').toList[j].2) (rowOf s.heap (arrOf st').toList[i].2) = false
            rw [ltI_lex]
            exact hs
          have hrps : ∀ l : List Value, (∀ u ∈ l, u ∈ its) → Rps X.K H B μ (l.map fun u => .tup ((rowOf s.heap u).map .int)) (l.map backV) := fun l => by
            induction l with
            | nil => exact fun _ => .nil
            | cons u l ih => exact fun hm => .cons (hrow u (hm u List.mem_cons_self)).1 (ih fun u hu => hm u (List.mem_cons_of_mem _ hu))
          obtain ⟨n, hn⟩ := sortedAll_at s.heap its ((arrOf st').map (·.2))
          have hfr : H (s.heap.objs.size + 1) = none := I.hok.fresh (Nat.le_succ _)
          have R := hrps _ houtmem
          have eD : (((arrOf st').map (·.2)).toList.map fun u => D.tup ((rowOf s.heap u).map .int)) = (isort D.ltI rows).map fun r => .tup (r.map .int) := by
            rw [← hout, List.map_map]
            rfl
          rw [eD] at R
          have hlen2 : (((arrOf st').map (·.2)).toList.map backV).length ≤ sizeLine := by
            rw [List.length_map, hperm2.length_eq, ← hlen]
            simpa using hsz
          refine ⟨.ref (s.heap.objs.size + 1), upd H (s.heap.objs.size + 1) (.lst (((arrOf st').map (·.2)).toList.map backV)), I.laid (t' := s.toks) (fun b o e => sortedAll_old e) (Nat.le_succ _) ⟨hlen2, ((arrOf st').map (·.2)).toList, n, vals_back fun u hu => (hrow u (houtmem u hu)).2.1, ?_⟩, rfl, q _ _ (same_upd hfr) (new_lst bt hfr R)⟩
          rw [hn, Array.toArray_toList]
      · cases hd
end
end PC

namespace PC
open PySem PySem.Spec PyProof.Rows L2
section
variable {X : Cx} {L : Lg} {W : WX} {Φ : Fns} {a b c i : E} {es : Es} {x y z : Expr} {xs : List Expr} {pos : Pos}
def Ty.nm : Ty → String | .int => "int" | .bool => "bool" | .str => "str" | .tuple => "tuple" | .list => "list"
def D.tyN : D → String | .non => "NoneType" | .bl _ => "bool" | .int _ => "int" | .str _ => "str" | .tup _ => "tuple" | .lst _ => "list" | .frz _ => "list" | .cell _ => ""
theorem Ty.kit {K : PySem.W.Frag} {t : Ty} {d : D} {r : Bool} (h : t.is d = some r) : PySem.W.kitOne K (.type d.tyN) (.type t.nm) = some r := by
  refine kit_ty ?_
  cases t <;> cases d <;> simp only [Ty.is] at h <;> cases h <;> (dsimp only [D.tyN, Ty.nm]; decide +kernel)
theorem Rp.tyx {K : PySem.W.Frag} {H : Hp} {B : Addr → Prop} {μ : List Addr} {d : D} {v : V} {t : Ty} {r : Bool} (rp : Rp K H B μ d v) (h : t.is d = some r) : TyX K H v (.type d.tyN) := by
  cases rp with
  | non => exact .base .non
  | bl x => exact .base (.bl x)
  | int x => exact .base (.int x)
  | str x => exact .base (.str x)
  | tup t rs =>
    rcases t with ⟨h | ⟨o, h⟩, _⟩ | h
    · exact .base (.tup h)
    · exact .fTuple h
    · rcases h (fun _ => none) with (h | ⟨_, h⟩) | ⟨o, its, n, h, hc, _⟩
      · cases h
      · cases h
      · exact .kTuple h hc
  | lst t rs => exact .base (.lst t.1)
  | frz _ rs => cases t <;> simp [Ty.is] at h
  | cell _ => cases t <;> simp [Ty.is] at h
theorem Ty.kits {K : PySem.W.Frag} {d : D} : ∀ {ts : List Ty} {r : Bool}, Ty.any ts d = some r → PySem.W.kitAny K (.type d.tyN) (ts.map fun t => .type t.nm) = some r
  | [], r, h => by cases h; exact kitAny_nil
  | t :: ts, r, h => by
    simp only [Ty.any] at h
    cases e : t.is d with
    | none => rw [e] at h; cases h
    | some k =>
      rw [e] at h
      cases k with
      | true => cases h; exact kitAny_cons (Ty.kit e) (fun z => nomatch z) fun _ => rfl
      | false => exact kitAny_cons (Ty.kit e) (fun _ => Ty.kits h) fun z => nomatch z
def Ty.id (t : Ty) : Str := Str.ofString t.nm
theorem Ty.boot (t : Ty) : bootBuiltins t.id = some (.type t.nm) := by cases t <;> decide +kernel
theorem Ty.nn (t : Ty) : t.id ≠ "__name__" := by cases t <;> decide +kernel
theorem Ty.nd (t : Ty) : (t.id == ("__debug__" : Str)) = false := by cases t <;> decide +kernel
theorem s_isi {t : Ty} {p q : Pos} (hg : Gl X "isinstance") (hm : X.mg "isinstance" = none) (hgt : Gl X t.id) (hmt : X.mg t.id = none) (ha : PE X x (tE X.K L W Φ a))
    (hs : starEach [x, .Name t.id q] X.env = (false, eval x X.env) :: starEach [.Name t.id q] X.env) : PE X (.Call (.Name "isinstance" p) [x, .Name t.id q] [] pos) (tE X.K L W Φ (.isi a [t])) := by
  refine (pe_callB call_isi hg hm boot_isinstance (pa_cons ha (pa_cons (pe_bltn (v := .ty t.nm) hgt hmt t.boot rfl t.nn t.nd) pa_nil) hs) (by decide) (by decide) hs).imp fun σ H Q ⟨fr, B, μ, oa, ρ, M, rel, h⟩ => ?_
  rw [ev] at h
  refine tE_first rel h fun H1 μ1 d1 M1 v1 r1 e1 p1 h1 => ?_
  obtain ⟨d, hd, h2⟩ := of_ok h1
  simp only [Ty.any] at hd
  cases e : t.is d1 with
  | none => rw [e] at hd; cases hd
  | some k =>
    rw [e] at hd
    have hk : d = .bl k := by cases k <;> (cases hd; rfl)
    subst hk
    exact ⟨v1, .ty t.nm, .type d1.tyN, .type t.nm, k, rfl, .ty _, p1.tyx e, Ty.kit e, Pst.fin r1 (Same.refl _) h2 _ (.bl _)⟩
/-- the names of built-in types, as a tuple's items -/
inductive TyNames (X : Cx) : List Ty → List Expr → Prop
  | nil : TyNames X [] []
  | cons {t : Ty} {ts : List Ty} {q : Pos} {es : List Expr} : Gl X t.id → X.mg t.id = none → TyNames X ts es → TyNames X (t :: ts) (.Name t.id q :: es)
theorem TyNames.pa : ∀ {ts : List Ty} {es : List Expr}, TyNames X ts es → PA X es (fun _ H Q => Q (ts.map fun t => .ty t.nm) H)
  | _, _, .nil => pa_nil
  | t :: ts, _, .cons g m r => (pa_cons (pe_bltn (v := .ty t.nm) g m t.boot rfl t.nn t.nd) r.pa rfl).imp fun σ H Q h => h
theorem s_isiT {ts : List Ty} {tes : List Expr} {k : Nat} {p q : Pos} (hg : Gl X "isinstance") (hm : X.mg "isinstance" = none) (ht : TyNames X ts tes) (hn : ts.length ≤ 20) (hne : ts ≠ []) (ha : PE X x (tE X.K L W Φ a))
    (hs : starEach [x, .Tuple tes k q] X.env = (false, eval x X.env) :: starEach [.Tuple tes k q] X.env) : PE X (.Call (.Name "isinstance" p) [x, .Tuple tes k q] [] pos) (tE X.K L W Φ (.isi a ts)) := by
  refine (pe_callB call_isiT hg hm boot_isinstance (pa_cons ha (pa_cons (pe_tup ht.pa) pa_nil) hs) (by decide) (by decide) hs).imp fun σ H Q ⟨fr, B, μ, oa, ρ, M, rel, h⟩ => ?_
  rw [ev] at h
  refine tE_first rel h fun H1 μ1 d1 M1 v1 r1 e1 p1 h1 => ?_
  obtain ⟨d, hd, h2⟩ := of_ok h1
  cases e : Ty.any ts d1 with
  | none => rw [e] at hd; cases hd
  | some r =>
    rw [e] at hd
    cases hd
    refine ⟨by rw [List.length_map, sizeLine_eq]; omega, fun tp htp => ?_⟩
    have p2 := p1.mono (Same.kp (same_upd (o := .tup (ts.map fun t => V.ty t.nm)) htp))
    have tx : TyX X.K (upd H1 tp (.tup (ts.map fun t => V.ty t.nm))) v1 (.type d1.tyN) := by
      cases ts with
      | nil => exact absurd rfl hne
      | cons t ts =>
        simp only [Ty.any] at e
        cases e2 : t.is d1 with
        | none => rw [e2] at e; cases e
        | some k => exact p2.tyx e2
    have pc : ∀ ts : List Ty, Paired ClsV (ts.map fun t => V.ty t.nm) (ts.map fun t => Value.type t.nm) := fun ts => by
      induction ts with
      | nil => exact .nil
      | cons t ts ih => exact .cons (.ty _) ih
    exact ⟨v1, tp, _, .type d1.tyN, _, r, rfl, upd_same, pc ts, tx, Ty.kits e, Pst.fin r1 (same_upd htp) h2 _ (.bl _)⟩

/-- what a def of the core promises -/
def spD (K : PySem.W.Frag) (L : Lg) (Φ : Fns) (f n : Nat) : Sp := fun vs H Q E => ∃ B μ M ds, vs.length = n ∧ Cs K H (ban B μ) μ M ∧ (∀ a, ban B μ a → H a ≠ none) ∧ Rps K H (ban B μ) μ ds vs ∧
  match Φ f ds M with
  | .ok d M' => ∀ v H' μ', Evo μ H μ' H' → Cs K H' (ban B μ') μ' M' → (∀ a, ban B μ' a → H' a ≠ none) → Rp K H' (ban B μ') μ' d v → Q v H'
  | .err x M' => ∀ cls dd H' μ', Evo μ H μ' H' → Cs K H' (ban B μ') μ' M' → (∀ a, ban B μ' a → H' a ≠ none) → L.xr H' x cls dd → E cls dd H'
  | .bad => False
/-- a def of the table stands in the text and keeps its promise -/
structure DefOk (X : Cx) (L : Lg) (lv : Nat) (Φ : Fns) (f : Nat) (fd : FD) (ad : Addr) (fdat : FuncData) : Prop where
  mg : X.mg fd.name = some (.ref ad)
  kp : PySem.W.keepIn X.K (.ref ad) = true
  bd : Binds X.K fdat fd.ps []
  ok : FnOk X.prog X.w X.K X.mg X.base (L2.CX X.prog X.w) lv ad fdat fd.ps (spD X.K L Φ f fd.ps.length)
def TabOk (X : Cx) (L : Lg) (T : Nat → Option FD) (lv : Nat) (Φ : Fns) : Prop := ∀ f fd, T f = some fd → ∃ ad fdat, DefOk X L lv Φ f fd ad fdat
theorem sp_of_call {K : PySem.W.Frag} {fr : Fr} {H : Hp} {B : Addr → Prop} {μ : List Addr} {oa : Nat → Option Addr} {ρ : Ev} {M : Mem} {σ : L2.St} {f n : Nat} {ds : List D} {vs : List V} {R : Hp → List Addr → D → Mem → Prop} {Q : VK} (rel : Rl K fr B μ oa ρ M σ H) (hl : vs.length = n) (rs : Rps K H (ban B μ) μ ds vs)
    (h : Pst K L W fr B μ oa ρ σ H (Φ f ds M) R) (g : ∀ H' μ' d M' v, R H' μ' d M' → Rp K H' (ban B μ') μ' d v → Q v H') : spD K L Φ f n vs H Q (WE W σ) := by
  refine ⟨B, μ, M, ds, hl, rel.cs, rel.bt, rs, ?_⟩
  cases e : Φ f ds M with
  | ok d M' =>
    rw [e] at h
    exact fun v H' μ' ev cs bt rp => g H' μ' d M' v (h H' μ' ev (rel.after ev cs bt)) rp
  | err x M' =>
    rw [e] at h
    exact fun cls dd H' μ' ev cs bt hx => h cls dd H' μ' ev (rel.after ev cs bt) hx
  | bad =>
    rw [e] at h
    exact h
theorem pe_callS0 {CX : CXT} {k : Nat} {f : Addr} {fd : FuncData} {ps : List Str} {sp : Sp} {E : L2.St → XK} {n : Str} {p : Pos} (F : FnOk X.prog X.w X.K X.mg X.base CX k f fd ps sp) (hr : Room k X.A) (hg : Gl X n) (hm : X.mg n = some (.ref f)) (hk : PySem.W.keepIn X.K (.ref f) = true) (hb : Binds X.K fd ps []) (hx : ∀ σ, PassesAt CX X σ (E σ))
    (hdb : (n == ("__debug__" : Str)) = false) : PE X (.Call (.Name n p) [] [] pos) (tCallS sp E tNil) := by
  refine ⟨fun pins s σ H Q I h => ?_⟩
  refine wpAny_Call_Name_kw (ld_glob I hg hm ?_ hdb)
  exact PySem.W.callWith_K0 I.kIn hk (run_fnS (us := []) F hr hb (hx σ) I .nil h)
theorem s_call0 {lv f : Nat} {fd : FD} {ad : Addr} {fdat : FuncData} {p : Pos} (F : DefOk X L lv Φ f fd ad fdat) (hr : Room lv X.A) (hg : Gl X fd.name) (tk : Takes X W) (hn : fd.ps.length = 0) (hdb : (fd.name == ("__debug__" : Str)) = false) :
    PE X (.Call (.Name fd.name p) [] [] pos) (tE X.K L W Φ (.call f .nil)) := by
  refine (pe_callS0 F.ok hr hg F.mg F.kp F.bd (fun σ => passAt tk σ) hdb).imp fun σ H Q ⟨fr, B, μ, oa, ρ, M, rel, h⟩ => ?_
  rw [ev, evs] at h
  exact sp_of_call (vs := []) rel hn.symm .nil h fun H' μ' d M' v hR rp => hR v rp
theorem s_call {lv f : Nat} {fd : FD} {ad : Addr} {fdat : FuncData} {p : Pos} (F : DefOk X L lv Φ f fd ad fdat) (hr : Room lv X.A) (hg : Gl X fd.name) (tk : Takes X W) (hn : fd.ps.length = (x :: xs).length) (hdb : (fd.name == ("__debug__" : Str)) = false)
    (ha : PA X (x :: xs) (tEs X.K L W Φ es)) (hl : ∀ ρ M ds M', evs Φ es ρ M = .ok ds M' → ds.length = (x :: xs).length)
    (he : starEach (x :: xs) X.env = (false, eval x X.env) :: starEach xs X.env) (hpl : (backTo pos (starEach xs X.env)).any (·.1) = false) :
    PE X (.Call (.Name fd.name p) (x :: xs) [] pos) (tE X.K L W Φ (.call f es)) := by
  refine (pe_callS F.ok hr hg F.mg F.kp F.bd (fun σ => passAt tk σ) ha hdb he hpl).imp fun σ H Q ⟨fr, B, μ, oa, ρ, M, rel, h⟩ => ?_
  rw [ev] at h
  have hl' := hl ρ M
  cases e : evs Φ es ρ M with
  | bad => rw [e] at h; exact h.elim
  | err x1 M1 => 
    refine ⟨fr, B, μ, oa, ρ, M, rel, ?_⟩
    rw [e] at h ⊢
    exact h
  | ok ds M1 =>
    have hlen := hl' ds M1 e
    rw [e] at h
    refine ⟨fr, B, μ, oa, ρ, M, rel, ?_⟩
    rw [e]
    intro H1 μ1 e1 r1 vs p1
    have h1 : Pst X.K L W fr B μ1 oa ρ σ H1 (Φ f ds M1) _ := Pst.shift e1 rel.tr (r1.later_tr e1) h
    exact sp_of_call r1 (by rw [← p1.length, hlen, hn]) p1 h1 fun H' μ' d M' v hR rp => hR v rp
end
end PC

set_option maxHeartbeats 2000000
namespace PC
open PySem PySem.Spec PyProof.Rows L2
/-- a kind of iterator over a kind of sequence -/
structure ItKd (P : Program) (w : World) (It : Heap → Addr → Addr → Nat → Prop) (Sq : Heap → Addr → Array Value → Prop) : Prop where
  itB : ∀ {c : Addr} {h h' : Heap} {j l : Addr} {k : Nat}, It h j l k → Heap.ExtBut c h h' → j ≠ c → It h' j l k
  sqB : ∀ {c : Addr} {h h' : Heap} {l : Addr} {xs : Array Value}, Sq h l xs → Heap.ExtBut c h h' → l ≠ c → Sq h' l xs
  itA : ∀ {h h' : Heap} {j l : Addr} {k : Nat}, It h j l k → (∀ o, h.get? j = some o → h'.get? j = some o) → It h' j l k
  itO : ∀ {h : Heap} {j l : Addr} {k : Nat}, It h j l k → ∃ o fs, h.get? j = some o ∧ o.data = .fields fs
  nxt : ∀ {A : Around} {E : Value → Shared → Prop} {s : Shared} {j l : Addr} {k : Nat} {xs : Array Value} {x : Value} {Q : Value → Shared → Prop}, It s.heap j l k → Sq s.heap l xs → xs[k]? = some x →
    (∀ h', It h' j l (k + 1) → Heap.SameBut j s.heap h' → Q x { s with heap := h' }) → wpAny (model P w) A (Builtin.SmallTypes.nextOf (.ref j)) Q E s
  fin : ∀ {A : Around} {E : Value → Shared → Prop} {s : Shared} {j l : Addr} {k : Nat} {xs : Array Value} {Q : Value → Shared → Prop}, A.handled = none → It s.heap j l k → Sq s.heap l xs → xs[k]? = none →
    (∀ h' e, Heap.ExtBut j s.heap h' → (∃ o, h'.get? e = some o ∧ o.cls = .type "StopIteration") → E (.ref e) { s with heap := h' }) → wpAny (model P w) A (Builtin.SmallTypes.nextOf (.ref j)) Q E s
theorem kdL (P : Program) (w : World) : ItKd P w Heap.IsListIter Heap.IsList :=
  ⟨fun a b c => a.extBut b c, fun a b c => a.extBut b c, fun a b => a.at b, fun ⟨o, h1, _, h2⟩ => ⟨o, _, h1, h2⟩, fun a b c d => wpAny_nextOf_list_item a b c d, fun a b c d e => wpAny_nextOf_list_end a b c d e⟩
theorem kdT (P : Program) (w : World) : ItKd P w Heap.IsTupleIter Heap.IsTuple :=
  ⟨fun a b c => a.extBut b c, fun a b c => a.extBut b c, fun a b => a.at b, fun ⟨o, h1, _, h2⟩ => ⟨o, _, h1, h2⟩, fun a b c d => RZ.nextOf_tuple_item a b c d, fun a b c d e => RZ.nextOf_tuple_end a b c d e⟩
section
variable {P : Program} {w : World} {A : Around} {E : Value → Shared → Prop} {s : Shared} {I1 I2 : Heap → Addr → Addr → Nat → Prop} {S1 S2 : Heap → Addr → Array Value → Prop}
variable {c p q u v l m : Addr} {k k' : Nat} {xs ys : Array Value} {x y a b : Value}
theorem znext (d1 : ItKd P w I1 S1) (d2 : ItKd P w I2 S2) {Q : Value → Shared → Prop} (D : ZipApart c p q u v l m)
    (ec : IsZip s.heap c p q .none) (ep : IsPair s.heap p (.ref u) (.ref v)) (eq : IsPair s.heap q a b)
    (n1 : I1 s.heap u l k) (n2 : I2 s.heap v m k') (s1 : S1 s.heap l xs) (s2 : S2 s.heap m ys) (hx : xs[k]? = some x) (hy : ys[k']? = some y)
    (hQ : ∀ h', IsZip h' c p q (rawInt s.heap.objs.size) → IsPair h' q x y → I1 h' u l (k + 1) → I2 h' v m (k' + 1) → IsPair h' s.heap.objs.size x y → h'.objs.size = s.heap.objs.size + 1 →
      (∀ e o, e ≠ c → e ≠ q → e ≠ u → e ≠ v → s.heap.get? e = some o → h'.get? e = some o) → Q (.ref s.heap.objs.size) { s with heap := h' }) :
    wpAny (model P w) A (Builtin.«zip.__next__» ⟨[.ref c], []⟩) (fun f s' => ∃ r, f = .done (.ret r) ∧ Q r s') E s := by
  show wpAny _ _ (field (.ref _) 2 >>= _) _ _ _
  refine wpAny_bind (wpAny_field ec rfl (x := .bool false) rfl ?_); show wpAny _ _ (field (.ref _) 3 >>= _) _ _ _
  refine wpAny_bind (wpAny_field ec rfl (x := .ref _) rfl ?_); refine wpAny_bind (wpAny_seqItems ep rfl ?_)
  show wpAny _ _ (Builtin.SmallTypes.ownedTupleIsFree (.ref _) >>= _) _ _ _
  refine wpAny_bind ?_; unfold Builtin.SmallTypes.ownedTupleIsFree
  refine wpAny_bind (wpAny_field ec rfl (x := .none) rfl (wpAny_pure ?_)); simp only [if_true]; refine wpAny_bind (wpAny_rule ?_)
  refine wpAny_bind (wpAny_field ec rfl (x := .ref _) rfl ?_)
  refine wpAny_bind (wpAny_setField_rec ec (by simp) fun g1 ec1 k1 => ?_)
  have ec1 : IsZip g1 c p q .ellipsis := ec1
  refine wpAny_bind ?_; simp only [List.zipIdx_cons, List.zipIdx_nil, List.forIn_cons, List.forIn_nil]
  refine wpAny_bind (wpAny_bind (wpAny_onRaise ?_)); show wpAny _ _ (Builtin.SmallTypes.nextOf (.ref u) >>= _) _ _ _
  refine wpAny_bind (d1.nxt (d1.itB n1 k1.extBut D.i1z) (d1.sqB s1 k1.extBut D.l1z) hx fun g2 n1' k2 => wpAny_pure ?_)
  have eq2 : IsPair g2 q a b := k2.extBut _ _ D.TOi1 (k1.extBut _ _ D.TOz eq)
  refine wpAny_bind (wpAny_seqItems eq2 rfl ?_); refine wpAny_bind (wpAny_updateSeq_pair eq2 fun g3 eq3 k3 => ?_)
  have eq3 : IsPair g3 q x b := eq3
  refine wpAny_bind (wpAny_letGo (wpAny_pure ?_)); refine wpAny_bind (wpAny_bind (wpAny_onRaise ?_))
  show wpAny _ _ (Builtin.SmallTypes.nextOf (.ref v) >>= _) _ _ _
  refine wpAny_bind (d2.nxt (d2.itB (d2.itB (d2.itB n2 k1.extBut D.i2z) k2.extBut D.i12.symm) k3.extBut D.TOi2.symm) (d2.sqB (d2.sqB (d2.sqB s2 k1.extBut D.l2z) k2.extBut D.l2i1) k3.extBut D.l2TO) hy fun g4 n2' k4 => wpAny_pure ?_)
  have eq4 : IsPair g4 q x b := k4.extBut _ _ D.TOi2 eq3
  refine wpAny_bind (wpAny_seqItems eq4 rfl ?_); refine wpAny_bind (wpAny_updateSeq_pair eq4 fun g5 eq5 k5 => ?_)
  have eq5 : IsPair g5 q x y := eq5
  refine wpAny_bind (wpAny_letGo (wpAny_pure (wpAny_pure ?_))); refine wpAny_bind (wpAny_seqItems eq5 rfl ?_)
  refine wpAny_bind (wpAny_newTuple ?_)
  have zs : g5.objs.size = s.heap.objs.size := by rw [k5.1, k4.1, k3.1, k2.1, k1.1]
  have ec5 : IsZip g5 c p q .ellipsis := k5.extBut _ _ D.TOz.symm (k4.extBut _ _ D.i2z.symm (k3.extBut _ _ D.TOz.symm (k2.extBut _ _ D.i1z.symm ec1)))
  have kk : ∀ e o, e ≠ c → e ≠ q → e ≠ u → e ≠ v → s.heap.get? e = some o → g5.get? e = some o := fun e o e1 e2 e3 e4 z =>
    k5.extBut _ _ e2 (k4.extBut _ _ e4 (k3.extBut _ _ e2 (k2.extBut _ _ e3 (k1.extBut _ _ e1 z))))
  have m1 : I1 g5 u l (k + 1) := d1.itB (d1.itB (d1.itB n1' k3.extBut D.TOi1.symm) k4.extBut D.i12) k5.extBut D.TOi1.symm
  have m2 : I2 g5 v m (k' + 1) := d2.itB n2' k5.extBut D.TOi2.symm
  have lc : c < g5.objs.size := Heap.lt_size ec5
  show wpAny _ _ (Builtin.SmallTypes.ownedTupleHandOut (.ref c) (.ref g5.objs.size) >>= _) _ _ _
  refine wpAny_bind ?_; unfold Builtin.SmallTypes.ownedTupleHandOut
  have ec6 : IsZip (g5.push { cls := .type "tuple", data := .seq #[x, y] }) c p q .ellipsis := Heap.get?_push_of_some _ ec5
  refine wpAny_bind (wpAny_setField_rec ec6 (by simp) fun g7 ec7 k7 => ?_)
  have ec7 : IsZip g7 c p q (rawInt g5.objs.size) := ec7
  refine wpAny_setField_rec ec7 (by simp) fun g8 ec8 k8 => ?_
  have ec8 : IsZip g8 c p q (rawInt g5.objs.size) := ec8
  have up : ∀ e o, e ≠ c → g5.get? e = some o → g8.get? e = some o := fun e o e1 z => k8.extBut _ _ e1 (k7.extBut _ _ e1 (Heap.get?_push_of_some _ z))
  have tn : IsPair g8 g5.objs.size x y := k8.extBut _ _ (Nat.ne_of_gt lc) (k7.extBut _ _ (Nat.ne_of_gt lc) (Heap.get?_push_size _ rfl))
  have z8 : g8.objs.size = g5.objs.size + 1 := by rw [k8.1, k7.1, Heap.size_push]
  rw [zs] at ec8 tn z8
  refine wpAny_pure ⟨_, rfl, ?_⟩; show Q (.ref g5.objs.size) _
  rw [zs]
  exact hQ g8 ec8 (up _ _ D.TOz eq5) (d1.itA m1 fun o z => up _ o D.i1z z) (d2.itA m2 fun o z => up _ o D.i2z z) tn z8 fun e o e1 e2 e3 e4 z => up e o e1 (kk e o e1 e2 e3 e4 z)
theorem zstop (d1 : ItKd P w I1 S1) (d2 : ItKd P w I2 S2) {Q : Fin → Shared → Prop} (hh : A.handled = none) (D : ZipApart c p q u v l m)
    (ec : IsZip s.heap c p q .none) (ep : IsPair s.heap p (.ref u) (.ref v)) (eq : IsPair s.heap q a b)
    (n1 : I1 s.heap u l k) (n2 : I2 s.heap v m k') (s1 : S1 s.heap l xs) (s2 : S2 s.heap m ys) (he : xs[k]? = none ∨ ys[k']? = none)
    (hE : ∀ h' r, (∀ e o, e ≠ c → e ≠ q → e ≠ u → e ≠ v → s.heap.get? e = some o → h'.get? e = some o) → (∃ o, h'.get? r = some o ∧ o.cls = .type "StopIteration") → E (.ref r) { s with heap := h' }) :
    wpAny (model P w) A (Builtin.«zip.__next__» ⟨[.ref c], []⟩) Q E s := by
  show wpAny _ _ (field (.ref _) 2 >>= _) _ _ _
  refine wpAny_bind (wpAny_field ec rfl (x := .bool false) rfl ?_); show wpAny _ _ (field (.ref _) 3 >>= _) _ _ _
  refine wpAny_bind (wpAny_field ec rfl (x := .ref _) rfl ?_); refine wpAny_bind (wpAny_seqItems ep rfl ?_)
  show wpAny _ _ (Builtin.SmallTypes.ownedTupleIsFree (.ref _) >>= _) _ _ _
  refine wpAny_bind ?_; unfold Builtin.SmallTypes.ownedTupleIsFree
  refine wpAny_bind (wpAny_field ec rfl (x := .none) rfl (wpAny_pure ?_)); simp only [if_true]; refine wpAny_bind (wpAny_rule ?_)
  refine wpAny_bind (wpAny_field ec rfl (x := .ref _) rfl ?_)
  refine wpAny_bind (wpAny_setField_rec ec (by simp) fun g1 ec1 k1 => ?_)
  have ec1 : IsZip g1 c p q .ellipsis := ec1
  refine wpAny_bind ?_; simp only [List.zipIdx_cons, List.zipIdx_nil, List.forIn_cons, List.forIn_nil]
  refine wpAny_bind (wpAny_bind (wpAny_onRaise ?_)); show wpAny _ _ (Builtin.SmallTypes.nextOf (.ref u) >>= _) _ _ _
  cases hx : xs[k]? with
  | none =>
    refine wpAny_bind (d1.fin hh (d1.itB n1 k1.extBut D.i1z) (d1.sqB s1 k1.extBut D.l1z) hx fun g2 r k2 er => ?_)
    obtain ⟨oe, e1, e2⟩ := er
    have ec2 : IsZip g2 c p q .ellipsis := k2 _ _ D.i1z.symm ec1
    have ne : r ≠ c := fun z => by subst z; rw [ec2] at e1; cases e1; simp at e2
    refine wpAny_setField_rec ec2 (by simp) fun g3 _ k3 => hE g3 r (fun e o e1 _ e3 _ z => k3.extBut _ _ e1 (k2 _ _ e3 (k1.extBut _ _ e1 z))) ⟨oe, k3.extBut _ _ ne e1, e2⟩
  | some x =>
    have hy : ys[k']? = none := by rcases he with h | h; rw [hx] at h; cases h; exact h
    refine wpAny_bind (d1.nxt (d1.itB n1 k1.extBut D.i1z) (d1.sqB s1 k1.extBut D.l1z) hx fun g2 n1' k2 => wpAny_pure ?_)
    have eq2 : IsPair g2 q a b := k2.extBut _ _ D.TOi1 (k1.extBut _ _ D.TOz eq)
    refine wpAny_bind (wpAny_seqItems eq2 rfl ?_); refine wpAny_bind (wpAny_updateSeq_pair eq2 fun g3 eq3 k3 => ?_)
    refine wpAny_bind (wpAny_letGo (wpAny_pure ?_)); refine wpAny_bind (wpAny_bind (wpAny_onRaise ?_))
    show wpAny _ _ (Builtin.SmallTypes.nextOf (.ref v) >>= _) _ _ _
    refine wpAny_bind (d2.fin hh (d2.itB (d2.itB (d2.itB n2 k1.extBut D.i2z) k2.extBut D.i12.symm) k3.extBut D.TOi2.symm) (d2.sqB (d2.sqB (d2.sqB s2 k1.extBut D.l2z) k2.extBut D.l2i1) k3.extBut D.l2TO) hy fun g4 r k4 er => ?_)
    obtain ⟨oe, e1, e2⟩ := er
    have ec4 : IsZip g4 c p q .ellipsis := k4 _ _ D.i2z.symm (k3.extBut _ _ D.TOz.symm (k2.extBut _ _ D.i1z.symm ec1))
    have ne : r ≠ c := fun z => by subst z; rw [ec4] at e1; cases e1; simp at e2
    refine wpAny_setField_rec ec4 (by simp) fun g5 _ k5 => hE g5 r (fun e o e1 e2 e3 e4 z => k5.extBut _ _ e1 (k4 _ _ e4 (k3.extBut _ _ e2 (k2.extBut _ _ e3 (k1.extBut _ _ e1 z))))) ⟨oe, k5.extBut _ _ ne e1, e2⟩
theorem znextP (d1 : ItKd P w I1 S1) (d2 : ItKd P w I2 S2) {Q : Option Value → Shared → Prop} (D : ZipApart c p q u v l m)
    (ec : IsZip s.heap c p q .none) (ep : IsPair s.heap p (.ref u) (.ref v)) (eq : IsPair s.heap q a b)
    (n1 : I1 s.heap u l k) (n2 : I2 s.heap v m k') (s1 : S1 s.heap l xs) (s2 : S2 s.heap m ys) (hx : xs[k]? = some x) (hy : ys[k']? = some y)
    (hQ : ∀ h', IsZip h' c p q (rawInt s.heap.objs.size) → IsPair h' q x y → I1 h' u l (k + 1) → I2 h' v m (k' + 1) → IsPair h' s.heap.objs.size x y → h'.objs.size = s.heap.objs.size + 1 →
      (∀ e o, e ≠ c → e ≠ q → e ≠ u → e ≠ v → s.heap.get? e = some o → h'.get? e = some o) → Q (some (.ref s.heap.objs.size)) { s with heap := h' }) :
    wpAny (model P w) A (pyNext (.ref c)) Q E s := by
  have T : s.TypeIs (.ref c) "zip" := ⟨_, ec, rfl⟩
  unfold pyNext
  exact wpAny_bind (wpAny_attempt (wpAny_callSpecial?_slot (name := Str.ofString "__next__") T F.slot_zip_next (wpAny_call_entry F.slot_zip_next T F.entry_zip_next
      (znext d1 d2 D ec ep eq n1 n2 s1 s2 hx hy fun h' a1 a2 a3 a4 a5 a6 a7 => wpAny_pure (hQ h' a1 a2 a3 a4 a5 a6 a7)) (F.args_zip_next_1 _))))
theorem zstopP (d1 : ItKd P w I1 S1) (d2 : ItKd P w I2 S2) {Q : Option Value → Shared → Prop} (hh : A.handled = none) (D : ZipApart c p q u v l m)
    (ec : IsZip s.heap c p q .none) (ep : IsPair s.heap p (.ref u) (.ref v)) (eq : IsPair s.heap q a b)
    (n1 : I1 s.heap u l k) (n2 : I2 s.heap v m k') (s1 : S1 s.heap l xs) (s2 : S2 s.heap m ys) (he : xs[k]? = none ∨ ys[k']? = none)
    (hQ : ∀ h', (∀ e o, e ≠ c → e ≠ q → e ≠ u → e ≠ v → s.heap.get? e = some o → h'.get? e = some o) → Q none { s with heap := h' }) : wpAny (model P w) A (pyNext (.ref c)) Q E s := by
  have T : s.TypeIs (.ref c) "zip" := ⟨_, ec, rfl⟩
  unfold pyNext
  refine wpAny_bind (wpAny_attempt (wpAny_callSpecial?_slot (name := Str.ofString "__next__") T F.slot_zip_next (wpAny_call_entry F.slot_zip_next T F.entry_zip_next
      (zstop d1 d2 hh D ec ep eq n1 n2 s1 s2 he fun h' r kk er => ?_) (F.args_zip_next_1 _))))
  obtain ⟨o, e1, e2⟩ := er
  refine wpAny_bind (wpAny_isInstance (T := "StopIteration") (b := true) ⟨o, e1, e2⟩ isSubtype_stop ?_)
  exact wpAny_pure (hQ _ kk)
end
/-- the list at a and the tuple at b -/
def ItzM (K : PySem.W.Frag) (a b : Addr) : L2.It :=
  ⟨fun i H => ∃ (xs ys : List V) (x y : V), SqL K H a xs ∧ SqT K H b ys ∧ xs[i]? = some x ∧ ys[i]? = some y,
    fun i H r H' => ∃ N x y, r = .ref N ∧ H N = none ∧ H' = upd H N (.tup [x, y]) ∧ (∀ xs, SqL K H a xs → xs[i]? = some x) ∧ ∀ ys, SqT K H b ys → ys[i]? = some y,
    fun i H => ∃ xs ys : List V, SqL K H a xs ∧ SqT K H b ys ∧ (xs.length ≤ i ∨ ys.length ≤ i)⟩
theorem turnM {P : Program} {w : World} {K : PySem.W.Frag} {es : List Expr} {kk : Nat} {tp : Pos} {a b c p q u v : Addr} (D : ZipApart c p q u v a b) :
    Turn P w K (.Tuple es kk tp) (ItzM K a b) [c, p, q, u, v] c (fun i h => IsZip h c p q .none ∧ IsPair h p (.ref u) (.ref v) ∧ (∃ x y, IsPair h q x y) ∧ h.IsListIter u a i ∧ h.IsTupleIter v b i) where
  mem := by simp
  obj := fun i h st r hr => by
    obtain ⟨ec, ep, ⟨x, y, eq⟩, n1, n2⟩ := st
    obtain ⟨o1, f1, e1, d1⟩ := (kdL P w).itO n1
    obtain ⟨o2, f2, e2, d2⟩ := (kdT P w).itO n2
    have e' : r = c ∨ r = p ∨ r = q ∨ r = u ∨ r = v := by simpa using hr
    rcases e' with z | z | z | z | z <;> rw [z]
    · exact ⟨_, ec, fun _ n => nomatch n⟩
    · exact ⟨_, ep, fun _ n => nomatch n⟩
    · exact ⟨_, eq, fun _ n => nomatch n⟩
    · exact ⟨o1, e1, fun _ n => by rw [d1] at n; cases n⟩
    · exact ⟨o2, e2, fun _ n => by rw [d2] at n; cases n⟩
  keep := fun i h h' st kp => by
    obtain ⟨ec, ep, ⟨x, y, eq⟩, n1, n2⟩ := st
    exact ⟨kp c (by simp) _ ec, kp p (by simp) _ ep, ⟨x, y, kp q (by simp) _ eq⟩, n1.at fun o z => kp u (by simp) o z, n2.at fun o z => kp v (by simp) o z⟩
  item := by
    intro X hP hw hK hc i pins s σ H E I hf st hg
    subst hP hw hK
    obtain ⟨ec, ep, ⟨x0, y0, eq⟩, n1, n2⟩ := st
    obtain ⟨xs, ys, x, y, qx, qy, hx, hy⟩ := hg
    obtain ⟨us, r1, p1, _⟩ := I.list qx
    obtain ⟨ws, r2, p2, _⟩ := I.tuple qy
    obtain ⟨ux, hu, ru⟩ := r1.get hx
    obtain ⟨uy, hu2, ru2⟩ := r2.get hy
    have lc : c < s.heap.objs.size := Heap.lt_size ec
    have lall : ∀ r ∈ [c, p, q, u, v], r < s.heap.objs.size := fun r hr => by
      obtain ⟨_, _, e1, _⟩ := (kdL X.prog X.w).itO n1
      obtain ⟨_, _, e2, _⟩ := (kdT X.prog X.w).itO n2
      have e' : r = c ∨ r = p ∨ r = q ∨ r = u ∨ r = v := by simpa using hr
      rcases e' with z | z | z | z | z <;> rw [z]
      · exact lc
      · exact Heap.lt_size ep
      · exact Heap.lt_size eq
      · exact Heap.lt_size e1
      · exact Heap.lt_size e2
    refine znextP (kdL _ _) (kdT _ _) D ec ep eq n1 n2 p1.isList p2 (x := ux) (y := uy) (by simpa using hu) (by simpa using hu2) fun h' ec' eq' m1 m2 tn hz kk' => ?_
    refine ⟨_, rfl, wpAny_letOwnedTupleGo_zip (s := { s with heap := h' }) ec' fun h2 ec2 sb => ?_⟩
    have t2 : h2.get? s.heap.objs.size = some { cls := .type "tuple", data := .seq #[ux, uy] } := (sb.2 _ (Nat.ne_of_gt lc)).trans tn
    have new : ObjOk X.prog X.w (upd H s.heap.objs.size (.tup [x, y])) h2 s.heap.objs.size (.tup [x, y]) := ⟨(by show 2 ≤ sizeLine; decide), [ux, uy], .cons ru (.cons ru2 .nil), ⟨_, t2, rfl, _, rfl⟩⟩
    have J : Inv X pins σ (upd H s.heap.objs.size (.tup [x, y])) { s with heap := h2 } := by
      refine I.turnedNew (t' := s.toks) (ch := [c, p, q, u, v]) (fun r o hr z => ?_) hf (Nat.le_refl _) new
      simp only [List.mem_cons, List.not_mem_nil, or_false, not_or] at hr
      exact (sb.2 r hr.1).trans (kk' r o hr.1 hr.2.2.1 hr.2.2.2.1 hr.2.2.2.2 z)
    refine ⟨.ref s.heap.objs.size, _, J, rfl, ⟨_, x, y, rfl, I.hok.fresh (Nat.le_refl _), rfl, fun l hl => by rw [I.list_inj hl qx]; exact hx, fun l hl => by rw [I.tuple_inj hl qy]; exact hy⟩, ⟨ec2, ?_, ⟨ux, uy, ?_⟩, ?_, ?_⟩, fun r hr => ?_⟩
    · exact (sb.2 _ D.TIz).trans (kk' _ _ D.TIz D.TITO D.TIi1 D.TIi2 ep)
    · exact (sb.2 _ D.TOz).trans eq'
    · exact m1.at fun o z => (sb.2 _ D.i1z).trans z
    · exact m2.at fun o z => (sb.2 _ D.i2z).trans z
    · rw [upd_ne (Nat.ne_of_lt (lall r hr))]
      exact (hf r hr).1
  done := by
    intro X hP hw hK hc i pins s σ H E I hf st hg
    subst hP hw hK
    obtain ⟨ec, ep, ⟨x0, y0, eq⟩, n1, n2⟩ := st
    obtain ⟨xs, ys, qx, qy, he⟩ := hg
    obtain ⟨us, r1, p1, _⟩ := I.list qx
    obtain ⟨ws, r2, p2, _⟩ := I.tuple qy
    have l1 := r1.length
    have l2 := r2.length
    have he' : us.toArray[i]? = none ∨ ws.toArray[i]? = none := he.imp (fun z => by simp; omega) fun z => by simp; omega
    refine zstopP (kdL _ _) (kdT _ _) (I.ok.hd hc) D ec ep eq n1 n2 p1.isList p2 he' fun h' kk' => ⟨rfl, I.turnedL (t' := s.toks) (ch := [c, p, q, u, v]) (fun r o hr z => ?_) hf⟩
    simp only [List.mem_cons, List.not_mem_nil, or_false, not_or] at hr
    exact kk' r o hr.1 hr.2.2.1 hr.2.2.2.1 hr.2.2.2.2 z
  self := fun A i s Q E st h => wpAny_pyIter_zip st.1 h
theorem zip_newM (l m : Addr) (xs ys : Array Value) :
    Meets (Builtin.«zip.__new__» ⟨[.type "zip", .ref l, .ref m], []⟩) (fun _ R s => s.heap.IsList l xs ∧ s.heap.IsTuple m ys ∧
      ∀ h', IsZip h' (s.heap.objs.size + 4) (s.heap.objs.size + 2) (s.heap.objs.size + 3) .none → IsPair h' (s.heap.objs.size + 2) (.ref s.heap.objs.size) (.ref (s.heap.objs.size + 1)) →
      IsPair h' (s.heap.objs.size + 3) .none .none → h'.IsListIter s.heap.objs.size l 0 → h'.IsTupleIter (s.heap.objs.size + 1) m 0 →
      (∀ e o, s.heap.get? e = some o → h'.get? e = some o) → R (.ok (.ret (.ref (s.heap.objs.size + 4)))) { s with heap := h' }) :=
  .of_wp fun prog w A R s h => by
    obtain ⟨hp, g, d, tk, os⟩ := s; obtain ⟨e1, e2, h⟩ := h
    have sz := sub_zip
    have E1 : Heap.IsList (Shared.heap ⟨hp, g, d, tk, os⟩) l xs := e1
    have E2 : Heap.IsTuple (Shared.heap ⟨hp.push { cls := .type "list_iterator", data := .fields #[.ref l, .int 0 0] }, g, d, tk, os⟩) m ys := Heap.IsTuple.push e2 _
    wp_walk using wpAny_pyIter_list E1, wpAny_pyIter_tuple E2
    refine ⟨_, rfl, ?_⟩
    have zz := h ((((((hp.push { cls := .type "list_iterator", data := .fields #[.ref l, .int 0 0] }).push { cls := .type "tuple_iterator", data := .fields #[.ref m, .int 0 0] }).push { cls := .type "tuple", data := .seq #[.ref hp.objs.size, .ref (hp.objs.size + 1)] }).push { cls := .type "tuple", data := .seq #[.none, .none] }).push
      { cls := .type "zip", data := .fields #[.none, .bool false, .bool false, .ref (hp.objs.size + 2), .ref (hp.objs.size + 3)] })) (by heap_get) (by heap_get) (by heap_get) ⟨_, by heap_get, rfl, rfl⟩ ⟨_, by heap_get, rfl, rfl⟩
      (fun e o z => Heap.get?_push_of_some _ (Heap.get?_push_of_some _ (Heap.get?_push_of_some _ (Heap.get?_push_of_some _ (Heap.get?_push_of_some _ z)))))
    simp only [Heap.size_push] at zz ⊢
    exact zz
def iZipM (K : PySem.W.Frag) (ta : TA) : TI := fun σ H R => ta σ H fun vs H1 => ∃ a b xs ys, vs = [.ref a, .ref b] ∧ ((SqL K H1 a xs ∧ SqL K H1 b ys ∧ R (Itz K a b) H1) ∨ (SqT K H1 a xs ∧ SqT K H1 b ys ∧ R (RZ.ItzT K a b) H1) ∨ (SqL K H1 a xs ∧ SqT K H1 b ys ∧ R (ItzM K a b) H1))
theorem pi_zipM {X : Cx} {e e2 : Expr} {ta : TA} {p pos tpos : Pos} {elts : List Expr} {kk : Nat} (hg : Gl X "zip") (hm : X.mg "zip" = none) (ha : PA X [e, e2] ta)
    (hs : starEach [e, e2] X.env = (false, eval e X.env) :: starEach [e2] X.env) (hpl : (backTo pos (starEach [e2] X.env)).any (·.1) = false) :
    PI X (.Tuple elts kk tpos) (.Call (.Name "zip" p) [e, e2] [] pos) (iZipM X.K ta) := by
  refine ⟨fun pins s σ H R I h => Call_ (ld_blt I hg hm PyProof.Rows.boot_zip (PyProof.Rows.callWith_type1 (thn (ha.run pos pins s σ H _ I h) fun us s1 ⟨vs, H1, I1, r1, q1⟩ => ?_) hs hpl))⟩
  obtain ⟨a, b, xs, ys, ex, q1⟩ := q1
  subst ex
  cases r1 with
  | cons r rr =>
    cases rr with
    | cons r' rr =>
      cases rr
      cases r
      cases r'
      generalize hn : s1.heap.objs.size = n at *
      have five : ∀ c, c ∈ [n + 4, n + 2, n + 3, n, n + 1] → FpOk X pins H1 c := fun c hc => by
        have hle : n ≤ c := by
          simp only [List.mem_cons, List.not_mem_nil, or_false] at hc
          omega
        rw [← hn] at hle
        exact I1.fpOk hle (I1.hok.fresh hle)
      rcases q1 with ⟨q1, q2, qq⟩ | ⟨q1, q2, qq⟩ | ⟨q1, q2, qq⟩
      · obtain ⟨its, rv, p1, _⟩ := I1.list q1
        obtain ⟨its2, rv2, p2, _⟩ := I1.list q2
        have D := PySem.W.ktu_apart s1.heap.objs.size a b p1.lt p2.lt
        refine call_zip_2 p1.isList p2.isList fun h' z1 z2 z3 z4 z5 _ kp => wpAny_pyIter_zip z1 ?_
        rw [hn] at D z1 z2 z3 z4 z5 ⊢
        exact ⟨n + 4, [n + 4, n + 2, n + 3, n, n + 1], _, _, H1, rfl, I1.kept (t' := s1.toks) kp, turn_zip D, ⟨z1, z2, ⟨_, _, z3⟩, z4, z5⟩, five, qq⟩
      · obtain ⟨its, rv, p1, _⟩ := I1.tuple q1
        obtain ⟨its2, rv2, p2, _⟩ := I1.tuple q2
        obtain ⟨o1, o1e, _⟩ := id p1
        obtain ⟨o2, o2e, _⟩ := id p2
        have D := PySem.W.ktu_apart s1.heap.objs.size a b (Heap.lt_size o1e) (Heap.lt_size o2e)
        refine RZ.call_zipT (xs := its.toArray) (ys := its2.toArray) p1 p2 fun h' z1 z2 z3 z4 z5 _ kp => wpAny_pyIter_zip z1 ?_
        rw [hn] at D z1 z2 z3 z4 z5 ⊢
        exact ⟨n + 4, [n + 4, n + 2, n + 3, n, n + 1], _, _, H1, rfl, I1.kept (t' := s1.toks) kp, RZ.turn_zipT D, ⟨z1, z2, ⟨_, _, z3⟩, z4, z5⟩, five, qq⟩
      · obtain ⟨its, rv, p1, _⟩ := I1.list q1
        obtain ⟨its2, rv2, p2, _⟩ := I1.tuple q2
        obtain ⟨o2, o2e, _⟩ := id p2
        have D := PySem.W.ktu_apart s1.heap.objs.size a b p1.lt (Heap.lt_size o2e)
        refine callType_new F.called_zip (by decide) (F.typeCall_zip_2 _ _) (F.newCall_zip_2 _ _) (fun obj => F.args_object_init_3 obj _ _) F.entry_zip_new
          (zip_newM a b its.toArray its2.toArray) ⟨p1.isList, p2, fun h' z1 z2 z3 z4 z5 kp => ⟨⟨_, z1, rfl⟩, wpAny_pyIter_zip z1 ?_⟩⟩
        rw [hn] at D z1 z2 z3 z4 z5 ⊢
        exact ⟨n + 4, [n + 4, n + 2, n + 3, n, n + 1], _, _, H1, rfl, I1.kept (t' := s1.toks) kp, turnM D, ⟨z1, z2, ⟨_, _, z3⟩, z4, z5⟩, five, qq⟩
end PC

namespace PC
open PySem PySem.Spec PyProof.Rows L2

/-- the iterator J yields the data ds, wherever the state has come to -/
def ItAt (K : PySem.W.Frag) (J : L2.It) (ds : List D) (H : Hp) (B : Addr → Prop) (μ : List Addr) : Prop :=
  (∀ i d, ds[i]? = some d → J.go i H ∧ ∀ x H3, J.yld i H x H3 → Same H H3 ∧ Rp K H3 B μ d x) ∧ J.stop ds.length H
/-- for comprehensions: no list of one's own is changed -/
def ItC (K : PySem.W.Frag) (J : L2.It) (ds : List D) (H : Hp) (B : Addr → Prop) (μ : List Addr) : Prop :=
  ∀ H' B' μ', Kp H H' (ban B μ) B' μ μ' → (∀ a o, H a = some o → a ∉ μ → H' a = some o) → (∀ a, B' a → H' a ≠ none) → ItAt K J ds H' B' μ'
/-- for loops -/
def ItF (K : PySem.W.Frag) (J : L2.It) (ds : List D) (H : Hp) (B : Addr → Prop) (μ : List Addr) : Prop :=
  ∀ H' B' μ', Kp H H' (ban B μ) B' μ μ' → (∀ a, B' a → H' a ≠ none) → ItAt K J ds H' B' μ'
theorem ItF.c {K : PySem.W.Frag} {J : L2.It} {ds : List D} {H : Hp} {B : Addr → Prop} {μ : List Addr} (h : ItF K J ds H B μ) : ItC K J ds H B μ := fun H' B' μ' k _ => h H' B' μ' k
def tIC (K : PySem.W.Frag) (L : Lg) (W : WX) (Φ : Fns) (c : PC.It) : TI := fun σ H R => ∃ fr B μ oa ρ M, Rl K fr B μ oa ρ M σ H ∧
  Pst K L W fr B μ oa ρ σ H (evI Φ c ρ M) fun H' μ' ds _ => ∀ J, ItC K J ds H' B μ' → R J H'
def tIF (K : PySem.W.Frag) (L : Lg) (W : WX) (Φ : Fns) (c : PC.It) : TI := fun σ H R => ∃ fr B μ oa ρ M, Rl K fr B μ oa ρ M σ H ∧
  Pst K L W fr B μ oa ρ σ H (evI Φ c ρ M) fun H' μ' ds _ => ∀ J, ItF K J ds H' B μ' → R J H'
section
variable {X : Cx} {L : Lg} {W : WX} {Φ : Fns} {a b c : E} {it : PC.It} {x y z tg : Expr} {xs : List Expr} {p pos : Pos} {n : Str} {j : Nat}
theorem tIF_C (h : PI X tg x (tIF X.K L W Φ it)) : PI X tg x (tIC X.K L W Φ it) :=
  h.imp fun σ H R ⟨fr, B, μ, oa, ρ, M, rel, h⟩ => ⟨fr, B, μ, oa, ρ, M, rel, h.imp fun _ _ _ _ _ _ q J hJ => q J hJ.c⟩
/-- a list or a tuple -/
def iSeq (K : PySem.W.Frag) (tl : TE) : TI := fun σ H R => tl σ H fun x H1 => ∃ a, x = .ref a ∧ (((∃ xs, SqL K H1 a xs) ∧ R (Itl K a) H1) ∨ ((∃ xs, SqT K H1 a xs) ∧ R (Itt K a) H1))
theorem pi_seq {l : Expr} {tl : TE} (hl : PE X l tl) : PI X tg l (iSeq X.K tl) := by
  refine ⟨fun pins s σ H R I h => ?_⟩
  refine thn (hl.run pins s σ H _ I h) fun v s1 ⟨x, H1, I1, r1, q1⟩ => ?_
  obtain ⟨a, e, q⟩ := q1
  subst e
  cases r1
  rcases q with ⟨⟨xs, hq⟩, q⟩ | ⟨⟨xs, hq⟩, q⟩
  · obtain ⟨its, rv, pl, hz⟩ := I1.list hq
    refine wpAny_pyIter_list pl.isList ?_
    refine ⟨s1.heap.objs.size, [s1.heap.objs.size], _, _, H1, rfl, I1.kept (t' := s1.toks) fun b o e => Heap.get?_push_of_some _ e, turn_list a _, ⟨_, Heap.get?_push_size _ rfl, rfl, rfl⟩, fun b hb => ?_, q⟩
    have e : b = s1.heap.objs.size := by simpa using hb
    subst e
    exact I1.fpOk (Nat.le_refl _) (I1.hok.fresh (Nat.le_refl _))
  · obtain ⟨its, rv, pl, hz⟩ := I1.tuple hq
    refine wpAny_pyIter_tuple (show s1.heap.IsTuple a its.toArray from pl) ?_
    refine ⟨s1.heap.objs.size, [s1.heap.objs.size], _, _, H1, rfl, I1.kept (t' := s1.toks) fun b o e => Heap.get?_push_of_some _ e, turn_tuple a _, ⟨_, Heap.get?_push_size _ rfl, rfl, rfl⟩, fun b hb => ?_, q⟩
    have e : b = s1.heap.objs.size := by simpa using hb
    subst e
    exact I1.fpOk (Nat.le_refl _) (I1.hok.fresh (Nat.le_refl _))
theorem get_some_of {α : Type} {xs : List α} {i : Nat} {d : α} (h : xs[i]? = some d) : i < xs.length := (List.getElem?_eq_some_iff.mp h).1
theorem itt_at {K : PySem.W.Frag} {H : Hp} {B : Addr → Prop} {μ : List Addr} {ad : Addr} {vs : List V} {ds : List D} (h : SqT K H ad vs) (r : Rps K H B μ ds vs) : ItAt K (Itt K ad) ds H B μ := by
  refine ⟨fun i d hd => ?_, vs, h, by rw [r.length]; exact Nat.le_refl _⟩
  obtain ⟨v, h1, h2⟩ := r.get hd
  refine ⟨⟨vs, v, h, h1⟩, fun x H3 ⟨e, y⟩ => ?_⟩
  subst e
  have := (y vs h).symm.trans h1
  cases this
  exact ⟨Same.refl _, h2⟩
theorem itl_at {K : PySem.W.Frag} {H : Hp} {B : Addr → Prop} {μ : List Addr} {ad : Addr} {vs : List V} {ds : List D} (h : SqL K H ad vs) (r : Rps K H B μ ds vs) : ItAt K (Itl K ad) ds H B μ := by
  refine ⟨fun i d hd => ?_, vs, h, by rw [r.length]; exact Nat.le_refl _⟩
  obtain ⟨v, h1, h2⟩ := r.get hd
  refine ⟨⟨vs, v, h, h1⟩, fun x H3 ⟨e, y⟩ => ?_⟩
  subst e
  have := (y vs h).symm.trans h1
  cases this
  exact ⟨Same.refl _, h2⟩
theorem i_seq (ha : PE X x (tE X.K L W Φ a)) : PI X tg x (tIF X.K L W Φ (.seq a)) := by
  refine (pi_seq ha).imp fun σ H R ⟨fr, B, μ, oa, ρ, M, rel, h⟩ => ?_
  rw [evI] at h
  refine tE_first rel h fun H1 μ1 d1 M1 v1 r1 e1 p1 h1 => ?_
  obtain ⟨ds, hd, h2⟩ := of_ok h1
  cases p1 with
  | tup t rs =>
    cases hd
    exact ⟨_, rfl, .inr ⟨⟨_, t.sq⟩, Pst.fin r1 (Same.refl _) h2 _ fun H' B' μ' k _ => itt_at (t.mono k).sq (rs.mono k)⟩⟩
  | lst t rs =>
    cases hd
    exact ⟨_, rfl, .inl ⟨⟨_, t.sq⟩, Pst.fin r1 (Same.refl _) h2 _ fun H' B' μ' k _ => itl_at (t.mono k).sq (rs.mono k)⟩⟩
  | frz t rs =>
    cases hd
    exact ⟨_, rfl, .inl ⟨⟨_, t.sq⟩, Pst.fin r1 (Same.refl _) h2 _ fun H' B' μ' k _ => itl_at (t.mono k).sq (rs.mono k)⟩⟩
  | non => cases hd
  | bl _ => cases hd
  | int _ => cases hd
  | str _ => cases hd
  | cell _ => cases hd
theorem i_own (hn : IsName X j n) : PI X tg (.Name n p) (tIC X.K L W Φ (.own j)) := by
  refine (pi_list (pe_var hn.hN hn.hv hn.hd hn.hc)).imp fun σ H R ⟨fr, B, μ, oa, ρ, M, rel, h⟩ => ?_
  rw [evI] at h
  obtain ⟨ds, hd, h1⟩ := of_ok h
  obtain ⟨ad, vs, q1, q2, q3, q4⟩ := rel.sl j _ (slotO_eq hd)
  refine ⟨_, q2, ad, rfl, ⟨vs, .of q3⟩, Pst.fin rel (Same.refl _) h1 _ fun H' B' μ' k e _ => ?_⟩
  exact itl_at (.of (e ad _ q3 (rel.on j ad q1).2.2)) (q4.mono k)
theorem rangeL_get : ∀ (n : Nat) (lo : Int) (i : Nat) (d : D), (rangeL lo n)[i]? = some d → i < n ∧ d = .int (lo + i)
  | 0, _, _, _, h => by simp [rangeL] at h
  | n + 1, lo, 0, d, h => by
    simp [rangeL] at h
    exact ⟨Nat.succ_pos _, by rw [← h]; simp⟩
  | n + 1, lo, i + 1, d, h => by
    have h' : (rangeL (lo + 1) n)[i]? = some d := by simpa [rangeL] using h
    obtain ⟨h1, h2⟩ := rangeL_get n (lo + 1) i d h'
    refine ⟨Nat.succ_lt_succ h1, ?_⟩
    rw [h2]
    congr 1
    omega
theorem rangeL_length : ∀ (n : Nat) (lo : Int), (rangeL lo n).length = n
  | 0, _ => rfl
  | n + 1, lo => congrArg (· + 1) (rangeL_length n (lo + 1))
theorem itr_at {K : PySem.W.Frag} {H : Hp} {B : Addr → Prop} {μ : List Addr} (lo : Int) (n : Nat) : ItAt K (Itr lo n) (rangeL lo n) H B μ := by
  refine ⟨fun i d hd => ?_, by rw [rangeL_length]; exact Nat.le_refl _⟩
  obtain ⟨h1, h2⟩ := rangeL_get n lo i d hd
  refine ⟨h1, fun x H3 ⟨e, y⟩ => ?_⟩
  subst e y h2
  exact ⟨Same.refl _, .int _⟩
theorem i_range1 (hg : Gl X "range") (hm : X.mg "range" = none) (ha : PE X x (tE X.K L W Φ a)) (hs : starEach [x] X.env = [(false, eval x X.env)]) : PI X tg (.Call (.Name "range" p) [x] [] pos) (tIF X.K L W Φ (.range1 a)) := by
  refine (pi_range1 hg hm (pa_cons ha pa_nil hs) hs).imp fun σ H R ⟨fr, B, μ, oa, ρ, M, rel, h⟩ => ?_
  rw [evI] at h
  refine tE_first rel h fun H1 μ1 d1 M1 v1 r1 e1 p1 h1 => ?_
  cases p1 <;> try exact h1.elim
  rename_i k
  dsimp only at h1
  split at h1
  · rename_i hk
    obtain ⟨hk1, hk2⟩ := of_decide_eq_true hk
    exact ⟨k, rfl, hk1, hk2, Pst.fin r1 (Same.refl _) h1 _ fun _ _ _ _ _ => itr_at 0 _⟩
  · exact h1.elim
theorem i_range2 (hg : Gl X "range") (hm : X.mg "range" = none) (ha : PE X x (tE X.K L W Φ a)) (hb : PE X y (tE X.K L W Φ b)) (hs : starEach [x, y] X.env = [(false, eval x X.env), (false, eval y X.env)]) (hs2 : starEach [y] X.env = [(false, eval y X.env)]) :
    PI X tg (.Call (.Name "range" p) [x, y] [] pos) (tIF X.K L W Φ (.range2 a b)) := by
  refine (pi_range2 hg hm (pa_cons ha (pa_cons hb pa_nil hs2) (by rw [hs, hs2])) hs hs2).imp fun σ H R ⟨fr, B, μ, oa, ρ, M, rel, h⟩ => ?_
  rw [evI] at h
  refine tE_first rel h fun H1 μ1 d1 M1 v1 r1 e1 p1 h1 => tE_first r1 h1 fun H2 μ2 d2 M2 v2 r2 e2 p2 h2 => ?_
  have p1' := p1.later e2
  cases p1' <;> cases p2 <;> try exact h2.elim
  rename_i k l
  dsimp only at h2
  split at h2
  · rename_i hk
    rw [Bool.and_eq_true] at hk
    obtain ⟨hk1, hk2⟩ := of_decide_eq_true hk.1
    obtain ⟨hl1, hl2⟩ := of_decide_eq_true hk.2
    exact ⟨k, l, rfl, ⟨hk1, hk2, hl1, hl2⟩, Pst.fin r2 (Same.refl _) h2 _ fun _ _ _ _ _ => itr_at k _⟩
  · exact h2.elim

theorem zipL_get : ∀ (xs ys : List D) (i : Nat) (d : D), (zipL xs ys)[i]? = some d → ∃ x y, xs[i]? = some x ∧ ys[i]? = some y ∧ d = .tup [x, y]
  | [], _, _, _, h => by simp [zipL] at h
  | _ :: _, [], _, _, h => by simp [zipL] at h
  | x :: xs, y :: ys, 0, d, h => by
    simp [zipL] at h
    exact ⟨x, y, rfl, rfl, h.symm⟩
  | x :: xs, y :: ys, i + 1, d, h => by
    have h' : (zipL xs ys)[i]? = some d := by simpa [zipL] using h
    obtain ⟨a, b, h1, h2, h3⟩ := zipL_get xs ys i d h'
    exact ⟨a, b, by simpa using h1, by simpa using h2, h3⟩
theorem zipL_length : ∀ (xs ys : List D), (zipL xs ys).length = min xs.length ys.length
  | [], _ => by simp [zipL]
  | _ :: _, [] => by simp [zipL]
  | x :: xs, y :: ys => by simp [zipL, zipL_length xs ys]
theorem i_zip {tes : List Expr} {kk : Nat} {tpos : Pos} (hg : Gl X "zip") (hm : X.mg "zip" = none) (ha : PE X x (tE X.K L W Φ a)) (hb : PE X y (tE X.K L W Φ b)) (hs : starEach [x, y] X.env = (false, eval x X.env) :: starEach [y] X.env) (hs2 : starEach [y] X.env = (false, eval y X.env) :: starEach [] X.env) (hpl : (backTo pos (starEach [y] X.env)).any (·.1) = false) :
    PI X (.Tuple tes kk tpos) (.Call (.Name "zip" p) [x, y] [] pos) (tIF X.K L W Φ (.zip a b)) := by
  refine (pi_zipM hg hm (pa_cons ha (pa_cons hb pa_nil hs2) hs) hs hpl).imp fun σ H R ⟨fr, B, μ, oa, ρ, M, rel, h⟩ => ?_
  rw [evI] at h
  refine tE_first rel h fun H1 μ1 d1 M1 v1 r1 e1 p1 h1 => tE_first r1 h1 fun H2 μ2 d2 M2 v2 r2 e2 p2 h2 => ?_
  have p1' := p1.later e2
  have tt : ∀ {a1 a2 : Addr} {vs ws : List V} {ds es : List D}, TpAt X.K H2 (ban B μ2) a1 vs → Rps X.K H2 (ban B μ2) μ2 ds vs → TpAt X.K H2 (ban B μ2) a2 ws → Rps X.K H2 (ban B μ2) μ2 es ws → ItF X.K (RZ.ItzT X.K a1 a2) (zipL ds es) H2 B μ2 := fun {a1 a2 vs ws ds es} t1 q1 t2 q2 H' B' μ' k bt => by
    have s1 := (t1.mono k).sq
    have s2 := (t2.mono k).sq
    have q1 := q1.mono k
    have q2 := q2.mono k
    refine ⟨fun i d hd => ?_, vs, ws, s1, s2, ?_⟩
    · obtain ⟨dx, dy, g1, g2, rfl⟩ := zipL_get ds es i d hd
      obtain ⟨vx, w1, w2⟩ := q1.get g1
      obtain ⟨vy, w3, w4⟩ := q2.get g2
      refine ⟨⟨vs, ws, vx, vy, s1, s2, w1, w3⟩, fun v H3 ⟨TT, ux, uy, hv, hT, hH, f1, f2⟩ => ?_⟩
      subst hv hH
      cases (f1 vs s1).symm.trans w1
      cases (f2 ws s2).symm.trans w3
      exact ⟨same_upd hT, new_tup bt hT (.cons w2 (.cons w4 .nil))⟩
    · rw [zipL_length, q1.length, q2.length]
      omega
  have ll : ∀ {a1 a2 : Addr} {vs ws : List V} {ds es : List D}, LsAt X.K H2 (ban B μ2) a1 vs → Rps X.K H2 (ban B μ2) μ2 ds vs → LsAt X.K H2 (ban B μ2) a2 ws → Rps X.K H2 (ban B μ2) μ2 es ws → ItF X.K (Itz X.K a1 a2) (zipL ds es) H2 B μ2 := fun {a1 a2 vs ws ds es} t1 q1 t2 q2 H' B' μ' k bt => by
    have s1 := (t1.mono k).sq
    have s2 := (t2.mono k).sq
    have q1 := q1.mono k
    have q2 := q2.mono k
    refine ⟨fun i d hd => ?_, vs, ws, s1, s2, ?_⟩
    · obtain ⟨dx, dy, g1, g2, rfl⟩ := zipL_get ds es i d hd
      obtain ⟨vx, w1, w2⟩ := q1.get g1
      obtain ⟨vy, w3, w4⟩ := q2.get g2
      refine ⟨⟨vs, ws, vx, vy, s1, s2, w1, w3⟩, fun v H3 ⟨TT, ux, uy, hv, hT, hH, f1, f2⟩ => ?_⟩
      subst hv hH
      cases (f1 vs s1).symm.trans w1
      cases (f2 ws s2).symm.trans w3
      exact ⟨same_upd hT, new_tup bt hT (.cons w2 (.cons w4 .nil))⟩
    · rw [zipL_length, q1.length, q2.length]
      omega
  have lt : ∀ {a1 a2 : Addr} {vs ws : List V} {ds es : List D}, LsAt X.K H2 (ban B μ2) a1 vs → Rps X.K H2 (ban B μ2) μ2 ds vs → TpAt X.K H2 (ban B μ2) a2 ws → Rps X.K H2 (ban B μ2) μ2 es ws → ItF X.K (ItzM X.K a1 a2) (zipL ds es) H2 B μ2 := fun {a1 a2 vs ws ds es} t1 q1 t2 q2 H' B' μ' k bt => by
    have s1 := (t1.mono k).sq
    have s2 := (t2.mono k).sq
    have q1 := q1.mono k
    have q2 := q2.mono k
    refine ⟨fun i d hd => ?_, vs, ws, s1, s2, ?_⟩
    · obtain ⟨dx, dy, g1, g2, rfl⟩ := zipL_get ds es i d hd
      obtain ⟨vx, w1, w2⟩ := q1.get g1
      obtain ⟨vy, w3, w4⟩ := q2.get g2
      refine ⟨⟨vs, ws, vx, vy, s1, s2, w1, w3⟩, fun v H3 ⟨TT, ux, uy, hv, hT, hH, f1, f2⟩ => ?_⟩
      subst hv hH
      cases (f1 vs s1).symm.trans w1
      cases (f2 ws s2).symm.trans w3
      exact ⟨same_upd hT, new_tup bt hT (.cons w2 (.cons w4 .nil))⟩
    · rw [zipL_length, q1.length, q2.length]
      omega
  cases p1' <;> cases p2 <;> try exact h2.elim
  · rename_i t1 q1 _ _ _ t2 q2
    exact ⟨_, _, _, _, rfl, .inr (.inl ⟨t1.sq, t2.sq, Pst.fin r2 (Same.refl _) h2 _ (tt t1 q1 t2 q2)⟩)⟩
  · rename_i t1 q1 _ _ _ t2 q2
    exact ⟨_, _, _, _, rfl, .inr (.inr ⟨t1.sq, t2.sq, Pst.fin r2 (Same.refl _) h2 _ (lt t1 q1 t2 q2)⟩)⟩
  · rename_i t1 q1 _ _ _ t2 q2
    exact ⟨_, _, _, _, rfl, .inl ⟨t1.sq, t2.sq, Pst.fin r2 (Same.refl _) h2 _ (ll t1 q1 t2 q2)⟩⟩

theorem set_none_same {α : Type} (l : List α) (i : Nat) (v : α) (h : l.length ≤ i) : l.set i v = l := by
  apply List.ext_getElem?
  intro k
  rw [List.getElem?_set]
  split
  · rename_i e
    subst e
    rw [if_neg (by omega), List.getElem?_eq_none h]
  · rfl
/-- a slot gets a datum -/
theorem Rel.setv {K : PySem.W.Frag} {fr : Fr} {H : Hp} {B : Addr → Prop} {μ : List Addr} {oa : Nat → Option Addr} {ρ : Ev} {M : Mem} {σ : L2.St} {i : Nat} {d : D} {v : V} (r : Rel K fr B μ oa ρ M σ H) (h : Rp K H B μ d v) :
    Rel K fr B μ (fun k => if k = i then none else oa k) (ρ.set i (.v d)) M (σ.set i (some v)) H where
  cs := r.cs
  b0 := r.b0
  bt := r.bt
  bo := fun k a e => by
    split at e
    · cases e
    · exact r.bo k a e
  oi := fun k l a e e' => by
    split at e
    · cases e
    · split at e'
      · cases e'
      · exact r.oi k l a e e'
  on := fun k a e => by
    split at e
    · cases e
    · exact r.on k a e
  sl := fun k s e => by
    by_cases hk : k = i
    · subst hk
      rw [if_pos rfl]
      by_cases hl : k < ρ.length
      · rw [List.getElem?_set_self hl] at e
        cases e
        refine ⟨rfl, v, ?_, h⟩
        rw [List.getElem?_set_self (by rw [← r.ln]; exact hl)]
      · rw [set_none_same _ _ _ (by omega), List.getElem?_eq_none (by omega)] at e
        cases e
    · rw [if_neg hk, List.getElem?_set_ne (Ne.symm hk)]
      rw [List.getElem?_set_ne (Ne.symm hk)] at e
      exact r.sl k s e
  so := fun k e => by
    split
    · rfl
    · rename_i hk
      rw [List.getElem?_set_ne (Ne.symm hk)] at e
      exact r.so k e
  ln := by rw [List.length_set, List.length_set]; exact r.ln
  m0 := r.m0
  ev := r.ev
/-- a slot is forgotten -/
theorem Rel.setun {K : PySem.W.Frag} {fr : Fr} {H : Hp} {B : Addr → Prop} {μ : List Addr} {oa : Nat → Option Addr} {ρ : Ev} {M : Mem} {σ : L2.St} {i : Nat} {v : Option V} (r : Rel K fr B μ oa ρ M σ H) :
    Rel K fr B μ (fun k => if k = i then none else oa k) (ρ.set i .un) M (σ.set i v) H where
  cs := r.cs
  b0 := r.b0
  bt := r.bt
  bo := fun k a e => by
    split at e
    · cases e
    · exact r.bo k a e
  oi := fun k l a e e' => by
    split at e
    · cases e
    · split at e'
      · cases e'
      · exact r.oi k l a e e'
  on := fun k a e => by
    split at e
    · cases e
    · exact r.on k a e
  sl := fun k s e => by
    by_cases hk : k = i
    · subst hk
      rw [if_pos rfl]
      by_cases hl : k < ρ.length
      · rw [List.getElem?_set_self hl] at e
        cases e
        rfl
      · rw [set_none_same _ _ _ (by omega), List.getElem?_eq_none (by omega)] at e
        cases e
    · rw [if_neg hk, List.getElem?_set_ne (Ne.symm hk)]
      rw [List.getElem?_set_ne (Ne.symm hk)] at e
      exact r.sl k s e
  so := fun k e => by
    split
    · rfl
    · rename_i hk
      rw [List.getElem?_set_ne (Ne.symm hk)] at e
      exact r.so k e
  ln := by rw [List.length_set, List.length_set]; exact r.ln
  m0 := r.m0
  ev := r.ev
theorem Rel.wipe {K : PySem.W.Frag} {fr : Fr} {H : Hp} {B : Addr → Prop} {μ : List Addr} {oa : Nat → Option Addr} {ρ : Ev} {M : Mem} {σ : L2.St} (r : Rel K fr B μ oa ρ M σ H) : ∀ vs : List Nat, ∃ oa', Rel K fr B μ oa' (wipeE ρ vs) M (wipe σ vs) H
  | [] => ⟨oa, r⟩
  | v :: vs => by
    obtain ⟨oa', r'⟩ := r.wipe vs
    exact ⟨_, r'.setun⟩
/-- the slots of a target, by values -/
def setsV : List Nat → List V → L2.St → L2.St
  | [], _, σ => σ
  | _, [], σ => σ
  | i :: is, v :: vs, σ => setsV is vs (σ.set i (some v))
def gNm (is : List Nat) : TGs := fun vs σ H Q => vs.length = is.length ∧ Q (setsV is vs σ) H
theorem Rel.sets {K : PySem.W.Frag} {fr : Fr} {H : Hp} {B : Addr → Prop} {μ : List Addr} {M : Mem} : ∀ {is : List Nat} {ds : List D} {vs : List V} {oa : Nat → Option Addr} {ρ ρ' : Ev} {σ : L2.St}, Rel K fr B μ oa ρ M σ H → Rps K H B μ ds vs → setsL is ds ρ = some ρ' → vs.length = is.length ∧ ∃ oa', Rel K fr B μ oa' ρ' M (setsV is vs σ) H
  | [], [], _, oa, ρ, ρ', σ, r, rs, e => by
    cases rs
    cases e
    exact ⟨rfl, oa, r⟩
  | i :: is, d :: ds, _, oa, ρ, ρ', σ, r, rs, e => by
    cases rs with
    | cons h rs =>
      obtain ⟨h1, oa', h2⟩ := Rel.sets (r.setv (i := i) h) rs e
      exact ⟨congrArg (· + 1) h1, oa', h2⟩
  | [], _ :: _, _, _, _, _, _, _, _, e => by cases e
  | _ :: _, [], _, _, _, _, _, _, _, e => by cases e
/-- a target's names stand in the text -/
structure TgName (X : Cx) (i : Nat) (n : Str) : Prop where
  hN : X.N[i]? = some n
  hl : Loc X.env.scope n
  hf : X.fn n = true ∨ X.env.scope.names.lookup n = some .local
inductive TgNames (X : Cx) : List Nat → List Expr → Prop
  | nil : TgNames X [] []
  | cons {i : Nat} {is : List Nat} {n : Str} {q : Pos} {es : List Expr} : TgName X i n → TgNames X is es → TgNames X (i :: is) (.Name n q :: es)
theorem TgNames.pgs (hN : X.N.Nodup) : ∀ {is : List Nat} {es : List Expr}, TgNames X is es → PGs X es (gNm is)
  | _, _, .nil => ⟨fun pins s σ H vs us Q I r h => pgs_nil.run pins s σ H vs us Q I r (by
      obtain ⟨h1, h2⟩ := h
      exact ⟨List.eq_nil_of_length_eq_zero h1, h2⟩)⟩
  | i :: is, _, .cons hn rest => ⟨fun pins s σ H vs us Q I r h => (pgs_cons (pg_name hN hn.hN hn.hl hn.hf) (rest.pgs hN) rfl).run pins s σ H vs us Q I r (by
      obtain ⟨h1, h2⟩ := h
      cases vs with
      | nil => cases h1
      | cons v vs => exact ⟨v, vs, rfl, Nat.succ.inj h1, h2⟩)⟩
theorem TgNames.facts : ∀ {is : List Nat} {es : List Expr}, TgNames X is es → (assignEach es X.env).length = is.length ∧ (assignEach es X.env).findIdx? (·.1) = none
  | _, _, .nil => ⟨rfl, rfl⟩
  | _, _, .cons (q := q) (n := n) (es := es) hn rest => by
    obtain ⟨h1, h2⟩ := rest.facts
    have e : assignEach (.Name n q :: es) X.env = (false, assign (.Name n q) X.env) :: assignEach es X.env := rfl
    rw [e]
    refine ⟨congrArg (· + 1) h1, ?_⟩
    rw [List.findIdx?_cons, h2]
    rfl
/-- the target's reading: the datum put to its slots -/
def gT (K : PySem.W.Frag) (t : Tg) : TG := match t with
  | .name i => gName i
  | .tup is => gTup K is.length (gNm is)
inductive TgOk (X : Cx) : Tg → Expr → Prop
  | name {i : Nat} {n : Str} {q : Pos} : TgName X i n → TgOk X (.name i) (.Name n q)
  | tup {is : List Nat} {es : List Expr} {k : Nat} {q : Pos} : TgNames X is es → TgOk X (.tup is) (.Tuple es k q)
theorem TgOk.pg {t : Tg} (hc : X.calm = true) (hN : X.N.Nodup) (h : TgOk X t tg) : PG X tg (gT X.K t) := by
  cases h with
  | name hn => exact pg_name hN hn.hN hn.hl hn.hf
  | tup hn => exact pg_tup hc (hn.pgs hN) hn.facts.1 hn.facts.2
theorem gT_put {K : PySem.W.Frag} {fr : Fr} {H : Hp} {B : Addr → Prop} {μ : List Addr} {oa : Nat → Option Addr} {ρ ρ' : Ev} {M : Mem} {σ : L2.St} {t : Tg} {d : D} {v : V} {Q : L2.St → Hp → Prop} (r : Rel K fr B μ oa ρ M σ H) (h : Rp K H B μ d v) (e : t.put d ρ = some ρ')
    (q : ∀ σ' oa', Rel K fr B μ oa' ρ' M σ' H → (∀ k, k ∉ t.slots → σ'[k]? = σ[k]?) → σ'.length = σ.length → Q σ' H) : gT K t v σ H Q := by
  cases t with
  | name i =>
    cases e
    exact q _ _ (r.setv h) (fun k hk => List.getElem?_set_ne (fun z => hk (by rw [z]; exact List.mem_singleton.mpr rfl))) List.length_set
  | tup is =>
    cases h with
    | tup t rs =>
      obtain ⟨h1, oa', h2⟩ := r.sets rs e
      refine ⟨_, _, rfl, t.sq, h1, h1, q _ oa' h2 (fun k hk => ?_) ?_⟩
      · clear h2 h1 e
        have hk : k ∉ is := hk
        have : ∀ (is : List Nat) (vs : List V) (σ : L2.St), k ∉ is → (setsV is vs σ)[k]? = σ[k]? := by
          intro is
          induction is with
          | nil => intro vs σ _; rfl
          | cons i is ih =>
            intro vs σ hk
            cases vs with
            | nil => rfl
            | cons v vs =>
              rw [List.mem_cons, not_or] at hk
              show (setsV is vs (σ.set i (some v)))[k]? = _
              rw [ih vs _ hk.2, List.getElem?_set_ne (Ne.symm hk.1)]
        exact this is _ σ hk
      · have : ∀ (is : List Nat) (vs : List V) (σ : L2.St), (setsV is vs σ).length = σ.length := by
          intro is
          induction is with
          | nil => intro vs σ; rfl
          | cons i is ih =>
            intro vs σ
            cases vs with
            | nil => rfl
            | cons v vs => exact (ih vs _).trans List.length_set
        exact this is _ σ
    | non => cases e
    | bl _ => cases e
    | int _ => cases e
    | str _ => cases e
    | lst _ _ => cases e
    | frz _ _ => cases e
    | cell _ => cases e
end
end PC

namespace PC
open PySem PySem.Spec PyProof.Rows L2
abbrev W0 : WX := fun _ _ _ _ => False
def tTs (K : PySem.W.Frag) (L : Lg) (W : WX) (Φ : Fns) (c : Es) : TT := fun σ H Q => ∃ fr B μ oa ρ M, Rl K fr B μ oa ρ M σ H ∧
  Pst K L W fr B μ oa ρ σ H (tst Φ c ρ M) fun H' _ k _ => Q k H'
section
variable {K : PySem.W.Frag} {fr : Fr} {H H' : Hp} {B B' : Addr → Prop} {μ : List Addr} {oa : Nat → Option Addr} {ρ : Ev} {M : Mem} {σ : L2.St}
/-- the bans change, the heap but a little -/
theorem Rel.kp (r : Rel K fr B μ oa ρ M σ H) (k : Kp H H' B B' μ μ) (ko : ∀ i a, oa i = some a → H' a = H a) (kc : ∀ a ∈ μ, H' a = H a) (b0 : ∀ a, fr.B0 a → B' a) (bm : ∀ a ∈ μ, B' a) (bo : ∀ i a, oa i = some a → B' a) (bt : ∀ a, B' a → H' a ≠ none)
    (ev : ∀ a o, fr.H0 a = some o → a ∉ fr.μ0 → H' a = some o) : Rel K fr B' μ oa ρ M σ H' where
  cs := ⟨r.cs.nd, r.cs.len, bm, fun n c a h1 h2 => by
    have q := r.cs.at_ n c a h1 h2
    cases c with
    | lst ds =>
      obtain ⟨vs, q1, q2⟩ := q
      exact ⟨vs, by rw [kc a (List.mem_of_getElem? h2)]; exact q1, q2.mono k⟩
    | dict _ => exact q
    | ins _ _ => exact q⟩
  b0 := b0
  bt := bt
  bo := bo
  oi := r.oi
  on := r.on
  sl := fun i s h => by
    have q := r.sl i s h
    cases s with
    | un => exact q
    | v d => obtain ⟨h1, v, h2, h3⟩ := q; exact ⟨h1, v, h2, h3.mono k⟩
    | own ds =>
      obtain ⟨a, vs, h1, h2, h3, h4⟩ := q
      exact ⟨a, vs, h1, h2, by rw [ko i a h1]; exact h3, h4.mono k⟩
  so := r.so
  ln := r.ln
  m0 := r.m0
  ev := ev
end
theorem wipe_get (σ : L2.St) (k : Nat) : ∀ vs : List Nat, (wipe σ vs)[k]? = if k ∈ vs then (if k < σ.length then some none else none) else σ[k]?
  | [] => by rw [if_neg (List.not_mem_nil)]; rfl
  | v :: vs => by
    show ((wipe σ vs).set v none)[k]? = _
    by_cases h : v = k
    · subst h
      rw [if_pos List.mem_cons_self]
      by_cases hl : v < σ.length
      · rw [List.getElem?_set_self (by rw [wipe_length]; exact hl), if_pos hl]
      · rw [if_neg hl, List.getElem?_eq_none (by rw [List.length_set, wipe_length]; omega)]
    · rw [List.getElem?_set_ne h, wipe_get σ k vs]
      have e : (k ∈ v :: vs) = (k ∈ vs) := by
        rw [List.mem_cons]
        exact propext ⟨fun x => x.resolve_left (Ne.symm h), .inr⟩
      simp only [e]
theorem wipe_again {σ σ2 : L2.St} {vs : List Nat} (h : ∀ k, k ∉ vs → σ2[k]? = (wipe σ vs)[k]?) (hl : σ2.length = (wipe σ vs).length) : wipe σ2 vs = wipe σ vs := by
  rw [wipe_length] at hl
  apply List.ext_getElem?
  intro k
  rw [wipe_get, wipe_get]
  by_cases hk : k ∈ vs
  · rw [if_pos hk, if_pos hk, hl]
  · rw [if_neg hk, if_neg hk, h k hk, wipe_get, if_neg hk]
section
variable {K : PySem.W.Frag} {L : Lg} {W : WX} {Φ : Fns} {it : PC.It} {t : Tg} {ifs : Es} {elt : E} {fr : Fr} {H : Hp} {B : Addr → Prop} {μ : List Addr} {oa : Nat → Option Addr} {ρ : Ev} {M : Mem} {σ : L2.St} {R : Hp → List Addr → D → Mem → Prop} {Q : VK}
/-- one turn -/
def turnF (Φ : Fns) (t : Tg) (ifs : Es) (elt : E) (ρ : Ev) (d : D) (M2 : Mem) : Res (Option D) :=
  match t.put d (wipeE ρ t.slots) with
  | some ρ2 => (tst Φ ifs ρ2 M2).bind fun k M3 => if k = true then (ev Φ elt ρ2 M3).bind fun y M4 => .ok (some y) M4 else .ok none M3
  | none => .bad
structure LcInv (K : PySem.W.Frag) (fr : Fr) (B : Addr → Prop) (oa : Nat → Option Addr) (ρ : Ev) (σ : L2.St) (F : D → Mem → Res (Option D)) (ds : List D) (μ1 : List Addr) (M1 : Mem) (H1 : Hp) (Dd : Addr) (i : Nat) (Hh : Hp) (μi : List Addr) (Mi : Mem) (accD : List D) (accV : List V) : Prop where
  pre : ∃ tl, μi = μ1 ++ tl ∧ ∀ a ∈ tl, H1 a = none ∧ a ≠ Dd
  keep : ∀ a o, H1 a = some o → a ∉ μ1 → Hh a = some o
  at_ : Hh Dd = some (.lst accV)
  acc : Rps K Hh (ban (fun a => B a ∨ a = Dd) μi) μi accD accV
  rel : Rl K fr (fun a => B a ∨ a = Dd) μi oa ρ Mi σ Hh
  eq : cmpL F ds [] M1 = cmpL F (ds.drop i) accD Mi
theorem lc_read (rel : Rl K fr B μ oa ρ M σ H) (h : Pst K L W fr B μ oa ρ σ H (ev Φ (.comp it t ifs elt) ρ M) R)
    (g : ∀ H' μ' xs M' a vs, Rl K fr B μ' oa ρ M' σ H' → Evo μ H μ' H' → R H' μ' (.lst xs) M' → H a = none → H' a = some (.lst vs) → ¬ ban B μ' a → Rps K H' (ban B μ') μ' xs vs → Rl K fr (fun x => B x ∨ x = a) μ' oa ρ M' σ H' → Rps K H' (ban (fun x => B x ∨ x = a) μ') μ' xs vs → Q (.ref a) H') :
    tLc (tIC K L W Φ it) (gT K t) (tTs K L W0 Φ ifs) (tE K L W0 Φ elt) t.slots σ H Q := by
  rw [ev] at h
  refine ⟨fr, B, μ, oa, ρ, M, rel, (Pst.first rel h).imp fun H1 μ1 ds M1 e1 r1 h1 J hJ Dd hD => ?_⟩
  have h1 : Pst K L W fr B μ1 oa ρ σ H1 ((cmpL (turnF Φ t ifs elt ρ) ds [] M1).bind fun xs M4 => .ok (.lst xs) M4).calm R := h1
  have hDm : Dd ∉ μ1 := fun z => r1.tr Dd z hD
  have hoD : ∀ i a, oa i = some a → a ≠ Dd := fun i a e z => r1.bt a (r1.bo i a e) (by rw [z]; exact hD)
  obtain ⟨f0, fb⟩ := r1.free_old hD
  -- the whole evaluation is good
  have good : ∀ r, cmpL (turnF Φ t ifs elt ρ) ds [] M1 = r → r ≠ .bad ∧ ∀ x M', r ≠ .err x M' := fun r e => by
    rw [e] at h1
    refine ⟨fun z => ?_, fun x M' z => ?_⟩
    · subst z; exact h1
    · subst z; exact h1
  refine ⟨fun i m Hh => i ≤ ds.length ∧ m = ds.length - i ∧ ∃ μi Mi accD accV, LcInv K fr B oa ρ σ (turnF Φ t ifs elt ρ) ds μ1 M1 H1 Dd i Hh μi Mi accD accV, ⟨ds.length, Nat.zero_le _, rfl, μ1, M1, [], [], ?_⟩, ?_⟩
  · refine ⟨⟨[], by simp, by simp⟩, fun a o e _ => same_upd hD a o e, upd_same, .nil, ?_, rfl⟩
    refine r1.kp ⟨fun a o e b => ⟨same_upd hD a o e, fun z => ?_⟩, fun _ _ e => e⟩ (fun i a e => upd_ne (hoD i a e)) (fun a ha => upd_ne fun z => hDm (by rw [← z]; exact ha)) (fun a b => ?_) (fun a ha => .inr ha) (fun i a e => ?_) (fun a b => ?_) fun a o e n => same_upd hD a o (r1.ev a o e n)
    · rcases z with (z | z) | z
      · exact b (.inl z)
      · rw [z, hD] at e; cases e
      · exact b (.inr z)
    · exact (r1.b0 a b).elim (fun z => .inl (.inl z)) .inr
    · exact (r1.bo i a e).elim (fun z => .inl (.inl z)) .inr
    · have old : ban B μ1 a → upd H1 Dd (.lst []) a ≠ none := fun z => by
        cases q : H1 a with
        | none => exact absurd q (r1.bt a z)
        | some o => rw [same_upd hD a o q]; exact fun w => nomatch w
      rcases b with (z | z) | z
      · exact old (.inl z)
      · rw [z, upd_same]; exact fun w => nomatch w
      · exact old (.inr z)
  rintro i m Hh ⟨hi, rfl, μi, Mi, accD, accV, V⟩
  obtain ⟨tl, hμ, htl⟩ := V.pre
  have evo : Evo μ1 H1 μi Hh := ⟨⟨tl, hμ, fun a ha => (htl a ha).1⟩, V.keep⟩
  have kp : Kp H1 Hh (ban B μ1) (ban (fun a => B a ∨ a = Dd) μi) μ1 μi := by
    refine ⟨fun a o e b => ⟨V.keep a o e fun z => b (.inr z), fun z => ?_⟩, fun n a e => evo.get e⟩
    rcases z with (z | z) | z
    · exact b (.inl z)
    · rw [z, hD] at e; cases e
    · exact b (.inr (evo.old z e))
  obtain ⟨at1, at2⟩ := hJ Hh _ μi kp V.keep V.rel.bt
  have hDi : Dd ∉ μi := fun z => by
    rw [hμ] at z
    rcases List.mem_append.mp z with z | z
    · exact hDm z
    · exact (htl _ z).2 rfl
  by_cases hlt : i < ds.length
  · refine .inr ⟨(at1 i ds[i] (List.getElem?_eq_getElem hlt)).1, fun Hh => ∃ μi Mi accD accV, LcInv K fr B oa ρ σ (turnF Φ t ifs elt ρ) ds μ1 M1 H1 Dd (i + 1) Hh μi Mi accD accV, fun H' q => ⟨ds.length - (i + 1), by omega, hlt, rfl, q⟩, fun x H3 y => ?_⟩
    obtain ⟨s3, rx⟩ := (at1 i ds[i] (List.getElem?_eq_getElem hlt)).2 x H3 y
    have r3 := V.rel.same s3
    obtain ⟨oa', rw_⟩ := Rel.wipe r3 t.slots
    have hdrop : ds.drop i = ds[i] :: ds.drop (i + 1) := List.drop_eq_getElem_cons hlt
    have heq := V.eq
    rw [hdrop, cmpL] at heq
    unfold turnF at heq
    cases ep : t.put ds[i] (wipeE ρ t.slots) with
    | none =>
      rw [ep] at heq
      exact ((good _ heq).1 rfl).elim
    | some ρ2 =>
      rw [ep] at heq
      dsimp only at heq
      refine gT_put rw_ rx ep fun σ2 oa2 r2 hun hln => ⟨wipe_again hun hln, ?_⟩
      refine ⟨fr, _, μi, oa2, ρ2, Mi, r2, ?_⟩
      cases et : tst Φ ifs ρ2 Mi with
      | bad => rw [et] at heq; exact ((good _ heq).1 rfl).elim
      | err x M' => rw [et] at heq; exact ((good _ heq).2 x M' rfl).elim
      | ok k M3 =>
        rw [et] at heq
        simp only [Res.bind_ok] at heq
        intro H4 μ4 e4 r4
        have hD3 : H3 Dd = some (.lst accV) := s3 _ _ V.at_
        have hD4 : H4 Dd = some (.lst accV) := e4.keep _ _ hD3 hDi
        have e3 : Evo μi Hh μi H3 := Evo.same s3
        have e34 : Evo μi Hh μ4 H4 := e3.trans e4 V.rel.tr r3.tr
        have hD4m : Dd ∉ μ4 := fun z => hDi (e4.old z hD3)
        have fresh : ∀ {μx : List Addr} {Hx Hy : Hp}, Evo μi Hh μx Hx → ∃ tl', μx = μ1 ++ tl' ∧ ∀ a ∈ tl', H1 a = none ∧ a ≠ Dd := fun {μx Hx Hy} e => by
          obtain ⟨u, hu, hn⟩ := e.pre
          refine ⟨tl ++ u, by rw [hu, hμ, List.append_assoc], fun a ha => ?_⟩
          rcases List.mem_append.mp ha with ha | ha
          · exact htl a ha
          · refine ⟨?_, fun z => ?_⟩
            · cases q : H1 a with
              | none => rfl
              | some o =>
                by_cases ha1 : a ∈ μ1
                · exact absurd (hn a ha) (V.rel.tr a (evo.mem ha1))
                · have := V.keep a o q ha1
                  rw [hn a ha] at this
                  cases this
            · have := hn a ha
              rw [z, V.at_] at this
              cases this
        cases k with
        | false =>
          rw [if_neg Bool.false_ne_true] at heq
          refine iteF ?_
          refine ⟨μ4, M3, accD, accV, fresh (Hy := H4) e34, fun a o q hn => e34.keep a o (V.keep a o q hn) fun z => hn (evo.old z q), hD4, V.acc.mono e34.kp, V.rel.after e34 r4.cs r4.bt, heq⟩
        | true =>
          rw [if_pos rfl] at heq
          refine iteT ?_
          refine ⟨fr, _, μ4, oa2, ρ2, M3, r4, ?_⟩
          cases ee : ev Φ elt ρ2 M3 with
          | bad => rw [ee] at heq; exact ((good _ heq).1 rfl).elim
          | err x M' => rw [ee] at heq; exact ((good _ heq).2 x M' rfl).elim
          | ok yD M5 =>
            rw [ee] at heq
            simp only [Res.bind_ok] at heq
            intro H5 μ5 e5 r5 yV ry
            have hD5 : H5 Dd = some (.lst accV) := e5.keep _ _ hD4 hD4m
            have e45 : Evo μi Hh μ5 H5 := e34.trans e5 V.rel.tr fun a ha => r4.bt a (.inr (e4.mem ha))
            have hD5m : Dd ∉ μ5 := fun z => hD4m (e5.old z hD4)
            have hz : accD.length < sizeLine := by
              by_cases hz : accD.length < sizeLine
              · exact hz
              · rw [if_neg hz] at heq
                exact ((good _ heq).1 rfl).elim
            rw [if_pos hz] at heq
            refine ⟨accV, hD5, by rw [← V.acc.length]; exact hz, μ5, M5, accD ++ [yD], accV ++ [yV], ?_⟩
            have kD : Kp H5 (upd H5 Dd (.lst (accV ++ [yV]))) (ban (fun a => B a ∨ a = Dd) μ5) (ban (fun a => B a ∨ a = Dd) μ5) μ5 μ5 := ⟨fun a o e b => ⟨by rw [upd_ne fun z => b (.inl (.inr z))]; exact e, b⟩, fun _ _ e => e⟩
            refine ⟨fresh (Hy := H5) e45, fun a o q hn => ?_, upd_same, ?_, ?_, heq⟩
            · rw [upd_ne fun z => by rw [z, hD] at q; cases q]
              exact e45.keep a o (V.keep a o q hn) fun z => hn (evo.old z q)
            · exact ((V.acc.mono e45.kp).append (.cons ry .nil)).mono kD
            · have r5' := V.rel.after e45 r5.cs r5.bt
              refine r5'.kp kD (fun i a e => upd_ne (hoD i a e)) (fun a ha => upd_ne fun z => hD5m (by rw [← z]; exact ha)) r5'.b0 r5'.cs.ban r5'.bo (fun a b => ?_) fun a o e n => ?_
              · by_cases z : a = Dd
                · rw [z, upd_same]; exact fun w => nomatch w
                · rw [upd_ne z]; exact r5'.bt a b
              · rw [upd_ne fun z => by rw [z, f0] at e; cases e]
                exact r5'.ev a o e n
  · have ei : i = ds.length := by omega
    subst ei
    refine .inl ⟨at2, ?_⟩
    have heq := V.eq
    rw [List.drop_length, cmpL] at heq
    rw [heq] at h1
    have kS : Kp Hh Hh (ban (fun a => B a ∨ a = Dd) μi) (ban B μi) μi μi := ⟨fun a o e b => ⟨e, fun z => b (z.elim (fun w => .inl (.inl w)) .inr)⟩, fun _ _ e => e⟩
    have rB : Rl K fr B μi oa ρ Mi σ Hh := by
      refine V.rel.kp kS (fun _ _ _ => rfl) (fun _ _ => rfl) (fun a b => ?_) (fun a ha => .inr ha) (fun i a e => ?_) (fun a b => V.rel.bt a (b.elim (fun w => .inl (.inl w)) .inr)) V.rel.ev
      · exact (r1.b0 a b).elim .inl fun z => .inr (evo.mem z)
      · exact (r1.bo i a e).elim .inl fun z => .inr (evo.mem z)
    have HD : H Dd = none := by
      cases q : H Dd with
      | none => rfl
      | some o =>
        by_cases hm : Dd ∈ μ
        · exact absurd hD (r1.bt Dd (.inr (e1.mem hm)))
        · have := e1.keep Dd o q hm
          rw [hD] at this
          cases this
    refine g Hh μi accD Mi Dd accV rB (e1.trans evo rel.tr (r1.later_tr e1)) (h1 Hh μi evo rB) HD V.at_ (fun b => ?_) (V.acc.mono kS) V.rel V.acc
    rcases b with b | b
    · exact r1.bt Dd (.inl b) hD
    · exact hDi b
end
section
variable {X : Cx} {L : Lg} {W : WX} {Φ : Fns} {a : E} {x : Expr}
theorem ts_nil : PTs X [] (tTs X.K L W Φ .nil) := ⟨fun pins s σ H Q I ⟨fr, B, μ, oa, ρ, M, rel, h⟩ => pts_nil.run pins s σ H Q I (by
  rw [tst] at h
  exact Pst.fin rel (Same.refl H) h)⟩
theorem ts_one (ha : PT X x (tT X.K L W Φ a)) : PTs X [x] (tTs X.K L W Φ (.cons a .nil)) := ⟨fun pins s σ H Q I ⟨fr, B, μ, oa, ρ, M, rel, h⟩ => (pts_one ha).run pins s σ H Q I (by
  rw [tst] at h
  exact ⟨fr, B, μ, oa, ρ, M, rel, h⟩)⟩
end
end PC

namespace PC
open PySem PySem.Spec PyProof.Rows L2
theorem _root_.L2.PS.imp {X : Cx} {st : Stmt} {t t' : TS} (h : PS X st t) (f : ∀ D σ H, t' D σ H → t D σ H) : PS X st t' := ⟨fun pins s σ H D I w => h.run pins s σ H D I (f D σ H w)⟩
theorem _root_.L2.PSs.imp {X : Cx} {st : List Stmt} {t t' : TS} (h : PSs X st t) (f : ∀ D σ H, t' D σ H → t D σ H) : PSs X st t' := ⟨fun pins s σ H D I w => h.run pins s σ H D I (f D σ H w)⟩
section
variable {K : PySem.W.Frag} {L : Lg} {W : WX} {fr : Fr} {B B' : Addr → Prop} {μ μ' : List Addr} {oa oa' : Nat → Option Addr} {ρ ρ' : Ev} {M M' : Mem} {σ σ' : L2.St} {H H' H1 : Hp} {α : Type}
/-- what is wanted of a statement's end -/
def PostO (K : PySem.W.Frag) (L : Lg) (W : WX) (fr : Fr) (B : Addr → Prop) (μ : List Addr) (H : Hp) (o : Out) (De : Ends) : Prop :=
  match o with
  | .nx ρ' M' => ∀ B' μ' oa' σ' H', Kp H H' (ban B μ) (ban B' μ') μ μ' → Rl K fr B' μ' oa' ρ' M' σ' H' → De.nx σ' H'
  | .rt d M' => ∀ B' μ' oa' ρ' σ' H' v, Rl K fr B' μ' oa' ρ' M' σ' H' → Rp K H' (ban B' μ') μ' d v → De.rt v H'
  | .er x ρ' M' => ∀ B' μ' oa' σ' H' cls dd, Kp H H' (ban B μ) (ban B' μ') μ μ' → Rl K fr B' μ' oa' ρ' M' σ' H' → L.xr H' x cls dd → W cls dd σ' H'
  | .bad => False
theorem PostO.shift {o : Out} {De : Ends} (k : Kp H H1 (ban B μ) (ban B' μ') μ μ') (h : PostO K L W fr B μ H o De) : PostO K L W fr B' μ' H1 o De := by
  cases o with
  | nx ρ2 M2 => exact fun B2 μ2 oa2 σ2 H2 k2 r2 => h B2 μ2 oa2 σ2 H2 (k.trans k2) r2
  | rt d M2 => exact h
  | er x ρ2 M2 => exact fun B2 μ2 oa2 σ2 H2 cls dd k2 r2 hx => h B2 μ2 oa2 σ2 H2 cls dd (k.trans k2) r2 hx
  | bad => exact h
theorem PostO.first {r : Res α} {f : α → Mem → Out} {De : Ends} (h : PostO K L W fr B μ H (r.out ρ f) De) :
    Pst K L W fr B μ oa ρ σ H r (fun H1 μ1 a M1 => PostO K L W fr B μ1 H1 (f a M1) De) := by
  cases r with
  | ok a M2 => exact fun H1 μ1 e1 r1 => PostO.shift e1.kp h
  | err x M2 => exact fun cls dd H1 μ1 e1 r1 hx => h B μ1 oa σ H1 cls dd e1.kp r1 hx
  | bad => exact h
theorem PostO.first0 {r : Res α} {f : α → Mem → Out} {De : Ends} (h : PostO K L W fr B μ H (r.out ρ f) De) :
    Pst K L W fr B μ oa ρ σ H r (fun _ _ a M1 => PostO K L W fr B μ H (f a M1) De) := by
  cases r with
  | ok a M2 => exact fun H1 μ1 e1 r1 => h
  | err x M2 => exact fun cls dd H1 μ1 e1 r1 hx => h B μ1 oa σ H1 cls dd e1.kp r1 hx
  | bad => exact h
theorem PostO.then {o : Out} {f : Ev → Mem → Out} {De : Ends} (h : PostO K L W fr B μ H (o.then f) De) {N : L2.St → Hp → Prop}
    (g : ∀ B' μ' oa' ρ' M' σ' H', Kp H H' (ban B μ) (ban B' μ') μ μ' → Rl K fr B' μ' oa' ρ' M' σ' H' → PostO K L W fr B' μ' H' (f ρ' M') De → N σ' H') : PostO K L W fr B μ H o { De with nx := N } := by
  cases o with
  | nx ρ2 M2 => exact fun B2 μ2 oa2 σ2 H2 k2 r2 => g B2 μ2 oa2 ρ2 M2 σ2 H2 k2 r2 (PostO.shift k2 h)
  | rt d M2 => exact h
  | er x ρ2 M2 => exact h
  | bad => exact h
/-- the ends of a loop's body -/
theorem PostO.imp {o : Out} {De De' : Ends} (h : PostO K L W fr B μ H o De) (f : ∀ σ H, De.nx σ H → De'.nx σ H) (g : ∀ v H, De.rt v H → De'.rt v H := by intro _ _ q; exact q) : PostO K L W fr B μ H o De' := by
  cases o with
  | nx ρ2 M2 => exact fun B2 μ2 oa2 σ2 H2 k2 r2 => f _ _ (h B2 μ2 oa2 σ2 H2 k2 r2)
  | rt d M2 => exact fun B2 μ2 oa2 ρ2 σ2 H2 v r2 rv => g _ _ (h B2 μ2 oa2 ρ2 σ2 H2 v r2 rv)
  | er x ρ2 M2 => exact h
  | bad => exact h
theorem tE_out {Φ : Fns} {c : E} {f : D → Mem → Out} {De : Ends} {Q : VK} (rel : Rl K fr B μ oa ρ M σ H) (h : PostO K L W fr B μ H ((ev Φ c ρ M).out ρ f) De)
    (g : ∀ H1 μ1 d M1 v, Rl K fr B μ1 oa ρ M1 σ H1 → Evo μ H μ1 H1 → Rp K H1 (ban B μ1) μ1 d v → PostO K L W fr B μ1 H1 (f d M1) De → Q v H1) : tE K L W Φ c σ H Q :=
  ⟨fr, B, μ, oa, ρ, M, rel, (PostO.first h).imp fun H1 μ1 d M1 e1 r1 h1 v rv => g H1 μ1 d M1 v r1 e1 rv h1⟩
theorem tT_out {Φ : Fns} {c : E} {f : Bool → Mem → Out} {De : Ends} {Q : Bool → Hp → Prop} (rel : Rl K fr B μ oa ρ M σ H) (h : PostO K L W fr B μ H ((evT Φ c ρ M).out ρ f) De)
    (g : ∀ H1 μ1 d M1, Rl K fr B μ1 oa ρ M1 σ H1 → Evo μ H μ1 H1 → PostO K L W fr B μ1 H1 (f d M1) De → Q d H1) : tT K L W Φ c σ H Q :=
  ⟨fr, B, μ, oa, ρ, M, rel, (PostO.first h).imp fun H1 μ1 d M1 e1 r1 h1 => g H1 μ1 d M1 r1 e1 h1⟩
/-- at the end of a statement -/
theorem PostO.nx {De : Ends} (h : PostO K L W fr B μ H (.nx ρ M) De) (rel : Rl K fr B μ oa ρ M σ H) : De.nx σ H := h B μ oa σ H Kp.refl rel
theorem PostO.nx' {De : Ends} (h : PostO K L W fr B μ H (.nx ρ M) De) (k : Kp H H' (ban B μ) (ban B' μ') μ μ') (rel : Rl K fr B' μ' oa ρ M σ H') : De.nx σ H' := h B' μ' oa σ H' k rel
/-- a slot gets a list of its own, already banned -/
theorem Rel.setown {i : Nat} {a : Addr} {ds : List D} {vs : List V} (r : Rel K fr B μ oa ρ M σ H) (ha : B a) (hn : ∀ k, oa k ≠ some a) (h0 : fr.H0 a = none) (hb : ¬ fr.B0 a) (hm : a ∉ μ) (hH : H a = some (.lst vs)) (hr : Rps K H B μ ds vs) (hi : i < ρ.length) :
    Rel K fr B μ (fun k => if k = i then some a else oa k) (ρ.set i (.own ds)) M (σ.set i (some (.ref a))) H where
  cs := r.cs
  b0 := r.b0
  bt := r.bt
  bo := fun k b e => by
    split at e
    · cases e; exact ha
    · exact r.bo k b e
  oi := fun k l b e e' => by
    split at e
    · cases e
      split at e'
      · rename_i h1 h2
        rw [h1, h2]
      · exact absurd e' (hn l)
    · split at e'
      · cases e'
        exact absurd e (hn k)
      · exact r.oi k l b e e'
  on := fun k b e => by
    split at e
    · cases e; exact ⟨h0, hb, hm⟩
    · exact r.on k b e
  sl := fun k s e => by
    by_cases hk : k = i
    · subst hk
      rw [if_pos rfl]
      rw [List.getElem?_set_self hi] at e
      cases e
      refine ⟨a, vs, rfl, ?_, hH, hr⟩
      rw [List.getElem?_set_self (by rw [← r.ln]; exact hi)]
    · rw [if_neg hk, List.getElem?_set_ne (Ne.symm hk)]
      rw [List.getElem?_set_ne (Ne.symm hk)] at e
      exact r.sl k s e
  so := fun k e => by
    split
    · rename_i hk
      subst hk
      rw [List.getElem?_set_self hi] at e
      cases e
    · rename_i hk
      rw [List.getElem?_set_ne (Ne.symm hk)] at e
      exact r.so k e
  ln := by rw [List.length_set, List.length_set]; exact r.ln
  m0 := r.m0
  ev := r.ev
/-- a new list, banned at once -/
theorem Rel.lay {p : Addr} {o : HO} (r : Rl K fr B μ oa ρ M σ H) (hp : H p = none) : Rl K fr (fun x => B x ∨ x = p) μ oa ρ M σ (upd H p o) ∧ Kp H (upd H p o) (ban B μ) (ban (fun x => B x ∨ x = p) μ) μ μ := by
  have hpm : p ∉ μ := fun z => r.tr p z hp
  have kp : Kp H (upd H p o) (ban B μ) (ban (fun x => B x ∨ x = p) μ) μ μ := by
    refine ⟨fun a q e b => ⟨same_upd hp a q e, fun z => ?_⟩, fun _ _ e => e⟩
    rcases z with (z | z) | z
    · exact b (.inl z)
    · rw [z, hp] at e; cases e
    · exact b (.inr z)
  refine ⟨r.kp kp (fun i a e => upd_ne fun z => r.bt a (r.bo i a e) (by rw [z]; exact hp)) (fun a ha => upd_ne fun z => hpm (by rw [← z]; exact ha)) (fun a b => (r.b0 a b).elim (fun z => .inl (.inl z)) .inr) (fun a ha => .inr ha) (fun i a e => (r.bo i a e).elim (fun z => .inl (.inl z)) .inr) (fun a b => ?_) fun a q e n => same_upd hp a q (r.ev a q e n), kp⟩
  have old : ban B μ a → upd H p o a ≠ none := fun z => by
    cases q : H a with
    | none => exact absurd q (r.bt a z)
    | some u => rw [same_upd hp a u q]; exact fun w => nomatch w
  rcases b with (z | z) | z
  · exact old (.inl z)
  · rw [z, upd_same]; exact fun w => nomatch w
  · exact old (.inr z)
/-- a list of one's own is changed -/
theorem Rel.chg {i : Nat} {a : Addr} {ds : List D} {vs : List V} (r : Rl K fr B μ oa ρ M σ H) (ho : oa i = some a) (hi : σ[i]? = some (some (.ref a))) (hr : Rps K H (ban B μ) μ ds vs) :
    Rl K fr B μ oa (ρ.set i (.own ds)) M σ (upd H a (.lst vs)) ∧ Kp H (upd H a (.lst vs)) (ban B μ) (ban B μ) μ μ := by
  obtain ⟨h0, hb, hm⟩ := r.on i a ho
  have hba := r.bo i a ho
  have kp : Kp H (upd H a (.lst vs)) (ban B μ) (ban B μ) μ μ := ⟨fun b o e n => ⟨by rw [upd_ne fun z => n (by rw [z]; exact hba)]; exact e, n⟩, fun _ _ e => e⟩
  have hil : i < ρ.length := by
    rw [r.ln]
    exact (List.getElem?_eq_some_iff.mp hi).1
  refine ⟨?_, kp⟩
  refine { cs := ⟨r.cs.nd, r.cs.len, r.cs.ban, fun n c b h1 h2 => ?_⟩, b0 := r.b0, bt := fun b z => ?_, bo := r.bo, oi := r.oi, on := r.on, sl := fun k s e => ?_, so := fun k e => ?_, ln := by rw [List.length_set]; exact r.ln, m0 := r.m0, ev := fun b o e n => ?_ }
  · have q := r.cs.at_ n c b h1 h2
    cases c with
    | lst es =>
      obtain ⟨ws, q1, q2⟩ := q
      exact ⟨ws, by rw [upd_ne fun z => hm (by rw [← z]; exact List.mem_of_getElem? h2)]; exact q1, q2.mono kp⟩
    | dict _ => exact q
    | ins _ _ => exact q
  · by_cases e : b = a
    · rw [e, upd_same]; exact fun w => nomatch w
    · rw [upd_ne e]; exact r.bt b z
  · by_cases hk : k = i
    · subst hk
      rw [List.getElem?_set_self hil] at e
      cases e
      exact ⟨a, vs, ho, hi, upd_same, hr.mono kp⟩
    · rw [List.getElem?_set_ne (Ne.symm hk)] at e
      have q := r.sl k s e
      cases s with
      | un => exact q
      | v d => obtain ⟨h1, v, h2, h3⟩ := q; exact ⟨h1, v, h2, h3.mono kp⟩
      | own es =>
        obtain ⟨b, ws, h1, h2, h3, h4⟩ := q
        exact ⟨b, ws, h1, h2, by rw [upd_ne fun z => hk (r.oi k i a (by rw [← z]; exact h1) ho)]; exact h3, h4.mono kp⟩
  · by_cases hk : k = i
    · subst hk
      rw [List.getElem?_set_self hil] at e
      cases e
    · rw [List.getElem?_set_ne (Ne.symm hk)] at e
      exact r.so k e
  · rw [upd_ne fun z => by rw [z, h0] at e; cases e]
    exact r.ev b o e n
/-- a list of one's own becomes a value -/
theorem Rel.frz {i : Nat} {xs : List D} (r : Rl K fr B μ oa ρ M σ H) (hs : slotO ρ i = some xs) : ∃ B', Rl K fr B' μ (fun k => if k = i then none else oa k) (ρ.set i (.v (.lst xs))) M σ H ∧ Kp H H (ban B μ) (ban B' μ) μ μ := by
  obtain ⟨a, vs, q1, q2, q3, q4⟩ := r.sl i _ (slotO_eq hs)
  obtain ⟨h0, hb, hm⟩ := r.on i a q1
  have kp : Kp H H (ban B μ) (ban (fun x => B x ∧ x ≠ a) μ) μ μ := ⟨fun b o e n => ⟨e, fun z => n (z.elim (fun w => .inl w.1) .inr)⟩, fun _ _ e => e⟩
  refine ⟨fun x => B x ∧ x ≠ a, ?_, kp⟩
  have r' : Rl K fr (fun x => B x ∧ x ≠ a) μ (fun k => if k = i then none else oa k) (ρ.set i .un) M σ H := by
    have r1 := r.setun (i := i) (v := some (.ref a))
    have eσ : σ.set i (some (V.ref a)) = σ := by
      apply List.ext_getElem?
      intro k
      by_cases hk : k = i
      · subst hk
        rw [List.getElem?_set_self (List.getElem?_eq_some_iff.mp q2).1, q2]
      · rw [List.getElem?_set_ne (Ne.symm hk)]
    rw [eσ] at r1
    refine r1.kp kp (fun _ _ _ => rfl) (fun _ _ => rfl) (fun b z => ?_) (fun b z => .inr z) (fun k b e => ?_) (fun b z => r.bt b (z.elim (fun w => .inl w.1) .inr)) r.ev
    · exact (r.b0 b z).elim (fun w => .inl ⟨w, fun e => hb (by rw [← e]; exact z)⟩) .inr
    · split at e
      · cases e
      · rename_i hk
        exact (r.bo k b e).elim (fun w => .inl ⟨w, fun z => hk (r.oi k i a (by rw [← z]; exact e) q1)⟩) .inr
  have r2 := r'.setv (i := i) (d := .lst xs) (v := .ref a) (.lst ⟨q3, fun z => z.elim (fun w => w.2 rfl) hm⟩ (q4.mono kp))
  have eρ : (ρ.set i .un).set i (.v (.lst xs)) = ρ.set i (.v (.lst xs)) := List.set_set ..
  have eσ : σ.set i (some (V.ref a)) = σ := by
    apply List.ext_getElem?
    intro k
    by_cases hk : k = i
    · subst hk
      rw [List.getElem?_set_self (List.getElem?_eq_some_iff.mp q2).1, q2]
    · rw [List.getElem?_set_ne (Ne.symm hk)]
  rw [eρ, eσ] at r2
  have eo : (fun k => if k = i then none else (fun k => if k = i then none else oa k) k) = (fun k => if k = i then none else oa k) := by
    funext k
    by_cases hk : k = i <;> simp [hk]
  rw [eo] at r2
  exact r2
end
end PC

namespace PC
open PySem PySem.Spec PyProof.Rows L2
def tS (K : PySem.W.Frag) (L : Lg) (W : WX) (Φ : Fns) (c : S) : TS := fun De σ H => ∃ fr B μ oa ρ M, Rl K fr B μ oa ρ M σ H ∧ PostO K L W fr B μ H (ex Φ c ρ M) De
def tB (K : PySem.W.Frag) (L : Lg) (W : WX) (Φ : Fns) (c : PC.B) : TS := fun De σ H => ∃ fr B μ oa ρ M, Rl K fr B μ oa ρ M σ H ∧ PostO K L W fr B μ H (exs Φ c ρ M) De
section
variable {X : Cx} {L : Lg} {W : WX} {Φ : Fns} {a b c k : E} {s : S} {bl b1 b2 : PC.B} {it : PC.It} {t : Tg} {x y z tg : Expr} {xs : List Expr} {st : Stmt} {sts : List Stmt} {p q pos : Pos} {n : Str} {i j : Nat}
theorem b_nil : PSs X [] (tB X.K L W Φ .nil) := pss_nil.imp fun De σ H ⟨fr, B, μ, oa, ρ, M, rel, h⟩ => by
  rw [exs] at h
  exact h.nx rel
theorem b_cons (h1 : PS X st (tS X.K L W Φ s)) (h2 : PSs X sts (tB X.K L W Φ bl)) : PSs X (st :: sts) (tB X.K L W Φ (.cons s bl)) := (pss_cons h1 h2).imp fun De σ H ⟨fr, B, μ, oa, ρ, M, rel, h⟩ => by
  rw [exs] at h
  exact ⟨fr, B, μ, oa, ρ, M, rel, PostO.then h fun B' μ' oa' ρ' M' σ' H' _ r' h' => ⟨fr, B', μ', oa', ρ', M', r', h'⟩⟩
/-- the last statement (nothing behind it) -/
theorem b_one (h1 : PS X st (tS X.K L W Φ s)) : PSs X [st] (tB X.K L W Φ (.cons s .nil)) := b_cons h1 b_nil
/-- a list of one's own becomes a value: nothing in the text -/
theorem b_freeze (h2 : PSs X sts (tB X.K L W Φ bl)) : PSs X sts (tB X.K L W Φ (.cons (.freeze i) bl)) := h2.imp fun De σ H ⟨fr, B, μ, oa, ρ, M, rel, h⟩ => by
  rw [exs, ex] at h
  cases e : slotO ρ i with
  | none => rw [e] at h; exact h.elim
  | some xs =>
    rw [e] at h
    obtain ⟨B', r', k'⟩ := rel.frz e
    exact ⟨fr, B', μ, _, _, M, r', PostO.shift k' h⟩
theorem st_never : PS X st (tS X.K L W Φ .never) := ps_never.imp fun De σ H ⟨fr, B, μ, oa, ρ, M, rel, h⟩ => by
  rw [ex] at h
  exact h
theorem st_set (hN : X.N.Nodup) (hn : TgName X i n) (ha : PE X x (tE X.K L W Φ a)) (hs : swapsWith x (some (.Name n q)) pos.line X.env = pure false) : PS X (.Assign [.Name n q] x pos) (tS X.K L W Φ (.set i a)) := by
  refine (ps_set hN hn.hN hn.hl ha hs hn.hf).imp fun De σ H ⟨fr, B, μ, oa, ρ, M, rel, h⟩ => ?_
  rw [ex] at h
  exact tE_out rel h fun H1 μ1 d M1 v r1 e1 rv h1 => h1.nx (r1.setv rv)
/-- a comprehension -/
theorem st_setLc {ifs : Es} {eltc : E} (hps : PS X st (tAsg (tLc (tIC X.K L W Φ it) (gT X.K t) (tTs X.K L W0 Φ ifs) (tE X.K L W0 Φ eltc) t.slots) (gName i))) : PS X st (tS X.K L W Φ (.set i (.comp it t ifs eltc))) := by
  refine hps.imp fun De σ H ⟨fr, B, μ, oa, ρ, M, rel, h⟩ => ?_
  rw [ex] at h
  exact lc_read rel (PostO.first h) fun H' μ' xs M' a vs r' e' h' _ hH hb rs _ _ => h'.nx (r'.setv (.lst ⟨hH, hb⟩ rs))
theorem st_ownLc {ifs : Es} {eltc : E} (hps : PS X st (tAsg (tLc (tIC X.K L W Φ it) (gT X.K t) (tTs X.K L W0 Φ ifs) (tE X.K L W0 Φ eltc) t.slots) (gName i))) : PS X st (tS X.K L W Φ (.own i (.comp it t ifs eltc))) := by
  refine hps.imp fun De σ H ⟨fr, B, μ, oa, ρ, M, rel, h⟩ => ?_
  rw [ex] at h
  refine lc_read rel (PostO.first0 h) fun H' μ' xs M' a vs r' e' h' h0 hH hb rs rD rsD => ?_
  obtain ⟨f0, fb⟩ := rel.free_old h0
  have hna : ∀ k, oa k ≠ some a := fun k e => hb (r'.bo k a e)
  have hm : a ∉ μ' := fun z => hb (.inr z)
  have kp : Kp H H' (ban B μ) (ban (fun x => B x ∨ x = a) μ') μ μ' := by
    refine ⟨fun b o e nb => ⟨e'.keep b o e fun z => nb (.inr z), fun z => ?_⟩, fun _ _ e => e'.get e⟩
    rcases z with (z | z) | z
    · exact nb (.inl z)
    · rw [z, h0] at e; cases e
    · exact nb (.inr (e'.old z e))
  by_cases hi : i < ρ.length
  · exact h'.nx' kp (rD.setown (.inl (.inr rfl)) hna f0 fb hm hH rsD hi)
  · have e1 : ρ.set i (.own xs) = ρ := set_none_same _ _ _ (by omega)
    have e2 : σ.set i (some (V.ref a)) = σ := set_none_same _ _ _ (by rw [← rel.ln]; omega)
    have h' : PostO X.K L W fr B μ H (.nx (ρ.set i (.own xs)) M') De := h'
    rw [e1] at h'
    show De.nx (σ.set i (some (V.ref a))) H'
    rw [e2]
    exact h'.nx' kp rD
/-- a list display -/
theorem st_ownLst {es : Es} (hN : X.N.Nodup) (hn : TgName X i n) (ha : PA X xs (tEs X.K L W Φ es)) : PS X (.Assign [.Name n q] (.List xs p) pos) (tS X.K L W Φ (.own i (.lst es))) := by
  refine (ps_set (i := i) hN hn.hN hn.hl (pe_lst ha) rfl hn.hf).imp fun De σ H ⟨fr, B, μ, oa, ρ, M, rel, h⟩ => ?_
  rw [ex, ev] at h
  have h : PostO X.K L W fr B μ H ((evs Φ es ρ M).out ρ fun xs M1 => if xs.length ≤ sizeLine then .nx (ρ.set i (.own xs)) M1 else .bad) De := by
    cases e : evs Φ es ρ M with
    | bad => rw [e] at h; exact h
    | err x M1 => rw [e] at h; exact h
    | ok ds M1 =>
      rw [e] at h
      simp only [Res.bind_ok, Res.out_ok] at h ⊢
      by_cases hz : ds.length ≤ sizeLine
      · rw [if_pos hz] at h ⊢
        exact h
      · rw [if_neg hz] at h ⊢
        exact h
  refine ⟨fr, B, μ, oa, ρ, M, rel, (PostO.first h).imp fun H1 μ1 ds M1 e1 r1 h1 vs rs => ?_⟩
  split at h1
  · rename_i hz
    rw [rs.length] at hz
    refine ⟨hz, fun a ha => ?_⟩
    obtain ⟨f0, fb⟩ := r1.free_old ha
    obtain ⟨rD, kD⟩ := r1.lay (o := .lst vs) ha
    have hna : ∀ k, oa k ≠ some a := fun k e => r1.bt a (r1.bo k a e) ha
    have hm : a ∉ μ1 := fun z => r1.tr a z ha
    by_cases hi : i < ρ.length
    · exact h1.nx' kD (rD.setown (.inl (.inr rfl)) hna f0 fb hm upd_same (rs.mono kD) hi)
    · have e1 : ρ.set i (.own ds) = ρ := set_none_same _ _ _ (by omega)
      have e2 : σ.set i (some (V.ref a)) = σ := set_none_same _ _ _ (by rw [← rel.ln]; omega)
      rw [e1] at h1
      show De.nx (σ.set i (some (V.ref a))) _
      rw [e2]
      exact h1.nx' kD rD
  · exact h1.elim
theorem out_bind {α β : Type} {r : Res α} {g : α → Mem → Res β} {ρ : Ev} {f : β → Mem → Out} : (r.bind g).out ρ f = r.out ρ fun a M => (g a M).out ρ f := by cases r <;> rfl
theorem st_ownRep (hN : X.N.Nodup) (hn : TgName X i n) (ha : PE X x (tE X.K L W Φ a)) (hb : PE X y (tE X.K L W Φ b)) : PS X (.Assign [.Name n q] (.BinOp x .Mult y p) pos) (tS X.K L W Φ (.own i (.bin .mul a b))) := by
  refine (ps_set (i := i) hN hn.hN hn.hl (pe_op op_rep ha hb) rfl hn.hf).imp fun De σ H ⟨fr, B, μ, oa, ρ, M, rel, h⟩ => ?_
  rw [ex, ev] at h
  simp only [out_bind] at h
  refine tE_out rel h fun H1 μ1 d1 M1 v1 r1 e1 p1 h1 => tE_out r1 h1 fun H2 μ2 d2 M2 v2 r2 e2 p2 h2 => ?_
  have p1' := p1.later e2
  cases p1' <;> cases p2 <;> simp only [Bop.run] at h2 <;> try exact h2.elim
  · split at h2 <;> exact h2.elim
  · split at h2 <;> exact h2.elim
  · rename_i a1 vs1 ds1 t1 q1 k
    split at h2
    · rename_i hz
      obtain ⟨z0, z1, z2⟩ := hz
      rw [q1.length] at z2
      refine ⟨_, _, _, rfl, rfl, t1.1, by omega, by omega, by rw [Nat.mul_comm]; exact z2, fun a ha => ?_⟩
      obtain ⟨f0, fb⟩ := r2.free_old ha
      obtain ⟨rD, kD⟩ := r2.lay (o := .lst (List.replicate k.toNat vs1).flatten) ha
      have hna : ∀ k, oa k ≠ some a := fun k e => r2.bt a (r2.bo k a e) ha
      have hm : a ∉ μ2 := fun z => r2.tr a z ha
      have h2 : PostO X.K L W fr B μ2 H2 (.nx (ρ.set i (.own (rep k ds1))) M2) De := h2
      by_cases hi : i < ρ.length
      · exact h2.nx' kD (rD.setown (.inl (.inr rfl)) hna f0 fb hm upd_same ((q1.rep k.toNat).mono kD) hi)
      · have w1 : ρ.set i (.own (rep k ds1)) = ρ := set_none_same _ _ _ (by omega)
        have w2 : σ.set i (some (V.ref a)) = σ := set_none_same _ _ _ (by rw [← rel.ln]; omega)
        rw [w1] at h2
        show De.nx (σ.set i (some (V.ref a))) _
        rw [w2]
        exact h2.nx' kD rD
    · exact h2.elim
theorem st_unpack {is : List Nat} {tes : List Expr} {kk : Nat} (hc : X.calm = true) (hN : X.N.Nodup) (hn : TgNames X is tes) (ha : PE X x (tE X.K L W Φ a)) (hs : swapsWithSole [.Tuple tes kk q] x pos.line X.env = pure false) (hw : swappedStores [.Tuple tes kk q] x X.env = pure none) :
    PS X (.Assign [.Tuple tes kk q] x pos) (tS X.K L W Φ (.unpack is a)) := by
  refine (ps_asg ha (TgOk.pg hc hN (.tup hn)) hs hw rfl).imp fun De σ H ⟨fr, B, μ, oa, ρ, M, rel, h⟩ => ?_
  rw [ex] at h
  refine tE_out rel h fun H1 μ1 d M1 v r1 e1 rv h1 => ?_
  cases d with
  | tup ds =>
    dsimp only at h1
    cases e : setsL is ds ρ with
    | none => rw [e] at h1; exact h1.elim
    | some ρ2 =>
      rw [e] at h1
      exact gT_put (t := .tup is) r1 rv e fun σ' oa' r2 _ _ => h1.nx r2
  | non => exact h1.elim
  | bl _ => exact h1.elim
  | int _ => exact h1.elim
  | str _ => exact h1.elim
  | lst _ => exact h1.elim
  | frz _ => exact h1.elim
  | cell _ => exact h1.elim
theorem st_append {apos cpos : Pos} (hn : IsName X i n) (ha : PE X x (tE X.K L W Φ a)) (hline : (apos.endLine == cpos.line) = true) (hs : starEach [x] X.env = (false, eval x X.env) :: starEach [] X.env)
    (hfew : ((backTo cpos (starEach [x] X.env)).all (fun x => !x.1) && (backToKw cpos (keywordEach [] X.env)).all (fun x => x.1.isSome) && decide ([x].length + ([] : List Keyword).length + (if ([] : List Keyword).isEmpty then 0 else 1) < 30)) = true) :
    PS X (.Expr (.Call (.Attribute (.Name n q) "append" apos) [x] [] cpos) pos) (tS X.K L W Φ (.append i a)) := by
  refine (ps_expr (pe_bm F.plainAttrs_list F.slot_list_append F.type_list_append mt_append (pe_var hn.hN hn.hv hn.hd hn.hc) (pa_cons ha pa_nil hs) rfl hfew hline hs rfl) rfl).imp fun De σ H ⟨fr, B, μ, oa, ρ, M, rel, h⟩ => ?_
  rw [ex] at h
  cases e : slotO ρ i with
  | none => rw [e] at h; exact h.elim
  | some ds =>
    rw [e] at h
    obtain ⟨ad, vs, q1, q2, q3, q4⟩ := rel.sl i _ (slotO_eq e)
    refine ⟨_, q2, .inl ⟨rfl, vs, .of q3⟩, tE_out rel h fun H1 μ1 d M1 v r1 e1 rv h1 => ?_⟩
    split at h1
    · rename_i hz
      have q3' := e1.keep ad _ q3 (rel.on i ad q1).2.2
      refine ⟨ad, vs, v, rfl, rfl, q3', by rw [← q4.length]; exact hz, ?_⟩
      obtain ⟨r2, k2⟩ := r1.chg q1 q2 ((q4.mono e1.kp).append (.cons rv .nil))
      exact h1.nx' k2 r2
    · exact h1.elim
theorem st_popAt {apos cpos : Pos} {m : Str} (hN : X.N.Nodup) (hm : TgName X j m) (hn : IsName X i n) (ha : PE X x (tE X.K L W Φ a)) (hline : (apos.endLine == cpos.line) = true) (hs : starEach [x] X.env = (false, eval x X.env) :: starEach [] X.env)
    (hfew : ((backTo cpos (starEach [x] X.env)).all (fun x => !x.1) && (backToKw cpos (keywordEach [] X.env)).all (fun x => x.1.isSome) && decide ([x].length + ([] : List Keyword).length + (if ([] : List Keyword).isEmpty then 0 else 1) < 30)) = true) :
    PS X (.Assign [.Name m p] (.Call (.Attribute (.Name n q) "pop" apos) [x] [] cpos) pos) (tS X.K L W Φ (.popAt j i a)) := by
  refine (ps_set (i := j) hN hm.hN hm.hl (pe_bm F.plainAttrs_list F.slot_list_pop F.type_list_pop mt_popAt (pe_var hn.hN hn.hv hn.hd hn.hc) (pa_cons ha pa_nil hs) rfl hfew hline hs rfl) rfl hm.hf).imp fun De σ H ⟨fr, B, μ, oa, ρ, M, rel, h⟩ => ?_
  rw [ex] at h
  cases e : slotO ρ i with
  | none => rw [e] at h; exact h.elim
  | some ds =>
    rw [e] at h
    obtain ⟨ad, vs, q1, q2, q3, q4⟩ := rel.sl i _ (slotO_eq e)
    refine ⟨_, q2, .inl ⟨rfl, vs, .of q3⟩, tE_out rel h fun H1 μ1 d M1 v r1 e1 rv h1 => ?_⟩
    cases rv <;> try exact h1.elim
    rename_i z
    dsimp only at h1
    cases es : seqIndex? z ds.length with
    | none => rw [es] at h1; exact h1.elim
    | some mm =>
      rw [es] at h1
      dsimp only at h1
      cases ex : ds[mm]? with
      | none => rw [ex] at h1; exact h1.elim
      | some d =>
        rw [ex] at h1
        dsimp only at h1
        split at h1
        · rename_i hz
          obtain ⟨z1, z2, z3⟩ := hz
          have q3' := e1.keep ad _ q3 (rel.on i ad q1).2.2
          have q4' := Rps.later e1 q4
          obtain ⟨v, v1, v2⟩ := q4'.get ex
          refine ⟨ad, vs, z, mm, v, rfl, rfl, q3', z1, z2, by rw [← q4.length]; exact es, v1, ?_⟩
          obtain ⟨r2, k2⟩ := r1.chg q1 q2 (q4'.eraseIdx mm)
          exact h1.nx' k2 (r2.setv (v2.mono k2))
        · exact h1.elim
theorem st_setO {spos : Pos} (hn : IsName X i n) (ha : PE X x (tE X.K L W Φ a)) (hk : PE X y (tE X.K L W Φ k)) (hs : swapsWithSole [.Subscript (.Name n q) y spos] x pos.line X.env = pure false) (hw : swappedStores [.Subscript (.Name n q) y spos] x X.env = pure none) (hy : ∀ l h p, y ≠ .Slice l h none p)
    (hass : ∀ v, assign (.Subscript (.Name n q) y spos) X.env v = (do
      let ov ← holding [v] (eval (.Name n q) X.env)
      let iv ← holding [v, ov] (eval y X.env)
      standAt spos
      holding [v, ov, iv] (setItem ov iv v)
      release [v, ov, iv] [])) :
    PS X (.Assign [.Subscript (.Name n q) y spos] x pos) (tS X.K L W Φ (.setO i k a)) := by
  refine (ps_asg ha (pg_sub (pe_var hn.hN hn.hv hn.hd hn.hc) hk set_list hass) hs hw rfl).imp fun De σ H ⟨fr, B, μ, oa, ρ, M, rel, h⟩ => ?_
  rw [ex] at h
  cases e : slotO ρ i with
  | none => rw [e] at h; exact h.elim
  | some ds =>
    rw [e] at h
    obtain ⟨ad, vs, q1, q2, q3, q4⟩ := rel.sl i _ (slotO_eq e)
    refine tE_out rel h fun H1 μ1 d M1 v r1 e1 rv h1 => ⟨_, q2, tE_out r1 h1 fun H2 μ2 d2 M2 v2 r2 e2 rv2 h2 => ?_⟩
    cases rv2 <;> try exact h2.elim
    rename_i z
    dsimp only at h2
    cases es : ixN ds.length z with
    | none => rw [es] at h2; exact h2.elim
    | some mm =>
      rw [es] at h2
      have q3' := e2.keep ad _ (e1.keep ad _ q3 (rel.on i ad q1).2.2) (r1.on i ad q1).2.2
      have q4' := Rps.later e2 (Rps.later e1 q4)
      refine ⟨ad, vs, z, mm, rfl, rfl, q3', by rw [← q4.length]; exact es, ?_⟩
      obtain ⟨r3, k3⟩ := r2.chg q1 q2 (Rps.set (Rp.later e2 rv) mm q4')
      exact h2.nx' k3 r3
/-- a cell is changed -/
theorem Rel.chgCell {K : PySem.W.Frag} {fr : Fr} {H : Hp} {B : Addr → Prop} {μ : List Addr} {oa : Nat → Option Addr} {ρ : Ev} {M : Mem} {σ : L2.St} {m : Nat} {ad : Addr} {ds : List D} {vs : List V} (r : Rl K fr B μ oa ρ M σ H) (hm : μ[m]? = some ad) (hr : Rps K H (ban B μ) μ ds vs) :
    Rl K fr B μ oa ρ (M.set m (.lst ds)) σ (upd H ad (.lst vs)) ∧ Kp H (upd H ad (.lst vs)) (ban B μ) (ban B μ) μ μ := by
  have hmem : ad ∈ μ := List.mem_of_getElem? hm
  have hba := r.cs.ban ad hmem
  have kp : Kp H (upd H ad (.lst vs)) (ban B μ) (ban B μ) μ μ := ⟨fun b o e n => ⟨by rw [upd_ne fun z => n (by rw [z]; exact hba)]; exact e, n⟩, fun _ _ e => e⟩
  refine ⟨?_, kp⟩
  refine { cs := ⟨r.cs.nd, by rw [List.length_set]; exact r.cs.len, r.cs.ban, fun n c b h1 h2 => ?_⟩, b0 := r.b0, bt := fun b z => ?_, bo := r.bo, oi := r.oi, on := r.on, sl := fun k s e => ?_, so := r.so, ln := r.ln, m0 := r.m0, ev := fun b o e n => ?_ }
  · by_cases hnm : n = m
    · subst hnm
      rw [hm] at h2
      cases h2
      rw [List.getElem?_set_self (by rw [r.cs.len]; exact (List.getElem?_eq_some_iff.mp hm).1)] at h1
      cases h1
      exact ⟨vs, upd_same, hr.mono kp⟩
    · rw [List.getElem?_set_ne (Ne.symm hnm)] at h1
      have hne : b ≠ ad := fun z => by
        subst z
        exact hnm ((List.getElem?_inj (List.getElem?_eq_some_iff.mp h2).1 r.cs.nd).mp (h2.trans hm.symm))
      have q := r.cs.at_ n c b h1 h2
      cases c with
      | lst es =>
        obtain ⟨ws, q1, q2⟩ := q
        exact ⟨ws, by rw [upd_ne hne]; exact q1, q2.mono kp⟩
      | dict _ => exact q
      | ins _ _ => exact q
  · by_cases e : b = ad
    · rw [e, upd_same]; exact fun w => nomatch w
    · rw [upd_ne e]; exact r.bt b z
  · have q := r.sl k s e
    cases s with
    | un => exact q
    | v d => obtain ⟨h1, v, h2, h3⟩ := q; exact ⟨h1, v, h2, h3.mono kp⟩
    | own es =>
      obtain ⟨b, ws, h1, h2, h3, h4⟩ := q
      exact ⟨b, ws, h1, h2, by rw [upd_ne fun z => (r.on k b h1).2.2 (by rw [z]; exact hmem)]; exact h3, h4.mono kp⟩
  · have hne : b ≠ ad := fun z => by
      subst z
      obtain ⟨t, ht, h1⟩ := r.m0
      rw [ht] at hmem
      rcases List.mem_append.mp hmem with z | z
      · exact n z
      · rw [(h1 _ z).1] at e; cases e
    rw [upd_ne hne]
    exact r.ev b o e n
theorem st_setC {spos : Pos} (ho : PE X z (tE X.K L W Φ b)) (ha : PE X x (tE X.K L W Φ a)) (hk : PE X y (tE X.K L W Φ k)) (hs : swapsWithSole [.Subscript z y spos] x pos.line X.env = pure false) (hw : swappedStores [.Subscript z y spos] x X.env = pure none)
    (hass : ∀ v, assign (.Subscript z y spos) X.env v = (do
      let ov ← holding [v] (eval z X.env)
      let iv ← holding [v, ov] (eval y X.env)
      standAt spos
      holding [v, ov, iv] (setItem ov iv v)
      release [v, ov, iv] [])) :
    PS X (.Assign [.Subscript z y spos] x pos) (tS X.K L W Φ (.setC b k a)) := by
  refine (ps_asg ha (pg_sub ho hk set_list hass) hs hw rfl).imp fun De σ H ⟨fr, B, μ, oa, ρ, M, rel, h⟩ => ?_
  rw [ex] at h
  refine tE_out rel h fun H1 μ1 d M1 v r1 e1 rv h1 => tE_out r1 h1 fun H2 μ2 d2 M2 v2 r2 e2 rv2 h2 => tE_out r2 h2 fun H3 μ3 d3 M3 v3 r3 e3 rv3 h3 => ?_
  have rv2' := Rp.later e3 rv2
  cases rv2' <;> try exact h3.elim
  rename_i m ad hm
  cases rv3 <;> try exact h3.elim
  rename_i zz
  dsimp only at h3
  cases ec : M3[m]? with
  | none => rw [ec] at h3; exact h3.elim
  | some c =>
    rw [ec] at h3
    cases c with
    | lst ds =>
      dsimp only at h3
      cases es : ixN ds.length zz with
      | none => rw [es] at h3; exact h3.elim
      | some mm =>
        rw [es] at h3
        obtain ⟨vs, q1, q2⟩ := r3.cs.at_ m _ ad ec hm
        refine ⟨ad, vs, zz, mm, rfl, rfl, q1, by rw [← q2.length]; exact es, ?_⟩
        obtain ⟨r4, k4⟩ := r3.chgCell hm (Rps.set (Rp.later e3 (Rp.later e2 rv)) mm q2)
        exact h3.nx' k4 r4
    | dict _ => exact h3.elim
    | ins _ _ => exact h3.elim
theorem st_expr (ha : PE X x (tE X.K L W Φ a)) (hs : swapsWith x none pos.line X.env = pure false) : PS X (.Expr x pos) (tS X.K L W Φ (.expr a)) := by
  refine (ps_expr ha hs).imp fun De σ H ⟨fr, B, μ, oa, ρ, M, rel, h⟩ => ?_
  rw [ex] at h
  exact tE_out rel h fun H1 μ1 d M1 v r1 e1 rv h1 => h1.nx r1
theorem st_ret (ha : PE X x (tE X.K L W Φ a)) : PS X (.Return (some x) pos) (tS X.K L W Φ (.ret a)) := by
  refine (ps_ret ha).imp fun De σ H ⟨fr, B, μ, oa, ρ, M, rel, h⟩ => ?_
  rw [ex] at h
  exact tE_out rel h fun H1 μ1 d M1 v r1 e1 rv h1 => h1 B μ1 oa ρ σ H1 v r1 rv
theorem st_ite (hc : PT X x (tT X.K L W Φ c)) (h1 : PSs X xs1 (tB X.K L W Φ b1)) (h2 : PSs X xs2 (tB X.K L W Φ b2)) : PS X (.If x xs1 xs2 pos) (tS X.K L W Φ (.ite c b1 b2)) := by
  refine (ps_if hc h1 h2).imp fun De σ H ⟨fr, B, μ, oa, ρ, M, rel, h⟩ => ?_
  rw [ex] at h
  refine tT_out rel h fun H1 μ1 k M1 r1 e1 h1 => ?_
  cases k with
  | true => exact iteT ⟨fr, B, μ1, oa, ρ, M1, r1, h1⟩
  | false => exact iteF ⟨fr, B, μ1, oa, ρ, M1, r1, h1⟩
end
end PC

namespace PC
open PySem PySem.Spec PyProof.Rows L2
section
variable {X : Cx} {L : Lg} {W : WX} {Φ : Fns} {a b c k : E} {s : S} {bl b1 b2 : PC.B} {it : PC.It} {t : Tg} {x y z tg : Expr} {xs : List Expr} {st : Stmt} {sts : List Stmt} {p q pos : Pos} {n : Str} {i j : Nat}
theorem ps_while' {cc : Expr} {body : List Stmt} {tc : TT} {tb : TS} (hp : PassesOwn (model X.prog X.w) X.A X.env X.xe) (hc : PT X cc tc) (hb : PSs X body tb) : PS X (.While cc body [] pos) (tWhile tc tb) := ps_while hp hc hb
theorem st_whl {m : Nat} (hp : PassesOwn (model X.prog X.w) X.A X.env X.xe) (hc : PT X x (tT X.K L W Φ c)) (hb : PSs X sts (tB X.K L W Φ bl)) : PS X (.While x sts [] pos) (tS X.K L W Φ (.whl m c bl)) := by
  refine (ps_while hp hc hb).imp fun De σ H ⟨fr, B, μ, oa, ρ, M, rel, h⟩ => ?_
  rw [ex] at h
  refine ⟨fun f σ H => ∃ B μ oa ρ M, Rl X.K fr B μ oa ρ M σ H ∧ PostO X.K L W fr B μ H (whlL (evT Φ c) (exs Φ bl) f ρ M) De, ⟨m, B, μ, oa, ρ, M, rel, h⟩, ?_⟩
  rintro f σ H ⟨B, μ, oa, ρ, M, rel, h⟩
  cases f with
  | zero => exact h.elim
  | succ f =>
    rw [whlL] at h
    refine tT_out rel h fun H1 μ1 k M1 r1 e1 h1 => ?_
    cases k with
    | false => exact iteF (h1.nx r1)
    | true =>
      refine iteT ⟨_, fun σ' H' w => ⟨f, Nat.lt_succ_self f, w⟩, ?_⟩
      exact ⟨fr, B, μ1, oa, ρ, M1, r1, PostO.imp (PostO.then h1 fun B' μ' oa' ρ' M' σ' H' _ r' h' => ⟨B', μ', oa', ρ', M', r', h'⟩) fun _ _ q => q⟩
theorem st_for (hp : PassesOwn (model X.prog X.w) X.A X.env X.xe) (hc : X.calm = true) (hN : X.N.Nodup) (hi : PI X tg x (tIF X.K L W Φ it)) (ht : TgOk X t tg) (hb : PSs X sts (tB X.K L W Φ bl)) (hs : ∀ v, foldedSetIterable x X.env v = pure v) :
    PS X (.For tg x sts [] pos) (tS X.K L W Φ (.for_ it t bl)) := by
  refine (ps_for hp hc hi (ht.pg hc hN) hb hs).imp fun De σ H ⟨fr, B, μ, oa, ρ, M, rel, h⟩ => ?_
  rw [ex] at h
  refine ⟨fr, B, μ, oa, ρ, M, rel, (PostO.first h).imp fun H1 μ1 ds M1 e1 r1 h1 J hJ => ?_⟩
  refine ⟨fun i m σ H => i ≤ ds.length ∧ m = ds.length - i ∧ ∃ B' μ' oa' ρ' M', Kp H1 H (ban B μ1) (ban B' μ') μ1 μ' ∧ Rl X.K fr B' μ' oa' ρ' M' σ H ∧ PostO X.K L W fr B' μ' H (forL t (exs Φ bl) (ds.drop i) ρ' M') De,
    ⟨ds.length, Nat.zero_le _, rfl, B, μ1, oa, ρ, M1, Kp.refl, r1, h1⟩, ?_⟩
  rintro i m σ H ⟨hi, rfl, B', μ', oa', ρ', M', kp, r', h'⟩
  obtain ⟨at1, at2⟩ := hJ H _ μ' kp r'.bt
  by_cases hlt : i < ds.length
  · refine .inr ⟨(at1 i ds[i] (List.getElem?_eq_getElem hlt)).1, fun σ H => ∃ B' μ' oa' ρ' M', Kp H1 H (ban B μ1) (ban B' μ') μ1 μ' ∧ Rl X.K fr B' μ' oa' ρ' M' σ H ∧ PostO X.K L W fr B' μ' H (forL t (exs Φ bl) (ds.drop (i + 1)) ρ' M') De,
      fun σ' H' w => ⟨ds.length - (i + 1), by omega, hlt, rfl, w⟩, fun v H3 y => ?_⟩
    obtain ⟨s3, rv⟩ := (at1 i ds[i] (List.getElem?_eq_getElem hlt)).2 v H3 y
    have hdrop : ds.drop i = ds[i] :: ds.drop (i + 1) := List.drop_eq_getElem_cons hlt
    rw [hdrop, forL] at h'
    cases ep : t.put ds[i] ρ' with
    | none => rw [ep] at h'; exact h'.elim
    | some ρ2 =>
      rw [ep] at h'
      refine gT_put (r'.same s3) rv ep fun σ2 oa2 r2 _ _ => ⟨fr, B', μ', oa2, ρ2, M', r2, ?_⟩
      have h2 := PostO.shift (Same.kp s3 : Kp H H3 (ban B' μ') (ban B' μ') μ' μ') h'
      exact PostO.imp (PostO.then h2 fun B'' μ'' oa'' ρ'' M'' σ'' H'' k'' r'' h'' => ⟨B'', μ'', oa'', ρ'', M'', (kp.trans (Same.kp s3)).trans k'', r'', h''⟩) fun _ _ q => q
  · have ei : i = ds.length := by omega
    subst ei
    rw [List.drop_length, forL] at h'
    exact .inl ⟨at2, h'.nx r'⟩
end
end PC

namespace PC
open PySem PySem.Spec PyProof.Rows L2
section
variable {K : PySem.W.Frag} {fr : Fr} {H H' : Hp} {B B' : Addr → Prop} {μ μ' : List Addr} {oa : Nat → Option Addr} {ρ : Ev} {M M' : Mem} {σ : L2.St} {L : Lg} {W : WX}
theorem flat_rp {d : D} {v : V} (f : d.flat = true) (h : Rp K H B μ d v) : Rp K H' B' μ' d v := by
  cases h <;> first | exact .non | exact .bl _ | exact .int _ | exact .str _ | cases f
theorem flat_rps : ∀ {ds : List D} {vs : List V}, ds.all D.flat = true → Rps K H B μ ds vs → Rps K H' B' μ' ds vs
  | _, _, _, .nil => .nil
  | _, _, f, .cons h r => by
    rw [List.all_cons, Bool.and_eq_true] at f
    exact .cons (flat_rp f.1 h) (flat_rps f.2 r)
/-- the state with slot i lent -/
theorem lend (rel : Rl K fr B μ oa ρ M σ H) {i : Nat} {xs : List D} (hi : ρ[i]? = some (.own xs)) : ∃ a vs, oa i = some a ∧ σ[i]? = some (some (.ref a)) ∧ H a = some (.lst vs) ∧
    Rl K fr (fun x => B x ∧ x ≠ a) μ (fun j => if j = i then none else oa j) (ρ.set i (.v (.lst xs))) M σ H := by
  obtain ⟨a, vs, h1, h2, h3, h4⟩ := rel.sl i _ hi
  obtain ⟨o1, o2, o3⟩ := rel.on i a h1
  have kp : Kp H H (ban B μ) (ban (fun x => B x ∧ x ≠ a) μ) μ μ := ⟨fun x o e n => ⟨e, fun z => n (z.elim (fun z => .inl z.1) .inr)⟩, fun _ _ e => e⟩
  refine ⟨a, vs, h1, h2, h3, ⟨⟨rel.cs.nd, rel.cs.len, fun x h => .inr h, fun n c x q1 q2 => ?_⟩, fun x h => ?_, fun x h => rel.bt x (h.elim (fun z => .inl z.1) .inr), fun j x h => ?_, fun j k x p q => ?_, fun j x h => ?_, fun j s h => ?_, fun j h => ?_, ?_, rel.m0, rel.ev⟩⟩
  · have q := rel.cs.at_ n c x q1 q2
    cases c with
    | lst es => obtain ⟨ws, q1, q2⟩ := q; exact ⟨ws, q1, q2.mono kp⟩
    | dict _ => exact q
    | ins _ _ => exact q
  · rcases rel.b0 x h with z | z
    · exact .inl ⟨z, fun e => o2 (e ▸ h)⟩
    · exact .inr z
  · by_cases e : j = i
    · simp only [if_pos e] at h; cases h
    · simp only [if_neg e] at h
      rcases rel.bo j x h with z | z
      · exact .inl ⟨z, fun q => e (rel.oi j i a (q ▸ h) h1)⟩
      · exact .inr z
  · by_cases e : j = i
    · simp only [if_pos e] at p; cases p
    · by_cases e2 : k = i
      · simp only [if_pos e2] at q; cases q
      · simp only [if_neg e] at p
        simp only [if_neg e2] at q
        exact rel.oi j k x p q
  · by_cases e : j = i
    · simp only [if_pos e] at h; cases h
    · simp only [if_neg e] at h; exact rel.on j x h
  · by_cases e : j = i
    · subst e
      have hl : j < ρ.length := (List.getElem?_eq_some_iff.1 hi).1
      rw [List.getElem?_set_self hl] at h
      cases h
      refine ⟨if_pos rfl, .ref a, h2, .lst ⟨h3, fun z => ?_⟩ (h4.mono kp)⟩
      rcases z with z | z
      · exact z.2 rfl
      · exact o3 z
    · rw [List.getElem?_set_ne (fun z => e z.symm)] at h
      have q := rel.sl j s h
      simp only [if_neg e]
      cases s with
      | un => exact q
      | v d => obtain ⟨q1, v, q2, q3⟩ := q; exact ⟨q1, v, q2, q3.mono kp⟩
      | own ds => obtain ⟨b, ws, q1, q2, q3, q4⟩ := q; exact ⟨b, ws, q1, q2, q3, q4.mono kp⟩
  · by_cases e : j = i
    · exact if_pos e
    · simp only [if_neg e]
      refine rel.so j ?_
      rw [List.getElem?_set_ne (fun z => e z.symm)] at h
      exact h
  · rw [List.length_set]; exact rel.ln
/-- and given back -/
theorem unlend (rel : Rl K fr B μ oa ρ M σ H) {i : Nat} {xs : List D} {a : Addr} (hi : ρ[i]? = some (.own xs)) (ha : oa i = some a) (e : Evo μ H μ' H') {ρ' : Ev} {oa' : Nat → Option Addr}
    (r : Rl K fr (fun x => B x ∧ x ≠ a) μ' oa' ρ' M' σ H') (hm : Mem.flat M' = true) : Rl K fr B μ' oa ρ M' σ H' := by
  have keep : ∀ x o, H x = some o → x ∉ μ → H' x = some o := e.keep
  have notin : ∀ x o, H x = some o → x ∉ μ → x ∉ μ' := fun x o h n z => n (e.old z h)
  refine ⟨⟨r.cs.nd, r.cs.len, fun x h => .inr h, fun n c x q1 q2 => ?_⟩, fun x h => (rel.b0 x h).elim .inl fun z => .inr (e.mem z), fun x h => ?_, fun j x h => (rel.bo j x h).elim .inl fun z => .inr (e.mem z), rel.oi, fun j x h => ?_, fun j s h => ?_, rel.so, rel.ln, r.m0, r.ev⟩
  · have q := r.cs.at_ n c x q1 q2
    have f := List.all_eq_true.1 hm c (List.mem_of_getElem? q1)
    cases c with
    | lst es => obtain ⟨ws, q1, q2⟩ := q; exact ⟨ws, q1, flat_rps f q2⟩
    | dict _ => exact q
    | ins _ _ => exact q
  · rcases h with h | h
    · by_cases q : x = a
      · subst q
        obtain ⟨a', vs, h1, _, h3, _⟩ := rel.sl i _ hi
        rw [ha] at h1; cases h1
        rw [keep x _ h3 (rel.on i x ha).2.2]; exact fun z => nomatch z
      · exact r.bt x (.inl ⟨h, q⟩)
    · exact r.bt x (.inr h)
  · obtain ⟨o1, o2, o3⟩ := rel.on j x h
    refine ⟨o1, o2, fun z => ?_⟩
    cases q : H x with
    | none => exact rel.bt x (rel.bo j x h) q
    | some o => exact notin x o q o3 z
  · have q := rel.sl j s h
    cases s with
    | un => exact q
    | v d => obtain ⟨q1, v, q2, q3⟩ := q; exact ⟨q1, v, q2, q3.mono e.kp⟩
    | own ds =>
      obtain ⟨b, ws, q1, q2, q3, q4⟩ := q
      exact ⟨b, ws, q1, q2, keep b _ q3 (rel.on j b q1).2.2, q4.mono e.kp⟩
theorem slotO_own {ρ : Ev} {i : Nat} {xs : List D} (h : slotO ρ i = some xs) : ρ[i]? = some (.own xs) := by
  unfold slotO at h
  split at h
  · rename_i e; cases h; exact e
  · cases h
theorem e_borrow {X : Cx} {x : Expr} {Φ : Fns} {c : E} {i : Nat} (h : PE X x (tE X.K L W Φ c)) : PE X x (tE X.K L W Φ (.borrow i c)) := h.imp fun σ H Q ⟨fr, B, μ, oa, ρ, M, rel, hp⟩ => by
  simp only [ev] at hp
  cases es : slotO ρ i with
  | none => rw [es] at hp; exact hp.elim
  | some xs =>
    rw [es] at hp
    have hi := slotO_own es
    obtain ⟨a, vs, h1, h2, h3, rl⟩ := lend rel hi
    refine ⟨fr, _, μ, _, _, M, rl, ?_⟩
    simp only at hp
    cases e : ev Φ c (ρ.set i (.v (.lst xs))) M with
    | bad => rw [e] at hp; exact hp.elim
    | err x M1 => rw [e] at hp; exact hp.elim
    | ok d M1 =>
      rw [e] at hp
      simp only [Res.calm, Res.bind_ok] at hp
      by_cases hf : (d.flat && Mem.flat M1) = true
      · rw [if_pos hf] at hp
        rw [Bool.and_eq_true] at hf
        exact fun H' μ' ee r v rv => hp H' μ' ee (unlend rel hi h1 ee r hf.2) v (flat_rp hf.1 rv)
      · rw [if_neg hf] at hp; exact hp.elim
theorem t_borrow {X : Cx} {x : Expr} {Φ : Fns} {c : E} {i : Nat} (h : PT X x (tT X.K L W Φ c)) : PT X x (tT X.K L W Φ (.borrow i c)) := h.imp fun σ H Q ⟨fr, B, μ, oa, ρ, M, rel, hp⟩ => by
  unfold evT at hp
  simp only [ev] at hp
  cases es : slotO ρ i with
  | none => rw [es] at hp; exact hp.elim
  | some xs =>
    rw [es] at hp
    have hi := slotO_own es
    obtain ⟨a, vs, h1, h2, h3, rl⟩ := lend rel hi
    refine ⟨fr, _, μ, _, _, M, rl, ?_⟩
    simp only at hp
    unfold evT
    cases e : ev Φ c (ρ.set i (.v (.lst xs))) M with
    | bad => rw [e] at hp; exact hp.elim
    | err x M1 => rw [e] at hp; exact hp.elim
    | ok d M1 =>
      rw [e] at hp
      simp only [Res.calm, Res.bind_ok] at hp ⊢
      by_cases hf : (d.flat && Mem.flat M1) = true
      · rw [if_pos hf] at hp
        rw [Bool.and_eq_true] at hf
        simp only [Res.bind_ok] at hp
        cases et : d.truth M1 with
        | none => rw [et] at hp; exact hp.elim
        | some k =>
          rw [et] at hp
          exact fun H' μ' ee r => hp H' μ' ee (unlend rel hi h1 ee r hf.2)
      · rw [if_neg hf] at hp; exact hp.elim
end
end PC

set_option maxHeartbeats 2000000
namespace PC
open PySem PySem.Spec PyProof.Rows L2 PySem.W PySem.Calls
/-- what is told of the def and its class -/
structure InitIn (P : Program) (K : PySem.W.Frag) (mg : Str → Option Value) (C fI : Addr) (fd : FuncData) (x f : Str) (one : Bool) : Prop where
  oex : OexC K C
  hB : subIn K (.ref C) (.type "ValueError") = some true
  hm : ks_superIn K C C "__init__" = some (some (.builtin "ValueError.__init__"))
  hsub : mroIn K C (.ref C) = some true
  ho : nsIn K cStatics "thirdparty.any" = some none
  hno : findIn K (.ref C) f = some none
  hsu : mg "super" = none
  htop : (P.main.scope.names.lookup ("super" : Str)).isSome = false
  fn : ∃ name qual params scope dV kV doc pm an cda ct cc body oc od osl vs file tf ccl cdd ccs cl cld csl, fd = ksFn name qual params body scope dV kV doc pm an (.ref cda) ct cc ∧ K.lookup fI = some ⟨oc, od, .func fd, osl⟩ ∧ codeIn K (.ref cda) qual = true ∧
    K.lookup cda = some ⟨ccl, cdd, .fields vs, ccs⟩ ∧ vs[2]? = some (.str file tf) ∧ ((P.main.file : Str) == file) = true ∧ K.lookup cc = some ⟨cl, cld, .cell (some (.ref C)), csl⟩ ∧
    scope.names.lookup ("super" : Str) = some .globalImplicit ∧ scope.names.lookup ("__class__" : Str) = some .free ∧ scope.names.lookup ("self" : Str) = some .local ∧ scope.names.lookup x = some .local ∧ scope.kind = .function ∧ scope.isCoroutine = false ∧ scope.isGenerator = false ∧
    (∀ y ∈ scope.names, y.2 ≠ .cell) ∧ (∃ ar, (params.posonlyargs ++ params.args).head? = some ar ∧ ar.arg = "self") ∧ x ≠ "self" ∧ (x == ("__debug__" : Str)) = false ∧ (x == ("__classdict__" : Str)) = false ∧
    ∃ p0 p1 p2 p3 p4 p5 p6 p7 p8 ea, body = [.Expr (.Call (.Attribute (.Call (.Name "super" p0) [] [] p1) "__init__" p2) [ea] [] p3) p4, .Assign [.Attribute (.Name "self" p5) f p6] (.Name x p7) p8] ∧ (p2.endLine == p3.line) = true ∧
      ((one = true ∧ ∃ q, ea = .Name x q) ∨ (one = false ∧ ∃ y k q, ea = .Constant (.str y) k q))
def spXI (C : Addr) (f : Str) : Sp := fun vs H Q _ => ∃ a v, vs = [.ref a, v] ∧ H a = some (exo a C none) ∧ ∀ dx, H dx = none → dx ≠ a → Q .non (upd (upd H dx (exd dx [(f, v)])) a (exo a C (some dx)))
section
variable {P : Program} {w : World} {K : PySem.W.Frag} {mg : Str → Option Value} {base : Heap} {CX : CXT} {A : Around} {E : Value → Shared → Prop}
/-- the wrapper that super() gave, called -/
theorem call_wrap {h : Heap} {g : Array GenState} {d : Drawn} {t : Nat} {os : OsState} {nm q : Str} {C N : Addr} {bs bm : List Value} {hd : Bool} {sn : List Str} {sub : List Value} {ab : Bool} {col : Option Bool} {dd : Option Addr} {k0 k1 k2 k3 k5 : Option Value} {u e t0 : Addr} {rest : List Value} {Q : Value → Shared → Prop}
    (hC : h.get? C = some (excClassObj nm q C N bs bm hd sn sub ab col dd k0 k1 k2 k3 k5 "ValueError.__new__")) (he : h.get? e = some (excObj C t0 none .none)) (hu : h.get? u = some (kxs_mw "ValueError.__init__" e)) (hz : rest.length ≤ sizeLine)
    (hq : ∀ h' t1, (∀ b o, b ≠ e → h.get? b = some o → h'.get? b = some o) → h'.get? e = some (excObj C t1 none .none) → Q .none ⟨h', g, d, t, os⟩) :
    wpAny (model P w) A (call (.ref u) rest) Q E ⟨h, g, d, t, os⟩ := by
  have w1 : (Value.type "method-wrapper" == Value.type "method" || Value.type "method-wrapper" == Value.type "builtin_function_or_method" || Value.type "method-wrapper" == Value.type "method-wrapper") = true := by decide
  refine wpAny_call (codeAny_of_tree ?_); show wpAny _ A.in1 (callAny (.ref u) ⟨rest, []⟩) _ _ _
  simp only [callAny]
  refine wpAny_bind (wpAny_load hu ?_); simp only [kxs_mw, w1, if_true]
  refine KFB.if_so (by decide) (wpAny_bind (check_bound_init F.excBase_ValueError.toExcCallFacts hC he rfl (wpAny_bind (wpAny_pure (wpAny_pure ?_)))))
  refine ⟨plainId_quiet F.excBase_ValueError.init.plain _, codeAny_builtin F.excBase_ValueError.initEntry ?_⟩
  exact exc_init_tree (cls := .ref C) (t0 := t0) (dv := none) (c2 := .none) (c3 := .none) (b4 := .bool false) he hz fun h' k e1 _ => hq h' _ k e1
/-- behind the call: the exception has its dict -/
theorem made_ce {outer : List Env} {s s' : Shared} {H : Hp} {Q : VK} {a C dx : Addr} {f : Str} {v : V} {u : Value} {t1 : Addr} (hok : HOk P w H s.heap) (ha : H a = some (exo a C none)) (os : s'.os = s.os) (bare : AllBare s'.gens) (ru : RelV v u)
    (k : ∀ b o, b ≠ a → s.heap.get? b = some o → s'.heap.get? b = some o) (hx : s'.heap.get? a = some ({ cls := .ref C, dict := some dx, data := .fields #[.ref t1, .none, .none, .none, .bool false, .none] } : Obj))
    (hn : s'.heap.Ns1 dx (fun y => if y = f then some u else none)) (hd : s.heap.objs.size ≤ dx) (q : ∀ dx, H dx = none → dx ≠ a → Q .non (upd (upd H dx (exd dx [(f, v)])) a (exo a C (some dx)))) : CE outer P w H s Q .none s' := by
  have nd : ∀ {b : Addr} {o : Obj}, s.heap.get? b = some o → b ≠ dx := fun z => Nat.ne_of_lt (Nat.lt_of_lt_of_le (Heap.lt_size z) hd)
  have hnd : H dx = none := hok.fresh hd
  have na : ∀ {b : Addr}, H b = none → b ≠ a := fun n z => by rw [z, ha] at n; cases n
  have dne : dx ≠ a := na hnd
  refine ⟨.non, _, os, bare, ?_, fun b o z => ?_, rfl, q dx hnd dne⟩
  · exact {
      keep := fun b o z n _ _ => k b o (na n) z
      slot := fun b o z n _ _ => ⟨o.slots, k b o (na n) z⟩
      free := fun b o z n _ => by rw [upd_ne (na n), upd_ne (nd z)]; exact n
      there := fun b o z _ => by
        by_cases e : b = a
        · exact ⟨_, e ▸ hx⟩
        · exact ⟨o, k b o e z⟩
      tups := fun b xs z => by rw [upd_ne (at_ne ha z exo_tup), upd_ne (ne_of_none z hnd)]; exact z
      frzs := fun b o y z => by rw [upd_ne (at_ne ha z exo_frz), upd_ne (ne_of_none z hnd)]; exact z
      tbls := fun b ps z => ⟨#[], by rw [upd_ne (at_ne ha z exo_tbl), upd_ne (ne_of_none z hnd), z]; simp⟩ }
  · by_cases e : b = a
    · subst e
      rw [upd_same] at z
      cases z
      exact exo_ok hx
    · rw [upd_ne e] at z
      by_cases e2 : b = dx
      · subst e2
        rw [upd_same] at z
        cases z
        exact exd_ok hn (relO_put (fs := []) ru fun _ => True.intro)
      · rw [upd_ne e2] at z
        refine (hok b o z).stay (fun c y hc z2 => k c y ?_ z2) (fun c hc => ?_) (fun c xs hc => ?_)
        · rcases hc with hc | hc
          · exact hc ▸ e
          · exact at_ne ha hc exo_own
        · rw [upd_ne (at_ne ha hc exo_own), upd_ne (ne_of_none hc hnd)]; exact hc
        · rw [upd_ne (at_ne ha hc exo_tup), upd_ne (ne_of_none hc hnd)]; exact hc
/-- self.f = x, behind the call of the wrapper -/
theorem second {env : Env} {outer : List Env} {s0 s3 : Shared} {H : Hp} {Q : VK} {a C L : Addr} {x f : Str} {v : V} {u z : Value} {h1 h2 : Heap} {p5 p6 p7 p8 : Pos} {m : Str → Option Value} (T : OexC K C) (hno : findIn K (.ref C) f = some none)
    (hk : env.scope.kind = .function) (hs : env.kindOf "self" = some .local) (hx : env.kindOf x = some .local) (xd : (x == ("__debug__" : Str)) = false) (hL : env.locals = L) (ns1 : h1.Ns L m) (ms : m "self" = some (.ref a)) (mx : m x = some u)
    (e0 : Env0 P w K mg base A outer s0 H) (ha : H a = some (exo a C none)) (ru : RelV v u) (nL : s0.heap.objs.size = L) (k1 : ∀ b o, s0.heap.get? b = some o → h1.get? b = some o) (k2 : ∀ b o, h1.get? b = some o → h2.get? b = some o)
    (q : ∀ dx, H dx = none → dx ≠ a → Q .non (upd (upd H dx (exd dx [(f, v)])) a (exo a C (some dx)))) (eh : s3.heap = h2.push (kxs_mw "ValueError.__init__" a)) (eg : s3.gens = s0.gens) (eo : s3.os = s0.os) {A' : Around} :
    wpAny (model P w) A' (call (.ref h2.objs.size) [z]) (fun _ s4 => wpAny (model P w) A' (exec (.Assign [.Attribute (.Name "self" p5) f p6] (.Name x p7) p8) env) (fun fl s5 => fl = .next ∧ CE outer P w H s0 Q .none s5) E s4) E s3 := by
  have KX : K.In s0.heap := e0.mod.kin.keeps fun b o e => (e0.bs b o e).1
  obtain ⟨nm, qn, N, bs, bm, sn, sub, ab, col, dd, w0, w1, w2, w3, w5, lC, hbm⟩ := T.cls
  have hcl : clsIn K C = some { name := nm, bases := bs, mro := .ref C :: bm, ns := N, qualname := qn, hasDict := true, slotNames := sn, subclasses := sub, abstract := ab, collection := col, hasDel := false } := by unfold clsIn; rw [lC] <;> rfl
  obtain ⟨t0, hoa⟩ := exo_at e0.hok ha
  have K1 : K.In h1 := KX.keeps k1
  have oa2 := k2 _ _ (k1 _ _ hoa)
  have pw : (h2.push (kxs_mw "ValueError.__init__" a)).get? h2.objs.size = some (kxs_mw "ValueError.__init__" a) := Heap.get?_push_size h2 rfl
  have k3 : ∀ b o, h2.get? b = some o → (h2.push (kxs_mw "ValueError.__init__" a)).get? b = some o := fun b o z => Heap.get?_push_of_some _ z
  obtain ⟨h3, g3, d3, t3, os3⟩ := s3
  dsimp only at eh eg eo
  subst eh eg eo hL
  refine call_wrap (k3 _ _ (k2 _ _ (K1 _ _ lC))) (k3 _ _ oa2) pw (by rw [sizeLine_eq]; show 1 ≤ _; omega) fun h4 t1 k4 e4 => ?_
  have kk : ∀ b o, h1.get? b = some o → b ≠ a → h4.get? b = some o := fun b o y ne => k4 b o ne (k3 b o (k2 b o y))
  have K4 : K.In h4 := fun b o y => by
    refine kk b o (K1 _ _ y) fun e => ?_
    subst e
    obtain ⟨o', q2⟩ : ∃ o', base.get? b = some o' := ⟨_, e0.mod.kin _ _ y⟩
    rw [(e0.bs _ _ q2).2] at ha
    cases ha
  have neL : env.locals ≠ a := by rw [← nL]; exact Nat.ne_of_gt (Heap.lt_size hoa)
  obtain ⟨oL, es, ep, hoL, r⟩ := id ns1
  have ns4 : h4.Ns env.locals m := ⟨oL, es, ep, kk _ _ hoL neL, r⟩
  refine plainObj_wpAny_Assign_Attribute (wpAny_Name (wpAny_loadName_local hk hx ns4 mx (wpAny_Name (wpAny_loadName_local hk hs ns4 ms ?_) (by decide))) xd) rfl
  refine set_plain K4 (ox := { cls := .ref C, dict := none, data := .fields #[.ref t1, .none, .none, .none, .bool false, .none] }) (od := none) ⟨e4, rfl, rfl, trivial⟩ T.sa ?_
  refine PySem.HandSPX.exc_osa K4 e4 hcl (show PySem.HandSPX.refsVE (.ref C :: bm) = true from hbm) rfl hno (fun h5 tk' dx k5 dn dne hx hn => ?_)
  have sz : s0.heap.objs.size ≤ dx := by
    have z1 : h2.objs.size < h4.objs.size := Heap.lt_size (k4 h2.objs.size _ (Nat.ne_of_gt (Heap.lt_size oa2)) pw)
    have z2 : env.locals < h2.objs.size := Heap.lt_size (k2 _ _ hoL)
    rw [nL]
    exact Nat.le_of_lt (Nat.lt_of_lt_of_le (Nat.lt_trans z2 z1) dn)
  exact ⟨rfl, made_ce (s' := ⟨h5, s0.gens, d3, tk', s0.os⟩) e0.hok ha rfl e0.bare ru (fun b o ne y => k5 b o ne (kk b o (k1 b o y) ne)) hx hn sz q⟩
theorem exinit_ok {C fI : Addr} {fd : FuncData} {x f : Str} {one : Bool} (J : InitIn P K mg C fI fd x f one) : FnOk P w K mg base CX 1 fI fd ["self", x] (spXI C f) := by
  refine ⟨fun vs H Q E h => by obtain ⟨_, _, rfl, _⟩ := h; rfl, fun A outer s H args us vs Q E hr e0 hb rv hsp => ?_⟩
  obtain ⟨a, v, rfl, ha, q⟩ := hsp
  cases rv with
  | @cons _ u0 _ ur r0 rv =>
  cases rv with
  | @cons _ u _ ur ru rv =>
  cases rv
  obtain rfl : u0 = Value.ref a := r0
  obtain ⟨name, qual, params, scope, dV, kV, doc, pm, an, cda, ct, cc, body, oc, od, osl, cvs, file, tf, ccl, cdd, ccs, cl, cld, csl, rfl, lk, hcd, lcd, hvs, hfile, lcc, n1, n2, n3, n4, kd, co, gen, nocell, ⟨ar, hp, har⟩, xs, xd, xc, p0, p1, p2, p3, p4, p5, p6, p7, p8, ea, rfl, hline, hea⟩ := J.fn
  obtain ⟨skind, nms, sgen, sco, more⟩ := scope
  dsimp only at n1 n2 n3 n4 kd co gen nocell
  subst kd co gen
  have KX : K.In s.heap := e0.mod.kin.keeps fun b o e => (e0.bs b o e).1
  have lim : s.heap.NoLimit := e0.mod.nolimit.keeps fun b o e => (e0.bs b o e).1
  obtain ⟨nm, qn, N, bs, bm, sn, sub, ab, col, dd, w0, w1, w2, w3, w5, lC, hbm⟩ := J.oex.cls
  have hcl : clsIn K C = some { name := nm, bases := bs, mro := .ref C :: bm, ns := N, qualname := qn, hasDict := true, slotNames := sn, subclasses := sub, abstract := ab, collection := col, hasDel := false } := by unfold clsIn; rw [lC] <;> rfl
  obtain ⟨t0, hoa⟩ := exo_at e0.hok ha
  obtain ⟨mb, b1, b2⟩ := e0.mod.blt
  have mro : alongIn K "__init__" (((.ref C :: bm : List Value).dropWhile (· != .ref C)).drop 1) = some (some (.builtin "ValueError.__init__")) := by
    have z := J.hm
    unfold ks_superIn at z
    rw [hcl] at z
    exact z
  obtain ⟨sh, sg, sd, st, sos⟩ := s
  have lself : ([("self", Value.ref a), (x, u)] : List (Str × Value)).reverse.lookup ("self" : Str) = some (.ref a) := by
    have e : (("self" : Str) == x) = false := by
      rw [beq_eq_false_iff_ne]; exact fun z => xs z.symm
    show List.lookup ("self" : Str) ([(x, u), ("self", Value.ref a)] : List (Str × Value)) = _
    simp [List.lookup, e]
  have lx : ([("self", Value.ref a), (x, u)] : List (Str × Value)).reverse.lookup x = some u := by
    show List.lookup x ([(x, u), ("self", Value.ref a)] : List (Str × Value)) = _
    simp [List.lookup]
  rcases hea with ⟨rfl, qq, rfl⟩ | ⟨rfl, y, kk, qq, rfl⟩
  all_goals
    refine ks_codeAny_call_defAt (binds := [("self", .ref a), (x, u)]) hr.depth (KX _ _ lk) rfl lim (codeRec_of KX hcd) rfl hb nocell (fun y hy => ?_) (fun h1 ns1 k1 => ?_) rfl rfl rfl
    · rcases List.mem_cons.1 hy with rfl | hy
      · exact n3
      · rw [List.mem_singleton.1 hy]; exact n4
    have gl : h1.Ns mainGlobals mg := (e0.mod.glob.keeps fun b o e => (e0.bs b o e).1).keeps k1
    have bl : h1.Ns builtinsNs mb := (b1.keeps fun b o e => (e0.bs b o e).1).keeps k1
    have K1 : K.In h1 := KX.keeps k1
    refine ks_wpAt_execs_cons (ks_wpAt_Expr_any (ks_wpAt_MethodCall ?_ (by
      show (attributeBase _ _ _ _ >>= fun ov => standAt _ >>= fun _ => methodCall _ _ _ _ _ ov _ _ _) = _
      unfold methodCall methodCallPos
      simp only [hline, Bool.or_true, if_true, pure_bind]
      rfl)))
    refine ks_wpAt_super_base (ar := ar) n1 n2 (by decide) rfl (K1 _ _ lk) rfl hp rfl (K1 _ _ lcd) rfl hvs hfile J.htop ?_
    refine ks_loadName_global rfl n1 (loadGlobal_builtin gl J.hsu bl ((b2 _ (by decide)).trans (by decide +kernel)) ⟨rfl, ?_⟩)
    refine wpAny_loadName_free rfl n2 rfl ⟨_, K1 _ _ lcc, rfl⟩ ?_
    rw [har]
    refine wpAny_loadName_local rfl n3 ns1 lself ?_
    refine ks_wpAny_isType_cls (K1 _ _ lC) rfl ⟨rfl, ?_⟩
    refine ks_wpAny_call_super (K1 _ _ lC) rfl (k1 _ _ hoa) rfl (fun c z => nomatch z) (looks_mroIn K1 J.hsub) (fun h2 e2 k2 => ?_)
    have K2 := K1.keeps k2
    have oa2 := k2 _ _ (k1 _ _ hoa)
    have I2 : InstAt h2 a _ C none := ⟨oa2, rfl, rfl, trivial⟩
    refine kxs_getMethod kxs_ValueError e2 (looks_opaque K2 J.ho) (l₀ := .ref C :: bm) (fun A Q E s k q => wpAny_bind ((looks_clsIn K2 hcl) A _ E s k (wpAny_pure q))) rfl K2 mro (I2.type.andThen (looks_subIn K2 J.hB)) (ks_ne K2 I2 hcl) (by decide) ?_
    have pw : (h2.push (kxs_mw "ValueError.__init__" a)).get? h2.objs.size = some (kxs_mw "ValueError.__init__" a) := Heap.get?_push_size h2 rfl
    refine kxs_callWith (i := "ValueError.__init__") (x := a) rfl (evalArgs_plain (spliced_cons ?_))
  · obtain ⟨oL, es, ep, hoL, r⟩ := id ns1
    refine wpAny_Name (wpAny_loadName_local rfl (show Env.kindOf _ x = some .local from n4) (⟨oL, es, ep, Heap.get?_push_of_some _ (k2 _ _ hoL), r⟩ : Heap.Ns _ sh.objs.size _) lx (spliced_nil ⟨pw, ?_⟩)) xd
    refine wpAny_mono (second (s0 := ⟨sh, sg, sd, st, sos⟩) (h1 := h1) (env := callEnv (ksFn name qual params [.Expr (.Call (.Attribute (.Call (.Name "super" p0) [] [] p1) "__init__" p2) [.Name x qq] [] p3) p4, .Assign [.Attribute (.Name "self" p5) f p6] (.Name x p7) p8] ⟨.function, nms, false, false, more⟩ dV kV doc pm an (.ref cda) ct cc) sh.objs.size fI) (p5 := p5) (p6 := p6) (p7 := p7) (p8 := p8) J.oex J.hno rfl n3 n4 xd rfl ns1 lself lx e0 ha ru rfl k1 k2 q ?e1 ?e2 ?e3) (fun _ s4 z => ?_) fun _ _ z => z
    case e1 => rfl
    case e2 => rfl
    case e3 => rfl
    refine ks_wpAt_execs_cons (wpAt_of_wpAny (wpAny_mono z (fun fl s5 z => ?_) fun _ _ z => z))
    obtain ⟨rfl, z⟩ := z
    exact wpAt_of_wpAny (wpAny_execs_nil z)
  · refine Constant_str (x := y) (k := kk) (pos := qq) (spliced_nil ⟨pw, ?_⟩)
    refine wpAny_mono (second (z := .str y (st + [(("self" : Str), Value.ref a), (x, u)].length + 1)) (s0 := ⟨sh, sg, sd, st, sos⟩) (h1 := h1) (env := callEnv (ksFn name qual params [.Expr (.Call (.Attribute (.Call (.Name "super" p0) [] [] p1) "__init__" p2) [.Constant (.str y) kk qq] [] p3) p4, .Assign [.Attribute (.Name "self" p5) f p6] (.Name x p7) p8] ⟨.function, nms, false, false, more⟩ dV kV doc pm an (.ref cda) ct cc) sh.objs.size fI) (p5 := p5) (p6 := p6) (p7 := p7) (p8 := p8) J.oex J.hno rfl n3 n4 xd rfl ns1 lself lx e0 ha ru rfl k1 k2 q ?e1 ?e2 ?e3) (fun _ s4 z => ?_) fun _ _ z => z
    case e1 => rfl
    case e2 => rfl
    case e3 => rfl
    refine ks_wpAt_execs_cons (wpAt_of_wpAny (wpAny_mono z (fun fl s5 z => ?_) fun _ _ z => z))
    obtain ⟨rfl, z⟩ := z
    exact wpAt_of_wpAny (wpAny_execs_nil z)
end
end PC

set_option maxHeartbeats 2000000
namespace PC
open PySem PySem.Spec PyProof.Rows L2
abbrev SuT := Addr → Value → Option Addr → TS
def inσ (i : Option Nat) (σ : L2.St) (a : Addr) : L2.St := match i with | none => σ | some k => σ.set k (some (.ref a))
def ouσ (i : Option Nat) (σ : L2.St) : L2.St := match i with | none => σ | some k => σ.set k none
def ouD (i : Option Nat) (D : Ends) : Ends := { nx := fun σ H => D.nx (ouσ i σ) H, rt := D.rt, bk := fun σ H => D.bk (ouσ i σ) H, ct := fun σ H => D.ct (ouσ i σ) H }
/-- what the clauses wish of the body's exceptions -/
def wG (K : PySem.W.Frag) (Wo : WX) (D : Ends) : List (Value × Option Nat × SuT) → WX
  | [] => Wo
  | (c, i, ts) :: r => fun cls d σ H => ∃ b, PySem.W.exmOne K cls c = some b ∧ (b = true → ∀ a, H a = none → ts a cls d (ouD i D) (inσ i σ a) H) ∧ (b = false → wG K Wo D r cls d σ H)
/-- a clause's name -/
def NmOk (X : Cx) : Option Str → Option Nat → Prop
  | none, none => True
  | some n, some k => X.N[k]? = some n ∧ X.env.kindOf n = some .local
  | _, _ => False
inductive HdG (X : Cx) : List ExceptHandler → List (Value × Option Nat × SuT) → Prop
  | nil : HdG X [] []
  | cons {x : Str} {c : Value} {i : Option Nat} {n : Option Str} {ts : SuT} {st : Stmt} {sts : List Stmt} {p q : Pos} {hds : List ExceptHandler} {l : List (Value × Option Nat × SuT)} (nm : Names X x c) (no : NmOk X n i)
      (su : ∀ (a : Addr) (oe : Obj) (cls : Value) (d : Option Addr) (pn : List (Addr × Obj)), Zc cls d oe → (∃ vs, oe.data = .fields vs) → PSs (X.suite a ((a, oe) :: pn)) (st :: sts) (ts a cls d)) (r : HdG X hds l) :
      HdG X (.ExceptHandler (some (.Name x p)) n (st :: sts) q :: hds) ((c, i, ts) :: l)
section
variable {X : Cx} {body : List Stmt} {h₀ : ExceptHandler} {hds : List ExceptHandler} {l : List (Value × Option Nat × SuT)} {pos : Pos} {tb : WX → TS} {Wo : WX}
theorem ps_tryG (sk : X.stack = X.env :: X.outer) (fr : X.env.frame = some X.env.locals) (nd : X.N.Nodup) (tk : Takes X Wo)
    (bd : ∀ (W : WX) (pn : List (Addr × Obj)) (xe : Value → Shared → Prop), Takes (X.tr pn xe) W → PassesOwn (model X.prog X.w) X.A X.env xe → PSs (X.tr pn xe) body (tb W))
    (hh : HdG X (h₀ :: hds) l) : PS X (.Try body (h₀ :: hds) [] [] pos) (fun D σ H => tb (wG X.K Wo D l) D σ H) := by
  refine ⟨fun pins s σ H D I h => wpAny_Try_except ?_⟩
  have ok := I.ok
  have frs' : X.A.frames = some (X.env :: X.outer) := by rw [ok.frames, sk]
  refine wpAny_mono ((bd (wG X.K Wo D l) (X.pn ++ pins) (fun e t1 => wpAny (model X.prog X.w) X.A (noteFrame e X.env) (fun _ t2 => wpAny (model X.prog X.w) X.A (setFlight e none) (fun _ t3 =>
    wpAny (model X.prog X.w) X.A (handleBy e X.env (h₀ :: hds)) (SP X pins D) X.xe t3) X.xe t2) X.xe t1) (fun u t xx => ?_) PassesOwn.looking).run [] s σ H D (I.toTry _) h) (fun f t sp => ?_) (fun e t z => z)
  · obtain ⟨a, G, sI, pins', τ, H1, cls, d, rfl, Jt, nb, up, sky, na, os, ag, w⟩ := xx
    have J : Inv X pins τ H1 sI := Jt.ofTry ok
    have sky' : Sky G (X.env :: X.outer) a (Zc cls d) X.env.locals t.heap := by rw [← sk]; exact sky
    show wpAny (model X.prog X.w) X.A (noteFrame (.ref a) X.env) _ _ _
    refine Sky.land Zc.steady frs' fr sky' fun g3 fl3 up3 => ?_
    have J3 : Inv X pins τ H1 { t with heap := g3 } := J.landed nb fl3.1 (up.trans up3) os ag
    obtain ⟨o3, vs3, e3, z3, d3⟩ := fl3.there
    have nfr : a ∉ frs (X.env :: X.outer) := fun hm => by
      obtain ⟨_, o', e', hnf⟩ := fl3.2.2.1.mem hm
      rw [e3] at e'; cases e'
      exact hnf _ d3
    have nL : a ≠ X.env.locals := fun z => nfr (List.mem_filterMap.mpr ⟨X.env, List.mem_cons_self, by rw [fr, z]⟩)
    have nF : a ∉ X.fs := fun hm => by
      obtain ⟨e, he, q⟩ := List.mem_filterMap.mp hm
      exact nfr (List.mem_filterMap.mpr ⟨e, List.mem_cons_of_mem _ he, q⟩)
    have S3 := J3.suite e3 d3 na nL nF
    have LT : PySem.W.Looks (model X.prog X.w) g3 (typeOf (.ref a)) cls := fun A Q E s k q => wpAny_typeOf_ref (k _ _ e3) (by rw [z3.1]; exact q)
    have walk : ∀ {hs : List ExceptHandler} {ls : List (Value × Option Nat × SuT)}, HdG X hs ls → wG X.K Wo D ls cls d τ H1 → wpAny (model X.prog X.w) X.A (handleBy (.ref a) X.env hs) (SP X pins D) X.xe { t with heap := g3 } := by
      intro hs ls hk
      induction hk with
      | nil =>
        intro w
        obtain ⟨k1, k2, k3, oe, vs, T, oT, ts', he, hz, hd, q1, hr⟩ := id fl3
        refine wpAny_handleBy_nil ?_; unfold PySem.passOn
        refine wpAny_bind (wpAny_field he hd q1 ?_)
        rw [if_neg (show ¬ ((Value.ref T == Value.none) = true) by simp)]
        have out : wpAny (model X.prog X.w) X.A (setFlight (.ref a) X.env.frame) (fun _ t4 => wpAny (model X.prog X.w) X.A (throw (.ref a) : Sem Flow) (SP X pins D) X.xe t4) X.xe { t with heap := g3 } := by
          rw [fr]
          exact HandSPX.setFlight_upZ fl3 fun g4 hh4 up4 => wpAny_throw (tk _ _ ⟨a, G, sI, pins, τ, H1, cls, d, rfl, J, nb, (up.trans up3).trans up4, .inr (.inr (by rw [sk]; exact hh4)), na, os, ag, w⟩)
        first
          | exact wpAny_bind (wpAny_pure (wpAny_bind out))
          | exact wpAny_bind out
      | @cons x c i n ts st sts p q hds2 l2 nm no su r ih =>
        intro w
        obtain ⟨b, hb, yes, nay⟩ := w
        refine wpAny_handleBy_cons (codeAny_handlers_test ?_) (by intro q; cases q)
        have LM := PySem.W.exm_one (M := model X.prog X.w) (J3.kIn) LT hb
        have tst : ∀ {Q : Value → Shared → Prop} {E : Value → Shared → Prop}, Q c { t with heap := g3 } → wpAny (model X.prog X.w) (X.A.mark (some (.ref a))) (eval (.Name x p) X.env) Q E { t with heap := g3 } := fun {Q E} q => by
          obtain ⟨hg, hdb, hm | ⟨hm, hv, hn⟩⟩ := nm
          · exact ld_glob (X := X.suite a ((a, o3) :: (X.pn ++ pins))) S3 hg hm q hdb
          · exact ld_blt (X := X.suite a ((a, o3) :: (X.pn ++ pins))) S3 hg hm hv q hn hdb
        refine tst (LM.here ?_)
        cases b with
        | false => exact ih (nay rfl)
        | true =>
          have land4 : ∀ g4, HandSPX.FlyingZ G (X.env :: X.outer) a (Zc cls d) g4 → g3.UpToSlots g4 → ∃ o4, Zc cls d o4 ∧ (∃ vs, o4.data = .fields vs) ∧ Inv (X.suite a ((a, o4) :: (X.pn ++ pins))) [] τ H1 { t with heap := g4 } := fun g4 fl4 up4 => by
            have J4 : Inv X pins τ H1 { t with heap := g4 } := J.landed nb fl4.1 ((up.trans up3).trans up4) os ag
            obtain ⟨o4, vs4, e4, z4, d4⟩ := fl4.there
            exact ⟨o4, z4, ⟨_, d4⟩, J4.suite e4 d4 na nL nF⟩
          cases i with
          | none =>
            cases n with
            | some _ => exact no.elim
            | none =>
            refine codeAny_handlers_suite (HandSPX.lands_againZ fl3 fun g4 fl4 up4 => ?_)
            obtain ⟨o4, z4, d4, S4⟩ := land4 g4 fl4 up4
            refine wpAny_mono ((su a o4 cls d (X.pn ++ pins) z4 d4).run [] _ _ H1 _ S4 (yes rfl a na)) (fun f t6 sp => ?_) (fun _ _ z => False.elim z)
            cases f with
            | ret u => obtain ⟨v6, σ6, H6, S6, r6, q6⟩ := sp; exact ⟨_, _, _, S6.unsuite ok, r6, q6⟩
            | next => obtain ⟨σ6, H6, S6, q6⟩ := sp; exact ⟨_, _, S6.unsuite ok, q6⟩
            | brk => obtain ⟨σ6, H6, S6, q6⟩ := sp; exact ⟨_, _, S6.unsuite ok, q6⟩
            | cont => obtain ⟨σ6, H6, S6, q6⟩ := sp; exact ⟨_, _, S6.unsuite ok, q6⟩
          | some k =>
            cases n with
            | none => exact no.elim
            | some n =>
            obtain ⟨hi, hl⟩ := no
            refine codeAny_handlers_suite_as (HandSPX.lands_againZ fl3 fun g4 fl4 up4 => ?_)
            obtain ⟨o4, z4, d4, S4⟩ := land4 g4 fl4 up4
            refine store_ok (X := X.suite a ((a, o4) :: (X.pn ++ pins))) (v := .ref a) S4 nd hi (.inl hl) rfl (fun t5 S5 => ?_) (.inr hl)
            refine wpAny_mono ((su a o4 cls d (X.pn ++ pins) z4 d4).run [] t5 _ H1 _ S5 (yes rfl a na)) (fun f t6 sp => ?_) (fun _ _ z => False.elim z)
            have gone : ∀ {σ6 : L2.St} {H6 : Hp} {Q : Shared → Prop}, Inv (X.suite a ((a, o4) :: (X.pn ++ pins))) [] σ6 H6 t6 → (∀ t7, Inv X pins (σ6.set k none) H6 t7 → Q t7) →
                wpAny (model X.prog X.w) X.A (do bindName X.env n .none; unbindBehindTheSuite X.env n q) (fun _ t7 => Q t7) X.xe t6 := fun {σ6 H6 Q} S6 hq => gone_ok (S6.unsuite ok) nd hi hl hq
            cases f with
            | ret u => obtain ⟨v6, σ6, H6, S6, r6, q6⟩ := sp; exact gone S6 fun t7 J7 => ⟨_, _, _, J7, r6, q6⟩
            | next => obtain ⟨σ6, H6, S6, q6⟩ := sp; exact gone S6 fun t7 J7 => ⟨_, _, J7, q6⟩
            | brk => obtain ⟨σ6, H6, S6, q6⟩ := sp; exact gone S6 fun t7 J7 => ⟨_, _, J7, q6⟩
            | cont => obtain ⟨σ6, H6, S6, q6⟩ := sp; exact gone S6 fun t7 J7 => ⟨_, _, J7, q6⟩
    exact walk hh w
  · cases f with
    | ret u => obtain ⟨v, σ', H', J', r, q⟩ := sp; exact ⟨v, σ', H', J'.ofTry ok, r, q⟩
    | next => obtain ⟨σ', H', J', q⟩ := sp; exact wpAny_execs_nil ⟨σ', H', J'.ofTry ok, q⟩
    | brk => obtain ⟨σ', H', J', q⟩ := sp; exact ⟨σ', H', J'.ofTry ok, q⟩
    | cont => obtain ⟨σ', H', J', q⟩ := sp; exact ⟨σ', H', J'.ofTry ok, q⟩
end
end PC

set_option maxHeartbeats 4000000
namespace PC
open PySem PySem.Spec PyProof.Rows L2 PySem.W PySem.Calls
/-- what the class must say, so that isinstance asks its instances rightly -/
structure XiC (K : Frag) (D : Addr) : Prop where
  ga : findIn K (.ref D) "__getattribute__" = some (some (.builtin "BaseException.__getattribute__"))
  gg : findIn K (.ref D) "__getattr__" = some none
  be : subIn K (.ref D) (.type "BaseException") = some true
  hd : hasDictIn K D = true
  ca : findIn K (.ref D) "__class__" = some (some (.builtin "object.__class__"))
  gs : specialIn K (.builtin "object.__class__") "__get__" = some (some (.builtin "getset_descriptor.__get__"))
  tk : takesIn K (.builtin "object.__class__") = some true
  ob : mroIn K D (.type "object") = some true
section
variable {prog : Program} {w : World} {A : Around} {E : Value → Shared → Prop} {s : Shared} {K : Frag} {x D : Addr} {ox : Obj} {od : Option Obj}
theorem cls_some (h : hasDictIn K D = true) : (clsIn K D).isSome = true := by
  obtain ⟨cd, hc, _⟩ := any_some h
  rw [hc]; rfl
theorem cls_at (h : hasDictIn K D = true) : ∃ c d cd sl, K.lookup D = some ⟨c, d, .cls cd, sl⟩ := by
  obtain ⟨cd, hc, _⟩ := any_some h
  unfold clsIn at hc
  split at hc
  · exact ⟨_, _, _, _, by assumption⟩
  · cases hc
theorem find_class (T : XiC K D) : findObj K D od "__class__" = some (.bind (.builtin "getset_descriptor.__get__") (.builtin "object.__class__")) := by
  obtain ⟨cd, hc⟩ := Option.isSome_iff_exists.mp (cls_some T.hd)
  unfold findObj
  rw [hc, Option.bind_some, T.ca, Option.bind_some]
  simp [T.gs, T.tk]
theorem attr_class {Q : Option Value → Shared → Prop} (T : XiC K D) (kin : K.In s.heap) (J : InstAt s.heap x ox D od) (q : Q (some (.ref D)) { s with toks := s.toks + 1 }) : wpAny (model prog w) A (getAttr? (.ref x) "__class__") Q E s := by
  obtain ⟨hp, g, d, t, os⟩ := s
  have a0 := J.type (M := model prog w)
  have a1 := looks_findIn (M := model prog w) kin T.ga; have a2 := looks_findIn (M := model prog w) kin T.gg
  have a3 := looks_find (M := model prog w) kin J (find_class T)
  have isB : Looks (model prog w) hp (isInstance (.ref x) (.type "BaseException")) true := a0.andThen (looks_subIn kin T.be)
  have n1 : (Value.builtin "BaseException.__getattribute__" == Value.builtin "object.__getattribute__") = false := by decide +kernel
  have n2 : (onTheHeap (Value.ref D) && Value.builtin "BaseException.__getattribute__" == Value.builtin "object.__getattribute__") = false := by rw [n1]; rfl
  unfold getAttr? getAttrBy? getAttrBy; refine wpAny_bind (wpAny_mkText (wpAny_bind (wpAny_attempt (wpAny_holding (wpAny_bind (a0.at (wpAny_bind (a1.at ?_))))))))
  show wpAny _ _ (if (onTheHeap (Value.ref D) && Value.builtin "BaseException.__getattribute__" == Value.builtin "object.__getattribute__") = true then _ else _) _ _ _; rw [n2, if_neg Bool.false_ne_true]
  unfold getAttrByItsOwn hookBefore; refine wpAny_bind ?_; rw [if_pos (show onTheHeap (Value.ref D) = true from rfl)]; refine a2.at ?_; refine wpAny_bind (wpAny_attempt (wpAny_holding ?_))
  unfold callGetattribute; rw [show (false && onTheHeap (Value.builtin "BaseException.__getattribute__")) = false from rfl, if_neg Bool.false_ne_true]; unfold boundAndCalled
  rw [F.excAttr_ValueError.ga.bind (.ref x)]; refine wpAny_bind (wpAny_pure ?_)
  show wpAny _ _ (call (.builtin "BaseException.__getattribute__") [.ref x, .str "__class__" t]) _ _ _; refine wpAny_call (codeAny_call_builtin F.excAttr_ValueError.ga.plain F.entry_bexc_ga ?_)
  refine @check_slot (model prog w) _ _ ⟨hp, g, d, t + 1, os⟩ "BaseException.__getattribute__" "BaseException" "__getattribute__" (.ref x) [.str "__class__" t] [] _ (by decide +kernel) (by decide +kernel) isB (F.args_bexc_ga (.ref x) (.str "__class__" t)) ?_
  unfold Builtin.«object.__getattribute__»; refine wpAny_bind (wpAny_of_eq (a := ((Value.ref x : Value), [Value.str "__class__" t])) (by first | rfl | (simp only [slotArgs]; rfl)) ?_)
  refine wpAny_bind (wpAny_pure (wpAny_bind (a0.at (wpAny_bind (a3.at ?_)))))
  show wpAny _ _ (holding [Value.builtin "object.__class__"] (call (.builtin "getset_descriptor.__get__") [.builtin "object.__class__", .ref x, .ref D]) >>= ret) _ _ _
  refine wpAny_bind (wpAny_holding (wpAny_call (class_get (s := ⟨hp, g, d, t + 1, os⟩) (ox := ox) (od := od) kin J T.ob ?_))); refine wpAny_pure ?_
  show wpAny _ _ (handedOut (.ref D)) _ _ _; rw [handedOut_of (v := .ref D) rfl]
  first
    | exact wpAny_pure (wpAny_pure q)
    | exact wpAny_pure q
    | exact wpAny_pure (wpAny_bind (wpAny_pure (wpAny_pure q)))
theorem kitx_xc (T : XiC K D) : KitX K (.ref x) (.ref D) (fun h => ∃ ox od, InstAt h x ox D od) where
  ty := fun _ _ _ ⟨_, _, J⟩ => J.type
  it := fun _ _ kin _ => by
    obtain ⟨c', d', cd', sl', ho⟩ := cls_at T.hd
    intro A' Q' E' s' k q
    unfold isType loadHead; exact wpAny_bind (wpAny_loadPart (k _ _ (kin _ _ ho)) (wpAny_pure q))
  ne := fun h tp dd its n sl kin htp => by
    obtain ⟨c', d', cd', sl', ho⟩ := cls_at T.hd
    refine Bool.eq_false_iff.mpr fun q => ?_
    have e : D = tp := Value.ref.inj (beq_iff_eq.mp q)
    subst e
    cases (kin _ _ ho).symm.trans htp
  ca := fun kin ⟨_, _, J⟩ k => attr_class T kin J k
end
/-- isinstance(e, c) and isinstance(e, (c, ..)), e the exception that the suite holds -/
def rIsX (K : Frag) (D a : Addr) : List V → Hp → VK → Prop := fun xs H Q => ∃ c b, xs = [.ref a, c] ∧ ((∃ cv, (∀ u, RelV c u → u = cv) ∧ kitOne K (.ref D) cv = some b) ∨ ∃ tp cs ws, c = .ref tp ∧ H tp = some (.tup cs) ∧ (∀ us, Vals cs us → us = ws) ∧ kitAny K (.ref D) ws = some b) ∧ Q (.bl b) H
theorem call_isX {X : Cx} {a D : Addr} {oe : Obj} {d : Option Addr} {pn : List (Addr × Obj)} (C : XiC X.K D) (hz : Zc (.ref D) d oe) (hf : ∃ vs, oe.data = .fields vs) {t : List V → Hp → VK → Prop} (ht : ∀ xs H Q, t xs H Q → rIsX X.K D a xs H Q ∧ ∀ dd, d = some dd → ∃ fs, H dd = some (.xd fs)) :
    CallR (X.suite a ((a, oe) :: pn)) (.builtin "isinstance") t := by
  intro pins s σ H xs us Q I r h
  obtain ⟨⟨c, b, rfl, hc, q⟩, hdd⟩ := ht _ _ _ h
  cases r with
  | cons rx rr =>
    cases rr with
    | cons rt rr =>
      cases rr
      cases rx
      obtain ⟨hget, _⟩ := I.pin (a, oe) (List.mem_append.mpr (.inl List.mem_cons_self))
      obtain ⟨vs, hv⟩ := hf
      have J : ∃ ox od, InstAt s.heap a ox D od := by
        obtain ⟨oc, oo, oda, osl⟩ := oe
        obtain ⟨h1, h2⟩ := hz
        dsimp only at h1 h2 hv
        subst h1 h2 hv
        cases oo with
        | none => exact ⟨_, none, hget, rfl, rfl, True.intro⟩
        | some dd =>
          obtain ⟨fs, hx⟩ := hdd dd rfl
          obtain ⟨o, ho⟩ := objOk_get (I.hok dd _ hx)
          exact ⟨_, some o, hget, rfl, rfl, ho⟩
      have done : ∀ tk, ∃ v, ∃ H', Inv (X.suite a ((a, oe) :: pn)) pins σ H' { s with toks := tk } ∧ RelV v (.bool b) ∧ Q v H' := fun tk => ⟨.bl b, H, I.kept (t' := tk) fun _ _ z => z, rfl, q⟩
      rcases hc with ⟨cv, hcv, e⟩ | ⟨tp, cs, ws, rfl, hT, hw, e⟩
      · cases hcv _ rt
        exact kia_one (kitx_xc C) I.kIn J e (fun z => nomatch z) done
      · cases rt
        obtain ⟨_, its, rv, o, h1, h2, n, h3⟩ := (show ObjOk X.prog X.w H s.heap tp (.tup cs) from I.hok tp _ hT)
        cases hw _ rv
        obtain ⟨oc, oo, dt, sl⟩ := o
        simp only at h2 h3
        subst h2 h3
        exact kia_tup (kitx_xc C) I.kIn J h1 e (fun z => nomatch z) done
end PC

set_option maxHeartbeats 1000000
namespace PC
open PySem PySem.Spec PyProof.Rows L2
/-- an exception class of the text -/
structure XC where
  name : Str
  anc : List Str
  /-- the parameter of __init__, the field, is it handed on -/
  ini : Option (Str × Str × Bool)
def vtail : List Value := [.type "ValueError", .type "Exception", .type "BaseException", .type "object"]
def XAt (K : PySem.W.Frag) (x : Str) (C : Addr) : Prop := PySem.W.nsIn K mainGlobals x = some (some (.ref C))
/-- what the world tells of such a class -/
structure XcK (K : PySem.W.Frag) (xs : List XC) (c : XC) (C : Addr) : Prop where
  at_ : XAt K c.name C
  xi : XiC K C
  kv : PySem.W.kitOne K (.ref C) (.type "ValueError") = some (c.anc.contains "ValueError")
  no : ∀ x f o, c.ini = some (x, f, o) → PySem.W.findIn K (.ref C) f = some none
  ex : ∀ c' ∈ xs, ∃ C', XAt K c'.name C' ∧ PySem.W.exmOne K (.ref C) (.ref C') = some (c.anc.contains c'.name) ∧ PySem.W.kitOne K (.ref C) (.ref C') = some (c.anc.contains c'.name)
theorem XcK.xf {K : PySem.W.Frag} {xs : List XC} {c : XC} {C : Addr} (k : XcK K xs c C) : XfC K C := ⟨k.xi.ga, k.xi.gg, k.xi.be, k.xi.hd⟩
/-- what is told of such a class -/
structure XcOk (P : Program) (K : PySem.W.Frag) (mg : Str → Option Value) (xs : List XC) (c : XC) (C : Addr) : Prop extends XcK K xs c C where
  gm : mg c.name = some (.ref C)
  kp : PySem.W.keepIn K (.ref C) = true
  be : PySem.W.subIn K (.ref C) (.type "BaseException") = some true
  ty : PySem.W.typeIn K (.ref C) = some (.type "type")
  mke : match c.ini with
    | none => PySem.W.excIn K C vtail "ValueError.__new__" = true
    | some (x, f, o) => ∃ fI fd, InitIn P K mg C fI fd x f o ∧ PySem.W.findIn K (.ref C) "__init__" = some (some (.ref fI)) ∧ PySem.W.typeIn K (.ref fI) = some (.type "function") ∧ Binds K fd ["self", x] []
def D.flatV : D → V | .non => .non | .bl b => .bl b | .int i => .int i | .str x => .str x | _ => .non
theorem flatV_rp {K : PySem.W.Frag} {H : Hp} {B : Addr → Prop} {μ : List Addr} {d : D} (h : d.flat = true) : Rp K H B μ d d.flatV := by
  cases d <;> first | exact .non | exact .bl _ | exact .int _ | exact .str _ | cases h
theorem flatV_eq {K : PySem.W.Frag} {H : Hp} {B : Addr → Prop} {μ : List Addr} {d : D} {v : V} (h : d.flat = true) (r : Rp K H B μ d v) : v = d.flatV := by
  cases r <;> first | rfl | cases h
/-- the fields of an exception, in its dict -/
def xfr (H : Hp) (x : Exc) (dd : Option Addr) : Prop := (x.fs = [] ∧ dd = none) ∨ ∃ a f d, dd = some a ∧ x.fs = [(f, d)] ∧ d.flat = true ∧ H a = some (.xd [(f, d.flatV)])
def lgx (K : PySem.W.Frag) (xs : List XC) : Lg := ⟨fun H x cls dd => ∃ c ∈ xs, ∃ C, c.name = x.cls ∧ c.anc = x.anc ∧ XcK K xs c C ∧ cls = .ref C ∧ xfr H x dd ∧ ∀ p ∈ x.fs, ∃ y o, c.ini = some (y, p.1, o)⟩
section
variable {X : Cx} {L : Lg} {W : WX} {Φ : Fns} {xs : List XC} {c : XC} {C : Addr}
theorem xc_raises (k : XcOk X.prog X.K X.mg xs c C) : Raises X (.ref C) := raises_own k.be k.ty
/-- raise c('..') of a class without an __init__ of its own -/
theorem st_raise0 {m : Str} {j : Nat} {p p2 p3 pos : Pos} (hL : L = lgx X.K xs) (hc : X.calm = true) (tk : Takes X W) (hx : c ∈ xs) (k : XcOk X.prog X.K X.mg xs c C) (hi : c.ini = none) (hg : Gl X c.name) (hd : (c.name == ("__debug__" : Str)) = false) :
    PS X (.Raise (some (.Call (.Name c.name p) [.Constant (.str m) j p2] [] p3)) none pos) (tS X.K L W Φ (.raise_ c.name c.anc none (.str m))) := by
  have k2 := k.mke
  rw [hi] at k2
  refine (ps_raise hc tk (pmk_own F.excBase_ValueError k2 k.gm k.kp (xc_raises k) hg hd)).imp fun De σ H ⟨fr, B, μ, oa, ρ, M, rel, h⟩ => ?_
  simp only [ex, ev, Res.out_ok] at h
  refine h B μ oa σ H _ none Kp.refl rel ?_
  rw [hL]
  exact ⟨c, hx, C, rfl, rfl, k.toXcK, rfl, .inl ⟨rfl, rfl⟩, fun p hp => nomatch hp⟩
theorem cx_none {P : Program} {w : World} {l : List Env} {H : Hp} {s : Shared} {e : Value} {s' : Shared} (z : L2.CX P w l H s (fun _ _ _ => False) e s') : False := by
  obtain ⟨_, _, _, _, _, _, _, _, _, _, _, _, z⟩ := z
  exact z
/-- raise c(e), the argument kept in a field -/
theorem st_raise1 {a : E} {x : Expr} {y f : Str} {o : Bool} {p p3 pos : Pos} (hL : L = lgx X.K xs) (hc : X.calm = true) (tk : Takes X W) (hr : Room 2 X.A) (hx : c ∈ xs) (k : XcOk X.prog X.K X.mg xs c C) (hi : c.ini = some (y, f, o)) (hg : Gl X c.name) (hd : (c.name == ("__debug__" : Str)) = false)
    (ha : PE X x (tE X.K L W Φ a)) (hs : starEach [x] X.env = (false, eval x X.env) :: starEach [] X.env) : PS X (.Raise (some (.Call (.Name c.name p) [x] [] p3)) none pos) (tS X.K L W Φ (.raise_ c.name c.anc (some f) a)) := by
  have k2 := k.mke
  rw [hi] at k2
  obtain ⟨fI, fd, J, iC, tI, bi⟩ := k2
  refine (ps_raise hc tk (pmk_oex (CX := L2.CX X.prog X.w) (k := 1) (dvs := []) J.oex iC tI (exinit_ok J) hr bi .nil (fun _ _ _ _ _ _ _ z => (cx_none z).elim) hg k.gm (pa_cons ha pa_nil hs) hd hs rfl)).imp fun De σ H ⟨fr, B, μ, oa, ρ, M, rel, h⟩ => ?_
  rw [ex] at h
  refine tE_out rel h fun H1 μ1 d M1 v r1 e1 rv h1 => ?_
  dsimp only at h1
  cases hf : d.flat with
  | false => rw [hf] at h1; exact h1.elim
  | true =>
    rw [hf, if_pos rfl] at h1
    have ev := flatV_eq hf rv
    subst ev
    refine ⟨by simp, fun e hne => ⟨e, _, rfl, upd_same, fun dx hdx dne => ⟨rfl, dx, [(f, d.flatV)], upd_same, ?_, ?_, ?_⟩⟩⟩
    · rw [upd_ne dne, upd_same]
    · rw [upd_ne dne] at hdx; exact hdx
    · have hdx' : H1 dx = none := by rw [upd_ne dne] at hdx; exact hdx
      have hH : upd (del (upd (upd (upd H1 e (exo e C none)) dx (exd dx [(f, d.flatV)])) e (exo e C (some dx))) e) dx (.xd [(f, d.flatV)]) = upd H1 dx (.xd [(f, d.flatV)]) := by
        funext b
        by_cases q : b = dx
        · subst q; rw [upd_same, upd_same]
        · rw [upd_ne q, upd_ne q]
          by_cases q2 : b = e
          · subst q2; rw [del_same, hne]
          · rw [del_ne q2, upd_ne q2, upd_ne q, upd_ne q2]
      rw [hH]
      refine h1 B μ1 oa σ _ _ (some dx) (Same.kp (same_upd hdx')) (r1.same (same_upd hdx')) ?_
      rw [hL]
      exact ⟨c, hx, C, rfl, rfl, k.toXcK, rfl, .inr ⟨dx, f, d, rfl, rfl, hf, upd_same⟩, fun q hq => ⟨y, o, by rw [List.mem_singleton.1 hq]; exact hi⟩⟩
def notStarE : Expr → Bool | .Starred .. => false | _ => true
/-- what an except clause gives back, in the text -/
inductive HEx (X : Cx) (i : Option Nat) : HE → Expr → Prop
  | non {k : Nat} {p : Pos} : HEx X i (.con .non) (.Constant .none k p)
  | bl {b : Bool} {k : Nat} {p : Pos} : HEx X i (.con (.bl b)) (.Constant (.bool b) k p)
  | int {b : Int} {k : Nat} {p : Pos} : HEx X i (.con (.int b)) (.Constant (.int b) k p)
  | str {b : Str} {k : Nat} {p : Pos} : HEx X i (.con (.str b)) (.Constant (.str b) k p)
  | fld {f n : Str} {k : Nat} {p q : Pos} : i = some k → IsName X k n → HEx X i (.fld f) (.Attribute (.Name n p) f q)
  | pair {a b : HE} {x y : Expr} {k : Nat} {p : Pos} : HEx X i a x → HEx X i b y → notStarE x = true → notStarE y = true → HEx X i (.pair a b) (.Tuple [x, y] k p)
def tHE (K : PySem.W.Frag) (e : HE) (i : Option Nat) (a : Addr) (cls : Value) (d : Option Addr) : TE := fun σ H Q => ∃ B μ x C dv, (∀ z : Addr, B z → H z ≠ none) ∧ cls = .ref C ∧ XfC K C ∧ (∀ p ∈ x.fs, PySem.W.findIn K (.ref C) p.1 = some none) ∧ (∀ k, i = some k → σ[k]? = some (some (.ref a))) ∧ xfr H x d ∧
  e.ev x = some dv ∧ ∀ v H', Same H H' → Rp K H' B μ dv v → Q v H'
theorem xfr_same {H H' : Hp} {x : Exc} {d : Option Addr} (s : Same H H') (h : xfr H x d) : xfr H' x d := by
  rcases h with h | ⟨a, f, d, h1, h2, h3, h4⟩
  · exact .inl h
  · exact .inr ⟨a, f, d, h1, h2, h3, s _ _ h4⟩
theorem he_ok {i : Option Nat} : ∀ {e : HE} {x : Expr}, HEx X i e x → ∀ {a : Addr} {oe : Obj} {cls : Value} {d : Option Addr} {pn : List (Addr × Obj)}, Zc cls d oe → (∃ vs, oe.data = .fields vs) → PE (X.suite a ((a, oe) :: pn)) x (tHE X.K e i a cls d)
  | _, _, .non, a, oe, cls, d, pn, hz, hf => (pe_non (X := X.suite a ((a, oe) :: pn))).imp fun σ H Q ⟨B, μ, x, C, dv, bt, _, _, _, _, _, he, q⟩ => by cases he; exact q _ H (Same.refl H) .non
  | _, _, .bl, a, oe, cls, d, pn, hz, hf => (pe_bl (X := X.suite a ((a, oe) :: pn))).imp fun σ H Q ⟨B, μ, x, C, dv, bt, _, _, _, _, _, he, q⟩ => by cases he; exact q _ H (Same.refl H) (.bl _)
  | _, _, .int, a, oe, cls, d, pn, hz, hf => (pe_int (X := X.suite a ((a, oe) :: pn))).imp fun σ H Q ⟨B, μ, x, C, dv, bt, _, _, _, _, _, he, q⟩ => by cases he; exact q _ H (Same.refl H) (.int _)
  | _, _, .str, a, oe, cls, d, pn, hz, hf => (pe_str (X := X.suite a ((a, oe) :: pn))).imp fun σ H Q ⟨B, μ, x, C, dv, bt, _, _, _, _, _, he, q⟩ => by cases he; exact q _ H (Same.refl H) (.str _)
  | _, _, .fld (f := f) (n := n) (k := k) hi hn, a, oe, cls, d, pn, hz, hf => ⟨fun pins s σ H Q I ⟨B, μ, x, C, dv, bt, ec, xf, no, sl, xr, he, q⟩ => by
      subst hi ec
      rcases xr with ⟨h1, _⟩ | ⟨dd, f', d', rfl, h2, h3, h4⟩
      · simp only [HE.ev, h1] at he; cases he
      · simp only [HE.ev, h2] at he
        by_cases ef : f = f'
        · subst ef
          have : dv = d' := by simpa [List.lookup] using he.symm
          subst this
          refine (pe_xf xf (no (f, dv) (by rw [h2]; simp)) hz hf (pe_var (X := X.suite a ((a, oe) :: pn)) hn.hN hn.hv hn.hd hn.hc)).run pins s σ H Q I ?_
          exact ⟨_, sl _ rfl, rfl, rfl, dd, _, _, rfl, h4, by simp [List.lookup], q _ H (Same.refl H) (flatV_rp h3)⟩
        · have : (f == f') = false := by simpa using ef
          simp [List.lookup, this] at he⟩
  | _, _, .pair (x := x) (y := y) h1 h2 s1 s2, a, oe, cls, d, pn, hz, hf => (pe_tup (X := X.suite a ((a, oe) :: pn)) (pa_cons (he_ok h1 hz hf) (pa_cons (he_ok h2 hz hf) pa_nil (by cases y <;> first | rfl | cases s2)) (by cases x <;> first | rfl | cases s1))).imp
      fun σ H Q ⟨B, μ, x, C, dv, bt, ec, xf, no, sl, xr, he, q⟩ => by
    simp only [HE.ev] at he
    split at he
    · rename_i u v hu hv
      cases he
      refine ⟨B, μ, x, C, u, bt, ec, xf, no, sl, xr, hu, fun vu Hu su ru => ?_⟩
      have bt' : ∀ z, B z → Hu z ≠ none := fun z hz => by
        cases e : H z with
        | none => exact absurd e (bt z hz)
        | some o => rw [su z o e]; exact fun w => nomatch w
      refine ⟨B, μ, x, C, v, bt', ec, xf, no, sl, xfr_same su xr, hv, fun vv Hv sv rv => ⟨by rw [sizeLine_eq]; show 2 ≤ _; omega, fun p hp => q _ _ (fun b o e => same_upd hp b o (sv b o (su b o e))) ?_⟩⟩
      have bt2 : ∀ z, B z → Hv z ≠ none := fun z hz => by
        cases e : Hu z with
        | none => exact absurd e (bt' z hz)
        | some o => rw [sv z o e]; exact fun w => nomatch w
      exact new_tup bt2 hp (.cons (ru.mono (Same.kp sv)) (.cons rv .nil))
    · cases he
def isAnd : Expr → Bool | .BoolOp .And _ _ => true | _ => false
/-- what an except clause asks, in the text -/
inductive HCx (X : Cx) (xs : List XC) (i : Option Nat) : HC → Expr → Prop
  | one {c : XC} {n : Str} {k : Nat} {p q r s : Pos} : i = some k → IsName X k n → Gl X "isinstance" → X.mg "isinstance" = none → c ∈ xs → Gl X c.name → (c.name == ("__debug__" : Str)) = false → HCx X xs i (.isi [c.name]) (.Call (.Name "isinstance" p) [.Name n q, .Name c.name r] [] s)
  | val {n : Str} {k : Nat} {p q r s : Pos} : i = some k → IsName X k n → Gl X "isinstance" → X.mg "isinstance" = none → Gl X "ValueError" → X.mg "ValueError" = none → HCx X xs i (.isi ["ValueError"]) (.Call (.Name "isinstance" p) [.Name n q, .Name "ValueError" r] [] s)
  | two {c c2 : XC} {n : Str} {k j : Nat} {p q r r2 s t : Pos} : i = some k → IsName X k n → Gl X "isinstance" → X.mg "isinstance" = none → c ∈ xs → Gl X c.name → (c.name == ("__debug__" : Str)) = false → c2 ∈ xs → Gl X c2.name → (c2.name == ("__debug__" : Str)) = false →
      HCx X xs i (.isi [c.name, c2.name]) (.Call (.Name "isinstance" p) [.Name n q, .Tuple [.Name c.name r, .Name c2.name r2] j t] [] s)
  | not {c : HC} {x : Expr} {p : Pos} : HCx X xs i c x → HCx X xs i (.not c) (.UnaryOp .Not x p)
  | and2 {a b : HC} {x y : Expr} {p : Pos} : HCx X xs i a x → HCx X xs i b y → HCx X xs i (.and a b) (.BoolOp .And [x, y] p)
  | and3 {a b : HC} {x y z : Expr} {l : List Expr} {p : Pos} : HCx X xs i a x → HCx X xs i b (.BoolOp .And (y :: z :: l) p) → HCx X xs i (.and a b) (.BoolOp .And (x :: y :: z :: l) p)
def tHC (K : PySem.W.Frag) (xs : List XC) (c : HC) (i : Option Nat) (a : Addr) (cls : Value) (d : Option Addr) : TT := fun σ H Q => ∃ (x : Exc) (z : XC) (C : Addr), z.anc = x.anc ∧ cls = .ref C ∧ XcK K xs z C ∧ (∀ k, i = some k → σ[k]? = some (some (.ref a))) ∧ xfr H x d ∧ ∀ H', Same H H' → Q (c.ev x) H'
theorem xfr_xd {H : Hp} {x : Exc} {d : Option Addr} (h : xfr H x d) : ∀ dd, d = some dd → ∃ fs, H dd = some (.xd fs) := fun dd e => by
  subst e
  rcases h with ⟨_, h⟩ | ⟨a, f, d', h1, _, _, h4⟩
  · cases h
  · cases h1; exact ⟨_, h4⟩
theorem same_tr {H H' H'' : Hp} (h : Same H H') (k : Same H' H'') : Same H H'' := fun b o e => k b o (h b o e)
mutual
theorem hc_ok (ok : ∀ c ∈ xs, ∃ C, XcOk X.prog X.K X.mg xs c C) {i : Option Nat} : ∀ {c : HC} {e : Expr}, HCx X xs i c e → ∀ {a : Addr} {oe : Obj} {cls : Value} {d : Option Addr} {pn : List (Addr × Obj)}, Zc cls d oe → (∃ vs, oe.data = .fields vs) → PT (X.suite a ((a, oe) :: pn)) e (tHC X.K xs c i a cls d)
  | _, _, .one (c := c) (n := n) hi hn g1 g2 hc gc db, a, oe, cls, d, pn, hz, hf => ⟨fun pins s σ H Q I ⟨x, z, C, ea, ec, kz, sl, xr, q⟩ => by
      subst ec
      obtain ⟨C2, k2⟩ := ok c hc
      obtain ⟨C', w1, w2, w3⟩ := kz.ex c hc
      have eC : C' = C2 := by
        have := w1.symm.trans k2.at_
        cases this; rfl
      subst eC
      refine (pt_truth (pe_callB (call_isX (t := fun ys H' Q' => rIsX X.K C a ys H' Q' ∧ ∀ dd, d = some dd → ∃ fs, H' dd = some (.xd fs)) kz.xi hz hf fun _ _ _ h => h) g1 g2 boot_isinstance (pa_cons (pe_var hn.hN hn.hv hn.hd hn.hc) (pa_cons (pe_glob (v := .ref C') gc k2.gm rfl db) pa_nil))) fun _ => rfl).run pins s σ H Q I ?_
      refine ⟨_, sl _ hi, ⟨_, _, rfl, .inl ⟨.ref C', fun u r => by cases r; rfl, w3⟩, _, rfl, ?_⟩, xfr_xd xr⟩
      have := q H (Same.refl H)
      rw [ea] at *
      simpa [HC.ev] using this⟩
  | _, _, .val (n := n) hi hn g1 g2 gc gm, a, oe, cls, d, pn, hz, hf => ⟨fun pins s σ H Q I ⟨x, z, C, ea, ec, kz, sl, xr, q⟩ => by
      subst ec
      refine (pt_truth (pe_callB (call_isX (t := fun ys H' Q' => rIsX X.K C a ys H' Q' ∧ ∀ dd, d = some dd → ∃ fs, H' dd = some (.xd fs)) kz.xi hz hf fun _ _ _ h => h) g1 g2 boot_isinstance (pa_cons (pe_var hn.hN hn.hv hn.hd hn.hc) (pa_cons (pe_bltn (v := .ty "ValueError") gc gm (by decide +kernel) rfl) pa_nil))) fun _ => rfl).run pins s σ H Q I ?_
      refine ⟨_, sl _ hi, ⟨_, _, rfl, .inl ⟨.type "ValueError", fun u r => by cases r; rfl, kz.kv⟩, _, rfl, ?_⟩, xfr_xd xr⟩
      have := q H (Same.refl H)
      rw [ea] at *
      simpa [HC.ev] using this⟩
  | _, _, .two (c := c) (c2 := c2) (n := n) hi hn g1 g2 hc gc db hc2 gc2 db2, a, oe, cls, d, pn, hz, hf => ⟨fun pins s σ H Q I ⟨x, z, C, ea, ec, kz, sl, xr, q⟩ => by
      subst ec
      obtain ⟨C2, k2⟩ := ok c hc
      obtain ⟨C', w1, w2, w3⟩ := kz.ex c hc
      obtain ⟨D2, l2⟩ := ok c2 hc2
      obtain ⟨D', v1, v2, v3⟩ := kz.ex c2 hc2
      have eC : C' = C2 := by
        have := w1.symm.trans k2.at_
        cases this; rfl
      have eD : D' = D2 := by
        have := v1.symm.trans l2.at_
        cases this; rfl
      subst eC eD
      refine (pt_truth (pe_callB (call_isX (t := fun ys H' Q' => rIsX X.K C a ys H' Q' ∧ ∀ dd, d = some dd → ∃ fs, H' dd = some (.xd fs)) kz.xi hz hf fun _ _ _ h => h) g1 g2 boot_isinstance (pa_cons (pe_var hn.hN hn.hv hn.hd hn.hc) (pa_cons (pe_tup (pa_cons (pe_glob (v := .ref C') gc k2.gm rfl db) (pa_cons (pe_glob (v := .ref D') gc2 l2.gm rfl db2) pa_nil))) pa_nil))) fun _ => rfl).run pins s σ H Q I ?_
      refine ⟨_, sl _ hi, by rw [sizeLine_eq]; show 2 ≤ _; omega, fun tp htp => ⟨⟨_, (z.anc.contains c.name || z.anc.contains c2.name), rfl, .inr ⟨tp, [.ref C', .ref D'], [.ref C', .ref D'], rfl, upd_same, fun us r => ?_, ?_⟩, _, rfl, ?_⟩, xfr_xd (xfr_same (same_upd htp) xr)⟩⟩
      · cases r with
        | cons r1 r => cases r with
          | cons r2 r => cases r; cases r1; cases r2; rfl
      · refine kitAny_cons w3 (fun e => ?_) fun e => by rw [e]; rfl
        rw [e]
        refine kitAny_cons v3 (fun e2 => ?_) fun e2 => by rw [e2]; rfl
        rw [e2]; exact kitAny_nil
      · have := q (upd H tp (.tup [.ref C', .ref D'])) (same_upd htp)
        rw [ea] at *
        simpa [HC.ev] using this⟩
  | _, _, .not h, a, oe, cls, d, pn, hz, hf => (pt_not (hc_ok ok h hz hf)).imp fun σ H Q ⟨x, z, C, ea, ec, kz, sl, xr, q⟩ => ⟨x, z, C, ea, ec, kz, sl, xr, q⟩
  | _, _, .and2 h1 h2, a, oe, cls, d, pn, hz, hf => (hcw_ok ok (.and2 h1 h2) rfl hz hf).pt
  | _, _, .and3 h1 h2, a, oe, cls, d, pn, hz, hf => (hcw_ok ok (.and3 h1 h2) rfl hz hf).pt
theorem hcw_ok (ok : ∀ c ∈ xs, ∃ C, XcOk X.prog X.K X.mg xs c C) {i : Option Nat} : ∀ {c : HC} {e : Expr}, HCx X xs i c e → isAnd e = true → ∀ {a : Addr} {oe : Obj} {cls : Value} {d : Option Addr} {pn : List (Addr × Obj)}, Zc cls d oe → (∃ vs, oe.data = .fields vs) → PW (X.suite a ((a, oe) :: pn)) e (tHC X.K xs c i a cls d)
  | _, _, .one .., hA, a, oe, cls, d, pn, hz, hf => by cases hA
  | _, _, .val .., hA, a, oe, cls, d, pn, hz, hf => by cases hA
  | _, _, .two .., hA, a, oe, cls, d, pn, hz, hf => by cases hA
  | _, _, .not .., hA, a, oe, cls, d, pn, hz, hf => by cases hA
  | _, _, .and2 (a := ca) h1 h2, _, a, oe, cls, d, pn, hz, hf => (pw_and (hc_ok ok h1 hz hf) (pw_and1 (hc_ok ok h2 hz hf))).imp fun σ H Q ⟨x, z, C, ea, ec, kz, sl, xr, q⟩ => ⟨x, z, C, ea, ec, kz, sl, xr, fun H1 s1 => by
      have q' := fun H' s' => q H' (same_tr s1 s')
      simp only [HC.ev] at q'
      cases e : HC.ev x ca with
      | true => rw [e] at q'; exact iteT ⟨x, z, C, ea, ec, kz, sl, xfr_same s1 xr, by simpa using q'⟩
      | false => rw [e] at q'; exact iteF (q' H1 (Same.refl H1))⟩
  | _, _, .and3 (a := ca) h1 h2, _, a, oe, cls, d, pn, hz, hf => (pw_and (hc_ok ok h1 hz hf) (hcw_ok ok h2 rfl hz hf)).imp fun σ H Q ⟨x, z, C, ea, ec, kz, sl, xr, q⟩ => ⟨x, z, C, ea, ec, kz, sl, xr, fun H1 s1 => by
      have q' := fun H' s' => q H' (same_tr s1 s')
      simp only [HC.ev] at q'
      cases e : HC.ev x ca with
      | true => rw [e] at q'; exact iteT ⟨x, z, C, ea, ec, kz, sl, xfr_same s1 xr, by simpa using q'⟩
      | false => rw [e] at q'; exact iteF (q' H1 (Same.refl H1))⟩
end
/-- a suite of one statement -/
inductive SuX (X : Cx) (xs : List XC) (i : Option Nat) : Option HC → HE → Stmt → Prop
  | ret {e : HE} {x : Expr} {q : Pos} : HEx X i e x → SuX X xs i none e (.Return (some x) q)
  | iff {c : HC} {t : Expr} {e : HE} {x : Expr} {q r : Pos} : HCx X xs i c t → HEx X i e x → SuX X xs i (some c) e (.If t [.Return (some x) q] [] r)
/-- the clauses stand in the text -/
inductive HdlsX (X : Cx) (xs : List XC) : List Hdl → List ExceptHandler → Prop
  | nil : HdlsX X xs [] []
  | cons {h : Hdl} {c : XC} {n : Option Str} {st : Stmt} {p r : Pos} {hs : List Hdl} {es : List ExceptHandler} : c ∈ xs → c.name = h.cls → Gl X h.cls → (h.cls == ("__debug__" : Str)) = false → NmOk X n h.slot → SuX X xs h.slot h.c h.e st → HdlsX X xs hs es →
      HdlsX X xs (h :: hs) (.ExceptHandler (some (.Name h.cls p)) n [st] r :: es)
def tsH (K : PySem.W.Frag) (xs : List XC) (h : Hdl) : SuT := fun a cls d De σ H => match h.c with
  | none => tHE K h.e h.slot a cls d σ H De.rt
  | some c => tHC K xs c h.slot a cls d σ H fun b H' => if b = true then tHE K h.e h.slot a cls d σ H' De.rt else De.nx σ H'
theorem su_ok (ok : ∀ c ∈ xs, ∃ C, XcOk X.prog X.K X.mg xs c C) {h : Hdl} {st : Stmt} (s : SuX X xs h.slot h.c h.e st) {a : Addr} {oe : Obj} {cls : Value} {d : Option Addr} {pn : List (Addr × Obj)} (hz : Zc cls d oe) (hf : ∃ vs, oe.data = .fields vs) : PSs (X.suite a ((a, oe) :: pn)) [st] (tsH X.K xs h a cls d) := by
  obtain ⟨cl, sl, c, e⟩ := h
  dsimp only at s
  cases s with
  | ret he => exact pss_one (ps_ret (he_ok he hz hf))
  | iff hc he =>
    refine (pss_one (ps_if (hc_ok ok hc hz hf) (pss_one (ps_ret (he_ok he hz hf))) pss_nil)).imp fun De σ H w => ?_
    exact w
theorem hdls_ok (k : ∀ c ∈ xs, ∃ C, XcOk X.prog X.K X.mg xs c C) : ∀ {hs : List Hdl} {es : List ExceptHandler}, HdlsX X xs hs es → ∃ l, HdG X es l ∧ l.map (fun z => z.2.1) = hs.map (·.slot) ∧
    (∀ (Wo : WX) (De : Ends) (x : Exc) (c : XC) (C : Addr) (d : Option Addr) (σ : L2.St) (H : Hp), c ∈ xs → XcK X.K xs c C → c.anc = x.anc →
      (∀ h, hs.find? (fun h => x.anc.contains h.cls) = some h → ∀ a, H a = none → tsH X.K xs h a (.ref C) d (ouD h.slot De) (inσ h.slot σ a) H) →
      (hs.find? (fun h => x.anc.contains h.cls) = none → Wo (.ref C) d σ H) → wG X.K Wo De l (.ref C) d σ H)
  | _, _, .nil => ⟨[], .nil, rfl, fun Wo De x c C d σ H _ _ _ _ h2 => h2 rfl⟩
  | _, _, .cons (h := h) (c := c0) hc0 hn hg hdb no su r => by
    obtain ⟨l, h1, h2, h3⟩ := hdls_ok k r
    obtain ⟨C0, k0⟩ := k c0 hc0
    refine ⟨(.ref C0, h.slot, tsH X.K xs h) :: l, .cons ⟨hg, hdb, .inl (by rw [← hn]; exact k0.gm)⟩ no (fun a oe cls d pn hz hf => su_ok k su hz hf) h1, by simp [h2], fun Wo De x c C d σ H hc kc ea f1 f2 => ?_⟩
    obtain ⟨C', a1, a3, _⟩ := kc.ex c0 hc0
    have eC : C' = C0 := by
      have := a1.symm.trans k0.at_
      cases this; rfl
    subst eC
    rw [ea, hn] at a3
    refine ⟨_, a3, fun hb a ha => f1 h (by simp only [List.find?, hb]) a ha, fun hb => h3 Wo De x c C d σ H hc kc ea (fun h' e => f1 h' (by simp only [List.find?, hb]; exact e)) fun e => f2 (by simp only [List.find?, hb]; exact e)⟩
theorem _root_.PC.Rel.unset {K : PySem.W.Frag} {fr : Fr} {B : Addr → Prop} {μ : List Addr} {oa : Nat → Option Addr} {ρ : Ev} {M : Mem} {σ : L2.St} {H : Hp} {k : Nat} {v : Option V} (r : Rel K fr B μ oa ρ M σ H) (hi : k < ρ.length) :
    Rel K fr B μ (fun j => if j = k then none else oa j) (ρ.set k .un) M ((σ.set k v).set k none) H where
  cs := r.cs
  b0 := r.b0
  bt := r.bt
  bo := fun j b e => by
    split at e
    · cases e
    · exact r.bo j b e
  oi := fun j l b e e' => by
    split at e
    · cases e
    · split at e'
      · cases e'
      · exact r.oi j l b e e'
  on := fun j b e => by
    split at e
    · cases e
    · exact r.on j b e
  sl := fun j s e => by
    by_cases hk : j = k
    · subst hk
      rw [if_pos rfl]
      rw [List.getElem?_set_self hi] at e
      cases e
      rfl
    · rw [if_neg hk, List.getElem?_set_ne (Ne.symm hk), List.getElem?_set_ne (Ne.symm hk)]
      rw [List.getElem?_set_ne (Ne.symm hk)] at e
      exact r.sl j s e
  so := fun j e => by
    split
    · rfl
    · rename_i hk
      rw [List.getElem?_set_ne (Ne.symm hk)] at e
      exact r.so j e
  ln := by rw [List.length_set, List.length_set, List.length_set]; exact r.ln
  m0 := r.m0
  ev := r.ev
theorem st_try {b : PC.B} {hs : List Hdl} {body : List Stmt} {e0 : ExceptHandler} {es : List ExceptHandler} {pos : Pos} (hL : L = lgx X.K xs) (sk : X.stack = X.env :: X.outer) (fr' : X.env.frame = some X.env.locals) (nd : X.N.Nodup) (tk : Takes X W)
    (k : ∀ c ∈ xs, ∃ C, XcOk X.prog X.K X.mg xs c C) (hh : HdlsX X xs hs (e0 :: es))
    (bd : ∀ (W : WX) (pn : List (Addr × Obj)) (xe : Value → Shared → Prop), Takes (X.tr pn xe) W → PassesOwn (model X.prog X.w) X.A X.env xe → PSs (X.tr pn xe) body (tB X.K L W Φ b)) :
    PS X (.Try body (e0 :: es) [] [] pos) (tS X.K L W Φ (.try_ b hs)) := by
  obtain ⟨l, h1, h2, h3⟩ := hdls_ok k hh
  refine (ps_tryG sk fr' nd tk bd h1).imp fun De σ H ⟨fr, B, μ, oa, ρ, M, rel, h⟩ => ⟨fr, B, μ, oa, ρ, M, rel, ?_⟩
  rw [ex] at h
  cases e : exs Φ b ρ M with
  | nx ρ1 M1 => rw [e] at h; exact h
  | rt d M1 => rw [e] at h; exact h
  | bad => rw [e] at h; exact h
  | er x ρ1 M1 =>
    rw [e] at h
    dsimp only at h
    intro B' μ' oa' σ' H' cls dd kp r hx
    have hx0 := hx
    rw [hL] at hx
    obtain ⟨c, hc, C, n1, n2, kc, rfl, xr, fld⟩ := hx
    refine h3 W De x c C dd σ' H' hc kc n2 (fun hd e2 a ha => ?_) fun e2 => ?_
    · rw [e2] at h
      dsimp only at h
      have hsl : (hd.slot.all fun k => decide (k < ρ1.length)) = true := by
        cases el : hd.slot.all fun k => decide (k < ρ1.length) with
        | false => rw [el, if_neg Bool.false_ne_true] at h; exact h.elim
        | true => rfl
      rw [hsl, if_pos rfl] at h
      have slA : ∀ k, hd.slot = some k → (inσ hd.slot σ' a)[k]? = some (some (.ref a)) := fun k hk => by
        have hk2 : k < σ'.length := by rw [← r.ln]; rw [hk] at hsl; simpa using hsl
        rw [hk]
        show (σ'.set k (some (.ref a)))[k]? = _
        rw [List.getElem?_set_self hk2]
      have fin : ∀ H1 dv, Same H' H1 → hd.e.ev x = some dv → PostO X.K L W fr B μ H (.rt dv M1) De → tHE X.K hd.e hd.slot a (.ref C) dd (inσ hd.slot σ' a) H1 (ouD hd.slot De).rt := fun H1 dv s1 ee hq =>
        ⟨ban B' μ', μ', x, C, dv, (r.same s1).bt, rfl, kc.xf, fun p hp => (by obtain ⟨y, o, ei⟩ := fld p hp; exact kc.no y p.1 o ei), slA, xfr_same s1 xr, ee, fun v H2 s2 rv => hq B' μ' oa' ρ1 σ' H2 v (r.same (same_tr s1 s2)) rv⟩
      unfold tsH
      cases ec : hd.c with
      | none =>
        rw [ec] at h
        simp only [Option.all_none, if_true] at h
        cases ee : hd.e.ev x with
        | none => rw [ee] at h; exact h.elim
        | some dv => rw [ee] at h; exact fin H' dv (Same.refl H') ee h
      | some cc =>
        rw [ec] at h
        refine ⟨x, c, C, n2, rfl, kc, slA, xr, fun H1 s1 => ?_⟩
        cases eb : cc.ev x with
        | true =>
          simp only [Option.all_some, eb, if_true] at h ⊢
          cases ee : hd.e.ev x with
          | none => rw [ee] at h; exact h.elim
          | some dv => rw [ee] at h; exact fin H1 dv s1 ee h
        | false =>
          simp only [Option.all_some, eb, Bool.false_eq_true, if_false] at h ⊢
          have r1 := r.same s1
          cases es : hd.slot with
          | none =>
            rw [es] at h
            exact h B' μ' oa' σ' H1 (kp.trans (Same.kp s1)) r1
          | some k =>
            rw [es] at h hsl
            exact h B' μ' _ _ H1 (kp.trans (Same.kp s1)) (r1.unset (k := k) (v := some (.ref a)) (by simpa using hsl))
    · rw [e2] at h
      exact h B' μ' oa' σ' H' _ dd kp r hx0
end
end PC

namespace PC
open PySem PySem.Spec PyProof.Rows L2
mutual
def D.same : D → D → Bool
  | .non, .non => true
  | .bl a, .bl b => decide (a = b)
  | .int a, .int b => decide (a = b)
  | .str a, .str b => decide (a = b)
  | .tup xs, .tup ys => D.sames xs ys
  | _, _ => false
def D.sames : List D → List D → Bool
  | [], [] => true
  | x :: xs, y :: ys => D.same x y && D.sames xs ys
  | _, _ => false
end
mutual
theorem D.same_eq : ∀ (a b : D), D.same a b = true → a = b
  | .non, b, h => by cases b <;> simp [D.same] at h; rfl
  | .bl a, b, h => by cases b <;> simp [D.same] at h; rw [h]
  | .int a, b, h => by cases b <;> simp [D.same] at h; rw [h]
  | .str a, b, h => by cases b <;> simp [D.same] at h; rw [h]
  | .tup xs, b, h => by
    cases b <;> simp [D.same] at h
    rw [D.sames_eq _ _ h]
  | .lst xs, b, h => by cases b <;> simp [D.same] at h
  | .cell n, b, h => by cases b <;> simp [D.same] at h
  | .frz n, b, h => by cases b <;> simp [D.same] at h
theorem D.sames_eq : ∀ (a b : List D), D.sames a b = true → a = b
  | [], [], _ => rfl
  | [], _ :: _, h => by simp [D.sames] at h
  | _ :: _, [], h => by simp [D.sames] at h
  | x :: xs, y :: ys, h => by
    simp [D.sames] at h
    rw [D.same_eq x y h.1, D.sames_eq xs ys h.2]
end
def kG (sc : Scope) (x : Str) : Bool := match sc.names.lookup x with | some .globalImplicit => true | _ => false
def kV (sc : Scope) (x : Str) : Bool := match sc.names.lookup x with | some .local => true | some .cell => true | some .free => true | _ => false
def kL (sc : Scope) (x : Str) : Bool := match sc.names.lookup x with | some .local => true | some .cell => true | _ => false
def kLoc (sc : Scope) (x : Str) : Bool := match sc.names.lookup x with | some .local => true | _ => false
def okName (x : Str) : Bool := !(x == ("__debug__" : Str)) && !(x == ("__classdict__" : Str))
def testable : Expr → Bool | .IfExp .. => false | _ => true
def notSlice : Expr → Bool | .Slice .. => false | _ => true
def notStar : Expr → Bool | .Starred .. => false | _ => true
def Es.len : Es → Nat | .nil => 0 | .cons _ r => r.len + 1
def chkTgs (N : List Str) (sc : Scope) : List Nat → List Expr → Bool
  | [], [] => true
  | i :: is, .Name n _ :: es => decide (N[i]? = some n) && kL sc n && chkTgs N sc is es
  | _, _ => false
def chkTg (N : List Str) (sc : Scope) : Tg → Expr → Bool
  | .name i, .Name n _ => decide (N[i]? = some n) && kL sc n
  | .tup is, .Tuple es _ _ => chkTgs N sc is es
  | _, _ => false
def tgOwn : Tg → Expr → List (Str × Nat)
  | .name i, .Name n _ => [(n, i)]
  | .tup is, .Tuple es _ _ => (is.zip es).filterMap fun (i, e) => match e with | .Name n _ => some (n, i) | _ => none
  | _, _ => []
def chkTys (sc : Scope) : List Ty → List Expr → Bool
  | [], [] => true
  | t :: ts, .Name n _ :: es => decide (n = t.id) && kG sc n && chkTys sc ts es
  | _, _ => false
def isIfs : Es → List Expr → Bool
  | .nil, [] => true
  | .cons _ .nil, [_] => true
  | _, _ => false
/-- the tables that a check leans on: the defs, the module's constants -/
structure Tbl where
  T : Nat → Option FD
  G : List (Str × D)
  X : List XC := []
def Tbl.g (t : Tbl) (x : Str) (d : D) : Bool := match t.G.lookup x with | some d' => D.same d d' | none => false
mutual
def chkE (T : Tbl) (N : List Str) : E → Scope → Expr → Bool
  | .var i, sc, e => match e with | .Name n _ => decide (N[i]? = some n) && kV sc n && okName n | _ => false
  | .non, _, e => match e with | .Constant .none _ _ => true | _ => false
  | .bl b, _, e => match e with | .Constant (.bool c) _ _ => decide (c = b) | _ => false
  | .int i, _, e => match e with | .Constant (.int c) _ _ => decide (c = i) | _ => false
  | .str x, _, e => match e with | .Constant (.str c) _ _ => decide (c = x) | _ => false
  | .glob x d, sc, e => match e with | .Name n _ => decide (n = x) && kG sc n && T.g x d && okName n | _ => false
  | .bin o a b, sc, e => match e with | .BinOp x o' y _ => decide (o' = bopOf o) && chkE T N a sc x && chkE T N b sc y | _ => false
  | .neg a, sc, e => match e with | .UnaryOp .USub x _ => chkE T N a sc x | _ => false
  | .not a, sc, e => match e with | .UnaryOp .Not x _ => testable x && chkE T N a sc x | _ => false
  | .cmp o a b, sc, e => match e with | .Compare x [o'] [y] _ => decide (o' = copOf o) && !behindInMarks o' y && chkE T N a sc x && chkE T N b sc y | _ => false
  | .chain o o2 a b c, sc, e => match e with | .Compare x [o', o2'] [y, z] _ => decide (o' = copOf o) && decide (o2' = copOf o2) && !lastMarks [o', o2'] [y, z] && chkE T N a sc x && chkE T N b sc y && chkE T N c sc z | _ => false
  | .isN a, sc, e => match e with | .Compare x [.Is] [.Constant .none _ _] _ => chkE T N a sc x | _ => false
  | .notN a, sc, e => match e with | .Compare x [.IsNot] [.Constant .none _ _] _ => chkE T N a sc x | _ => false
  | .isB a b, sc, e => match e with | .Compare x [.Is] [.Constant (.bool c) _ _] _ => decide (c = b) && chkE T N a sc x | _ => false
  | .notB a b, sc, e => match e with | .Compare x [.IsNot] [.Constant (.bool c) _ _] _ => decide (c = b) && chkE T N a sc x | _ => false
  | .and a b, sc, e => match e with
    | .BoolOp .And [x, y] _ => testable x && testable y && chkE T N a sc x && chkE T N b sc y
    | .BoolOp .And (x :: y :: z :: r) p => testable x && chkE T N a sc x && chkE T N b sc (.BoolOp .And (y :: z :: r) p)
    | _ => false
  | .or a b, sc, e => match e with
    | .BoolOp .Or [x, y] _ => testable x && testable y && chkE T N a sc x && chkE T N b sc y
    | .BoolOp .Or (x :: y :: z :: r) p => testable x && chkE T N a sc x && chkE T N b sc (.BoolOp .Or (y :: z :: r) p)
    | _ => false
  | .ite c a b, sc, e => match e with | .IfExp t x y _ => testable t && chkE T N c sc t && chkE T N a sc x && chkE T N b sc y | _ => false
  | .tup es, sc, e => match e with | .Tuple xs _ _ => chkEs T N es sc xs | _ => false
  | .lst es, sc, e => match e with | .List xs _ => chkEs T N es sc xs | _ => false
  | .newL es, sc, e => match e with | .List xs _ => chkEs T N es sc xs | _ => false
  | .sub a i, sc, e => match e with | .Subscript x y _ => notSlice y && chkE T N a sc x && chkE T N i sc y | _ => false
  | .slice a lo hi, sc, e => match e with | .Subscript x (.Slice l h none _) _ => chkE T N a sc x && chkP T N lo sc l && chkP T N hi sc h | _ => false
  | .sliceRev a, sc, e => match e with | .Subscript x (.Slice none none (some (.UnaryOp .USub (.Constant (.int 1) _ _) _)) _) _ => chkE T N a sc x | _ => false
  | .lenO i, sc, e => match e with | .Call (.Name f _) [.Name n _] [] _ => decide (f = "len") && kG sc "len" && decide (N[i]? = some n) && kV sc n && okName n | _ => false
  | .subO i k, sc, e => match e with | .Subscript (.Name n _) y _ => decide (N[i]? = some n) && kV sc n && okName n && notSlice y && chkE T N k sc y | _ => false
  | .call f es, sc, e => match e with
    | .Call (.Name n _) args [] _ => (match T.T f with
      | some fd => decide (n = fd.name) && kG sc n && okName n && decide (fd.ps.length = args.length) && chkEs T N es sc args
      | none => false)
    | _ => false
  | .bi b a, sc, e => match e with | .Call (.Name n _) [x] [] _ => decide (n = biName b) && kG sc n && chkE T N a sc x | _ => false
  | .isi a ts, sc, e => match e with
    | .Call (.Name f _) [x, .Name n _] [] _ => (match ts with | [t] => decide (f = "isinstance") && kG sc "isinstance" && decide (n = t.id) && kG sc n && chkE T N a sc x | _ => false)
    | .Call (.Name f _) [x, .Tuple tes _ _] [] _ => decide (f = "isinstance") && kG sc "isinstance" && chkTys sc ts tes && decide (ts.length ≤ 20) && !ts.isEmpty && chkE T N a sc x
    | _ => false
  | .comp it t ifs elt, sc, e => match e with
    | .ListComp el [⟨tg, iter, ife, 0⟩] scope _ => chkI T N it sc true tg iter && blkC N sc scope (tgOwn t tg) && decide ((tgOwn t tg).map (·.2) = t.slots) && chkTg N scope t tg && isIfs ifs ife && ife.all testable && chkEs T N ifs (relS scope sc) ife && chkE T N elt (relS scope sc) el
    | _ => false
  | .borrow _ a, sc, e => (match e with | .Call .. => true | .Compare .. => true | .UnaryOp .Not .. => true | _ => false) && chkE T N a sc e
def chkEs (T : Tbl) (N : List Str) : Es → Scope → List Expr → Bool
  | .nil, _, es => es.isEmpty
  | .cons a r, sc, es => match es with | x :: xs => chkE T N a sc x && chkEs T N r sc xs | [] => false
def chkP (T : Tbl) (N : List Str) : Pt → Scope → Option Expr → Bool
  | .none, _, o => o.isNone
  | .some a, sc, o => match o with | some x => chkE T N a sc x | none => false
/-- comp: within a comprehension -/
def chkI (T : Tbl) (N : List Str) : PC.It → Scope → Bool → Expr → Expr → Bool
  | .seq a, sc, _, _, e => chkE T N a sc e
  | .own i, sc, comp, _, e => comp && (match e with | .Name n _ => decide (N[i]? = some n) && kV sc n && okName n | _ => false)
  | .range1 a, sc, _, _, e => match e with | .Call (.Name f _) [x] [] _ => decide (f = "range") && kG sc "range" && chkE T N a sc x | _ => false
  | .range2 a b, sc, _, _, e => match e with | .Call (.Name f _) [x, y] [] _ => decide (f = "range") && kG sc "range" && chkE T N a sc x && chkE T N b sc y | _ => false
  | .zip a b, sc, _, tg, e => match tg, e with | .Tuple _ _ _, .Call (.Name f _) [x, y] [] _ => decide (f = "zip") && kG sc "zip" && chkE T N a sc x && chkE T N b sc y | _, _ => false
end
def isLst : E → Bool | .lst _ => true | _ => false
def isRep : E → Bool | .bin .mul _ _ => true | _ => false
def isComp : E → Bool | .comp .. => true | _ => false
/-- a comprehension's name on its own line: it is stored within the comprehension's frame -/
def lcSame (sc : Scope) (n : Str) (q : Pos) : Expr → Bool
  | .ListComp _ _ scope cp => kLoc sc n && (q.line == cp.line) && !(scope.names.any fun (m, k) => m == n && (k == .local || k == .cell))
  | _ => false
def notComp : Expr → Bool | .ListComp .. => false | .SetComp .. => false | .DictComp .. => false | _ => true
def notTuple : Expr → Bool | .Tuple .. => false | _ => true
def notSet : Expr → Bool | .Set .. => false | _ => true
def chkHE (N : List Str) (sc : Scope) (i : Option Nat) : HE → Expr → Bool
  | .con d, e => match d, e with
    | .non, .Constant .none _ _ => true
    | .bl b, .Constant (.bool c) _ _ => decide (c = b)
    | .int b, .Constant (.int c) _ _ => decide (c = b)
    | .str b, .Constant (.str c) _ _ => decide (c = b)
    | _, _ => false
  | .fld f, e => match e, i with
    | .Attribute (.Name n _) g _, some k => decide (g = f) && decide (N[k]? = some n) && kV sc n && okName n
    | _, _ => false
  | .pair a b, e => match e with
    | .Tuple [x, y] _ _ => chkHE N sc i a x && chkHE N sc i b y && notStarE x && notStarE y
    | _ => false
def chkNm (N : List Str) (sc : Scope) : Option Str → Option Nat → Bool
  | none, none => true
  | some n, some k => decide (N[k]? = some n) && kLoc sc n
  | _, _ => false
def chkHC (T : Tbl) (N : List Str) (sc : Scope) (i : Option Nat) : HC → Expr → Bool
  | .isi cs, e => match cs, e, i with
    | [c], .Call (.Name f _) [.Name n _, .Name c' _] [] _, some k => decide (f = "isinstance") && kG sc "isinstance" && decide (N[k]? = some n) && kV sc n && okName n && decide (c' = c) && kG sc c && (decide (c = "ValueError") || (okName c && T.X.any fun z => decide (z.name = c)))
    | [c, d], .Call (.Name f _) [.Name n _, .Tuple [.Name c' _, .Name d' _] _ _] [] _, some k => decide (f = "isinstance") && kG sc "isinstance" && decide (N[k]? = some n) && kV sc n && okName n && decide (c' = c) && kG sc c && okName c && (T.X.any fun z => decide (z.name = c)) && decide (d' = d) && kG sc d && okName d && (T.X.any fun z => decide (z.name = d))
    | _, _, _ => false
  | .not c, e => match e with | .UnaryOp .Not x _ => chkHC T N sc i c x | _ => false
  | .and a b, e => match e with
    | .BoolOp .And [x, y] _ => chkHC T N sc i a x && chkHC T N sc i b y
    | .BoolOp .And (x :: y :: z :: l) p => chkHC T N sc i a x && chkHC T N sc i b (.BoolOp .And (y :: z :: l) p)
    | _ => false
def chkSu (T : Tbl) (N : List Str) (sc : Scope) (i : Option Nat) : Option HC → HE → Stmt → Bool
  | none, e, st => match st with | .Return (some x) _ => chkHE N sc i e x | _ => false
  | some c, e, st => match st with | .If t [.Return (some x) _] [] _ => chkHC T N sc i c t && chkHE N sc i e x | _ => false
def chkHs (T : Tbl) (N : List Str) (sc : Scope) : List Hdl → List ExceptHandler → Bool
  | [], [] => true
  | h :: hs, .ExceptHandler (some (.Name c _)) n [st] _ :: es => decide (c = h.cls) && kG sc c && okName c && (T.X.any fun z => decide (z.name = h.cls)) && chkNm N sc n h.slot && chkSu T N sc h.slot h.c h.e st && chkHs T N sc hs es
  | _, _ => false
def strE : E → Bool | .str _ => true | _ => false
def chkX (T : Tbl) (c : Str) (anc : List Str) (f : Option Str) (e : E) : Bool := T.X.any fun z => decide (z.name = c) && decide (z.anc = anc) && (match z.ini, f with
  | none, none => strE e
  | some (_, g, _), some f => decide (g = f)
  | _, _ => false)
mutual
def chkS (T : Tbl) (N : List Str) (sc : Scope) : S → Stmt → Bool
  | .set i e, st => match st with | .Assign [.Name n q] x _ => decide (N[i]? = some n) && kL sc n && (notComp x || isComp e) && chkE T N e sc x | _ => false
  | .own i e, st => match st with | .Assign [.Name n q] x _ => decide (N[i]? = some n) && kL sc n && (isLst e || isComp e || isRep e) && chkE T N e sc x | _ => false
  | .freeze _, _ => false
  | .unpack is e, st => match st with | .Assign [.Tuple es _ _] x _ => chkTgs N sc is es && notComp x && notTuple x && chkE T N e sc x | _ => false
  | .append i e, st => match st with | .Expr (.Call (.Attribute (.Name n _) m ap) [x] [] cp) _ => decide (m = "append") && decide (N[i]? = some n) && kV sc n && okName n && (ap.endLine == cp.line) && chkE T N e sc x | _ => false
  | .popAt j i k, st => match st with | .Assign [.Name m _] (.Call (.Attribute (.Name n _) f ap) [x] [] cp) _ => decide (f = "pop") && decide (N[j]? = some m) && kL sc m && decide (N[i]? = some n) && kV sc n && okName n && (ap.endLine == cp.line) && chkE T N k sc x | _ => false
  | .setO i k e, st => match st with | .Assign [.Subscript (.Name n _) y _] x _ => decide (N[i]? = some n) && kV sc n && okName n && notSlice y && notComp x && chkE T N k sc y && chkE T N e sc x | _ => false
  | .setC a k e, st => match st with | .Assign [.Subscript z y _] x _ => notSlice y && notComp x && chkE T N a sc z && chkE T N k sc y && chkE T N e sc x | _ => false
  | .expr e, st => match st with | .Expr x _ => notComp x && chkE T N e sc x | _ => false
  | .ret e, st => match st with | .Return (some x) _ => chkE T N e sc x | _ => false
  | .ite c a b, st => match st with | .If x s1 s2 _ => testable x && chkE T N c sc x && chkB T N sc a s1 && chkB T N sc b s2 | _ => false
  | .whl _ c b, st => match st with | .While x s1 [] _ => testable x && chkE T N c sc x && chkB T N sc b s1 | _ => false
  | .for_ it t b, st => match st with | .For tg x s1 [] _ => chkI T N it sc false tg x && chkTg N sc t tg && notSet x && chkB T N sc b s1 | _ => false
  | .never, _ => true
  | .raise_ c anc f e, st => match st with | .Raise (some (.Call (.Name n _) [x] [] _)) none _ => decide (n = c) && kG sc c && okName c && chkE T N e sc x && chkX T c anc f e | _ => false
  | .try_ b hs, st => match st with | .Try body (h0 :: hds) [] [] _ => chkB T N sc b body && chkHs T N sc hs (h0 :: hds) | _ => false
def chkB (T : Tbl) (N : List Str) (sc : Scope) : PC.B → List Stmt → Bool
  | .nil, ss => ss.isEmpty
  | .cons s b, ss => match s with
    | .freeze _ => chkB T N sc b ss
    | s => match ss with | x :: xs => chkS T N sc s x && chkB T N sc b xs | [] => false
end
/-- is a core def the text's? -/
def chkF (T : Tbl) (fd : FD) (st : Stmt) : Bool :=
  chkB T fd.N (defScope st) fd.body (defBody st)
def bltNames : List Str := ["len", "int", "abs", "tuple", "list", "sum", "sorted", "all", "any", "range", "zip", "isinstance", "bool", "str", "ValueError"]

/-- a body's surroundings -/
structure Good (T : Tbl) (lv : Nat) (Φ : Fns) (N : List Str) (L : Lg) (X : Cx) (W : WX) : Prop where
  hN : X.N = N
  nd : N.Nodup
  calm : X.calm = true
  room : Room lv X.A
  tk : Takes X W
  kind : X.env.scope.kind = .function
  tab : TabOk X L T.T lv Φ
  blt : ∀ x ∈ bltNames, X.mg x = none
  gl : ∀ x d, T.G.lookup x = some d → ∃ v u, X.mg x = some u ∧ RelV v u ∧ ∀ H B μ, Rp X.K H B μ d v
  lg : L = lgx X.K T.X
  xc : ∀ c ∈ T.X, ∃ C, XcOk X.prog X.K X.mg T.X c C
  hl : 2 ≤ lv
theorem kG_gl {X : Cx} {x : Str} (h : kG X.env.scope x = true) : Gl X x := by
  unfold kG at h
  split at h
  · rename_i e; exact e
  · cases h
theorem kV_vis {sc : Scope} {x : Str} (h : kV sc x = true) : Vis sc x := by
  unfold kV at h
  split at h
  · rename_i e; exact .inl e
  · rename_i e; exact .inr (.inl e)
  · rename_i e; exact .inr (.inr e)
  · cases h
theorem okName_d {x : Str} (h : okName x = true) : (x == ("__debug__" : Str)) = false ∧ (x == ("__classdict__" : Str)) = false := by
  unfold okName at h
  rw [Bool.and_eq_true, Bool.not_eq_true', Bool.not_eq_true'] at h
  exact h
theorem star_of {X : Cx} {x : Expr} {xs : List Expr} (h : notStar x = true) : starEach (x :: xs) X.env = (false, eval x X.env) :: starEach xs X.env := by
  cases x <;> first | rfl | (simp [notStar] at h)
theorem chkE_star {T : Tbl} {N : List Str} {sc : Scope} : ∀ {c : E} {e : Expr}, chkE T N c sc e = true → notStar e = true ∧ notSlice e = true ∧ notSet e = true := by
  intro c e h
  cases e <;> first
    | exact ⟨rfl, rfl, rfl⟩
    | (cases c <;> simp [chkE] at h)
end PC

set_option maxHeartbeats 4000000
namespace PC
open PySem PySem.Spec PyProof.Rows L2
def isBool : Expr → Bool | .BoolOp .. => true | _ => false
structure Snd (X : Cx) (L : Lg) (W : WX) (Φ : Fns) (e : Expr) (c : E) : Prop where
  pe : PE X e (tE X.K L W Φ c)
  pt : testable e = true → PT X e (tT X.K L W Φ c)
  pw : isBool e = true → PW X e (tT X.K L W Φ c)
section
variable {T : Tbl} {lv : Nat} {Φ : Fns} {N : List Str} {L : Lg} {X : Cx} {W : WX}
theorem Good.hu (g : Good T lv Φ N L X W) : X.A.units + 65 < cLine := by
  have := g.room.un
  omega
theorem Good.mb (g : Good T lv Φ N L X W) {x : Str} (h : x ∈ bltNames) : X.mg x = none := g.blt x h
theorem Good.isName (g : Good T lv Φ N L X W) {i : Nat} {n : Str} (h1 : N[i]? = some n) (h2 : kV X.env.scope n = true) (h3 : okName n = true) : IsName X i n :=
  ⟨by rw [g.hN]; exact h1, kV_vis h2, (okName_d h3).1, (okName_d h3).2⟩
theorem Good.blk (g : Good T lv Φ N L X W) {s : Shared} {H : Hp} {scope : Scope} {C : Addr} {cl : List (Str × Addr)} {fp : List Addr} (hk : scope.kind = .function) : Good T lv Φ N L (X.blk s H scope (compEnvC scope cl C X.env) fp) W0 where
  hN := g.hN
  nd := g.nd
  calm := g.calm
  room := g.room
  tk := takes0
  kind := hk
  tab := fun f fd h => by
    obtain ⟨ad, fdat, q⟩ := g.tab f fd h
    exact ⟨ad, fdat, q.mg, q.kp, q.bd, q.ok⟩
  blt := g.blt
  gl := g.gl
  lg := g.lg
  xc := g.xc
  hl := g.hl
theorem plainTest {e : Expr} {c : E} (h : PE X e (tE X.K L W Φ c)) (hb : isBool e = false) (ht : testable e = true → PT X e (tT X.K L W Φ c)) : Snd X L W Φ e c := ⟨h, ht, fun z => by rw [hb] at z; cases z⟩
theorem tgNames_of (hN : X.N = N) (hl : ∀ n, kL sc n = true → Loc X.env.scope n ∧ (X.fn n = true ∨ X.env.scope.names.lookup n = some .local)) : ∀ {is : List Nat} {es : List Expr}, chkTgs N sc is es = true → TgNames X is es
  | [], [], _ => .nil
  | i :: is, e :: es, h => by
    cases e <;> simp [chkTgs] at h
    obtain ⟨⟨h1, h2⟩, h3⟩ := h
    exact .cons ⟨by rw [hN]; exact h1, (hl _ h2).1, (hl _ h2).2⟩ (tgNames_of hN hl h3)
  | [], _ :: _, h => by simp [chkTgs] at h
  | _ :: _, [], h => by simp [chkTgs] at h
theorem tgOk_of (hN : X.N = N) (hl : ∀ n, kL sc n = true → Loc X.env.scope n ∧ (X.fn n = true ∨ X.env.scope.names.lookup n = some .local)) {t : Tg} {e : Expr} (h : chkTg N sc t e = true) : TgOk X t e := by
  cases t with
  | name i =>
    cases e <;> simp [chkTg] at h
    exact .name ⟨by rw [hN]; exact h.1, (hl _ h.2).1, (hl _ h.2).2⟩
  | tup is =>
    cases e <;> simp [chkTg] at h
    exact .tup (tgNames_of hN hl h)
theorem kL_loc {sc : Scope} {n : Str} (h : kL sc n = true) : Loc sc n := by
  unfold kL at h
  split at h
  · rename_i e; exact .inl e
  · rename_i e; exact .inr e
  · cases h
theorem blk_loc {X : Cx} {s : Shared} {H : Hp} {scope : Scope} {C : Addr} {cl : List (Str × Addr)} {fp : List Addr} (n : Str) (h : kL scope n = true) :
    Loc (X.blk s H scope (compEnvC scope cl C X.env) fp).env.scope n ∧ ((X.blk s H scope (compEnvC scope cl C X.env) fp).fn n = true ∨ (X.blk s H scope (compEnvC scope cl C X.env) fp).env.scope.names.lookup n = some .local) := by
  have keep : ∀ k, k ≠ NameKind.free → scope.names.lookup n = some k → (relS scope X.env.scope).names.lookup n = some k := fun k hk e => lookup_relS_keep hk e
  rcases kL_loc h with e | e
  · exact ⟨.inl (keep _ (by decide) e), .inr (keep _ (by decide) e)⟩
  · refine ⟨.inr (keep _ (by decide) e), .inl ?_⟩
    show (scope.names.lookup n == some .cell) = true
    rw [e]
    rfl
theorem Ty.blt (t : Ty) : t.id ∈ bltNames := by cases t <;> decide +kernel
theorem tyNames_of (g : Good T lv Φ N L X W) : ∀ {ts : List Ty} {es : List Expr}, chkTys X.env.scope ts es = true → TyNames X ts es
  | [], [], _ => .nil
  | t :: ts, e :: es, h => by
    cases e <;> simp [chkTys] at h
    obtain ⟨⟨h1, h2⟩, h3⟩ := h
    subst h1
    exact .cons (kG_gl h2) (g.mb (by cases t <;> decide +kernel)) (tyNames_of g h3)
  | [], _ :: _, h => by simp [chkTys] at h
  | _ :: _, [], h => by simp [chkTys] at h
theorem evs_len : ∀ (es : Es) {ρ : Ev} {M M' : Mem} {ds : List D}, evs Φ es ρ M = .ok ds M' → ds.length = es.len
  | .nil, _, _, _, _, h => by rw [evs] at h; cases h; rfl
  | .cons e es, ρ, M, M', ds, h => by
    rw [evs] at h
    cases e1 : ev Φ e ρ M with
    | bad => rw [e1] at h; cases h
    | err x M1 => rw [e1] at h; cases h
    | ok d M1 =>
      rw [e1] at h
      simp only [Res.bind_ok] at h
      cases e2 : evs Φ es ρ M1 with
      | bad => rw [e2] at h; cases h
      | err x M2 => rw [e2] at h; cases h
      | ok ds2 M2 =>
        rw [e2] at h
        cases h
        exact congrArg (· + 1) (evs_len es e2)
theorem chkEs_len {sc : Scope} : ∀ {es : Es} {xs : List Expr}, chkEs T N es sc xs = true → es.len = xs.length
  | .nil, xs, h => by
    rw [chkEs] at h
    rw [List.isEmpty_iff.mp h]
    rfl
  | .cons e es, [], h => by rw [chkEs] at h; cases h
  | .cons e es, x :: xs, h => by
    rw [chkEs, Bool.and_eq_true] at h
    exact congrArg (· + 1) (chkEs_len h.2)
theorem chkEs_star {sc : Scope} : ∀ {es : Es} {xs : List Expr}, chkEs T N es sc xs = true → (starEach xs X.env).any (·.1) = false
  | .nil, xs, h => by
    rw [chkEs] at h
    rw [List.isEmpty_iff.mp h]
    rfl
  | .cons e es, [], h => by rw [chkEs] at h; cases h
  | .cons e es, x :: xs, h => by
    rw [chkEs, Bool.and_eq_true] at h
    rw [star_of (chkE_star h.1).1, List.any_cons, chkEs_star h.2]
    rfl
theorem backTo_any {pos : Pos} {l : List (Bool × Sem Value)} (h : l.any (·.1) = false) : (backTo pos l).any (·.1) = false := by
  unfold backTo
  rw [List.any_map]
  exact h
/-- a plain expression: its test is its truth -/
theorem Snd.plain {e : Expr} {c : E} (h : PE X e (tE X.K L W Φ c)) (hb : isBool e = false) (he : ∀ whole, isTrue e X.env whole = (do let v ← whole; standAt e.pos; holding [v] (truthy v))) : Snd X L W Φ e c := plainTest h hb fun _ => s_truth h he
theorem foldSet {e : Expr} (h : notSet e = true) (v : Value) : foldedSetIterable e X.env v = pure v := by
  cases e <;> first | rfl | (simp [notSet] at h)
theorem chkI_set {sc : Scope} {k : Bool} {it : PC.It} {tg e : Expr} (h : chkI T N it sc k tg e = true) : notSet e = true := by
  cases e <;> first
    | rfl
    | (cases it <;> simp [chkI] at h <;> first | exact (chkE_star h).2.2 | skip)
mutual
theorem sE : ∀ (c : E) {X : Cx} {W : WX} {e : Expr}, Good T lv Φ N L X W → chkE T N c X.env.scope e = true → Snd X L W Φ e c
  | .var i, X, W, e, g, h => by
    cases e <;> simp [chkE] at h
    obtain ⟨⟨h1, h2⟩, h3⟩ := h
    have hn := g.isName h1 h2 h3
    exact .plain (s_var hn.hN hn.hv hn.hd hn.hc) rfl fun _ => rfl
  | .non, X, W, e, g, h => by
    unfold chkE at h
    split at h
    · exact .plain (s_const pe_non (fun _ _ => by rw [ev]) fun _ _ _ => .non) rfl fun _ => rfl
    · cases h
  | .bl b, X, W, e, g, h => by
    unfold chkE at h
    split at h
    · cases of_decide_eq_true h
      exact .plain (s_const pe_bl (fun _ _ => by rw [ev]) fun _ _ _ => .bl _) rfl fun _ => rfl
    · cases h
  | .int i, X, W, e, g, h => by
    unfold chkE at h
    split at h
    · cases of_decide_eq_true h
      exact .plain (s_const pe_int (fun _ _ => by rw [ev]) fun _ _ _ => .int _) rfl fun _ => rfl
    · cases h
  | .str x, X, W, e, g, h => by
    unfold chkE at h
    split at h
    · cases of_decide_eq_true h
      exact .plain (s_const pe_str (fun _ _ => by rw [ev]) fun _ _ _ => .str _) rfl fun _ => rfl
    · cases h
  | .glob x d, X, W, e, g, h => by
    cases e <;> simp [chkE] at h
    obtain ⟨⟨⟨h1, h2⟩, h3⟩, h4⟩ := h
    subst h1
    unfold Tbl.g at h3
    split at h3
    · rename_i d' e'
      have := D.same_eq _ _ h3
      subst this
      obtain ⟨v, u, q1, q2, q3⟩ := g.gl _ _ e'
      exact .plain (s_const (pe_glob (kG_gl h2) q1 q2 (okName_d h4).1) (fun _ _ => by rw [ev]) q3) rfl fun _ => rfl
    · cases h3
  | .bin o a b, X, W, e, g, h => by
    cases e <;> simp [chkE] at h
    obtain ⟨⟨h1, h2⟩, h3⟩ := h
    subst h1
    exact .plain (s_bin o (sE a g h2).pe (sE b g h3).pe) rfl fun _ => rfl
  | .neg a, X, W, e, g, h => by
    cases e <;> simp [chkE] at h
    rename_i op x p
    cases op <;> simp at h
    exact .plain (s_neg (sE a g h).pe) rfl fun _ => rfl
  | .not a, X, W, e, g, h => by
    cases e <;> simp [chkE] at h
    rename_i op x p
    cases op <;> simp at h
    exact plainTest (s_not (sE a g h.2).pe) rfl fun _ => s_notT ((sE a g h.2).pt h.1)
  | .cmp o a b, X, W, e, g, h => by
    unfold chkE at h
    split at h
    · simp at h
      obtain ⟨⟨⟨h1, h2⟩, h3⟩, h4⟩ := h
      subst h1
      exact plainTest (s_cmp g.hu o (sE a g h3).pe (sE b g h4).pe h2) rfl fun _ => s_cmpT g.hu o (sE a g h3).pe (sE b g h4).pe h2
    · cases h
  | .chain o o2 a b c, X, W, e, g, h => by
    unfold chkE at h
    split at h
    · simp at h
      obtain ⟨⟨⟨⟨⟨h1, h2⟩, h3⟩, h4⟩, h5⟩, h6⟩ := h
      subst h1 h2
      exact plainTest (s_chain g.hu o o2 (sE a g h4).pe (sE b g h5).pe (sE c g h6).pe h3) rfl fun _ => s_chainT g.hu o o2 (sE a g h4).pe (sE b g h5).pe (sE c g h6).pe h3
    · cases h
  | .isN a, X, W, e, g, h => by
    unfold chkE at h
    split at h
    · exact plainTest (s_isN (sE a g h).pe) rfl fun _ => s_isNT (sE a g h).pe
    · cases h
  | .notN a, X, W, e, g, h => by
    unfold chkE at h
    split at h
    · exact plainTest (s_notN (sE a g h).pe) rfl fun _ => s_notNT (sE a g h).pe
    · cases h
  | .isB a b, X, W, e, g, h => by
    unfold chkE at h
    split at h
    · simp at h
      obtain ⟨h1, h2⟩ := h
      subst h1
      exact plainTest (s_isB (sE a g h2).pe) rfl fun _ => s_isBT (sE a g h2).pe
    · cases h
  | .notB a b, X, W, e, g, h => by
    unfold chkE at h
    split at h
    · simp at h
      obtain ⟨h1, h2⟩ := h
      subst h1
      exact plainTest (s_notB (sE a g h2).pe) rfl fun _ => s_notBT (sE a g h2).pe
    · cases h
  | .and a b, X, W, e, g, h => by
    unfold chkE at h
    split at h
    · simp at h
      obtain ⟨⟨⟨h1, h2⟩, h3⟩, h4⟩ := h
      have pa := sE a g h3
      have pb := sE b g h4
      exact ⟨s_and pa.pe (pe_one pb.pe), fun _ => (s_andT (pa.pt h1) (pw_and1 (pb.pt h2))).pt, fun _ => s_andT (pa.pt h1) (pw_and1 (pb.pt h2))⟩
    · simp at h
      obtain ⟨⟨h1, h3⟩, h4⟩ := h
      have pa := sE a g h3
      have pb := sE b g h4
      exact ⟨s_and pa.pe pb.pe, fun _ => (s_andT (pa.pt h1) (pb.pw rfl)).pt, fun _ => s_andT (pa.pt h1) (pb.pw rfl)⟩
    · cases h
  | .or a b, X, W, e, g, h => by
    unfold chkE at h
    split at h
    · simp at h
      obtain ⟨⟨⟨h1, h2⟩, h3⟩, h4⟩ := h
      have pa := sE a g h3
      have pb := sE b g h4
      exact ⟨s_or pa.pe (pe_one pb.pe), fun _ => (s_orT (pa.pt h1) (pw_or1 (pb.pt h2))).pt, fun _ => s_orT (pa.pt h1) (pw_or1 (pb.pt h2))⟩
    · simp at h
      obtain ⟨⟨h1, h3⟩, h4⟩ := h
      have pa := sE a g h3
      have pb := sE b g h4
      exact ⟨s_or pa.pe pb.pe, fun _ => (s_orT (pa.pt h1) (pb.pw rfl)).pt, fun _ => s_orT (pa.pt h1) (pb.pw rfl)⟩
    · cases h
  | .ite c a b, X, W, e, g, h => by
    cases e <;> simp [chkE] at h
    obtain ⟨⟨⟨h1, h2⟩, h3⟩, h4⟩ := h
    exact plainTest (s_ite ((sE c g h2).pt h1) (sE a g h3).pe (sE b g h4).pe) rfl fun z => by cases z
  | .tup es, X, W, e, g, h => by
    cases e <;> simp [chkE] at h
    exact .plain (s_tup (sEs es g h)) rfl fun _ => rfl
  | .lst es, X, W, e, g, h => by
    cases e <;> simp [chkE] at h
    exact .plain (s_lst (sEs es g h)) rfl fun _ => rfl
  | .newL es, X, W, e, g, h => by
    cases e <;> simp [chkE] at h
    exact .plain (s_newL (sEs es g h)) rfl fun _ => rfl
  | .sub a i, X, W, e, g, h => by
    cases e <;> simp [chkE] at h
    obtain ⟨⟨h1, h2⟩, h3⟩ := h
    exact .plain (s_sub (sE a g h2).pe (sE i g h3).pe fun l hh p z => by rw [z] at h1; cases h1) rfl fun _ => rfl
  | .slice a lo hi, X, W, e, g, h => by
    unfold chkE at h
    split at h
    · simp at h
      obtain ⟨⟨h1, h2⟩, h3⟩ := h
      exact .plain (s_slice (sE a g h1).pe (sP lo g h2) (sP hi g h3)) rfl fun _ => rfl
    · cases h
  | .sliceRev a, X, W, e, g, h => by
    unfold chkE at h
    split at h
    · exact .plain (s_sliceRev (sE a g h).pe) rfl fun _ => rfl
    · cases h
  | .lenO i, X, W, e, g, h => by
    unfold chkE at h
    split at h
    · simp at h
      obtain ⟨⟨⟨⟨h1, h2⟩, h3⟩, h4⟩, h5⟩ := h
      subst h1
      exact .plain (s_lenO (g.isName h3 h4 h5) (kG_gl h2) (g.mb (by decide +kernel))) rfl fun _ => rfl
    · cases h
  | .subO i k, X, W, e, g, h => by
    unfold chkE at h
    split at h
    · simp at h
      obtain ⟨⟨⟨⟨h1, h2⟩, h3⟩, h4⟩, h5⟩ := h
      exact .plain (s_subO (g.isName h1 h2 h3) (sE k g h5).pe fun l hh p z => by rw [z] at h4; cases h4) rfl fun _ => rfl
    · cases h
  | .call f es, X, W, e, g, h => by
    unfold chkE at h
    split at h
    · rename_i n p args' pos
      split at h
      · rename_i fd hf
        simp at h
        obtain ⟨⟨⟨⟨h1, h2⟩, h3⟩, h4⟩, h5⟩ := h
        subst h1
        obtain ⟨ad, fdat, F⟩ := g.tab f fd hf
        have pa := sEs es g h5
        have hl := chkEs_len h5
        cases args' with
        | nil =>
          have e0 : es = .nil := by
            cases es with
            | nil => rfl
            | cons _ _ => cases hl
          subst e0
          exact .plain (s_call0 F g.room (kG_gl h2) g.tk h4 (okName_d h3).1) rfl fun _ => rfl
        | cons x xs =>
          refine .plain (s_call F g.room (kG_gl h2) g.tk h4 (okName_d h3).1 pa (fun ρ M ds M' q => (evs_len es q).trans hl) ?_ ?_) rfl fun _ => rfl
          · cases es with
            | nil => cases hl
            | cons e1 es =>
              rw [chkEs, Bool.and_eq_true] at h5
              exact star_of (chkE_star h5.1).1
          · cases es with
            | nil => cases hl
            | cons e1 es =>
              rw [chkEs, Bool.and_eq_true] at h5
              exact backTo_any (chkEs_star h5.2)
      · cases h
    · cases h
  | .bi b a, X, W, e, g, h => by
    unfold chkE at h
    split at h
    · simp at h
      obtain ⟨⟨h1, h2⟩, h4⟩ := h
      subst h1
      have pa := (sE a g h4).pe
      have hs := star_of (X := X) (xs := []) (chkE_star h4).1
      rename_i p x pos
      have hp : ∀ {tt : TA}, PA X [x] tt → PE X (.Call (.Name (biName b) p) [x] [] pos) (tCB (rBi X.K b) tt) := fun {tt} ha => by
        cases b with
        | len => exact pe_callB c_len (kG_gl h2) (g.mb (by decide +kernel)) boot_len ha (by decide) (by decide) hs rfl
        | int => exact pe_callTy c_int (kG_gl h2) (g.mb (by decide +kernel)) (by decide +kernel) ha (by decide) (by decide) hs rfl
        | abs => exact pe_callB c_abs (kG_gl h2) (g.mb (by decide +kernel)) (by decide +kernel) ha (by decide) (by decide) hs rfl
        | tuple => exact pe_callTy c_tuple (kG_gl h2) (g.mb (by decide +kernel)) (by decide +kernel) ha (by decide) (by decide) hs rfl
        | list => exact pe_callTy c_list (kG_gl h2) (g.mb (by decide +kernel)) (by decide +kernel) ha (by decide) (by decide) hs rfl
        | sum => exact pe_callB (c_sum g.calm) (kG_gl h2) (g.mb (by decide +kernel)) (by decide +kernel) ha (by decide) (by decide) hs rfl
        | all => exact pe_callB (c_all g.calm) (kG_gl h2) (g.mb (by decide +kernel)) (by decide +kernel) ha (by decide) (by decide) hs rfl
        | any => exact pe_callB (c_any g.calm) (kG_gl h2) (g.mb (by decide +kernel)) (by decide +kernel) ha (by decide) (by decide) hs rfl
        | sorted => exact pe_callB c_sorted (kG_gl h2) (g.mb (by decide +kernel)) (by decide +kernel) ha (by decide) (by decide) hs rfl
      exact .plain (s_bi hp (pa_cons pa pa_nil hs)) rfl fun _ => rfl
    · cases h
  | .isi a ts, X, W, e, g, h => by
    unfold chkE at h
    split at h
    · split at h
      · simp at h
        obtain ⟨⟨⟨⟨h1, h2⟩, h3⟩, h4⟩, h5⟩ := h
        subst h1 h3
        rename_i t
        exact .plain (s_isi (kG_gl h2) (g.mb (by decide +kernel)) (kG_gl h4) (g.mb (Ty.blt t)) (sE a g h5).pe (star_of (chkE_star h5).1)) rfl fun _ => rfl
      · cases h
    · simp at h
      obtain ⟨⟨⟨⟨⟨h1, h2⟩, h3⟩, h4⟩, h5⟩, h6⟩ := h
      subst h1
      exact .plain (s_isiT (kG_gl h2) (g.mb (by decide +kernel)) (tyNames_of g h3) h4 (by simpa using h5) (sE a g h6).pe (star_of (chkE_star h6).1)) rfl fun _ => rfl
    · cases h
  | .comp it t ifs elt, X, W, e, g, h => by
    unfold chkE at h
    split at h
    · rename_i el tg iter ife scope pos
      simp only [Bool.and_eq_true, decide_eq_true_eq] at h
      obtain ⟨⟨⟨⟨⟨⟨⟨h1, h2⟩, h3⟩, h4⟩, h5⟩, h6⟩, h7⟩, h8⟩ := h
      have ok := blkOk_by h2
      have gb : ∀ (s : Shared) (H : Hp) (C : Addr) (cl : List (Str × Addr)) (fp : List Addr), Good T lv Φ N L (X.blk s H scope (compEnvC scope cl C X.env) fp) W0 := fun s H C cl fp => g.blk ok.kind
      have ok' : BlkOk X.N X.env.scope scope (tgOwn t tg) := by rw [g.hN]; exact ok
      have fs := foldSet (X := X) (chkI_set h1)
      refine .plain ?_ rfl fun _ => rfl
      have hgb : ∀ (s : Shared) (H : Hp) (C : Addr) (cl : List (Str × Addr)) (fp : List Addr), PG (X.blk s H scope (compEnvC scope cl C X.env) fp) tg (gT X.K t) := fun s H C cl fp =>
        TgOk.pg (X := X.blk s H scope (compEnvC scope cl C X.env) fp) g.calm (by show X.N.Nodup; rw [g.hN]; exact g.nd) (tgOk_of (X := X.blk s H scope (compEnvC scope cl C X.env) fp) g.hN blk_loc h4)
      have htb : ∀ (s : Shared) (H : Hp) (C : Addr) (cl : List (Str × Addr)) (fp : List Addr), PTs (X.blk s H scope (compEnvC scope cl C X.env) fp) ife (tTs X.K L W0 Φ ifs) := fun s H C cl fp => sTs ifs (gb s H C cl fp) h7 h6
      have heb : ∀ (s : Shared) (H : Hp) (C : Addr) (cl : List (Str × Addr)) (fp : List Addr), PE (X.blk s H scope (compEnvC scope cl C X.env) fp) el (tE X.K L W0 Φ elt) := fun s H C cl fp => (sE elt (gb s H C cl fp) h8).pe
      refine (pe_lc g.calm (by rw [g.hN]; exact g.nd) (sIC it g h1) ok' hgb htb heb fs).imp fun σ H Q ⟨fr, B, μ, oa, ρ, M, rel, h⟩ => ?_
      rw [h3]
      exact lc_read rel h fun H' μ' xs M' a vs r' e' h' _ hH hb rs _ _ => h' _ (.lst ⟨hH, hb⟩ rs)
    · cases h
  | .borrow i a, X, W, e, g, h => by
    unfold chkE at h
    rw [Bool.and_eq_true] at h
    have q := sE a g h.2
    refine plainTest (e_borrow q.pe) ?_ fun z => t_borrow (q.pt z)
    have h1 := h.1
    cases e <;> first | rfl | (simp at h1)
theorem sEs : ∀ (es : Es) {X : Cx} {W : WX} {xs : List Expr}, Good T lv Φ N L X W → chkEs T N es X.env.scope xs = true → PA X xs (tEs X.K L W Φ es)
  | .nil, X, W, xs, g, h => by
    rw [chkEs] at h
    rw [List.isEmpty_iff.mp h]
    exact s_nil
  | .cons e es, X, W, [], g, h => by rw [chkEs] at h; cases h
  | .cons e es, X, W, x :: xs, g, h => by
    rw [chkEs, Bool.and_eq_true] at h
    exact s_cons (sE e g h.1).pe (sEs es g h.2) (star_of (chkE_star h.1).1)
theorem sTs : ∀ (es : Es) {X : Cx} {W : WX} {xs : List Expr}, Good T lv Φ N L X W → chkEs T N es X.env.scope xs = true → xs.all testable = true → PTs X xs (tTs X.K L W Φ es)
  | .nil, X, W, xs, g, h, _ => by
    rw [chkEs] at h
    rw [List.isEmpty_iff.mp h]
    exact ts_nil
  | .cons e .nil, X, W, [], g, h, _ => by rw [chkEs] at h; cases h
  | .cons e .nil, X, W, x :: xs, g, h, ht => by
    rw [chkEs, Bool.and_eq_true, chkEs] at h
    have e0 := List.isEmpty_iff.mp h.2
    subst e0
    rw [List.all_cons, Bool.and_eq_true] at ht
    exact ts_one ((sE e g h.1).pt ht.1)
  | .cons e (.cons e2 es), X, W, xs, g, h, _ => ⟨fun pins s σ H Q I ⟨fr, B, μ, oa, ρ, M, rel, hq⟩ => by
    rw [tst] at hq
    exact hq.elim⟩
theorem sP : ∀ (o : Pt) {X : Cx} {W : WX} {x : Option Expr}, Good T lv Φ N L X W → chkP T N o X.env.scope x = true → PO X x (tP X.K L W Φ o)
  | .none, X, W, x, g, h => by
    unfold chkP at h
    cases x with
    | none => exact s_pnone
    | some _ => cases h
  | .some e, X, W, x, g, h => by
    unfold chkP at h
    cases x with
    | none => cases h
    | some x => exact s_psome (sE e g h).pe
theorem sIC : ∀ (it : PC.It) {X : Cx} {W : WX} {tg e : Expr}, Good T lv Φ N L X W → chkI T N it X.env.scope true tg e = true → PI X tg e (tIC X.K L W Φ it)
  | .own i, X, W, tg, e, g, h => by
    unfold chkI at h
    rw [Bool.true_and] at h
    cases e <;> simp at h
    obtain ⟨⟨h1, h2⟩, h3⟩ := h
    exact i_own (g.isName h1 h2 h3)
  | .seq a, X, W, tg, e, g, h => tIF_C (sIF (.seq a) g (by unfold chkI at h ⊢; exact h))
  | .range1 a, X, W, tg, e, g, h => tIF_C (sIF (.range1 a) g (by unfold chkI at h ⊢; exact h))
  | .range2 a b, X, W, tg, e, g, h => tIF_C (sIF (.range2 a b) g (by unfold chkI at h ⊢; exact h))
  | .zip a b, X, W, tg, e, g, h => tIF_C (sIF (.zip a b) g (by unfold chkI at h ⊢; exact h))
theorem sIF : ∀ (it : PC.It) {X : Cx} {W : WX} {tg e : Expr}, Good T lv Φ N L X W → chkI T N it X.env.scope false tg e = true → PI X tg e (tIF X.K L W Φ it)
  | .own i, X, W, tg, e, g, h => by
    unfold chkI at h
    cases h
  | .seq a, X, W, tg, e, g, h => by
    rw [chkI] at h
    exact i_seq (sE a g h).pe
  | .range1 a, X, W, tg, e, g, h => by
    unfold chkI at h
    split at h
    · simp at h
      obtain ⟨⟨h1, h2⟩, h3⟩ := h
      subst h1
      exact i_range1 (kG_gl h2) (g.mb (by decide +kernel)) (sE a g h3).pe (star_of (chkE_star h3).1)
    · cases h
  | .range2 a b, X, W, tg, e, g, h => by
    unfold chkI at h
    split at h
    · simp at h
      obtain ⟨⟨⟨h1, h2⟩, h3⟩, h4⟩ := h
      subst h1
      exact i_range2 (kG_gl h2) (g.mb (by decide +kernel)) (sE a g h3).pe (sE b g h4).pe (by rw [star_of (chkE_star h3).1, star_of (chkE_star h4).1]; rfl) (star_of (chkE_star h4).1)
    · cases h
  | .zip a b, X, W, tg, e, g, h => by
    unfold chkI at h
    split at h
    · simp at h
      obtain ⟨⟨⟨h1, h2⟩, h3⟩, h4⟩ := h
      subst h1
      have s2 := star_of (X := X) (xs := []) (chkE_star h4).1
      exact i_zip (kG_gl h2) (g.mb (by decide +kernel)) (sE a g h3).pe (sE b g h4).pe (star_of (chkE_star h3).1) s2 (backTo_any (by rw [s2]; rfl))
    · cases h
end
end
end PC

set_option maxHeartbeats 4000000
namespace PC
open PySem PySem.Spec PyProof.Rows L2
section
variable {T : Tbl} {lv : Nat} {Φ : Fns} {N : List Str} {L : Lg} {X : Cx} {W : WX}
/-- a def's body -/
structure GoodB (T : Tbl) (lv : Nat) (Φ : Fns) (N : List Str) (L : Lg) (X : Cx) (W : WX) : Prop extends Good T lv Φ N L X W where
  po : PassesOwn (model X.prog X.w) X.A X.env X.xe
  fn : ∀ n, X.fn n = true
  sk : X.stack = X.env :: X.outer
  fr : X.env.frame = some X.env.locals
theorem GoodB.tr (g : GoodB T lv Φ N L X W) {W' : WX} {pn : List (Addr × Obj)} {xe : Value → Shared → Prop} (tk : Takes (X.tr pn xe) W') (po : PassesOwn (model X.prog X.w) X.A X.env xe) : GoodB T lv Φ N L (X.tr pn xe) W' where
  hN := g.hN
  nd := g.nd
  calm := g.calm
  room := g.room
  tk := tk
  kind := g.kind
  tab := fun f fd h => by
    obtain ⟨ad, fdat, q⟩ := g.tab f fd h
    exact ⟨ad, fdat, q.mg, q.kp, q.bd, q.ok⟩
  blt := g.blt
  gl := g.gl
  lg := g.lg
  xc := g.xc
  hl := g.hl
  po := po
  fn := g.fn
  sk := g.sk
  fr := g.fr
theorem chkHE_x (hN : X.N = N) : ∀ {e : HE} {i : Option Nat} {x : Expr}, chkHE N X.env.scope i e x = true → HEx X i e x
  | .con d, i, x, h => by
    unfold chkHE at h
    split at h
    · exact .non
    · cases of_decide_eq_true h; exact .bl
    · cases of_decide_eq_true h; exact .int
    · cases of_decide_eq_true h; exact .str
    · cases h
  | .fld f, i, x, h => by
    unfold chkHE at h
    split at h
    · simp only [Bool.and_eq_true, decide_eq_true_eq] at h
      obtain ⟨⟨⟨rfl, h2⟩, h3⟩, h4⟩ := h
      exact .fld rfl ⟨by rw [hN]; exact h2, kV_vis h3, (okName_d h4).1, (okName_d h4).2⟩
    · cases h
  | .pair a b, i, x, h => by
    unfold chkHE at h
    split at h
    · simp only [Bool.and_eq_true] at h
      obtain ⟨⟨⟨h1, h2⟩, h3⟩, h4⟩ := h
      exact .pair (chkHE_x hN h1) (chkHE_x hN h2) h3 h4
    · cases h
theorem chkNm_ok (hN : X.N = N) {n : Option Str} {k : Option Nat} (h : chkNm N X.env.scope n k = true) : NmOk X n k := by
  unfold chkNm at h
  split at h
  · exact True.intro
  · rename_i n k
    rw [Bool.and_eq_true, decide_eq_true_eq] at h
    refine ⟨by rw [hN]; exact h.1, ?_⟩
    have h2 := h.2
    unfold kLoc at h2
    unfold Env.kindOf
    split at h2
    · assumption
    · cases h2
  · cases h
theorem chkHC_x (g : GoodB T lv Φ N L X W) : ∀ {c : HC} {i : Option Nat} {x : Expr}, chkHC T N X.env.scope i c x = true → HCx X T.X i c x
  | .isi cs, i, x, h => by
    unfold chkHC at h
    split at h
    · simp only [Bool.and_eq_true, Bool.or_eq_true, decide_eq_true_eq] at h
      obtain ⟨⟨⟨⟨⟨⟨⟨rfl, h2⟩, h3⟩, h4⟩, h5⟩, rfl⟩, h7⟩, h8⟩ := h
      have hn := g.toGood.isName h3 h4 h5
      rcases h8 with rfl | ⟨h8, h9⟩
      · exact .val rfl hn (kG_gl h2) (g.toGood.mb (by decide +kernel)) (kG_gl h7) (g.toGood.mb (by decide +kernel))
      · rw [List.any_eq_true] at h9
        obtain ⟨c, h9, h10⟩ := h9
        cases of_decide_eq_true h10
        exact .one rfl hn (kG_gl h2) (g.toGood.mb (by decide +kernel)) h9 (kG_gl h7) (okName_d h8).1
    · simp only [Bool.and_eq_true, decide_eq_true_eq, List.any_eq_true] at h
      obtain ⟨⟨⟨⟨⟨⟨⟨⟨⟨⟨⟨⟨rfl, h2⟩, h3⟩, h4⟩, h5⟩, rfl⟩, h7⟩, h8⟩, c, hc, rfl⟩, rfl⟩, h11⟩, h12⟩, d, hd, rfl⟩ := h
      exact .two rfl (g.toGood.isName h3 h4 h5) (kG_gl h2) (g.toGood.mb (by decide +kernel)) hc (kG_gl h7) (okName_d h8).1 hd (kG_gl h11) (okName_d h12).1
    · cases h
  | .not c, i, x, h => by
    unfold chkHC at h
    split at h
    · exact .not (chkHC_x g h)
    · cases h
  | .and a b, i, x, h => by
    unfold chkHC at h
    split at h
    · rw [Bool.and_eq_true] at h
      exact .and2 (chkHC_x g h.1) (chkHC_x g h.2)
    · rw [Bool.and_eq_true] at h
      exact .and3 (chkHC_x g h.1) (chkHC_x g h.2)
    · cases h
theorem chkSu_x (g : GoodB T lv Φ N L X W) {c : Option HC} {e : HE} {i : Option Nat} {st : Stmt} (h : chkSu T N X.env.scope i c e st = true) : SuX X T.X i c e st := by
  unfold chkSu at h
  split at h
  · split at h
    · exact .ret (chkHE_x g.hN h)
    · cases h
  · split at h
    · rw [Bool.and_eq_true] at h
      exact .iff (chkHC_x g h.1) (chkHE_x g.hN h.2)
    · cases h
theorem chkHs_x (g : GoodB T lv Φ N L X W) : ∀ {hs : List Hdl} {es : List ExceptHandler}, chkHs T N X.env.scope hs es = true → HdlsX X T.X hs es
  | [], [], _ => .nil
  | [], _ :: _, h => by simp [chkHs] at h
  | h0 :: hs, [], h => by simp [chkHs] at h
  | h0 :: hs, e0 :: es, h => by
    unfold chkHs at h
    split at h
    · rename_i e; cases e
    · rename_i e1 e2
      cases e1; cases e2
      simp only [Bool.and_eq_true, decide_eq_true_eq, List.any_eq_true] at h
      obtain ⟨⟨⟨⟨⟨⟨rfl, h2⟩, h3⟩, c, h4, h5⟩, h6⟩, h7⟩, h8⟩ := h
      exact .cons h4 h5 (kG_gl h2) (okName_d h3).1 (chkNm_ok g.hN h6) (chkSu_x g h7) (chkHs_x g h8)
    · cases h
theorem swaps_not {e : Expr} {t : Option Expr} {l : Nat} (h : notComp e = true) : swapsWith e t l X.env = pure false := by
  cases e <;> first | rfl | (simp [notComp] at h)
theorem swapsSole_not {e t : Expr} {l : Nat} (h : notComp e = true) : swapsWithSole [t] e l X.env = pure false := swaps_not h
theorem stores_not {e t : Expr} (h : notTuple e = true) : swappedStores [t] e X.env = pure none := by
  cases e <;> first | (cases t <;> rfl) | (simp [notTuple] at h)
theorem stores_sub {e o i : Expr} {p : Pos} : swappedStores [.Subscript o i p] e X.env = pure none := by
  cases e <;> rfl
theorem pure_inj_false {b : Bool} (h : b = false) : (pure b : Sem Bool) = pure false := by rw [h]
theorem swaps_lc {elt : Expr} {gs : List Comprehension} {scope : Scope} {cp q : Pos} {n : Str} {l : Nat} (hk : X.env.scope.kind = .function) : swapsWith (.ListComp elt gs scope cp) (some (.Name n q)) l X.env = pure (lcSame X.env.scope n q (.ListComp elt gs scope cp)) := by
  have hb : X.env.blockKind = .function := by unfold Env.blockKind; rw [hk]; rfl
  unfold swapsWith
  have e1 : (X.env.kindOf n == some NameKind.local) = kLoc X.env.scope n := by
    unfold kLoc Env.kindOf
    cases X.env.scope.names.lookup n with
    | none => rfl
    | some k => cases k <;> rfl
  simp only [hb, e1, Expr.pos]
  rfl
theorem GoodB.loc (g : GoodB T lv Φ N L X W) (n : Str) (h : kL X.env.scope n = true) : Loc X.env.scope n ∧ (X.fn n = true ∨ X.env.scope.names.lookup n = some .local) := ⟨kL_loc h, .inl (g.fn n)⟩
theorem GoodB.tgn (g : GoodB T lv Φ N L X W) {i : Nat} {n : Str} (h1 : N[i]? = some n) (h2 : kL X.env.scope n = true) : TgName X i n := ⟨by rw [g.hN]; exact h1, kL_loc h2, .inl (g.fn n)⟩
theorem GoodB.nd' (g : GoodB T lv Φ N L X W) : X.N.Nodup := by rw [g.hN]; exact g.nd
/-- name = [..] -/
theorem lc_store (g : GoodB T lv Φ N L X W) {it : PC.It} {t : Tg} {ifs : Es} {elt : E} {x : Expr} {i : Nat} {n : Str} {q pos : Pos} (h1 : N[i]? = some n) (h2 : kL X.env.scope n = true) (h : chkE T N (.comp it t ifs elt) X.env.scope x = true) :
    PS X (.Assign [.Name n q] x pos) (tAsg (tLc (tIC X.K L W Φ it) (gT X.K t) (tTs X.K L W0 Φ ifs) (tE X.K L W0 Φ elt) t.slots) (gName i)) := by
  unfold chkE at h
  split at h
  · rename_i el tg iter ife scope cp
    simp only [Bool.and_eq_true, decide_eq_true_eq] at h
    obtain ⟨⟨⟨⟨⟨⟨⟨c1, c2⟩, c3⟩, c4⟩, c5⟩, c6⟩, c7⟩, c8⟩ := h
    have ok := blkOk_by c2
    have gb : ∀ (s : Shared) (H : Hp) (C : Addr) (cl : List (Str × Addr)) (fp : List Addr), Good T lv Φ N L (X.blk s H scope (compEnvC scope cl C X.env) fp) W0 := fun s H C cl fp => g.toGood.blk ok.kind
    have ok' : BlkOk X.N X.env.scope scope (tgOwn t tg) := by rw [g.hN]; exact ok
    have fs := foldSet (X := X) (chkI_set c1)
    have hgb : ∀ (s : Shared) (H : Hp) (C : Addr) (cl : List (Str × Addr)) (fp : List Addr), PG (X.blk s H scope (compEnvC scope cl C X.env) fp) tg (gT X.K t) := fun s H C cl fp =>
      TgOk.pg (X := X.blk s H scope (compEnvC scope cl C X.env) fp) g.calm (by show X.N.Nodup; rw [g.hN]; exact g.nd) (tgOk_of (X := X.blk s H scope (compEnvC scope cl C X.env) fp) g.hN blk_loc c4)
    have htb : ∀ (s : Shared) (H : Hp) (C : Addr) (cl : List (Str × Addr)) (fp : List Addr), PTs (X.blk s H scope (compEnvC scope cl C X.env) fp) ife (tTs X.K L W0 Φ ifs) := fun s H C cl fp => sTs ifs (gb s H C cl fp) c7 c6
    have heb : ∀ (s : Shared) (H : Hp) (C : Addr) (cl : List (Str × Addr)) (fp : List Addr), PE (X.blk s H scope (compEnvC scope cl C X.env) fp) el (tE X.K L W0 Φ elt) := fun s H C cl fp => (sE elt (gb s H C cl fp) c8).pe
    rw [← c3]
    have hw := swaps_lc (X := X) (elt := el) (gs := [⟨tg, iter, ife, 0⟩]) (scope := scope) (cp := cp) (q := q) (n := n) (l := pos.line) g.kind
    have hn := g.tgn h1 h2
    cases e : lcSame X.env.scope n q (.ListComp el [⟨tg, iter, ife, 0⟩] scope cp) with
    | true =>
      rw [e] at hw
      have hloc : X.env.scope.names.lookup n = some .local := by
        unfold lcSame at e
        rw [Bool.and_eq_true, Bool.and_eq_true] at e
        have q := e.1.1
        unfold kLoc at q
        split at q
        · assumption
        · cases q
      exact ps_setLc g.calm g.nd' hn.hN hloc hw (sIC it g.toGood c1) ok' hgb htb heb fs
    | false =>
      rw [e] at hw
      exact ps_set g.nd' hn.hN hn.hl (pe_lc g.calm g.nd' (sIC it g.toGood c1) ok' hgb htb heb fs) hw hn.hf
  · cases h
theorem few1 {x : Expr} {cp : Pos} (h : starEach [x] X.env = (false, eval x X.env) :: starEach [] X.env) : ((backTo cp (starEach [x] X.env)).all (fun x => !x.1) && (backToKw cp (keywordEach [] X.env)).all (fun x => x.1.isSome) && decide ([x].length + ([] : List Keyword).length + (if ([] : List Keyword).isEmpty then 0 else 1) < 30)) = true := by
  rw [h]
  rfl
theorem assign_sub {o i : Expr} {p : Pos} (h : notSlice i = true) (v : Value) : assign (.Subscript o i p) X.env v = (do
      let ov ← holding [v] (eval o X.env)
      let iv ← holding [v, ov] (eval i X.env)
      standAt p
      holding [v, ov, iv] (setItem ov iv v)
      release [v, ov, iv] []) := by
  cases i <;> first | rfl | (simp [notSlice] at h)
mutual
theorem sS : ∀ (s : S) {X : Cx} {W : WX} {st : Stmt}, GoodB T lv Φ N L X W → chkS T N X.env.scope s st = true → PS X st (tS X.K L W Φ s)
  | .set i e, X, W, st, g, h => by
    unfold chkS at h
    split at h
    · simp only [Bool.and_eq_true, decide_eq_true_eq, Bool.or_eq_true] at h
      obtain ⟨⟨⟨h1, h2⟩, h3⟩, h4⟩ := h
      rcases h3 with h3 | h3
      · exact st_set g.nd' (g.tgn h1 h2) (sE e g.toGood h4).pe (swaps_not h3)
      · cases e <;> first
          | exact st_setLc (lc_store g h1 h2 h4)
          | cases h3
    · cases h
  | .own i e, X, W, st, g, h => by
    unfold chkS at h
    split at h
    · simp only [Bool.and_eq_true, decide_eq_true_eq, Bool.or_eq_true] at h
      obtain ⟨⟨⟨h1, h2⟩, h3⟩, h4⟩ := h
      rcases h3 with (h3 | h3) | h3
      rotate_left
      rotate_left
      · cases e <;> try cases h3
        rename_i o a b
        cases o <;> try cases h3
        unfold chkE at h4
        split at h4
        · rename_i x o' y p
          simp only [Bool.and_eq_true, decide_eq_true_eq] at h4
          obtain ⟨⟨w1, w2⟩, w3⟩ := h4
          subst w1
          exact st_ownRep g.nd' (g.tgn h1 h2) (sE a g.toGood w2).pe (sE b g.toGood w3).pe
        · cases h4
      · cases e <;> first
          | (unfold chkE at h4
             split at h4
             · exact st_ownLst g.nd' (g.tgn h1 h2) (sEs _ g.toGood h4)
             · cases h4)
          | cases h3
      · cases e <;> first
          | exact st_ownLc (lc_store g h1 h2 h4)
          | cases h3
    · cases h
  | .freeze i, X, W, st, g, h => by
    unfold chkS at h
    cases h
  | .unpack is e, X, W, st, g, h => by
    unfold chkS at h
    split at h
    · simp only [Bool.and_eq_true] at h
      obtain ⟨⟨⟨h1, h2⟩, h3⟩, h4⟩ := h
      exact st_unpack g.calm g.nd' (tgNames_of g.hN g.loc h1) (sE e g.toGood h4).pe (swapsSole_not h2) (stores_not h3)
    · cases h
  | .append i e, X, W, st, g, h => by
    unfold chkS at h
    split at h
    · simp only [Bool.and_eq_true, decide_eq_true_eq] at h
      obtain ⟨⟨⟨⟨⟨h1, h2⟩, h3⟩, h4⟩, h5⟩, h6⟩ := h
      subst h1
      have s1 := star_of (X := X) (xs := []) (chkE_star h6).1
      exact st_append (g.toGood.isName h2 h3 h4) (sE e g.toGood h6).pe h5 s1 (few1 s1)
    · cases h
  | .popAt j i k, X, W, st, g, h => by
    unfold chkS at h
    split at h
    · simp only [Bool.and_eq_true, decide_eq_true_eq] at h
      obtain ⟨⟨⟨⟨⟨⟨⟨h1, h2⟩, h3⟩, h4⟩, h5⟩, h6⟩, h7⟩, h8⟩ := h
      subst h1
      have s1 := star_of (X := X) (xs := []) (chkE_star h8).1
      exact st_popAt g.nd' (g.tgn h2 h3) (g.toGood.isName h4 h5 h6) (sE k g.toGood h8).pe h7 s1 (few1 s1)
    · cases h
  | .setO i k e, X, W, st, g, h => by
    unfold chkS at h
    split at h
    · simp only [Bool.and_eq_true, decide_eq_true_eq] at h
      obtain ⟨⟨⟨⟨⟨⟨h1, h2⟩, h3⟩, h4⟩, h5⟩, h6⟩, h7⟩ := h
      exact st_setO (g.toGood.isName h1 h2 h3) (sE e g.toGood h7).pe (sE k g.toGood h6).pe (swapsSole_not h5) stores_sub (fun l hh p z => by rw [z] at h4; cases h4) (assign_sub h4)
    · cases h
  | .setC a k e, X, W, st, g, h => by
    unfold chkS at h
    split at h
    · simp only [Bool.and_eq_true] at h
      obtain ⟨⟨⟨⟨h1, h2⟩, h3⟩, h4⟩, h5⟩ := h
      exact st_setC (sE a g.toGood h3).pe (sE e g.toGood h5).pe (sE k g.toGood h4).pe (swapsSole_not h2) stores_sub (assign_sub h1)
    · cases h
  | .expr e, X, W, st, g, h => by
    unfold chkS at h
    split at h
    · simp only [Bool.and_eq_true] at h
      exact st_expr (sE e g.toGood h.2).pe (swaps_not h.1)
    · cases h
  | .ret e, X, W, st, g, h => by
    unfold chkS at h
    split at h
    · exact st_ret (sE e g.toGood h).pe
    · cases h
  | .ite c a b, X, W, st, g, h => by
    unfold chkS at h
    split at h
    · simp only [Bool.and_eq_true] at h
      obtain ⟨⟨⟨h1, h2⟩, h3⟩, h4⟩ := h
      exact st_ite ((sE c g.toGood h2).pt h1) (sB a g h3) (sB b g h4)
    · cases h
  | .whl m c b, X, W, st, g, h => by
    unfold chkS at h
    split at h
    · simp only [Bool.and_eq_true] at h
      obtain ⟨⟨h1, h2⟩, h3⟩ := h
      exact st_whl g.po ((sE c g.toGood h2).pt h1) (sB b g h3)
    · cases h
  | .for_ it t b, X, W, st, g, h => by
    unfold chkS at h
    split at h
    · simp only [Bool.and_eq_true] at h
      obtain ⟨⟨⟨h1, h2⟩, h3⟩, h4⟩ := h
      exact st_for g.po g.calm g.nd' (sIF it g.toGood h1) (tgOk_of g.hN g.loc h2) (sB b g h4) (foldSet h3)
    · cases h
  | .never, X, W, st, g, h => st_never
  | .raise_ c anc f e, X, W, st, g, h => by
    unfold chkS at h
    split at h
    · rename_i n p x p3 pos
      simp only [Bool.and_eq_true, decide_eq_true_eq] at h
      obtain ⟨⟨⟨⟨rfl, h2⟩, h3⟩, h4⟩, h5⟩ := h
      unfold chkX at h5
      rw [List.any_eq_true] at h5
      obtain ⟨z, hz, h5⟩ := h5
      simp only [Bool.and_eq_true, decide_eq_true_eq] at h5
      obtain ⟨⟨rfl, rfl⟩, h6⟩ := h5
      obtain ⟨C, kc⟩ := g.xc z hz
      cases hi : z.ini with
      | none =>
        rw [hi] at h6
        cases f with
        | some f => cases h6
        | none =>
          cases e <;> try cases h6
          unfold chkE at h4
          split at h4
          · cases of_decide_eq_true h4
            exact st_raise0 g.lg g.calm g.tk hz kc hi (kG_gl h2) (okName_d h3).1
          · cases h4
      | some q =>
        obtain ⟨y, g1, o⟩ := q
        rw [hi] at h6
        cases f with
        | none => cases h6
        | some f =>
          have := of_decide_eq_true h6
          subst this
          exact st_raise1 g.lg g.calm g.tk (g.room.mono g.hl) hz kc hi (kG_gl h2) (okName_d h3).1 (sE e g.toGood h4).pe (star_of (chkE_star h4).1)
    · cases h
  | .try_ b hs, X, W, st, g, h => by
    unfold chkS at h
    split at h
    · rw [Bool.and_eq_true] at h
      exact st_try g.lg g.sk g.fr g.nd' g.tk g.xc (chkHs_x g h.2) fun W' pn xe tk po => sB b (g.tr tk po) h.1
    · cases h
theorem sB : ∀ (b : PC.B) {X : Cx} {W : WX} {ss : List Stmt}, GoodB T lv Φ N L X W → chkB T N X.env.scope b ss = true → PSs X ss (tB X.K L W Φ b)
  | .nil, X, W, ss, g, h => by
    unfold chkB at h
    rw [List.isEmpty_iff.mp h]
    exact b_nil
  | .cons s b, X, W, ss, g, h => by
    unfold chkB at h
    split at h
    · exact b_freeze (sB b g h)
    · split at h
      · rw [Bool.and_eq_true] at h
        exact b_cons (sS s g h.1) (sB b g h.2)
      · cases h
end
end
end PC

namespace PC
open PySem PySem.Spec PyProof.Rows L2
section
variable {P : Program} {w : World} {K : PySem.W.Frag} {mg : Str → Option Value} {base : Heap} {L : Lg} {T : Tbl}
def TabP (P : Program) (w : World) (K : PySem.W.Frag) (mg : Str → Option Value) (base : Heap) (L : Lg) (T : Tbl) (lv : Nat) (Φ : Fns) : Prop :=
  ∀ f fd, T.T f = some fd → ∃ ad fdat, mg fd.name = some (.ref ad) ∧ PySem.W.keepIn K (.ref ad) = true ∧ Binds K fdat fd.ps [] ∧ FnOk P w K mg base (L2.CX P w) lv ad fdat fd.ps (spD K L Φ f fd.ps.length)
/-- a def of the table stands in the text -/
structure Stands (K : PySem.W.Frag) (mg : Str → Option Value) (T : Tbl) (fd : FD) (st : Stmt) (ad : Addr) (fdat : FuncData) : Prop where
  mg : mg fd.name = some (.ref ad)
  fn : Fun K fd.name fd.name st ad fdat
  bd : Binds K fdat fd.ps []
  sc : FnScope fd.N fd.ps (defScope st)
  ck : chkF T fd st = true
structure Mods (P : Program) (K : PySem.W.Frag) (mg : Str → Option Value) (T : Tbl) : Prop where
  blt : ∀ x ∈ bltNames, mg x = none
  gl : ∀ x d, T.G.lookup x = some d → ∃ v u, mg x = some u ∧ RelV v u ∧ ∀ H B μ, Rp K H B μ d v
  defs : ∀ f fd, T.T f = some fd → ∃ st ad fdat, Stands K mg T fd st ad fdat
  xc : ∀ c ∈ T.X, ∃ C, XcOk P K mg T.X c C
theorem start_slot {N : List Str} {H : Hp} {B : Addr → Prop} {μ : List Addr} {ds : List D} {vs : List V} (rs : Rps K H B μ ds vs) (i : Nat) (s : Slot) (h : (startE N ds)[i]? = some s) : SlotR K H B μ none (L2.start N vs)[i]? s := by
  unfold startE at h
  unfold L2.start
  by_cases hi : i < ds.length
  · rw [List.getElem?_append_left (by rw [List.length_map]; exact hi), List.getElem?_map] at h
    cases e : ds[i]? with
    | none => rw [e] at h; cases h
    | some d =>
      rw [e] at h
      cases h
      obtain ⟨v, h1, h2⟩ := rs.get e
      refine ⟨rfl, v, ?_, h2⟩
      rw [List.getElem?_append_left (by rw [List.length_map, ← rs.length]; exact hi), List.getElem?_map, h1]
      rfl
  · rw [List.getElem?_append_right (by rw [List.length_map]; omega)] at h
    have : s = .un := by
      have := List.mem_of_getElem? h
      exact List.eq_of_mem_replicate this
    subst this
    rfl
theorem rel_start {N : List Str} {H : Hp} {B : Addr → Prop} {μ : List Addr} {M : Mem} {ds : List D} {vs : List V} (cs : Cs K H (ban B μ) μ M) (bt : ∀ a, ban B μ a → H a ≠ none) (rs : Rps K H (ban B μ) μ ds vs) : Rl K ⟨H, B, μ⟩ B μ (fun _ => none) (startE N ds) M (L2.start N vs) H where
  cs := cs
  b0 := fun a h => .inl h
  bt := bt
  bo := fun _ _ h => nomatch h
  oi := fun _ _ _ h => nomatch h
  on := fun _ _ h => nomatch h
  sl := start_slot rs
  so := fun _ _ => rfl
  ln := by
    unfold startE L2.start
    rw [List.length_append, List.length_append, List.length_map, List.length_map, List.length_replicate, List.length_replicate, rs.length]
  m0 := ⟨[], by simp, by simp⟩
  ev := fun a o h _ => h
/-- what a body leaves, for its caller -/
theorem rel_end {fr : Fr} {B : Addr → Prop} {μ : List Addr} {oa : Nat → Option Addr} {ρ : Ev} {M : Mem} {σ : L2.St} {H : Hp} (r : Rl K fr B μ oa ρ M σ H) (tr : ∀ a ∈ fr.μ0, fr.H0 a ≠ none) :
    Evo fr.μ0 fr.H0 μ H ∧ Cs K H (ban fr.B0 μ) μ M ∧ (∀ a, ban fr.B0 μ a → H a ≠ none) ∧ ∀ {d : D} {v : V}, Rp K H (ban B μ) μ d v → Rp K H (ban fr.B0 μ) μ d v := by
  have sub : ∀ a, ban fr.B0 μ a → ban B μ a := fun a h => h.elim (r.b0 a) .inr
  have kp : Kp H H (ban B μ) (ban fr.B0 μ) μ μ := ⟨fun a o e n => ⟨e, fun z => n (sub a z)⟩, fun _ _ e => e⟩
  obtain ⟨t, ht, hn⟩ := r.m0
  refine ⟨⟨⟨t, ht, fun a h => (hn a h).1⟩, r.ev⟩, ⟨r.cs.nd, r.cs.len, fun a h => .inr h, fun n c a h1 h2 => ?_⟩, fun a h => r.bt a (sub a h), fun rp => rp.mono kp⟩
  have q := r.cs.at_ n c a h1 h2
  cases c with
  | lst es => obtain ⟨ws, q1, q2⟩ := q; exact ⟨ws, q1, q2.mono kp⟩
  | dict _ => exact q
  | ins _ _ => exact q
theorem def_ok {lv f : Nat} (hlv : 2 ≤ lv) (hL : L = lgx K T.X) {Φ Φ' : Fns} {fd : FD} {st : Stmt} {ad : Addr} {fdat : FuncData} (m : Mods P K mg T) (tab : TabP P w K mg base L T lv Φ) (s : Stands K mg T fd st ad fdat) (hΦ : ∀ ds M, Φ' f ds M = fd.run Φ ds M) :
    FnOk P w K mg base (L2.CX P w) (lv + 1) ad fdat fd.ps (spD K L Φ' f fd.ps.length) := by
  refine s.fn.okX s.sc (fun vs H Q E h => ?_) fun cdv A outer sh H vs Q E hr h => ?_
  · obtain ⟨_, _, _, _, hl, _⟩ := h
    exact hl
  · obtain ⟨B, μ, M, ds, hl, cs, bt, rs, hq⟩ := h
    have g : GoodB T lv Φ fd.N L (cxOf (L2.CX P w) P w K mg base fd.N fd.name (defScope st) ad cdv A outer sh H E) (fun cls d _ H' => E cls d H') :=
      { hN := rfl, nd := s.sc.nd, calm := rfl, room := hr, tk := takes_of rfl rfl rfl rfl, kind := s.sc.kind,
        tab := fun f' fd' hf => by
          obtain ⟨ad', fdat', h1, h2, h3, h4⟩ := tab f' fd' hf
          exact ⟨ad', fdat', h1, h2, h3, h4⟩,
        blt := m.blt, gl := m.gl, lg := hL, xc := m.xc, hl := hlv, po := passes_of rfl, fn := fun _ => rfl, sk := rfl, fr := rfl }
    refine ⟨_, sB fd.body g s.ck, ⟨H, B, μ⟩, B, μ, fun _ => none, startE fd.N ds, M, rel_start cs bt rs, ?_⟩
    rw [hΦ] at hq
    unfold FD.run at hq
    have tr : ∀ a ∈ μ, H a ≠ none := fun a h => bt a (.inr h)
    by_cases hlen : ds.length = fd.ps.length
    · rw [if_pos hlen] at hq
      cases e : exs Φ fd.body (startE fd.N ds) M with
      | nx ρ' M' =>
        rw [e] at hq
        intro B' μ' oa' σ' H' _ r'
        obtain ⟨e1, e2, e3, e4⟩ := rel_end r' tr
        exact hq .non H' μ' e1 e2 e3 .non
      | rt d M' =>
        rw [e] at hq
        intro B' μ' oa' ρ' σ' H' v r' rv
        obtain ⟨e1, e2, e3, e4⟩ := rel_end r' tr
        exact hq v H' μ' e1 e2 e3 (e4 rv)
      | er x ρ' M' =>
        rw [e] at hq
        intro B' μ' oa' σ' H' cls dd _ r' hx
        obtain ⟨e1, e2, e3, e4⟩ := rel_end r' tr
        exact hq cls dd H' μ' e1 e2 e3 hx
      | bad =>
        rw [e] at hq
        exact hq
    · rw [if_neg hlen] at hq
      exact hq.elim
theorem tab_ok (hL : L = lgx K T.X) (m : Mods P K mg T) : ∀ n, TabP P w K mg base L T (n + 3) (callN T.T n)
  | 0 => fun f fd h => by
    obtain ⟨st, ad, fdat, s⟩ := m.defs f fd h
    refine ⟨ad, fdat, s.mg, s.fn.kp, s.bd, ⟨fun vs H Q E q => ?_, fun A outer sh H args us vs Q E _ _ _ _ q => ?_⟩⟩
    · obtain ⟨_, _, _, _, hl, _⟩ := q
      exact hl
    · obtain ⟨_, _, _, _, _, _, _, _, hq⟩ := q
      exact hq.elim
  | n + 1 => fun f fd h => by
    obtain ⟨st, ad, fdat, s⟩ := m.defs f fd h
    exact ⟨ad, fdat, s.mg, s.fn.kp, s.bd, def_ok (by omega) hL m (tab_ok hL m n) s fun ds M => by rw [callN, h]⟩
/-- a law's end -/
theorem law_end {n f : Nat} {H : Hp} {a : Addr} {ns : List Int} {M' : Mem} (h : callN T.T n f [.frz (ns.map .int)] [] = .ok (.bl true) M') (hS : SqL K H a (ns.map V.int)) :
    spD K L (callN T.T n) f 1 [.ref a] H (fun v _ => v = .bl true) fun _ _ _ => False := by
  refine ⟨fun _ => False, [], [], [.frz (ns.map .int)], rfl, ⟨List.nodup_nil, rfl, fun a h => (nomatch h), fun n c a h => (nomatch h)⟩, fun a h => (by rcases h with h | h; exact h.elim; cases h), .cons (.frz ?_ (Rps.of_ints ns)) .nil, ?_⟩
  · rcases hS with q | q
    · exact .inl ⟨q, fun z => by rcases z with z | z; exact z; cases z⟩
    · exact .inr fun H' => .inr q
  · rw [h]
    intro v H' μ' _ _ _ rp
    cases rp
    rfl
/-- how a def without defaults binds -/
theorem binds_of {x qual : Str} {st : Stmt} {f : Addr} {fd : FuncData} {ps : List Str} (F : Fun K x qual st f fd)
    (h : ∀ (kV doc pm : Value) (an : Option Addr) (cdv ct : Value) (us : List Value), us.length = ps.length → bindArgs (PySem.W.fnOf x qual (defArgs st) (defBody st) (defScope st) .none kV doc pm an cdv ct) ⟨us, []⟩ = pure (ps.zip us)) : Binds K fd ps [] := F.binds h
end
/-- no exception is told of -/
def Lg0 : Lg := ⟨fun _ _ _ _ => False⟩
theorem cx_no {P : Program} {w : World} {H : Hp} {s : Shared} {e : Value} {s' : Shared} (z : L2.CX P w [] H s (fun _ _ _ => False) e s') : False := by
  obtain ⟨_, _, _, _, _, _, _, _, _, _, _, _, z⟩ := z
  exact z
/-- the law's own def -/
theorem law_fn {P : Program} {w : World} {K : PySem.W.Frag} {mg : Str → Option Value} {base : Heap} {L : Lg} {T : Tbl} {n f : Nat} {fd : FD} {st : Stmt} {ad : Addr} {fdat : FuncData} (hL : L = lgx K T.X) (m : Mods P K mg T) (hf : T.T f = some fd) (F : Fun K fd.name fd.name st ad fdat) (hm : mg fd.name = some (.ref ad))
    (sc : FnScope fd.N fd.ps (defScope st)) (ck : chkF T fd st = true) (hn : 0 < n) (b : Binds K fdat fd.ps []) : FnOk P w K mg base (L2.CX P w) (n + 3) ad fdat fd.ps (spD K L (callN T.T n) f fd.ps.length) := by
  cases n with
  | zero => cases hn
  | succ n => exact def_ok (by omega) hL m (tab_ok hL m n) ⟨hm, F, b, sc, ck⟩ fun ds M => by rw [callN, hf]
/-- the scope's conditions, as a test -/
def scC (N ps : List Str) (sc : Scope) : Bool :=
  (match sc.kind with | .function => true | _ => false) && (sc.isCoroutine == false) && (sc.isGenerator == false) && decide N.Nodup && decide (N.take ps.length = ps) &&
    (ps.all fun x => kL sc x) && (sc.names.all fun y => match y.2 with | .free => false | _ => true)
theorem sc_of {N ps : List Str} {sc : Scope} (h : scC N ps sc = true) : FnScope N ps sc := by
  unfold scC at h
  simp only [Bool.and_eq_true, decide_eq_true_eq, List.all_eq_true, beq_iff_eq] at h
  obtain ⟨⟨⟨⟨⟨⟨h1, h2⟩, h3⟩, h4⟩, h5⟩, h6⟩, h7⟩ := h
  refine ⟨?_, h2, h3, h4, h5, fun x hx => kL_loc (h6 x hx), fun y hy e => ?_⟩
  · split at h1
    · assumption
    · cases h1
  · have := h7 y hy
    rw [e] at this
    cases this
end PC

namespace PC
open PySem PySem.Spec PyProof.Rows L2 PySem.W PySem.Calls
/-- a law's promise -/
def spL (K : Frag) (T : Tbl) (n f : Nat) : Sp := spD K (lgx K T.X) (callN T.T n) f 1
def clsBody : Stmt → List Stmt | .ClassDef _ _ _ b _ _ _ _ _ _ _ => b | _ => []
/-- is it __init__ with super().__init__(..) and one field? -/
def chkIni (st : Stmt) (x f : Str) (one : Bool) : Bool :=
  (match defBody st with
    | [.Expr (.Call (.Attribute (.Call (.Name s _) [] [] _) i p2) [ea] [] p3) _, .Assign [.Attribute (.Name se _) g _] (.Name y _) _] =>
      decide (s = "super") && decide (i = "__init__") && decide (se = "self") && decide (g = f) && decide (y = x) && (p2.endLine == p3.line) &&
        (match ea with | .Name z _ => one && decide (z = x) | .Constant (.str _) _ _ => !one | _ => false)
    | _ => false) &&
  decide ((defScope st).names.lookup ("super" : Str) = some .globalImplicit) && decide ((defScope st).names.lookup ("__class__" : Str) = some .free) && decide ((defScope st).names.lookup ("self" : Str) = some .local) && decide ((defScope st).names.lookup x = some .local) &&
  decide ((defScope st).kind = .function) && decide ((defScope st).isCoroutine = false) && decide ((defScope st).isGenerator = false) && ((defScope st).names.all fun y => decide (y.2 ≠ .cell)) &&
  (match ((defArgs st).posonlyargs ++ (defArgs st).args).head? with | some ar => decide (ar.arg = "self") | none => false) && decide (x ≠ "self") && !(x == ("__debug__" : Str)) && !(x == ("__classdict__" : Str))
section
variable {P : Program} {K : Frag} {mg : Str → Option Value} {C fI : Addr}
theorem initIn_of {st : Stmt} {x f : Str} {one : Bool} (h : chkIni st x f one = true) {name qual : Str} {kV doc pm : Value} {an : Option Addr} {cda : Addr} {ct : Value} {cc : Addr} {oc : Value} {od : Option Addr} {osl : Array (Option Value)} {vs : Array Value} {file : Str} {tf : Tok} {ccl : Value} {cdd : Option Addr} {ccs : Array (Option Value)} {cl : Value} {cld : Option Addr} {csl : Array (Option Value)}
    (oex : OexC K C) (hB : subIn K (.ref C) (.type "ValueError") = some true) (hm : ks_superIn K C C "__init__" = some (some (.builtin "ValueError.__init__"))) (hsub : mroIn K C (.ref C) = some true) (ho : nsIn K cStatics "thirdparty.any" = some none) (hno : findIn K (.ref C) f = some none)
    (hsu : mg "super" = none) (htop : (P.main.scope.names.lookup ("super" : Str)).isSome = false)
    (l : K.lookup fI = some ⟨oc, od, .func (ksFn name qual (defArgs st) (defBody st) (defScope st) .none kV doc pm an (.ref cda) ct cc), osl⟩) (hc : codeIn K (.ref cda) qual = true) (lc : K.lookup cda = some ⟨ccl, cdd, .fields vs, ccs⟩) (hv : vs[2]? = some (.str file tf)) (hf : ((P.main.file : Str) == file) = true)
    (lcc : K.lookup cc = some ⟨cl, cld, .cell (some (.ref C)), csl⟩) : InitIn P K mg C fI (ksFn name qual (defArgs st) (defBody st) (defScope st) .none kV doc pm an (.ref cda) ct cc) x f one := by
  unfold chkIni at h
  simp only [Bool.and_eq_true, decide_eq_true_eq, Bool.not_eq_true', List.all_eq_true] at h
  obtain ⟨⟨⟨⟨⟨⟨⟨⟨⟨⟨⟨⟨hb, s1⟩, s2⟩, s3⟩, s4⟩, s5⟩, s6⟩, s7⟩, s8⟩, s9⟩, s10⟩, s11⟩, s12⟩ := h
  refine ⟨oex, hB, hm, hsub, ho, hno, hsu, htop, name, qual, _, _, _, kV, doc, pm, an, cda, ct, cc, _, oc, od, osl, vs, file, tf, ccl, cdd, ccs, cl, cld, csl, rfl, l, hc, lc, hv, hf, lcc, s1, s2, s3, s4, s5, s6, s7, fun y hy => s8 y hy, ?_, s10, s11, s12, ?_⟩
  · split at s9
    · rename_i ar e
      exact ⟨ar, e, of_decide_eq_true s9⟩
    · cases s9
  · split at hb
    · rename_i s p0 p1 i p2 ea p3 p4 se p5 g p6 y p7 p8 e
      simp only [Bool.and_eq_true, decide_eq_true_eq] at hb
      obtain ⟨⟨⟨⟨⟨⟨rfl, rfl⟩, rfl⟩, rfl⟩, rfl⟩, h6⟩, h7⟩ := hb
      refine ⟨p0, p1, p2, p3, p4, p5, p6, p7, p8, ea, e, h6, ?_⟩
      split at h7
      · rw [Bool.and_eq_true, decide_eq_true_eq] at h7
        obtain ⟨h8, rfl⟩ := h7
        exact .inl ⟨h8, _, rfl⟩
      · exact .inr ⟨by simpa using h7, _, _, _, rfl⟩
      · cases h7
    · cases hb
theorem exm_by {C' : Addr} {b : Bool} (h1 : subIn K (.ref C') (.type "BaseException") = some true) (h2 : isClsIn K C' = true) (h3 : typeIn K (.ref C') = some (.type "type")) (h4 : subIn K (.ref C) (.ref C') = some b) : exmOne K (.ref C) (.ref C') = some b := by
  unfold exmOne
  rw [h1]
  simp only [beq_self_eq_true, if_true]
  unfold kitCls
  simp only
  rw [h3]
  have : (clsIn K C').isSome = true := h2
  rw [this]
  simpa using h4
theorem kit_one : kitOne K (.ref C) (.ref C) = some true := by unfold kitOne; simp
theorem kit_ref {C' : Addr} {b : Bool} (ne : C ≠ C') (h2 : isClsIn K C' = true) (h3 : typeIn K (.ref C') = some (.type "type")) (h4 : subIn K (.ref C) (.ref C') = some b) : kitOne K (.ref C) (.ref C') = some b := by
  unfold kitOne
  rw [if_neg (by simpa using ne)]
  unfold kitCls
  simp only
  have : (clsIn K C').isSome = true := h2
  rw [h3, this]
  simpa using h4
theorem kit_val {b : Bool} (h : subIn K (.ref C) (.type "ValueError") = some b) : kitOne K (.ref C) (.type "ValueError") = some b := by
  unfold kitOne kitCls
  have m : kitMeta "ValueError" = true := by decide +kernel
  simp only [m, if_true]
  simpa using h
/-- a tuple of ints among the constants -/
theorem glob_tup {a : Addr} {its : Array Value} {n : Nat} {dd : Option Addr} {sl : Array (Option Value)} {is : List Int} (l : K.lookup a = some ⟨.type "tuple", dd, .seq its n, sl⟩) (hz : its.size ≤ sizeLine) (hv : Vals (is.map V.int) its.toList) :
    ∃ v, RelV v (.ref a) ∧ ∀ H B μ, Rp K H B μ (.tup (is.map .int)) v :=
  ⟨.ref a, rfl, fun H B μ => .tup (.inr fun H' => .inr ⟨_, its, n, l, rfl, rfl, hz, hv⟩) (Rps.of_ints is)⟩
/-- a constant of the module -/
def GlobOk (K : Frag) (x : Str) (d : D) : Prop := ∃ u, nsIn K mainGlobals x = some (some u) ∧ ∃ v, RelV v u ∧ ∀ H B μ, Rp K H B μ d v
theorem glob_ok {h : Heap} (X : K.In h) (G : h.Ns mainGlobals mg) {x : Str} {d : D} (g : GlobOk K x d) : ∃ v u, mg x = some u ∧ RelV v u ∧ ∀ H B μ, Rp K H B μ d v := by
  obtain ⟨u, h1, v, h2, h3⟩ := g
  exact ⟨v, u, mg_of X G h1, h2, h3⟩
theorem globs_of {h : Heap} (X : K.In h) (hG : h.Ns mainGlobals mg) {G : List (Str × D)} (g : ∀ y d, (y, d) ∈ G → GlobOk K y d) {x : Str} {d : D} (hx : G.lookup x = some d) : ∃ v u, mg x = some u ∧ RelV v u ∧ ∀ H B μ, Rp K H B μ d v := by
  refine glob_ok X hG (g x d ?_)
  induction G with
  | nil => cases hx
  | cons y r ih =>
    obtain ⟨y, e⟩ := y
    rw [List.lookup] at hx
    by_cases q : (x == y) = true
    · rw [q] at hx
      cases hx
      rw [beq_iff_eq.mp q]
      exact List.mem_cons_self
    · rw [Bool.not_eq_true] at q
      rw [q] at hx
      exact List.mem_cons_of_mem _ (ih (fun y d hy => g y d (List.mem_cons_of_mem _ hy)) hx)
end
end PC

namespace PC
open PySem L2
def rng1 (x : D) (M : Mem) : Res (List D) := match x with
  | .int j => if rngOk j then .ok (rangeL 0 j.toNat) M else .bad
  | _ => .bad
def rng2 (x y : D) (M : Mem) : Res (List D) := match x, y with
  | .int i, .int j => if rngOk i && rngOk j then .ok (rangeL i (j - i).toNat) M else .bad
  | _, _ => .bad
theorem rngOk_of {i : Int} (h : -1000000000 ≤ i ∧ i ≤ 1000000000) : rngOk i = true := by
  unfold rngOk; exact decide_eq_true ⟨by omega, by omega⟩
theorem rng1_int {i : Int} {M : Mem} (h : -1000000000 ≤ i ∧ i ≤ 1000000000) : rng1 (.int i) M = .ok (rangeL 0 i.toNat) M := by
  unfold rng1; exact if_pos (rngOk_of h)
theorem rng1_nat {n : Nat} {M : Mem} (h : n ≤ 1000000000) : rng1 (.int n) M = .ok (rangeL 0 n) M := by
  have := rng1_int (i := n) (M := M) (by omega)
  rwa [Int.toNat_natCast] at this
theorem rng2_int {i j : Int} {M : Mem} (h : -1000000000 ≤ i ∧ i ≤ 1000000000) (k : -1000000000 ≤ j ∧ j ≤ 1000000000) : rng2 (.int i) (.int j) M = .ok (rangeL i (j - i).toNat) M := by
  unfold rng2; exact if_pos (by rw [rngOk_of h, rngOk_of k]; rfl)
def popD (xs : List D) (y : D) (j i : Nat) (ρ : Ev) (M1 : Mem) : Out := match y with
  | .int z => match seqIndex? z xs.length with
    | some m => match xs[m]? with
      | some x => if -(2 ^ 63) ≤ z ∧ z < 2 ^ 63 ∧ j ≠ i then .nx ((ρ.set i (.own (xs.eraseIdx m))).set j (.v x)) M1 else .bad
      | none => .bad
    | none => .bad
  | _ => .bad
theorem popD_nat {xs : List D} {k j i : Nat} {ρ : Ev} {M : Mem} (h : k < xs.length) (hl : xs.length ≤ 1000000000) (ne : j ≠ i) : popD xs (.int k) j i ρ M = .nx ((ρ.set i (.own (xs.eraseIdx k))).set j (.v xs[k])) M := by
  have e : seqIndex? (k : Int) xs.length = some k := (L2.ixN_seq (i := (k : Int)) (j := k) (by simp [L2.ixN, h])).1
  have e2 : xs[k]? = some xs[k] := by simp [h]
  unfold popD
  simp only [e, e2]
  exact if_pos ⟨by omega, by omega, ne⟩
section
variable {Φ : Fns} {ρ : Ev} {M : Mem}
@[simp] theorem ev_var (i : Nat) : ev Φ (.var i) ρ M = .of (slotV ρ i) M := (rfl)
@[simp] theorem ev_non : ev Φ .non ρ M = .ok .non M := (rfl)
@[simp] theorem ev_bl (b : Bool) : ev Φ (.bl b) ρ M = .ok (.bl b) M := (rfl)
@[simp] theorem ev_int (i : Int) : ev Φ (.int i) ρ M = .ok (.int i) M := (rfl)
@[simp] theorem ev_str (x : Str) : ev Φ (.str x) ρ M = .ok (.str x) M := (rfl)
@[simp] theorem ev_glob (x : Str) (d : D) : ev Φ (.glob x d) ρ M = .ok d M := (rfl)
@[simp] theorem ev_bin (o : Bop) (a b : E) : ev Φ (.bin o a b) ρ M = (ev Φ a ρ M).bind fun x M1 => (ev Φ b ρ M1).bind fun y M2 => .of (o.run x y) M2 := (rfl)
@[simp] theorem ev_neg (a : E) : ev Φ (.neg a) ρ M = (ev Φ a ρ M).bind fun x M1 => match x with | .int i => .ok (.int (-i)) M1 | _ => .bad := (rfl)
@[simp] theorem ev_not (a : E) : ev Φ (.not a) ρ M = (ev Φ a ρ M).bind fun x M1 => .of ((x.truth M1).map fun k => .bl (!k)) M1 := (rfl)
@[simp] theorem ev_cmp (o : Cop) (a b : E) : ev Φ (.cmp o a b) ρ M = (ev Φ a ρ M).bind fun x M1 => (ev Φ b ρ M1).bind fun y M2 => .of ((o.run x y).map .bl) M2 := (rfl)
@[simp] theorem ev_chain (o o' : Cop) (a b c : E) : ev Φ (.chain o o' a b c) ρ M = (ev Φ a ρ M).bind fun x M1 => (ev Φ b ρ M1).bind fun y M2 => match o.run x y with
    | some true => (ev Φ c ρ M2).bind fun z M3 => .of ((o'.run y z).map .bl) M3
    | some false => .ok (.bl false) M2
    | none => .bad := (rfl)
@[simp] theorem ev_isN (a : E) : ev Φ (.isN a) ρ M = (ev Φ a ρ M).bind fun x M1 => .ok (.bl (isNon x)) M1 := (rfl)
@[simp] theorem ev_notN (a : E) : ev Φ (.notN a) ρ M = (ev Φ a ρ M).bind fun x M1 => .ok (.bl (!isNon x)) M1 := (rfl)
@[simp] theorem ev_and (a b : E) : ev Φ (.and a b) ρ M = (ev Φ a ρ M).bind fun x M1 => match x.truth M1 with
    | some true => ev Φ b ρ M1
    | some false => .ok x M1
    | none => .bad := (rfl)
@[simp] theorem ev_or (a b : E) : ev Φ (.or a b) ρ M = (ev Φ a ρ M).bind fun x M1 => match x.truth M1 with
    | some true => .ok x M1
    | some false => ev Φ b ρ M1
    | none => .bad := (rfl)
@[simp] theorem ev_ite (c a b : E) : ev Φ (.ite c a b) ρ M = (ev Φ c ρ M).bind fun x M1 => match x.truth M1 with
    | some true => ev Φ a ρ M1
    | some false => ev Φ b ρ M1
    | none => .bad := (rfl)
@[simp] theorem ev_tup (es : Es) : ev Φ (.tup es) ρ M = (evs Φ es ρ M).bind fun xs M1 => if xs.length ≤ sizeLine then .ok (.tup xs) M1 else .bad := (rfl)
@[simp] theorem ev_lst (es : Es) : ev Φ (.lst es) ρ M = (evs Φ es ρ M).bind fun xs M1 => if xs.length ≤ sizeLine then .ok (.lst xs) M1 else .bad := (rfl)
@[simp] theorem ev_newL (es : Es) : ev Φ (.newL es) ρ M = (evs Φ es ρ M).bind fun xs M1 => if xs.length ≤ sizeLine then .ok (.cell M1.length) (M1 ++ [.lst xs]) else .bad := (rfl)
@[simp] theorem ev_sub (a i : E) : ev Φ (.sub a i) ρ M = (ev Φ a ρ M).bind fun x M1 => (ev Φ i ρ M1).bind fun y M2 => .of (subM M2 x y) M2 := (rfl)
@[simp] theorem ev_slice (a : E) (lo hi : Pt) : ev Φ (.slice a lo hi) ρ M = (ev Φ a ρ M).bind fun x M1 => (evP Φ lo ρ M1).bind fun y M2 => (evP Φ hi ρ M2).bind fun z M3 => .of (x.slice y z) M3 := (rfl)
@[simp] theorem ev_sliceRev (a : E) : ev Φ (.sliceRev a) ρ M = (ev Φ a ρ M).bind fun x M1 => .of x.rev M1 := (rfl)
@[simp] theorem ev_lenO (i : Nat) : ev Φ (.lenO i) ρ M = .of ((slotO ρ i).map fun xs => .int xs.length) M := (rfl)
@[simp] theorem ev_subO (i : Nat) (k : E) : ev Φ (.subO i k) ρ M = match slotO ρ i with
    | some xs => (ev Φ k ρ M).bind fun y M1 => .of (D.sub (.lst xs) y) M1
    | none => .bad := (rfl)
@[simp] theorem ev_call (f : Nat) (es : Es) : ev Φ (.call f es) ρ M = (evs Φ es ρ M).bind fun xs M1 => Φ f xs M1 := (rfl)
@[simp] theorem ev_bi (b : Bi) (e : E) : ev Φ (.bi b e) ρ M = (ev Φ e ρ M).bind fun x M1 => .of (lenM M1 b x) M1 := (rfl)
@[simp] theorem ev_isi (a : E) (ts : List Ty) : ev Φ (.isi a ts) ρ M = (ev Φ a ρ M).bind fun x M1 => .of ((Ty.any ts x).map .bl) M1 := (rfl)
theorem ev_comp (it : It) (t : Tg) (ifs : Es) (elt : E) : ev Φ (.comp it t ifs elt) ρ M = (evI Φ it ρ M).bind fun ds M1 =>
      ((cmpL (fun d M2 => match t.put d (wipeE ρ t.slots) with
        | some ρ2 => (tst Φ ifs ρ2 M2).bind fun k M3 => if k = true then (ev Φ elt ρ2 M3).bind fun y M4 => .ok (some y) M4 else .ok none M3
        | none => .bad) ds [] M1).bind fun xs M4 => .ok (.lst xs) M4).calm := (rfl)
@[simp] theorem ev_borrow (i : Nat) (e : E) : ev Φ (.borrow i e) ρ M = match slotO ρ i with
    | some xs => (ev Φ e (ρ.set i (.v (.lst xs))) M).calm.bind fun x M1 => if x.flat && Mem.flat M1 then .ok x M1 else .bad
    | none => .bad := (rfl)
@[simp] theorem evs_nil : evs Φ .nil ρ M = .ok [] M := (rfl)
@[simp] theorem evs_cons (e : E) (es : Es) : evs Φ (.cons e es) ρ M = (ev Φ e ρ M).bind fun x M1 => (evs Φ es ρ M1).bind fun xs M2 => .ok (x :: xs) M2 := (rfl)
@[simp] theorem evP_none : evP Φ .none ρ M = .ok Option.none M := (rfl)
@[simp] theorem evP_some (e : E) : evP Φ (.some e) ρ M = (ev Φ e ρ M).bind fun x M1 => match x with
    | .int i => .ok (Option.some i) M1
    | _ => .bad := (rfl)
@[simp] theorem tst_nil : tst Φ .nil ρ M = .ok true M := (rfl)
@[simp] theorem tst_one (e : E) : tst Φ (.cons e .nil) ρ M = (ev Φ e ρ M).bind fun x M1 => .of (x.truth M1) M1 := (rfl)
@[simp] theorem evI_seq (e : E) : evI Φ (.seq e) ρ M = (ev Φ e ρ M).bind fun x M1 => .of x.items M1 := (rfl)
@[simp] theorem evI_own (i : Nat) : evI Φ (.own i) ρ M = .of (slotO ρ i) M := (rfl)
theorem evI_range1' (e : E) : evI Φ (.range1 e) ρ M = (ev Φ e ρ M).bind fun x M1 => match x with
    | .int j => if rngOk j then .ok (rangeL 0 j.toNat) M1 else .bad
    | _ => .bad := (rfl)
@[simp] theorem evI_range1 (e : E) : evI Φ (.range1 e) ρ M = (ev Φ e ρ M).bind rng1 := (rfl)
@[simp] theorem evI_range2 (a b : E) : evI Φ (.range2 a b) ρ M = (ev Φ a ρ M).bind fun x M1 => (ev Φ b ρ M1).bind fun y M2 => rng2 x y M2 := (rfl)
@[simp] theorem evI_zip (a b : E) : evI Φ (.zip a b) ρ M = (ev Φ a ρ M).bind fun x M1 => (ev Φ b ρ M1).bind fun y M2 => match x, y with
    | .tup xs, .tup ys => .ok (zipL xs ys) M2
    | .lst xs, .lst ys => .ok (zipL xs ys) M2
    | .lst xs, .tup ys => .ok (zipL xs ys) M2
    | _, _ => .bad := (rfl)
@[simp] theorem ex_set (i : Nat) (e : E) : ex Φ (.set i e) ρ M = (ev Φ e ρ M).out ρ fun x M1 => .nx (ρ.set i (.v x)) M1 := (rfl)
@[simp] theorem ex_own (i : Nat) (e : E) : ex Φ (.own i e) ρ M = (ev Φ e ρ M).out ρ fun x M1 => match x with
    | .lst xs => .nx (ρ.set i (.own xs)) M1
    | _ => .bad := (rfl)
@[simp] theorem ex_freeze (i : Nat) : ex Φ (.freeze i) ρ M = match slotO ρ i with
    | some xs => .nx (ρ.set i (.v (.lst xs))) M
    | none => .bad := (rfl)
@[simp] theorem ex_unpack (is : List Nat) (e : E) : ex Φ (.unpack is e) ρ M = (ev Φ e ρ M).out ρ fun x M1 => match x with
    | .tup ds => match setsL is ds ρ with | some ρ2 => .nx ρ2 M1 | none => .bad
    | _ => .bad := (rfl)
@[simp] theorem ex_append (i : Nat) (e : E) : ex Φ (.append i e) ρ M = match slotO ρ i with
    | some xs => (ev Φ e ρ M).out ρ fun x M1 => if xs.length < sizeLine then .nx (ρ.set i (.own (xs ++ [x]))) M1 else .bad
    | none => .bad := (rfl)
@[simp] theorem ex_popAt (j i : Nat) (k : E) : ex Φ (.popAt j i k) ρ M = match slotO ρ i with
    | some xs => (ev Φ k ρ M).out ρ fun y M1 => popD xs y j i ρ M1
    | none => .bad := (rfl)
@[simp] theorem ex_setO (i : Nat) (k e : E) : ex Φ (.setO i k e) ρ M = match slotO ρ i with
    | some xs => (ev Φ e ρ M).out ρ fun x M1 => (ev Φ k ρ M1).out ρ fun y M2 => match y with
      | .int z => match ixN xs.length z with
        | some m => .nx (ρ.set i (.own (xs.set m x))) M2
        | none => .bad
      | _ => .bad
    | none => .bad := (rfl)
@[simp] theorem ex_setC (a k e : E) : ex Φ (.setC a k e) ρ M = (ev Φ e ρ M).out ρ fun x M1 => (ev Φ a ρ M1).out ρ fun o M2 => (ev Φ k ρ M2).out ρ fun y M3 => match o, y with
    | .cell n, .int z => match M3[n]? with
      | some (.lst xs) => match ixN xs.length z with
        | some m => .nx ρ (M3.set n (.lst (xs.set m x)))
        | none => .bad
      | _ => .bad
    | _, _ => .bad := (rfl)
@[simp] theorem ex_expr (e : E) : ex Φ (.expr e) ρ M = (ev Φ e ρ M).out ρ fun _ M1 => .nx ρ M1 := (rfl)
@[simp] theorem ex_ret (e : E) : ex Φ (.ret e) ρ M = (ev Φ e ρ M).out ρ fun x M1 => .rt x M1 := (rfl)
@[simp] theorem ex_ite (c : E) (a b : B) : ex Φ (.ite c a b) ρ M = (evT Φ c ρ M).out ρ fun k M1 => if k = true then exs Φ a ρ M1 else exs Φ b ρ M1 := (rfl)
@[simp] theorem ex_for (it : It) (t : Tg) (b : B) : ex Φ (.for_ it t b) ρ M = (evI Φ it ρ M).out ρ fun ds M1 => forL t (exs Φ b) ds ρ M1 := (rfl)
def tryO (hs : List Hdl) (o : Out) : Out := match o with
  | .er x ρ1 M1 => match hs.find? fun h => x.anc.contains h.cls with
    | some h => if (h.slot.all fun k => decide (k < ρ1.length)) = true then
        (if (h.c.all fun c => c.ev x) = true then (match h.e.ev x with | some d => .rt d M1 | none => .bad) else .nx (unE ρ1 h.slot) M1)
      else .bad
    | none => .er x ρ1 M1
  | o => o
@[simp] theorem tryO_nx (hs : List Hdl) (ρ1 : Ev) (M1 : Mem) : tryO hs (.nx ρ1 M1) = .nx ρ1 M1 := (rfl)
@[simp] theorem tryO_rt (hs : List Hdl) (d : D) (M1 : Mem) : tryO hs (.rt d M1) = .rt d M1 := (rfl)
theorem ex_try (b : B) (hs : List Hdl) : ex Φ (.try_ b hs) ρ M = tryO hs (exs Φ b ρ M) := (rfl)
@[simp] theorem ex_raise (c f : Str) (anc : List Str) (e : E) : ex Φ (.raise_ c anc (some f) e) ρ M = (ev Φ e ρ M).out ρ fun x M1 => if x.flat = true then .er ⟨c, anc, [(f, x)]⟩ ρ M1 else .bad := (rfl)
@[simp] theorem ex_raise0 (c : Str) (anc : List Str) (e : E) : ex Φ (.raise_ c anc none e) ρ M = (ev Φ e ρ M).out ρ fun x M1 => .er ⟨c, anc, []⟩ ρ M1 := (rfl)
@[simp] theorem exs_nil : exs Φ .nil ρ M = .nx ρ M := (rfl)
@[simp] theorem exs_cons (s : S) (b : B) : exs Φ (.cons s b) ρ M = (ex Φ s ρ M).then fun ρ1 M1 => exs Φ b ρ1 M1 := (rfl)
@[simp] theorem evT_def (c : E) : evT Φ c ρ M = (ev Φ c ρ M).bind fun x M1 => .of (x.truth M1) M1 := (rfl)
@[simp] theorem slotV_0 (d : D) (r : Ev) : slotV (.v d :: r) 0 = some d := (rfl)
@[simp] theorem slotV_s (s : Slot) (r : Ev) (i : Nat) : slotV (s :: r) (i + 1) = slotV r i := (rfl)
@[simp] theorem slotO_0 (xs : List D) (r : Ev) : slotO (.own xs :: r) 0 = some xs := (rfl)
@[simp] theorem slotO_s (s : Slot) (r : Ev) (i : Nat) : slotO (s :: r) (i + 1) = slotO r i := (rfl)
@[simp] theorem truth_bl (b : Bool) : (D.bl b).truth M = some b := (rfl)
@[simp] theorem truth_int (i : Int) : (D.int i).truth M = some (i != 0) := (rfl)
@[simp] theorem truth_tup (xs : List D) : (D.tup xs).truth M = some (!xs.isEmpty) := (rfl)
@[simp] theorem truth_lst (xs : List D) : (D.lst xs).truth M = some (!xs.isEmpty) := (rfl)
@[simp] theorem calm_ok {α : Type} (a : α) (M : Mem) : (Res.ok a M).calm = .ok a M := (rfl)
end
/-- a def's end -/
def endR (o : Out) : Res D := match o with
  | .nx _ M1 => .ok .non M1
  | .rt d M1 => .ok d M1
  | .er x _ M1 => .err x M1
  | .bad => .bad
@[simp] theorem endR_nx (ρ : Ev) (M : Mem) : endR (.nx ρ M) = .ok .non M := (rfl)
@[simp] theorem endR_rt (d : D) (M : Mem) : endR (.rt d M) = .ok d M := (rfl)
@[simp] theorem endR_er (x : Exc) (ρ : Ev) (M : Mem) : endR (.er x ρ M) = .err x M := (rfl)
@[simp] theorem endR_bad : endR .bad = .bad := (rfl)
theorem cmpL_some {f : D → Mem → Res (Option D)} {g : D → D} {M : Mem} : ∀ (ds acc : List D), (∀ d ∈ ds, f d M = .ok (some (g d)) M) → acc.length + ds.length ≤ sizeLine → cmpL f ds acc M = .ok (acc ++ ds.map g) M
  | [], acc, _, _ => by simp [cmpL]
  | d :: ds, acc, h, hl => by
    simp only [List.length_cons] at hl
    rw [cmpL, h d (List.mem_cons_self ..), Res.bind_ok]
    simp only
    rw [if_pos (by omega), cmpL_some ds _ (fun x hx => h x (List.mem_cons_of_mem _ hx)) (by simp; omega)]
    simp
theorem cmpL_filter {f : D → Mem → Res (Option D)} {g : D → Option D} {M : Mem} : ∀ (ds acc : List D), (∀ d ∈ ds, f d M = .ok (g d) M) → acc.length + ds.length ≤ sizeLine → cmpL f ds acc M = .ok (acc ++ ds.filterMap g) M
  | [], acc, _, _ => by simp [cmpL]
  | d :: ds, acc, h, hl => by
    simp only [List.length_cons] at hl
    rw [cmpL, h d (List.mem_cons_self ..), Res.bind_ok]
    cases e : g d with
    | none =>
      simp only
      rw [cmpL_filter ds _ (fun x hx => h x (List.mem_cons_of_mem _ hx)) (by omega)]
      simp [e]
    | some y =>
      simp only
      rw [if_pos (by omega), cmpL_filter ds _ (fun x hx => h x (List.mem_cons_of_mem _ hx)) (by simp; omega)]
      simp [e]
/-- a comprehension whose element moves the memory -/
theorem cmpL_inv {f : D → Mem → Res (Option D)} {I : Mem → Prop} {Q : D → Prop} : ∀ (ds acc : List D) (M : Mem), (∀ d ∈ ds, ∀ M, I M → ∃ y M', f d M = .ok (some y) M' ∧ I M' ∧ Q y) → acc.length + ds.length ≤ sizeLine → I M →
    ∃ ys M', cmpL f ds acc M = .ok (acc ++ ys) M' ∧ I M' ∧ ys.length = ds.length ∧ ∀ y ∈ ys, Q y
  | [], acc, M, _, _, i => ⟨[], M, by simp [cmpL], i, rfl, by simp⟩
  | d :: ds, acc, M, h, hl, i => by
    simp only [List.length_cons] at hl
    obtain ⟨y, M1, e1, e2, e3⟩ := h d (List.mem_cons_self ..) M i
    obtain ⟨ys, M2, q1, q2, q3, q4⟩ := cmpL_inv ds (acc ++ [y]) M1 (fun x hx => h x (List.mem_cons_of_mem _ hx)) (by simp; omega) e2
    refine ⟨y :: ys, M2, ?_, q2, by simp [q3], ?_⟩
    · rw [cmpL, e1, Res.bind_ok]
      simp only
      rw [if_pos (by omega), q1]
      simp
    · intro z hz
      rcases List.mem_cons.1 hz with rfl | hz
      · exact e3
      · exact q4 z hz
abbrev IL (v : List Int) : List D := v.map .int
abbrev TI (v : List Int) : D := .tup (v.map .int)
abbrev TIs (vs : List (List Int)) : List D := vs.map TI
theorem rangeL_eq : ∀ (n : Nat) (lo : Int), rangeL lo n = (List.range n).map fun k => .int (lo + k)
  | 0, lo => rfl
  | n + 1, lo => by
    rw [rangeL, rangeL_eq n (lo + 1), List.range_succ_eq_map]
    simp [Function.comp_def]
    intro a _; omega
theorem rangeL_0 (n : Nat) : rangeL 0 n = (List.range n).map fun k => .int k := by rw [rangeL_eq]; simp
theorem forL_inv {t : Tg} {f : Ev → Mem → Out} {α : Type} (w : α → D) (I : List α → Ev → Mem → Prop) : ∀ (xs done : List α) (ρ : Ev) (M : Mem),
    (∀ a b ρ M x, xs = a ++ x :: b → I (done ++ a) ρ M → ∃ ρ1 ρ2 M2, t.put (w x) ρ = some ρ1 ∧ f ρ1 M = .nx ρ2 M2 ∧ I (done ++ a ++ [x]) ρ2 M2) → I done ρ M →
    ∃ ρ2 M2, forL t f (xs.map w) ρ M = .nx ρ2 M2 ∧ I (done ++ xs) ρ2 M2
  | [], done, ρ, M, _, i => ⟨ρ, M, rfl, by simpa using i⟩
  | x :: xs, done, ρ, M, h, i => by
    obtain ⟨ρ1, ρ2, M2, h1, h2, h3⟩ := h [] xs ρ M x rfl (by simpa using i)
    obtain ⟨ρ3, M3, q1, q2⟩ := forL_inv w I xs (done ++ [x]) ρ2 M2 (fun a b ρ M y e q => by
      obtain ⟨r1, r2, r3, e1, e2, e3⟩ := h (x :: a) b ρ M y (by rw [e]; rfl) (by simpa using q)
      exact ⟨r1, r2, r3, e1, e2, by simpa using e3⟩) (by simpa using h3)
    refine ⟨ρ3, M3, ?_, by simpa using q2⟩
    rw [List.map_cons, forL, h1]
    simp only
    rw [h2, Out.then_nx, q1]
theorem forL_range {t : Tg} {f : Ev → Mem → Out} (I : Nat → Ev → Mem → Prop) (n : Nat) (ρ : Ev) (M : Mem)
    (h : ∀ k, k < n → ∀ ρ M, I k ρ M → ∃ ρ1 ρ2 M2, t.put (.int k) ρ = some ρ1 ∧ f ρ1 M = .nx ρ2 M2 ∧ I (k + 1) ρ2 M2) (i : I 0 ρ M) :
    ∃ ρ2 M2, forL t f (rangeL 0 n) ρ M = .nx ρ2 M2 ∧ I n ρ2 M2 := by
  rw [rangeL_0]
  obtain ⟨ρ2, M2, h1, h2⟩ := forL_inv (t := t) (f := f) (fun k : Nat => D.int k) (fun done ρ M => done = List.range done.length ∧ I done.length ρ M) (List.range n) [] ρ M
    (fun a b ρ M x e q => by
      obtain ⟨q1, q2⟩ := q
      simp only [List.nil_append] at q1 q2 ⊢
      have hx : x = a.length ∧ a.length < n := by
        have h1 := congrArg (·[a.length]?) e
        have h2 := congrArg List.length e
        simp at h2
        simp at h1
        rw [List.getElem?_range (by omega)] at h1
        cases h1
        exact ⟨rfl, by omega⟩
      obtain ⟨rfl, hlt⟩ := hx
      obtain ⟨ρ1, ρ2, M2, e1, e2, e3⟩ := h a.length hlt ρ M q2
      refine ⟨ρ1, ρ2, M2, e1, e2, ?_, by simpa using e3⟩
      rw [List.length_append]
      show _ = List.range (a.length + 1)
      rw [List.range_succ, ← q1]) ⟨rfl, i⟩
  refine ⟨ρ2, M2, h1, ?_⟩
  simpa using h2.2
end PC

namespace PC
open PySem L2
section
variable {Φ : Fns} {ρ : Ev} {M M1 : Mem} {it : It} {t : Tg} {elt c : E} {α : Type} {w g : α → D}
theorem cmp_inv {I : Mem → Prop} {Q : D → Prop} {ds : List D} (hi : evI Φ it ρ M = .ok ds M1) (h : ∀ d ∈ ds, ∀ M2, I M2 → ∃ ρ2 y M3, t.put d (wipeE ρ t.slots) = some ρ2 ∧ ev Φ elt ρ2 M2 = .ok y M3 ∧ I M3 ∧ Q y) (hl : ds.length ≤ sizeLine) (i : I M1) :
    ∃ ys M', ev Φ (.comp it t .nil elt) ρ M = .ok (.lst ys) M' ∧ I M' ∧ ys.length = ds.length ∧ ∀ y ∈ ys, Q y := by
  obtain ⟨ys, M', h1, h2, h3, h4⟩ := cmpL_inv (I := I) (Q := Q) (f := fun d M2 => match t.put d (wipeE ρ t.slots) with
        | some ρ2 => (tst Φ .nil ρ2 M2).bind fun k M3 => if k = true then (ev Φ elt ρ2 M3).bind fun y M4 => .ok (some y) M4 else .ok none M3
        | none => .bad) ds [] M1 (fun d hd M2 hM => by
    obtain ⟨ρ2, y, M3, e1, e2, e3, e4⟩ := h d hd M2 hM
    exact ⟨y, M3, by simp only [e1, tst_nil, Res.bind_ok, if_true, e2], e3, e4⟩) (by simpa using hl) i
  refine ⟨ys, M', ?_, h2, h3, h4⟩
  rw [ev, hi, Res.bind_ok]
  exact congrArg (fun r : Res (List D) => (r.bind fun xs M4 => Res.ok (D.lst xs) M4).calm) h1
theorem cmpL_mapG {w g : α → D} {f : D → Mem → Res (Option D)} {M : Mem} : ∀ (xs : List α) (acc : List D), (∀ x ∈ xs, f (w x) M = .ok (some (g x)) M) → acc.length + xs.length ≤ sizeLine → cmpL f (xs.map w) acc M = .ok (acc ++ xs.map g) M
  | [], acc, _, _ => by simp [cmpL]
  | x :: xs, acc, h, hl => by
    rw [List.length_cons] at hl
    rw [List.map_cons, cmpL, h x (List.mem_cons_self ..), Res.bind_ok]
    simp only
    rw [if_pos (by omega), cmpL_mapG xs _ (fun y hy => h y (List.mem_cons_of_mem _ hy)) (by simp; omega)]
    simp
theorem cmpL_filtG {w : α → D} (q : α → Bool) {g : α → D} {f : D → Mem → Res (Option D)} {M : Mem} : ∀ (xs : List α) (acc : List D), (∀ x ∈ xs, f (w x) M = .ok (if q x = true then some (g x) else none) M) → acc.length + xs.length ≤ sizeLine → cmpL f (xs.map w) acc M = .ok (acc ++ (xs.filter q).map g) M
  | [], acc, _, _ => by simp [cmpL]
  | x :: xs, acc, h, hl => by
    rw [List.length_cons] at hl
    rw [List.map_cons, cmpL, h x (List.mem_cons_self ..), Res.bind_ok, List.filter_cons]
    cases e : q x with
    | true =>
      simp only [if_true]
      rw [if_pos (by omega), cmpL_filtG q xs _ (fun y hy => h y (List.mem_cons_of_mem _ hy)) (by simp; omega)]
      simp
    | false =>
      simp only [Bool.false_eq_true, if_false]
      rw [cmpL_filtG q xs _ (fun y hy => h y (List.mem_cons_of_mem _ hy)) (by omega)]
theorem cmp_map (xs : List α) (hi : evI Φ it ρ M = .ok (xs.map w) M1) (h : ∀ x ∈ xs, ∃ ρ2, t.put (w x) (wipeE ρ t.slots) = some ρ2 ∧ ev Φ elt ρ2 M1 = .ok (g x) M1) (hl : xs.length ≤ sizeLine) :
    ev Φ (.comp it t .nil elt) ρ M = .ok (.lst (xs.map g)) M1 := by
  rw [ev, hi, Res.bind_ok, cmpL_mapG (g := g) xs [] (fun x hx => by
    obtain ⟨ρ2, e1, e2⟩ := h x hx
    simp only [e1, tst_nil, Res.bind_ok, if_true, e2]) (by simpa using hl)]
  rfl
/-- the test tells q, then the element g -/
theorem cmp_filt (q : α → Bool) (xs : List α) (hi : evI Φ it ρ M = .ok (xs.map w) M1) (h : ∀ x ∈ xs, ∃ ρ2, t.put (w x) (wipeE ρ t.slots) = some ρ2 ∧ evT Φ c ρ2 M1 = .ok (q x) M1 ∧ (q x = true → ev Φ elt ρ2 M1 = .ok (g x) M1)) (hl : xs.length ≤ sizeLine) :
    ev Φ (.comp it t (.cons c .nil) elt) ρ M = .ok (.lst ((xs.filter q).map g)) M1 := by
  rw [ev, hi, Res.bind_ok, cmpL_filtG q (g := g) xs [] (fun x hx => by
    obtain ⟨ρ2, e1, e2, e3⟩ := h x hx
    unfold evT at e2
    simp only [e1, tst_one, e2, Res.bind_ok]
    cases z : q x with
    | true => simp only [if_true, e3 z, Res.bind_ok]
    | false => simp) (by simpa using hl)]
  rfl
end
end PC

namespace PC
open PySem L2
mutual
def D.fine : Nat → D → Bool
  | _, .int _ => true
  | k + 1, .tup xs => D.fines k xs
  | k + 1, .lst xs => D.fines k xs
  | _, _ => false
def D.fines : Nat → List D → Bool
  | _, [] => true
  | k, x :: xs => D.fine k x && D.fines k xs
end
theorem fines_iff {k : Nat} : ∀ {xs : List D}, D.fines k xs = true ↔ ∀ x ∈ xs, D.fine k x = true
  | [] => by simp [D.fines]
  | x :: xs => by simp [D.fines, fines_iff]
mutual
theorem fine_py : ∀ (k : Nat) (d : D), D.fine k d = true → ∃ q, d.py = some q ∧ q.canLay0 = true ∧ q.depth ≤ k
  | k, .int i, _ => ⟨.int i, rfl, rfl, by simp [PyData.depth]⟩
  | k + 1, .tup xs, h => by
    obtain ⟨qs, h1, h2, h3⟩ := fines_py k xs (by simpa [D.fine] using h)
    exact ⟨.tuple qs, by simp [D.py, h1], by simpa [PyData.canLay0] using h2, by simpa [PyData.depth] using h3⟩
  | k + 1, .lst xs, h => by
    obtain ⟨qs, h1, h2, h3⟩ := fines_py k xs (by simpa [D.fine] using h)
    exact ⟨.list qs, by simp [D.py, h1], by simpa [PyData.canLay0] using h2, by simpa [PyData.depth] using h3⟩
  | 0, .tup xs, h => by simp [D.fine] at h
  | 0, .lst xs, h => by simp [D.fine] at h
  | _, .non, h => by simp [D.fine] at h
  | _, .bl _, h => by simp [D.fine] at h
  | _, .str _, h => by simp [D.fine] at h
  | _, .cell _, h => by simp [D.fine] at h
  | _, .frz _, h => by simp [D.fine] at h
theorem fines_py : ∀ (k : Nat) (ds : List D), D.fines k ds = true → ∃ qs, D.pys ds = some qs ∧ PyData.canLayAll0 qs = true ∧ PyData.depthAll qs ≤ k
  | k, [], _ => ⟨[], rfl, rfl, by simp [PyData.depthAll]⟩
  | k, x :: xs, h => by
    simp only [D.fines, Bool.and_eq_true] at h
    obtain ⟨q, h1, h2, h3⟩ := fine_py k x h.1
    obtain ⟨qs, k1, k2, k3⟩ := fines_py k xs h.2
    refine ⟨q :: qs, by simp [D.pys, h1, k1], by simp [PyData.canLayAll0, h2, k2], ?_⟩
    simp only [PyData.depthAll]
    omega
end
theorem fines_eq (k : Nat) (ih : ∀ (a b : D) (p q : PyData), D.fine k a = true → D.fine k b = true → a.py = some p → b.py = some q → (PyData.eqv p q = true ↔ a = b)) :
    ∀ (a b : List D) (p q : List PyData), D.fines k a = true → D.fines k b = true → D.pys a = some p → D.pys b = some q → (PyData.eqvAll p q = true ↔ a = b)
  | [], [], p, q, _, _, h1, h2 => by
    cases h1; cases h2; simp [PyData.eqvAll]
  | [], y :: ys, p, q, _, hb, h1, h2 => by
    obtain ⟨qs, e2, _, _⟩ := fines_py k (y :: ys) hb
    cases h1
    simp only [D.fines, Bool.and_eq_true] at hb
    obtain ⟨q1, f1, _, _⟩ := fine_py k y hb.1
    obtain ⟨q2, f2, _, _⟩ := fines_py k ys hb.2
    simp only [D.pys, f1, f2, Option.some.injEq] at h2
    subst h2; simp [PyData.eqvAll]
  | x :: xs, [], p, q, ha, _, h1, h2 => by
    simp only [D.fines, Bool.and_eq_true] at ha
    obtain ⟨q1, f1, _, _⟩ := fine_py k x ha.1
    obtain ⟨q2, f2, _, _⟩ := fines_py k xs ha.2
    cases h2
    simp only [D.pys, f1, f2, Option.some.injEq] at h1
    subst h1; simp [PyData.eqvAll]
  | x :: xs, y :: ys, p, q, ha, hb, h1, h2 => by
    simp only [D.fines, Bool.and_eq_true] at ha hb
    obtain ⟨p1, f1, _, _⟩ := fine_py k x ha.1
    obtain ⟨p2, f2, _, _⟩ := fines_py k xs ha.2
    obtain ⟨q1, g1, _, _⟩ := fine_py k y hb.1
    obtain ⟨q2, g2, _, _⟩ := fines_py k ys hb.2
    simp only [D.pys, f1, f2, g1, g2, Option.some.injEq] at h1 h2
    subst h1 h2
    have e1 := ih x y p1 q1 ha.1 hb.1 f1 g1
    have e2 := fines_eq k ih xs ys p2 q2 ha.2 hb.2 f2 g2
    simp [PyData.eqvAll, e1, e2]
theorem fine_cases {k : Nat} {d : D} (h : D.fine k d = true) : (∃ i, d = .int i) ∨ (∃ j xs, k = j + 1 ∧ D.fines j xs = true ∧ (d = .tup xs ∨ d = .lst xs)) := by
  cases d with
  | int i => exact .inl ⟨i, rfl⟩
  | tup xs => cases k with
    | zero => simp [D.fine] at h
    | succ j => exact .inr ⟨j, xs, rfl, by simpa [D.fine] using h, .inl rfl⟩
  | lst xs => cases k with
    | zero => simp [D.fine] at h
    | succ j => exact .inr ⟨j, xs, rfl, by simpa [D.fine] using h, .inr rfl⟩
  | _ => cases k <;> simp [D.fine] at h
theorem fine_eq : ∀ (k : Nat) (a b : D) (p q : PyData), D.fine k a = true → D.fine k b = true → a.py = some p → b.py = some q → (PyData.eqv p q = true ↔ a = b)
  | 0, a, b, p, q, ha, hb, h1, h2 => by
    rcases fine_cases ha with ⟨i, rfl⟩ | ⟨_, _, z, _⟩
    · rcases fine_cases hb with ⟨j, rfl⟩ | ⟨_, _, z, _⟩
      · cases h1; cases h2; simp [PyData.eqv]
      · cases z
    · cases z
  | k + 1, a, b, p, q, ha, hb, h1, h2 => by
    rcases fine_cases ha with ⟨i, rfl⟩ | ⟨_, xs, z, hx, e⟩
    · cases h1
      rcases fine_cases hb with ⟨j, rfl⟩ | ⟨_, ys, z, hy, e⟩
      · cases h2; simp [PyData.eqv]
      · cases z
        obtain ⟨qs, e2, _, _⟩ := fines_py k ys hy
        rcases e with rfl | rfl <;> simp only [D.py, e2, Option.some.injEq] at h2 <;> subst h2 <;> simp [PyData.eqv]
    · cases z
      obtain ⟨ps, e1, _, _⟩ := fines_py k xs hx
      rcases fine_cases hb with ⟨j, rfl⟩ | ⟨_, ys, z, hy, e'⟩
      · cases h2
        rcases e with rfl | rfl <;> simp only [D.py, e1, Option.some.injEq] at h1 <;> subst h1 <;> simp [PyData.eqv]
      · cases z
        obtain ⟨qs, e2, _, _⟩ := fines_py k ys hy
        have := fines_eq k (fine_eq k) xs ys ps qs hx hy e1 e2
        rcases e with rfl | rfl <;> rcases e' with rfl | rfl <;> simp only [D.py, e1, e2, Option.some.injEq] at h1 h2 <;> subst h1 h2 <;> simp [PyData.eqv, this]
theorem fine_shaped {k : Nat} (hk : k ≤ 64) {d : D} (h : D.fine k d = true) : ∃ q, d.py = some q ∧ SeqAt.shaped q = true := by
  obtain ⟨q, h1, h2, h3⟩ := fine_py k d h
  refine ⟨q, h1, ?_⟩
  simp only [SeqAt.shaped, h2, Bool.true_and, decide_eq_true_eq]
  omega
open Classical in
theorem eqv_fine (k : Nat) (hk : k ≤ 64) {a b : D} (ha : D.fine k a = true) (hb : D.fine k b = true) : D.eqv? a b = some (decide (a = b)) := by
  obtain ⟨p, h1, h2⟩ := fine_shaped hk ha
  obtain ⟨q, k1, k2⟩ := fine_shaped hk hb
  unfold D.eqv?
  rw [h1, k1]
  simp only [h2, k2, Bool.and_self, if_true, Option.some.injEq]
  have := fine_eq k a b p q ha hb h1 k1
  cases e : PyData.eqv p q with
  | true => rw [decide_eq_true (this.1 e)]
  | false => rw [decide_eq_false fun z => by rw [this.2 z] at e; cases e]
theorem has_any (k : Nat) {x : D} {p : PyData} (hx : D.fine k x = true) (h1 : x.py = some p) : ∀ (ys : List D) (qs : List PyData), D.fines k ys = true → D.pys ys = some qs → ((qs.any fun z => PyData.eqv z p) = true ↔ x ∈ ys)
  | [], qs, _, h => by cases h; simp
  | y :: ys, qs, hy, h => by
    simp only [D.fines, Bool.and_eq_true] at hy
    obtain ⟨q1, g1, _, _⟩ := fine_py k y hy.1
    obtain ⟨q2, g2, _, _⟩ := fines_py k ys hy.2
    simp only [D.pys, g1, g2, Option.some.injEq] at h
    subst h
    have e1 := fine_eq k y x q1 p hy.1 hx g1 h1
    rw [List.any_cons, Bool.or_eq_true, has_any k hx h1 ys q2 hy.2 g2, e1, List.mem_cons, eq_comm]
open Classical in
theorem has_fine (k : Nat) (hk : k < 64) {x : D} {ys : List D} (hx : D.fine k x = true) (hy : D.fines k ys = true) : D.has? x (.lst ys) = some (decide (x ∈ ys)) := by
  obtain ⟨p, h1, h2⟩ := fine_shaped (Nat.le_of_lt hk) hx
  obtain ⟨qs, k1, k2, k3⟩ := fines_py k ys hy
  have hs : SeqAt.shaped (.list qs) = true := by
    have : (PyData.list qs).depth ≤ 64 := by simp only [PyData.depth]; omega
    simp only [SeqAt.shaped, PyData.canLay0, k2, Bool.true_and, decide_eq_true_eq]
    exact this
  unfold D.has?
  have e : D.py (.lst ys) = some (.list qs) := by simp [D.py, k1]
  rw [h1, e]
  simp only [h2, hs, Bool.and_self, if_true, Option.some.injEq]
  have := has_any k hx h1 ys qs hy k1
  cases e : (qs.any fun z => PyData.eqv z p) with
  | true => rw [decide_eq_true (this.1 e)]
  | false => rw [decide_eq_false fun z => by rw [this.2 z] at e; cases e]
@[simp] theorem run_eq_int (i j : Int) : Cop.run .eq (.int i) (.int j) = some (decide (i = j)) := by
  show D.eqv? (.int i) (.int j) = _
  have := eqv_fine 0 (by omega) (a := .int i) (b := .int j) (by simp [D.fine]) (by simp [D.fine])
  rw [this]; congr 1; rw [Bool.eq_iff_iff]; simp
@[simp] theorem run_ne_int (i j : Int) : Cop.run .ne (.int i) (.int j) = some (decide (i ≠ j)) := by
  show (D.eqv? (.int i) (.int j)).map _ = _
  have := run_eq_int i j
  change D.eqv? (.int i) (.int j) = _ at this
  rw [this]; simp
@[simp] theorem run_lt_int (i j : Int) : Cop.run .lt (.int i) (.int j) = some (decide (i < j)) := (rfl)
@[simp] theorem run_le_int (i j : Int) : Cop.run .le (.int i) (.int j) = some (decide (i ≤ j)) := (rfl)
@[simp] theorem run_gt_int (i j : Int) : Cop.run .gt (.int i) (.int j) = some (decide (j < i)) := (rfl)
@[simp] theorem run_ge_int (i j : Int) : Cop.run .ge (.int i) (.int j) = some (decide (j ≤ i)) := (rfl)
@[simp] theorem run_eq_bl (a b : Bool) : Cop.run .eq (.bl a) (.bl b) = some (a == b) := by cases a <;> cases b <;> decide
theorem TI_inj {v w : List Int} : (TI v = TI w) ↔ v = w := by
  constructor
  · intro h
    injection h with h
    exact List.map_inj_right (fun a b h => by injection h) |>.1 h
  · rintro rfl; rfl
theorem fines_IL (k : Nat) (v : List Int) : D.fines k (IL v) = true := by
  rw [fines_iff]
  intro x hx
  obtain ⟨i, _, rfl⟩ := List.mem_map.1 hx
  cases k <;> simp [D.fine]
theorem fine_TI (k : Nat) (v : List Int) : D.fine (k + 1) (TI v) = true := by simp only [D.fine]; exact fines_IL k v
theorem fines_TIs (k : Nat) (vs : List (List Int)) : D.fines (k + 1) (TIs vs) = true := by
  rw [fines_iff]
  intro x hx
  obtain ⟨v, _, rfl⟩ := List.mem_map.1 hx
  exact fine_TI k v
theorem mem_TIs {v : List Int} {vs : List (List Int)} : TI v ∈ TIs vs ↔ v ∈ vs := by
  constructor
  · intro h
    obtain ⟨w, hw, e⟩ := List.mem_map.1 h
    rwa [← TI_inj.1 e]
  · intro h; exact List.mem_map.2 ⟨v, h, rfl⟩
theorem TIs_inj {v w : List (List Int)} : (TIs v = TIs w) ↔ v = w := by
  constructor
  · intro h
    exact List.map_inj_right (fun a b h => TI_inj.1 h) |>.1 h
  · rintro rfl; rfl
theorem atI_nat {α : Type} {xs : List α} {k : Nat} (h : k < xs.length) : L2.atI xs (k : Int) = some xs[k] := by
  simp [L2.atI, L2.ixN, h]
@[simp] theorem sub_tup (xs : List D) (i : Int) : D.sub (.tup xs) (.int i) = L2.atI xs i := (rfl)
@[simp] theorem sub_lst (xs : List D) (i : Int) : D.sub (.lst xs) (.int i) = L2.atI xs i := (rfl)
theorem subM_tup (M : Mem) (xs : List D) (i : D) : subM M (.tup xs) i = D.sub (.tup xs) i := (rfl)
theorem subM_lst (M : Mem) (xs : List D) (i : D) : subM M (.lst xs) i = D.sub (.lst xs) i := (rfl)
theorem atI_IL {v : List Int} {k : Nat} (h : k < v.length) : L2.atI (IL v) (k : Int) = some (.int (v.getD k 0)) := by
  rw [atI_nat (by simpa using h)]; simp [h]
theorem atI_TIs {vs : List (List Int)} {k : Nat} (h : k < vs.length) : L2.atI (TIs vs) (k : Int) = some (TI vs[k]) := by
  rw [atI_nat (by simpa using h)]; simp
end PC

namespace PC
abbrev Row := List Int
def e_ (v : Row) (i : Nat) : Int := v.getD i 0
def Vc (p : Int) (n : Nat) (v : Row) : Prop := v.length = n ∧ ∀ x ∈ v, 0 ≤ x ∧ x < p
def axp (p : Int) (a : Int) (v r : Row) : Row := List.zipWith (fun x y => (x + a * y) % p) v r
theorem Vc.get {p : Int} {n : Nat} {v : Row} (h : Vc p n v) {i : Nat} (hi : i < n) : 0 ≤ e_ v i ∧ e_ v i < p := by
  have hl : i < v.length := by rw [h.1]; exact hi
  have := h.2 (v[i]) (List.getElem_mem hl)
  simpa [e_, hl] using this
theorem Vc.ext {p : Int} {n : Nat} {v w : Row} (h : Vc p n v) (k : Vc p n w) (e : ∀ i, i < n → e_ v i = e_ w i) : v = w := by
  apply List.ext_getElem (h.1.trans k.1.symm)
  intro i h1 h2
  have := e i (h.1 ▸ h1)
  simpa [e_, h1, h2] using this
theorem Vc.emod {p : Int} {n : Nat} {v : Row} (h : Vc p n v) {i : Nat} (hi : i < n) : e_ v i % p = e_ v i := by
  obtain ⟨h1, h2⟩ := h.get hi
  exact Int.emod_eq_of_lt h1 h2
theorem vc_zero {p : Int} {n : Nat} (hp : 0 < p) : Vc p n (List.replicate n 0) := ⟨by simp, fun x hx => by obtain ⟨_, rfl⟩ := List.mem_replicate.1 hx; omega⟩
theorem e_zero (n i : Nat) : e_ (List.replicate n 0) i = 0 := by
  simp only [e_, List.getD_eq_getElem?_getD, List.getElem?_replicate]; split <;> rfl
theorem axp_len {p a : Int} {n : Nat} {v r : Row} (h : v.length = n) (k : r.length = n) : (axp p a v r).length = n := by simp [axp, h, k]
theorem e_axp {p a : Int} {n : Nat} {v r : Row} (h : v.length = n) (k : r.length = n) {i : Nat} (hi : i < n) : e_ (axp p a v r) i = (e_ v i + a * e_ r i) % p := by
  have h1 : i < v.length := by omega
  have h2 : i < r.length := by omega
  have h3 : i < (axp p a v r).length := by rw [axp_len h k]; exact hi
  simp [e_, h1, h2, axp, List.getElem?_zipWith]
theorem vc_axp {p a : Int} {n : Nat} {v r : Row} (hp : 0 < p) (h : v.length = n) (k : r.length = n) : Vc p n (axp p a v r) := by
  refine ⟨axp_len h k, fun x hx => ?_⟩
  obtain ⟨i, hi, rfl⟩ := List.mem_iff_getElem.1 hx
  simp only [axp, List.getElem_zipWith]
  exact ⟨Int.emod_nonneg _ (by omega), Int.emod_lt_of_pos _ hp⟩
/-- the tool for equal rows -/
theorem axp_eq {p : Int} {n : Nat} {v w : Row} (h : Vc p n v) (k : Vc p n w) (e : ∀ i, i < n → (e_ v i - e_ w i) % p = 0) : v = w :=
  h.ext k fun i hi => by
    have := Int.emod_eq_emod_iff_emod_sub_eq_zero.2 (e i hi)
    rwa [h.emod hi, k.emod hi] at this
inductive Sp (p : Int) (n : Nat) (R : List Row) : Row → Prop
  | zero : Sp p n R (List.replicate n 0)
  | step (a : Int) {v r : Row} : Sp p n R v → r ∈ R → Sp p n R (axp p a v r)
def Vcs (p : Int) (n : Nat) (R : List Row) : Prop := ∀ r ∈ R, Vc p n r
section
variable {p : Int} {n : Nat} {R R' : List Row}
theorem Sp.vc (hp : 0 < p) (hR : Vcs p n R) {v : Row} (h : Sp p n R v) : Vc p n v := by
  induction h with
  | zero => exact vc_zero hp
  | step a _ hr ih => exact vc_axp hp ih.1 (hR _ hr).1
theorem axp_zero (hp : 0 < p) {b : Int} {v : Row} (hv : Vc p n v) : axp p b v (List.replicate n 0) = v := by
  have hz := vc_zero (n := n) hp
  exact (vc_axp hp hv.1 hz.1).ext hv fun i hi => by rw [e_axp hv.1 hz.1 hi, e_zero]; simpa using hv.emod hi
theorem zero_axp (hp : 0 < p) {v : Row} (hv : Vc p n v) : axp p 1 (List.replicate n 0) v = v := by
  have hz := vc_zero (n := n) hp
  exact (vc_axp hp hz.1 hv.1).ext hv fun i hi => by rw [e_axp hz.1 hv.1 hi, e_zero]; simpa using hv.emod hi
theorem emod_cg {a b : Int} (k : Int) (h : a = b + p * k) : a % p = b % p := by
  rw [h]; simp
theorem axp_axp (hp : 0 < p) {a b : Int} {v w r : Row} (hv : Vc p n v) (hw : Vc p n w) (hr : Vc p n r) : axp p b v (axp p a w r) = axp p (b * a) (axp p b v w) r := by
  have h1 := vc_axp (a := a) hp hw.1 hr.1
  have h2 := vc_axp (a := b) hp hv.1 hw.1
  refine (vc_axp hp hv.1 h1.1).ext (vc_axp hp h2.1 hr.1) fun i hi => ?_
  rw [e_axp hv.1 h1.1 hi, e_axp hw.1 hr.1 hi, e_axp h2.1 hr.1 hi, e_axp hv.1 hw.1 hi]
  rw [Int.emod_add_emod, Int.add_emod, Int.mul_emod, Int.emod_emod, ← Int.mul_emod, ← Int.add_emod]
  congr 1
  grind
theorem axp_swap (hp : 0 < p) {a b : Int} {v r s : Row} (hv : Vc p n v) (hr : Vc p n r) (hs : Vc p n s) : axp p a (axp p b v s) r = axp p b (axp p a v r) s := by
  have h1 := vc_axp (a := b) hp hv.1 hs.1
  have h2 := vc_axp (a := a) hp hv.1 hr.1
  refine (vc_axp hp h1.1 hr.1).ext (vc_axp hp h2.1 hs.1) fun i hi => ?_
  rw [e_axp h1.1 hr.1 hi, e_axp hv.1 hs.1 hi, e_axp h2.1 hs.1 hi, e_axp hv.1 hr.1 hi, Int.emod_add_emod, Int.emod_add_emod]
  congr 1
  omega
theorem axp_same (hp : 0 < p) {a b : Int} {v r : Row} (hv : Vc p n v) (hr : Vc p n r) : axp p a (axp p b v r) r = axp p (a + b) v r := by
  have h1 := vc_axp (a := b) hp hv.1 hr.1
  refine (vc_axp hp h1.1 hr.1).ext (vc_axp hp hv.1 hr.1) fun i hi => ?_
  rw [e_axp h1.1 hr.1 hi, e_axp hv.1 hr.1 hi, e_axp hv.1 hr.1 hi, Int.emod_add_emod]
  congr 1
  grind
theorem axp_mod (hp : 0 < p) {a : Int} {v r : Row} (hv : Vc p n v) (hr : Vc p n r) : axp p (a % p) v r = axp p a v r := by
  refine (vc_axp hp hv.1 hr.1).ext (vc_axp hp hv.1 hr.1) fun i hi => ?_
  rw [e_axp hv.1 hr.1 hi, e_axp hv.1 hr.1 hi, Int.add_emod, Int.mul_emod, Int.emod_emod, ← Int.mul_emod, ← Int.add_emod]
theorem axp_none (hp : 0 < p) {v r : Row} (hv : Vc p n v) (hr : Vc p n r) : axp p 0 v r = v := by
  refine (vc_axp hp hv.1 hr.1).ext hv fun i hi => ?_
  rw [e_axp hv.1 hr.1 hi]
  simpa using hv.emod hi
theorem Sp.add (hp : 0 < p) (hR : Vcs p n R) {v w : Row} (b : Int) (hv : Sp p n R v) (hw : Sp p n R w) : Sp p n R (axp p b v w) := by
  induction hw with
  | zero => rw [axp_zero hp (hv.vc hp hR)]; exact hv
  | step a h1 hr ih =>
    rw [axp_axp hp (hv.vc hp hR) (h1.vc hp hR) (hR _ hr)]
    exact .step _ ih hr
theorem Sp.of_mem (hp : 0 < p) (hR : Vcs p n R) {r : Row} (h : r ∈ R) : Sp p n R r := by
  have := Sp.step (p := p) (n := n) 1 .zero h
  rwa [zero_axp hp (hR r h)] at this
theorem Sp.sub (hp : 0 < p) (hR' : Vcs p n R') (h : ∀ r ∈ R, Sp p n R' r) {v : Row} (hv : Sp p n R v) : Sp p n R' v := by
  induction hv with
  | zero => exact .zero
  | step a _ hr ih => exact ih.add hp hR' _ (h _ hr)
theorem Sp.mono (h : ∀ r ∈ R, r ∈ R') {v : Row} (hv : Sp p n R v) : Sp p n R' v := by
  induction hv with
  | zero => exact .zero
  | step a _ hr ih => exact .step a ih (h _ hr)
theorem Sp.nil_iff {v : Row} (hv : Sp p n [] v) : v = List.replicate n 0 := by
  cases hv with
  | zero => rfl
  | step a _ hr => cases hr
theorem Sp.cons_out (hp : 0 < p) {r : Row} (hr : Vc p n r) (hR : Vcs p n R) {v : Row} (hv : Sp p n (r :: R) v) : ∃ a w, 0 ≤ a ∧ a < p ∧ Sp p n R w ∧ v = axp p a w r := by
  induction hv with
  | zero => exact ⟨0, _, by omega, hp, .zero, by rw [axp_none hp (vc_zero hp) hr]⟩
  | step b h1 hs ih =>
    obtain ⟨a, w, h2, h3, h4, rfl⟩ := ih
    rcases List.mem_cons.1 hs with rfl | hs
    · refine ⟨(b + a) % p, w, Int.emod_nonneg _ (by omega), Int.emod_lt_of_pos _ hp, h4, ?_⟩
      rw [axp_same hp (h4.vc hp hR) hr, axp_mod hp (h4.vc hp hR) hr]
    · exact ⟨a, _, h2, h3, .step b h4 hs, by rw [axp_swap hp (h4.vc hp hR) (hR _ hs) hr]⟩
theorem Sp.cons_in {r : Row} {a : Int} {w : Row} (h : Sp p n R w) : Sp p n (r :: R) (axp p a w r) := .step a (h.mono fun _ h => List.mem_cons_of_mem _ h) (List.mem_cons_self ..)
/-- what vanishes on the rows vanishes on the span -/
theorem Sp.van (hp : 0 < p) (hR : Vcs p n R) {c : Nat} (hc : c < n) (h : ∀ r ∈ R, e_ r c = 0) {v : Row} (hv : Sp p n R v) : e_ v c = 0 := by
  induction hv with
  | zero => exact e_zero _ _
  | step a h1 hr ih => rw [e_axp (h1.vc hp hR).1 (hR _ hr).1 hc, ih, h _ hr]; simp
end
def Fld (p : Int) : Prop := 1 < p ∧ ∀ k : Nat, k < p.toNat → k ≠ 0 → ∃ c, c < p.toNat ∧ (k * c) % p.toNat = 1
theorem Fld.pos {p : Int} (h : Fld p) : 0 < p := by have := h.1; omega
theorem Fld.inv {p : Int} (h : Fld p) {a : Int} (ha : a % p ≠ 0) : ∃ c, 0 < c ∧ c < p ∧ (a * c) % p = 1 := by
  have hp := h.pos
  have h0 := Int.emod_nonneg a (by omega : p ≠ 0)
  have h1 := Int.emod_lt_of_pos a hp
  obtain ⟨c, c1, c2⟩ := h.2 (a % p).toNat (by omega) (by omega)
  have e : ((a % p).toNat : Int) = a % p := by omega
  have ep : ((p.toNat : Nat) : Int) = p := by omega
  have c3 : (a * c) % p = 1 := by
    have := congrArg (Nat.cast (R := Int)) c2
    simp only [Int.natCast_emod, Int.natCast_mul, e, ep] at this
    rw [Int.mul_emod, Int.emod_emod, ← Int.mul_emod] at this
    exact this
  refine ⟨c, ?_, by omega, c3⟩
  have : c ≠ 0 := by
    intro z
    rw [z] at c3
    simp at c3
  omega
section
variable {p : Int} {n : Nat} {R R' : List Row}
/-- two ways to a word -/
theorem two_ways (hf : Fld p) (hR : Vcs p n R) {r w w' : Row} {a b : Int} (hr : Vc p n r) (hw : Sp p n R w) (hw' : Sp p n R w') (hn : ¬ Sp p n R r) (ha : 0 ≤ a ∧ a < p) (hb : 0 ≤ b ∧ b < p)
    (e : axp p a w r = axp p b w' r) : a = b ∧ w = w' := by
  have hp := hf.pos
  have vw := hw.vc hp hR
  have vw' := hw'.vc hp hR
  have key : ∀ i, i < n → (e_ w i + a * e_ r i) % p = (e_ w' i + b * e_ r i) % p := fun i hi => by
    rw [← e_axp vw.1 hr.1 hi, ← e_axp vw'.1 hr.1 hi, e]
  by_cases hab : a = b
  · subst hab
    refine ⟨rfl, axp_eq vw vw' fun i hi => ?_⟩
    have := Int.emod_eq_emod_iff_emod_sub_eq_zero.1 (key i hi)
    rw [← this]; congr 1; omega
  · exfalso
    apply hn
    have hne : (a - b) % p ≠ 0 := fun z => by
      have := Int.emod_eq_emod_iff_emod_sub_eq_zero.2 z
      rw [Int.emod_eq_of_lt ha.1 ha.2, Int.emod_eq_of_lt hb.1 hb.2] at this
      exact hab this
    obtain ⟨c, c0, c1, c2⟩ := hf.inv hne
    have q : Sp p n R (axp p c (axp p (-c) (List.replicate n 0) w) w') := (Sp.add hp hR _ .zero hw).add hp hR _ hw'
    have hz := vc_zero (n := n) hp
    have v1 := vc_axp (a := -c) hp hz.1 vw.1
    have : r = axp p c (axp p (-c) (List.replicate n 0) w) w' := by
      refine axp_eq hr (q.vc hp hR) fun i hi => ?_
      rw [e_axp v1.1 vw'.1 hi, e_axp hz.1 vw.1 hi, e_zero, Int.emod_add_emod, Int.sub_emod, Int.emod_emod, ← Int.sub_emod]
      have k := Int.emod_eq_emod_iff_emod_sub_eq_zero.1 (key i hi)
      obtain ⟨k1, k2⟩ := Int.dvd_of_emod_eq_zero k
      have k3 : (a - b) * c = 1 + p * ((a - b) * c / p) := by
        have := Int.emod_add_mul_ediv ((a - b) * c) p
        rw [c2] at this; omega
      generalize (a - b) * c / p = m at k3
      apply Int.emod_eq_zero_of_dvd
      refine ⟨c * k1 - m * e_ r i, ?_⟩
      grind
    rw [this]; exact q
end
def spanF (p : Int) (n : Nat) (rows : List Row) : List Row :=
  rows.foldl (fun found row => if row ∈ found then found else found.flatMap fun w => (List.range p.toNat).map fun (a : Nat) => axp p a w row) [List.replicate n 0]
theorem spanF_go {p : Int} {n : Nat} (hf : Fld p) : ∀ (rows : List Row) (R found : List Row), Vcs p n R → Vcs p n rows → (∀ v, v ∈ found ↔ Sp p n R v) → found.Nodup →
    (∀ v, v ∈ rows.foldl (fun found row => if row ∈ found then found else found.flatMap fun w => (List.range p.toNat).map fun (a : Nat) => axp p a w row) found ↔ Sp p n (rows ++ R) v) ∧
    (rows.foldl (fun found row => if row ∈ found then found else found.flatMap fun w => (List.range p.toNat).map fun (a : Nat) => axp p a w row) found).Nodup ∧
    (rows.foldl (fun found row => if row ∈ found then found else found.flatMap fun w => (List.range p.toNat).map fun (a : Nat) => axp p a w row) found).length ≤ p.toNat ^ rows.length * found.length
  | [], R, found, _, _, hm, hn => ⟨hm, hn, by simp⟩
  | row :: rows, R, found, hR, hrows, hm, hn => by
    have hp := hf.pos
    have hr : Vc p n row := hrows _ (List.mem_cons_self ..)
    have hrs : Vcs p n rows := fun r h => hrows r (List.mem_cons_of_mem _ h)
    have perm : ∀ v, Sp p n (rows ++ row :: R) v ↔ Sp p n (row :: rows ++ R) v := fun v =>
      ⟨fun h => h.mono fun r h => by simp at h ⊢; rcases h with h | h | h <;> simp [h], fun h => h.mono fun r h => by simp at h ⊢; rcases h with h | h | h <;> simp [h]⟩
    rw [List.foldl_cons]
    by_cases hin : row ∈ found
    · rw [if_pos hin]
      obtain ⟨h1, h2, h3⟩ := spanF_go hf rows (row :: R) found (fun r h => by rcases List.mem_cons.1 h with rfl | h; exact hr; exact hR _ h) hrs (fun v => by
        rw [hm]
        refine ⟨fun h => h.mono fun _ h => List.mem_cons_of_mem _ h, fun h => h.sub hp hR fun r hr' => ?_⟩
        rcases List.mem_cons.1 hr' with rfl | hr'
        · exact (hm _).1 hin
        · exact .of_mem hp hR hr') hn
      refine ⟨fun v => (h1 v).trans (perm v), h2, Nat.le_trans h3 ?_⟩
      apply Nat.mul_le_mul_right
      rw [List.length_cons, Nat.pow_succ]
      exact Nat.le_mul_of_pos_right _ (by omega)
    · rw [if_neg hin]
      have hns : ¬ Sp p n R row := fun h => hin ((hm _).2 h)
      obtain ⟨h1, h2, h3⟩ := spanF_go hf rows (row :: R) (found.flatMap fun w => (List.range p.toNat).map fun (a : Nat) => axp p a w row) (fun r h => by rcases List.mem_cons.1 h with rfl | h; exact hr; exact hR _ h) hrs (fun v => by
        rw [List.mem_flatMap]
        constructor
        · rintro ⟨w, hw, h⟩
          obtain ⟨a, _, rfl⟩ := List.mem_map.1 h
          exact .cons_in ((hm w).1 hw)
        · intro h
          obtain ⟨a, w, a0, a1, h2, rfl⟩ := h.cons_out hp hr hR
          refine ⟨w, (hm w).2 h2, List.mem_map.2 ⟨a.toNat, by simp; omega, ?_⟩⟩
          rw [Int.toNat_of_nonneg a0]) (by
        unfold List.Nodup
        rw [List.pairwise_flatMap]
        constructor
        · intro w hw
          rw [List.pairwise_map]
          apply List.Pairwise.imp_of_mem _ List.nodup_range
          intro a b ha hb hab e
          simp only [List.mem_range] at ha hb
          have := (two_ways hf hR hr ((hm w).1 hw) ((hm w).1 hw) hns ⟨by omega, by omega⟩ ⟨by omega, by omega⟩ e).1
          omega
        · apply List.Pairwise.imp_of_mem _ hn
          intro w w' hw hw' hne x hx y hy e
          obtain ⟨a, ha, rfl⟩ := List.mem_map.1 hx
          obtain ⟨b, hb, rfl⟩ := List.mem_map.1 hy
          simp only [List.mem_range] at ha hb
          exact hne (two_ways hf hR hr ((hm w).1 hw) ((hm w').1 hw') hns ⟨by omega, by omega⟩ ⟨by omega, by omega⟩ e).2)
      refine ⟨fun v => (h1 v).trans (perm v), h2, Nat.le_trans h3 ?_⟩
      simp only [List.length_flatMap, List.length_map, List.length_range, List.length_cons, Nat.pow_succ]
      rw [List.map_const', List.sum_replicate_nat, Nat.mul_assoc, Nat.mul_comm found.length]
      exact Nat.le_refl _
theorem mem_spanF {p : Int} {n : Nat} (hf : Fld p) {rows : List Row} (h : Vcs p n rows) (v : Row) : v ∈ spanF p n rows ↔ Sp p n rows v := by
  have := (spanF_go hf rows [] [List.replicate n 0] (fun _ h => nomatch h) h (fun v => by
    rw [List.mem_singleton]
    exact ⟨fun h => h ▸ .zero, fun h => h.nil_iff⟩) (by simp)).1 v
  rw [List.append_nil] at this
  exact this
theorem nodup_spanF {p : Int} {n : Nat} (hf : Fld p) {rows : List Row} (h : Vcs p n rows) : (spanF p n rows).Nodup ∧ (spanF p n rows).length ≤ p.toNat ^ rows.length := by
  have := (spanF_go hf rows [] [List.replicate n 0] (fun _ h => nomatch h) h (fun v => by
    rw [List.mem_singleton]
    exact ⟨fun h => h ▸ .zero, fun h => h.nil_iff⟩) (by simp)).2
  rw [List.length_singleton, Nat.mul_one] at this
  exact this
theorem ltI_irf : ∀ a : Row, D.ltI a a = false
  | [] => rfl
  | x :: r => by simp [D.ltI, ltI_irf r]
theorem ltI_asy : ∀ a b : Row, D.ltI a b = true → D.ltI b a = false
  | [], [], h => by cases h
  | [], _ :: _, _ => rfl
  | _ :: _, [], h => by cases h
  | x :: r, y :: s, h => by
    simp only [D.ltI, Bool.or_eq_true, Bool.and_eq_true, Bool.not_eq_true', decide_eq_true_eq, decide_eq_false_iff_not, Bool.or_eq_false_iff, Bool.and_eq_false_iff, Bool.not_eq_false'] at h ⊢
    rcases h with h | ⟨h1, h2⟩
    · exact ⟨by omega, .inl h⟩
    · exact ⟨h1, .inr (ltI_asy r s h2)⟩
theorem ltI_tri : ∀ a b : Row, D.ltI a b = false → D.ltI b a = false → a = b
  | [], [], _, _ => rfl
  | [], _ :: _, h, _ => by cases h
  | _ :: _, [], _, h => by cases h
  | x :: r, y :: s, h, k => by
    simp only [D.ltI, Bool.or_eq_false_iff, Bool.and_eq_false_iff, Bool.not_eq_false', decide_eq_true_eq, decide_eq_false_iff_not] at h k
    obtain ⟨h1, h2⟩ := h
    obtain ⟨k1, k2⟩ := k
    have : x = y := by omega
    subst this
    rw [ltI_tri r s (h2.resolve_left (by omega)) (k2.resolve_left (by omega))]
theorem ltI_tr : ∀ a b c : Row, D.ltI a b = true → D.ltI b c = true → D.ltI a c = true
  | [], [], _, h, _ => by cases h
  | [], _ :: _, [], _, h => by cases h
  | [], _ :: _, _ :: _, _, _ => rfl
  | _ :: _, [], _, h, _ => by cases h
  | _ :: _, _ :: _, [], _, h => by cases h
  | x :: r, y :: s, z :: t, h, k => by
    simp only [D.ltI, Bool.or_eq_true, Bool.and_eq_true, Bool.not_eq_true', decide_eq_true_eq, decide_eq_false_iff_not] at h k ⊢
    rcases h with h | ⟨h1, h2⟩ <;> rcases k with k | ⟨k1, k2⟩
    · exact .inl (by omega)
    · exact .inl (by omega)
    · exact .inl (by omega)
    · exact .inr ⟨by omega, ltI_tr r s t h2 k2⟩
theorem mem_ins {α : Type} {lt : α → α → Bool} {x y : α} : ∀ (l : List α), y ∈ ins lt x l ↔ y = x ∨ y ∈ l
  | [] => by simp [ins]
  | z :: l => by
    rw [ins]
    split
    · simp
    · rw [List.mem_cons, mem_ins l, List.mem_cons]
      constructor
      · rintro (h | h | h)
        · exact .inr (.inl h)
        · exact .inl h
        · exact .inr (.inr h)
      · rintro (h | h | h)
        · exact .inr (.inl h)
        · exact .inl h
        · exact .inr (.inr h)
theorem mem_isort {α : Type} {lt : α → α → Bool} {y : α} : ∀ (l : List α), y ∈ isort lt l ↔ y ∈ l
  | [] => by simp [isort]
  | x :: l => by rw [isort, mem_ins, mem_isort l, List.mem_cons]
theorem len_ins {α : Type} {lt : α → α → Bool} {x : α} : ∀ (l : List α), (ins lt x l).length = l.length + 1
  | [] => rfl
  | z :: l => by
    rw [ins]
    split
    · rfl
    · rw [List.length_cons, len_ins l, List.length_cons]
theorem len_isort {α : Type} {lt : α → α → Bool} : ∀ (l : List α), (isort lt l).length = l.length
  | [] => rfl
  | x :: l => by rw [isort, len_ins, len_isort l, List.length_cons]
theorem ins_sorted {x : Row} : ∀ (l : List Row), x ∉ l → l.Pairwise (fun a b => D.ltI a b = true) → (ins D.ltI x l).Pairwise (fun a b => D.ltI a b = true)
  | [], _, _ => by simp [ins]
  | y :: l, hx, h => by
    rw [ins]
    rw [List.pairwise_cons] at h
    split
    · rename_i e
      rw [List.pairwise_cons, List.pairwise_cons]
      exact ⟨fun z hz => by rcases List.mem_cons.1 hz with rfl | hz; exact e; exact ltI_tr _ _ _ e (h.1 z hz), h⟩
    · rename_i e
      rw [List.pairwise_cons]
      refine ⟨fun z hz => ?_, ins_sorted l (fun q => hx (List.mem_cons_of_mem _ q)) h.2⟩
      rcases (mem_ins l).1 hz with rfl | hz
      · cases e2 : D.ltI y z with
        | true => rfl
        | false => exact (hx (by rw [ltI_tri z y (by simpa using e) e2]; exact List.mem_cons_self ..)).elim
      · exact h.1 z hz
theorem isort_sorted : ∀ (l : List Row), l.Nodup → (isort D.ltI l).Pairwise (fun a b => D.ltI a b = true)
  | [], _ => by simp [isort]
  | x :: l, h => by
    rw [isort]
    rw [List.nodup_cons] at h
    exact ins_sorted _ (fun q => h.1 ((mem_isort l).1 q)) (isort_sorted l h.2)
theorem sorted_one {α : Type} {lt : α → α → Prop} (irr : ∀ a, ¬ lt a a) (asy : ∀ a b, lt a b → ¬ lt b a) : ∀ (l k : List α), l.Pairwise lt → k.Pairwise lt → (∀ x, x ∈ l ↔ x ∈ k) → l = k
  | [], [], _, _, _ => rfl
  | [], y :: k, _, _, h => by have := (h y).2 (List.mem_cons_self ..); cases this
  | x :: l, [], _, _, h => by have := (h x).1 (List.mem_cons_self ..); cases this
  | x :: l, y :: k, hl, hk, h => by
    rw [List.pairwise_cons] at hl hk
    have e : x = y := by
      rcases List.mem_cons.1 ((h x).1 (List.mem_cons_self ..)) with e | e
      · exact e
      · rcases List.mem_cons.1 ((h y).2 (List.mem_cons_self ..)) with q | q
        · exact q.symm
        · exact (asy _ _ (hk.1 x e) (hl.1 y q)).elim
    subst e
    rw [sorted_one irr asy l k hl.2 hk.2 fun z => ?_]
    constructor
    · intro hz
      rcases List.mem_cons.1 ((h z).1 (List.mem_cons_of_mem _ hz)) with rfl | q
      · exact (irr _ (hl.1 _ hz)).elim
      · exact q
    · intro hz
      rcases List.mem_cons.1 ((h z).2 (List.mem_cons_of_mem _ hz)) with rfl | q
      · exact (irr _ (hk.1 _ hz)).elim
      · exact q
theorem isort_one {l k : List Row} (hl : l.Nodup) (hk : k.Nodup) (h : ∀ x, x ∈ l ↔ x ∈ k) : isort D.ltI l = isort D.ltI k :=
  sorted_one (lt := fun a b => D.ltI a b = true) (fun a h => by rw [ltI_irf] at h; cases h) (fun a b h k => by rw [ltI_asy a b h] at k; cases k) _ _ (isort_sorted l hl) (isort_sorted k hk) fun x => by rw [mem_isort, mem_isort]; exact h x
abbrev Hd := Row × Nat
def rws (F : List Hd) : List Row := F.map (·.1)
structure Rf (p : Int) (n : Nat) (F : List Hd) : Prop where
  asc : F.Pairwise fun x y => x.2 < y.2
  vc : ∀ x ∈ F, Vc p n x.1
  lt : ∀ x ∈ F, x.2 < n
  one : ∀ x ∈ F, e_ x.1 x.2 = 1
  low : ∀ x ∈ F, ∀ c, c < x.2 → e_ x.1 c = 0
  off : ∀ x ∈ F, ∀ y ∈ F, y.2 ≠ x.2 → e_ y.1 x.2 = 0
section
variable {p : Int} {n : Nat} {R R' : List Row}
theorem Rf.vcs {F : List Hd} (h : Rf p n F) : Vcs p n (rws F) := fun r hr => by
  obtain ⟨x, hx, rfl⟩ := List.mem_map.1 hr
  exact h.vc x hx
theorem Rf.sub {F G : List Hd} (h : Rf p n F) (s : G.Sublist F) : Rf p n G where
  asc := h.asc.sublist s
  vc := fun x hx => h.vc x (s.mem hx)
  lt := fun x hx => h.lt x (s.mem hx)
  one := fun x hx => h.one x (s.mem hx)
  low := fun x hx => h.low x (s.mem hx)
  off := fun x hx y hy => h.off x (s.mem hx) y (s.mem hy)
theorem Rf.head_inj {F : List Hd} (h : Rf p n F) {x y : Hd} (hx : x ∈ F) (hy : y ∈ F) (e : x.2 = y.2) : x = y := by
  obtain ⟨i, hi, rfl⟩ := List.mem_iff_getElem.1 hx
  obtain ⟨j, hj, rfl⟩ := List.mem_iff_getElem.1 hy
  have := List.pairwise_iff_getElem.1 h.asc
  rcases Nat.lt_trichotomy i j with q | q | q
  · have := this i j hi hj q; omega
  · subst q; rfl
  · have := this j i hj hi q; omega
theorem Rf.coords (hp : 0 < p) : ∀ {F : List Hd}, Rf p n F → ∀ {u : Row}, Sp p n (rws F) u → Sp p n (rws (F.filter fun x => e_ u x.2 != 0)) u
  | [], _, u, hu => hu
  | x :: F, h, u, hu => by
    have hF : Rf p n F := h.sub (List.sublist_cons_self ..)
    obtain ⟨a, w, a0, a1, hw, rfl⟩ := hu.cons_out hp (h.vc x (List.mem_cons_self ..)) hF.vcs
    have vx := h.vc x (List.mem_cons_self ..)
    have vw := hw.vc hp hF.vcs
    have lx := h.lt x (List.mem_cons_self ..)
    have wx : e_ w x.2 = 0 := hw.van hp hF.vcs lx fun r hr => by
      obtain ⟨y, hy, rfl⟩ := List.mem_map.1 hr
      refine h.off x (List.mem_cons_self ..) y (List.mem_cons_of_mem _ hy) ?_
      have := (List.pairwise_cons.1 h.asc).1 y hy
      omega
    have hx : e_ (axp p a w x.1) x.2 = a := by
      rw [e_axp vw.1 vx.1 lx, wx, h.one x (List.mem_cons_self ..)]
      simp only [Int.zero_add, Int.mul_one]
      exact Int.emod_eq_of_lt a0 a1
    have hy : ∀ y ∈ F, e_ (axp p a w x.1) y.2 = e_ w y.2 := fun y hy => by
      have ly := hF.lt y hy
      rw [e_axp vw.1 vx.1 ly, h.off y (List.mem_cons_of_mem _ hy) x (List.mem_cons_self ..) (by have := (List.pairwise_cons.1 h.asc).1 y hy; omega)]
      simp only [Int.mul_zero, Int.add_zero]
      exact vw.emod ly
    have ih := hF.coords hp hw
    have ef : F.filter (fun x_1 => e_ (axp p a w x.1) x_1.2 != 0) = F.filter fun x => e_ w x.2 != 0 :=
      List.filter_congr fun y q => by rw [hy y q]
    rw [List.filter_cons, ef, hx]
    by_cases ha : a = 0
    · subst ha
      simp only [bne_self_eq_false, Bool.false_eq_true, if_false]
      rw [axp_none hp vw vx]
      exact ih
    · rw [if_pos (by simpa using ha)]
      exact .cons_in ih
theorem Rf.zero (hp : 0 < p) {F : List Hd} (h : Rf p n F) {u : Row} (hu : Sp p n (rws F) u) (e : ∀ x ∈ F, e_ u x.2 = 0) : u = List.replicate n 0 := by
  have := h.coords hp hu
  rw [List.filter_eq_nil_iff.2 (fun x hx => by rw [e x hx]; simp)] at this
  exact this.nil_iff
theorem Rf.heads {A B : List Hd} (hp : 0 < p) (hA : Rf p n A) (hB : Rf p n B) (h : ∀ v, Sp p n (rws A) v → Sp p n (rws B) v) {x : Hd} (hx : x ∈ A) : ∃ y ∈ B, y.2 = x.2 := by
  apply Classical.byContradiction
  intro hn
  have hu : Sp p n (rws B) x.1 := h _ (.of_mem hp hA.vcs (List.mem_map.2 ⟨x, hx, rfl⟩))
  have h1 := hB.coords hp hu
  have h2 : Rf p n (B.filter fun y => e_ x.1 y.2 != 0) := hB.sub List.filter_sublist
  have := h1.van hp h2.vcs (hA.lt x hx) fun r hr => by
    obtain ⟨y, hy, rfl⟩ := List.mem_map.1 hr
    obtain ⟨hy1, hy2⟩ := List.mem_filter.1 hy
    refine hB.low y hy1 _ ?_
    rcases Nat.lt_trichotomy x.2 y.2 with q | q | q
    · exact q
    · exact (hn ⟨y, hy1, q.symm⟩).elim
    · rw [hA.low x hx _ q] at hy2
      simp at hy2
  rw [hA.one x hx] at this
  cases this
theorem Rf.one_ {A B : List Hd} (hp : 0 < p) (hA : Rf p n A) (hB : Rf p n B) (h : ∀ v, Sp p n (rws A) v ↔ Sp p n (rws B) v) : A = B := by
  have key : ∀ {A B : List Hd}, Rf p n A → Rf p n B → (∀ v, Sp p n (rws A) v ↔ Sp p n (rws B) v) → ∀ x ∈ A, x ∈ B := by
    intro A B hA hB h x hx
    obtain ⟨y, hy, e⟩ := hA.heads hp hB (fun v => (h v).1) hx
    have s1 : Sp p n (rws A) x.1 := .of_mem hp hA.vcs (List.mem_map.2 ⟨x, hx, rfl⟩)
    have s2 : Sp p n (rws A) y.1 := (h _).2 (.of_mem hp hB.vcs (List.mem_map.2 ⟨y, hy, rfl⟩))
    have vx := hA.vc x hx
    have vy := hB.vc y hy
    have z := hA.zero hp (s1.add hp hA.vcs (-1) s2) fun z hz => by
      rw [e_axp vx.1 vy.1 (hA.lt z hz)]
      by_cases q : z.2 = x.2
      · rw [q, hA.one x hx, ← e, hB.one y hy]; simp
      · obtain ⟨z', hz', e'⟩ := hA.heads hp hB (fun v => (h v).1) hz
        rw [hA.off z hz x hx (fun t => q t.symm), ← e', hB.off z' hz' y hy (by rw [e, e']; exact fun t => q t.symm)]; simp
    have : x.1 = y.1 := axp_eq vx vy fun i hi => by
      have := congrArg (e_ · i) z
      simp only [e_zero] at this
      rw [e_axp vx.1 vy.1 hi] at this
      rw [← this]; congr 1; omega
    rw [Prod.ext (this) e.symm]
    exact hy
  exact sorted_one (lt := fun x y : Hd => x.2 < y.2) (fun a => Nat.lt_irrefl _) (fun a b h k => by omega) _ _ hA.asc hB.asc fun x => ⟨key hA hB h x, key hB hA (fun v => (h v).symm) x⟩
end
end PC

namespace PC
def vsc (p a : Int) (v : Row) : Row := v.map fun x => x * a % p
def vcl (p : Int) (row head : Row) (at_ : Nat) : Row := if e_ row at_ = 0 then row else List.zipWith (fun x y => (x - e_ row at_ * y) % p) row head
section
variable {p : Int} {n : Nat} {R R' : List Row}
theorem vsc_eq (hp : 0 < p) {a : Int} {v : Row} (hv : v.length = n) : vsc p a v = axp p a (List.replicate n 0) v := by
  apply List.ext_getElem
  · simp [vsc, axp, hv]
  · intro i h1 h2
    simp [vsc, axp, Int.mul_comm]
theorem vcl_eq (hp : 0 < p) {row head : Row} {k : Nat} (hv : Vc p n row) (hh : Vc p n head) : vcl p row head k = axp p (-(e_ row k)) row head := by
  unfold vcl
  by_cases h : e_ row k = 0
  · rw [if_pos h, h, Int.neg_zero, axp_none hp hv hh]
  · rw [if_neg h]
    unfold axp
    congr 1
    funext x y
    congr 1
    rw [Int.neg_mul]; rfl
theorem vc_vsc (hp : 0 < p) {a : Int} {v : Row} (hv : v.length = n) : Vc p n (vsc p a v) := by
  rw [vsc_eq hp hv]; exact vc_axp hp (vc_zero hp).1 hv
theorem e_vsc (hp : 0 < p) {a : Int} {v : Row} (hv : v.length = n) {i : Nat} (hi : i < n) : e_ (vsc p a v) i = (e_ v i * a) % p := by
  rw [vsc_eq hp hv, e_axp (vc_zero (n := n) hp).1 hv hi, e_zero, Int.zero_add, Int.mul_comm]
theorem vc_vcl (hp : 0 < p) {row head : Row} {k : Nat} (hv : Vc p n row) (hh : Vc p n head) : Vc p n (vcl p row head k) := by
  rw [vcl_eq hp hv hh]; exact vc_axp hp hv.1 hh.1
theorem e_vcl (hp : 0 < p) {row head : Row} {k : Nat} (hv : Vc p n row) (hh : Vc p n head) {i : Nat} (hi : i < n) : e_ (vcl p row head k) i = (e_ row i - e_ row k * e_ head i) % p := by
  rw [vcl_eq hp hv hh, e_axp hv.1 hh.1 hi, Int.neg_mul]; rfl
/-- how the reduction stands before a column -/
structure RI (p : Int) (n : Nat) (rows left : List Row) (F : List Hd) (k : Nat) : Prop where
  vl : Vcs p n left
  low : ∀ r ∈ left, ∀ c, c < k → e_ r c = 0
  rf : Rf p n F
  hd : ∀ x ∈ F, x.2 < k
  sp : ∀ v, Sp p n (left ++ rws F) v ↔ Sp p n rows v
theorem RI.start (h : Vcs p n R) : RI p n R R [] 0 where
  vl := h
  low := fun _ _ _ h => nomatch h
  rf := ⟨.nil, fun _ h => (nomatch h), fun _ h => (nomatch h), fun _ h => (nomatch h), fun _ h => (nomatch h), fun _ h => (nomatch h)⟩
  hd := fun _ h => nomatch h
  sp := fun v => by simp [rws]
theorem RI.skip {L : List Row} {F : List Hd} {k : Nat} (h : RI p n R L F k) (z : ∀ r ∈ L, e_ r k = 0) : RI p n R L F (k + 1) :=
  ⟨h.vl, fun r hr c hc => by
      rcases Nat.lt_succ_iff_lt_or_eq.1 hc with q | rfl
      · exact h.low r hr c q
      · exact z r hr, h.rf, fun x hx => Nat.lt_succ_of_lt (h.hd x hx), h.sp⟩
theorem RI.step (hp : 0 < p) {L : List Row} {F : List Hd} {k : Nat} (h : RI p n R L F k) (hk : k < n) {i : Nat} {r : Row} (hi : L[i]? = some r) {c : Int} (hc : (e_ r k * c) % p = 1) :
    RI p n R ((L.eraseIdx i).map fun s => vcl p s (vsc p c r) k) ((F.map fun x => (vcl p x.1 (vsc p c r) k, x.2)) ++ [(vsc p c r, k)]) (k + 1) := by
  have hr : r ∈ L := List.mem_of_getElem? hi
  have vr := h.vl r hr
  have vh : Vc p n (vsc p c r) := vc_vsc hp vr.1
  have hL : Vcs p n (L ++ rws F) := fun s hs => (List.mem_append.1 hs).elim (h.vl s) (h.rf.vcs s)
  have h0 : ∀ j, j < k → e_ (vsc p c r) j = 0 := fun j hj => by
    rw [e_vsc hp vr.1 (by omega), h.low r hr j hj]; simp
  have h1 : e_ (vsc p c r) k = 1 := by rw [e_vsc hp vr.1 hk, hc]
  have subL : ∀ s ∈ L.eraseIdx i, s ∈ L := fun s hs => (List.eraseIdx_sublist ..).mem hs
  have low' : ∀ s, Vc p n s → ∀ j, j < n → j < k → e_ (vcl p s (vsc p c r) k) j = e_ s j := fun s vs j hj q => by
    rw [e_vcl hp vs vh hj, h0 j q]; simp only [Int.mul_zero, Int.sub_zero]; exact vs.emod hj
  have at' : ∀ s, Vc p n s → e_ (vcl p s (vsc p c r) k) k = 0 := fun s vs => by
    rw [e_vcl hp vs vh hk, h1]; simp
  have sh : Sp p n (L ++ rws F) (vsc p c r) := by
    rw [vsc_eq hp vr.1]; exact .step _ .zero (List.mem_append_left _ hr)
  have vnew : Vcs p n ((L.eraseIdx i).map (fun s => vcl p s (vsc p c r) k) ++ rws ((F.map fun x => (vcl p x.1 (vsc p c r) k, x.2)) ++ [(vsc p c r, k)])) := by
    intro s hs
    simp only [rws, List.map_append, List.map_map, List.mem_append, List.mem_map, List.map_cons, List.map_nil, List.mem_singleton, Function.comp_def] at hs
    rcases hs with ⟨t, ht, rfl⟩ | ⟨t, ht, rfl⟩ | rfl
    · exact vc_vcl hp (h.vl t (subL t ht)) vh
    · exact vc_vcl hp (h.rf.vc t ht) vh
    · exact vh
  refine ⟨?_, ?_, ⟨?_, ?_, ?_, ?_, ?_, ?_⟩, ?_, fun v => (Iff.trans ?_ (h.sp v))⟩
  · intro s hs
    obtain ⟨t, ht, rfl⟩ := List.mem_map.1 hs
    exact vc_vcl hp (h.vl t (subL t ht)) vh
  · intro s hs j hj
    obtain ⟨t, ht, rfl⟩ := List.mem_map.1 hs
    have vt := h.vl t (subL t ht)
    rcases Nat.lt_succ_iff_lt_or_eq.1 hj with q | rfl
    · rw [low' t vt j (by omega) q]; exact h.low t (subL t ht) j q
    · exact at' t vt
  · rw [List.pairwise_append, List.pairwise_map]
    refine ⟨h.rf.asc, by simp, fun x hx y hy => ?_⟩
    obtain ⟨t, ht, rfl⟩ := List.mem_map.1 hx
    rw [List.mem_singleton] at hy
    subst hy
    exact h.hd t ht
  · intro x hx
    rcases List.mem_append.1 hx with hx | hx
    · obtain ⟨t, ht, rfl⟩ := List.mem_map.1 hx
      exact vc_vcl hp (h.rf.vc t ht) vh
    · rw [List.mem_singleton] at hx; subst hx; exact vh
  · intro x hx
    rcases List.mem_append.1 hx with hx | hx
    · obtain ⟨t, ht, rfl⟩ := List.mem_map.1 hx
      exact h.rf.lt t ht
    · rw [List.mem_singleton] at hx; subst hx; exact hk
  · intro x hx
    rcases List.mem_append.1 hx with hx | hx
    · obtain ⟨t, ht, rfl⟩ := List.mem_map.1 hx
      simp only
      rw [low' t.1 (h.rf.vc t ht) _ (h.rf.lt t ht) (h.hd t ht)]
      exact h.rf.one t ht
    · rw [List.mem_singleton] at hx; subst hx; exact h1
  · intro x hx j hj
    rcases List.mem_append.1 hx with hx | hx
    · obtain ⟨t, ht, rfl⟩ := List.mem_map.1 hx
      have := h.hd t ht
      simp only at hj ⊢
      rw [low' t.1 (h.rf.vc t ht) _ (by omega) (by omega)]
      exact h.rf.low t ht j hj
    · rw [List.mem_singleton] at hx; subst hx; exact h0 j hj
  · intro x hx y hy hne
    rcases List.mem_append.1 hx with hx | hx
    · obtain ⟨t, ht, rfl⟩ := List.mem_map.1 hx
      have := h.hd t ht
      rcases List.mem_append.1 hy with hy | hy
      · obtain ⟨u, hu, rfl⟩ := List.mem_map.1 hy
        simp only at hne ⊢
        rw [low' u.1 (h.rf.vc u hu) _ (by omega) (by omega)]
        exact h.rf.off t ht u hu hne
      · rw [List.mem_singleton] at hy; subst hy; exact h0 _ this
    · rw [List.mem_singleton] at hx; subst hx
      rcases List.mem_append.1 hy with hy | hy
      · obtain ⟨u, hu, rfl⟩ := List.mem_map.1 hy
        exact at' u.1 (h.rf.vc u hu)
      · rw [List.mem_singleton] at hy; subst hy; exact (hne rfl).elim
  · intro x hx
    rcases List.mem_append.1 hx with hx | hx
    · obtain ⟨t, ht, rfl⟩ := List.mem_map.1 hx
      exact Nat.lt_succ_of_lt (h.hd t ht)
    · rw [List.mem_singleton] at hx; subst hx; exact Nat.lt_succ_self _
  · constructor
    · intro hv
      refine hv.sub hp hL fun s hs => ?_
      simp only [rws, List.map_append, List.map_map, List.mem_append, List.mem_map, List.map_cons, List.map_nil, List.mem_singleton, Function.comp_def] at hs
      rcases hs with ⟨t, ht, rfl⟩ | ⟨t, ht, rfl⟩ | rfl
      · rw [vcl_eq hp (h.vl t (subL t ht)) vh]
        exact (Sp.of_mem hp hL (List.mem_append_left _ (subL t ht))).add hp hL _ sh
      · rw [vcl_eq hp (h.rf.vc t ht) vh]
        exact (Sp.of_mem hp hL (List.mem_append_right _ (List.mem_map.2 ⟨t, ht, rfl⟩))).add hp hL _ sh
      · exact sh
    · intro hv
      refine hv.sub hp vnew fun s hs => ?_
      have nh : Sp p n ((L.eraseIdx i).map (fun s => vcl p s (vsc p c r) k) ++ rws ((F.map fun x => (vcl p x.1 (vsc p c r) k, x.2)) ++ [(vsc p c r, k)])) (vsc p c r) :=
        .of_mem hp vnew (by simp [rws])
      have back : ∀ t, Vc p n t → axp p (e_ t k) (vcl p t (vsc p c r) k) (vsc p c r) = t := fun t vt => by
        rw [vcl_eq hp vt vh, axp_same hp vt vh, Int.add_right_neg, axp_none hp vt vh]
      have fin : ∀ t, Vc p n t → vcl p t (vsc p c r) k ∈ ((L.eraseIdx i).map (fun s => vcl p s (vsc p c r) k) ++ rws ((F.map fun x => (vcl p x.1 (vsc p c r) k, x.2)) ++ [(vsc p c r, k)])) →
          Sp p n ((L.eraseIdx i).map (fun s => vcl p s (vsc p c r) k) ++ rws ((F.map fun x => (vcl p x.1 (vsc p c r) k, x.2)) ++ [(vsc p c r, k)])) t := fun t vt ht => by
        have := (Sp.of_mem hp vnew ht).add hp vnew (e_ t k) nh
        rwa [back t vt] at this
      rcases List.mem_append.1 hs with hs | hs
      · by_cases he : s ∈ L.eraseIdx i
        · exact fin s (h.vl s hs) (List.mem_append_left _ (List.mem_map.2 ⟨s, he, rfl⟩))
        · have hsr : s = r := by
            obtain ⟨j, hj⟩ := List.mem_iff_getElem?.1 hs
            by_cases q : j = i
            · subst q; rw [hi] at hj; cases hj; rfl
            · exact (he (List.mem_eraseIdx_iff_getElem?.2 ⟨j, q, hj⟩)).elim
          subst hsr
          have e : s = axp p (e_ s k) (List.replicate n 0) (vsc p c s) := by
            have hz := vc_zero (n := n) hp
            refine axp_eq vr (vc_axp hp hz.1 vh.1) fun j hj => ?_
            rw [e_axp hz.1 vh.1 hj, e_zero, e_vsc hp vr.1 hj, Int.zero_add, Int.mul_emod, Int.emod_emod, ← Int.mul_emod, Int.sub_emod, Int.emod_emod, ← Int.sub_emod]
            have k3 : e_ s k * c = 1 + p * (e_ s k * c / p) := by
              have := Int.emod_add_mul_ediv (e_ s k * c) p
              rw [hc] at this; omega
            generalize (e_ s k * c) / p = m at k3
            apply Int.emod_eq_zero_of_dvd
            refine ⟨- m * e_ s j, ?_⟩
            grind
          have nh' := nh
          have := Sp.add hp vnew (e_ s k) .zero nh
          rwa [← e] at this
      · obtain ⟨t, ht, rfl⟩ := List.mem_map.1 hs
        exact fin t.1 (h.rf.vc t ht) (List.mem_append_right _ (by simp only [rws, List.map_append, List.map_map]; exact List.mem_append_left _ (List.mem_map.2 ⟨t, ht, rfl⟩)))
theorem RI.done (hp : 0 < p) {L : List Row} {F : List Hd} (h : RI p n R L F n) : Rf p n F ∧ ∀ v, Sp p n (rws F) v ↔ Sp p n R v := by
  refine ⟨h.rf, fun v => Iff.trans ⟨fun q => q.mono fun s hs => List.mem_append_right _ hs, fun q => q.sub hp h.rf.vcs fun s hs => ?_⟩ (h.sp v)⟩
  rcases List.mem_append.1 hs with hs | hs
  · have : s = List.replicate n 0 := (h.vl s hs).ext (vc_zero hp) fun i hi => by rw [h.low s hs i hi, e_zero]
    rw [this]; exact .zero
  · exact .of_mem hp h.rf.vcs hs
def restF (p : Int) (F : List Hd) (v : Row) : Row := F.foldl (fun f x => vcl p f x.1 x.2) v
theorem rest_ok (hp : 0 < p) : ∀ (B A : List Hd) (v f : Row), Rf p n (A ++ B) → Vc p n v → Vc p n f → (∀ x ∈ A, e_ f x.2 = 0) → Sp p n (rws (A ++ B)) (axp p (-1) v f) →
    Vc p n (restF p B f) ∧ (∀ x ∈ A ++ B, e_ (restF p B f) x.2 = 0) ∧ Sp p n (rws (A ++ B)) (axp p (-1) v (restF p B f))
  | [], A, v, f, _, _, hf, h1, h2 => ⟨hf, by simpa [restF] using h1, h2⟩
  | x :: B, A, v, f, h, hv, hf, h1, h2 => by
    have hx : x ∈ A ++ x :: B := by simp
    have vx := h.vc x hx
    have e : A ++ x :: B = (A ++ [x]) ++ B := by simp
    have q := rest_ok hp B (A ++ [x]) v (vcl p f x.1 x.2) (e ▸ h) hv (vc_vcl hp hf vx) (fun y hy => by
      rcases List.mem_append.1 hy with hy | hy
      · have hy' : y ∈ A ++ x :: B := List.mem_append_left _ hy
        have ne : x.2 ≠ y.2 := by
          have := (List.pairwise_append.1 h.asc).2.2 y hy x (List.mem_cons_self ..)
          omega
        rw [e_vcl hp hf vx (h.lt y hy'), h.off y hy' x hx ne, h1 y hy]; simp
      · rw [List.mem_singleton] at hy; subst hy
        rw [e_vcl hp hf vx (h.lt y hx), h.one y hx]; simp) (by
      rw [← e]
      have := h2.add hp h.vcs (e_ f x.2) (.of_mem hp h.vcs (List.mem_map.2 ⟨x, hx, rfl⟩))
      have e2 : axp p (-1) v (vcl p f x.1 x.2) = axp p (e_ f x.2) (axp p (-1) v f) x.1 := by
        rw [vcl_eq hp hf vx, axp_axp hp hv hf vx]
        congr 1; omega
      rw [e2]; exact this)
    rw [← e] at q
    exact q
theorem rest_span (hp : 0 < p) {F : List Hd} (h : Rf p n F) {v : Row} (hv : Vc p n v) : Vc p n (restF p F v) ∧ (∀ x ∈ F, e_ (restF p F v) x.2 = 0) ∧ Sp p n (rws F) (axp p (-1) v (restF p F v)) := by
  refine rest_ok hp F [] v v h hv hv (fun _ h => nomatch h) ?_
  have : axp p (-1) v v = List.replicate n 0 := (vc_axp hp hv.1 hv.1).ext (vc_zero hp) fun i hi => by
    rw [e_axp hv.1 hv.1 hi, e_zero]
    have : e_ v i + -1 * e_ v i = 0 := by omega
    rw [this]; simp
  rw [this]; exact .zero
theorem rest_zero (hp : 0 < p) {F : List Hd} (h : Rf p n F) {v : Row} (hv : Vc p n v) : restF p F v = List.replicate n 0 ↔ Sp p n (rws F) v := by
  obtain ⟨h1, h2, h3⟩ := rest_span hp h hv
  constructor
  · intro e
    rw [e, axp_zero hp hv] at h3
    exact h3
  · intro hs
    have e : restF p F v = axp p (-1) v (axp p (-1) v (restF p F v)) := by
      have v1 := vc_axp (a := -1) hp hv.1 h1.1
      refine axp_eq h1 (vc_axp hp hv.1 v1.1) fun i hi => ?_
      rw [e_axp hv.1 v1.1 hi, e_axp hv.1 h1.1 hi, Int.sub_emod, Int.emod_emod, ← Int.sub_emod]
      have k3 := Int.emod_add_mul_ediv (e_ v i + -1 * e_ (restF p F v) i) p
      generalize (e_ v i + -1 * e_ (restF p F v) i) / p = m at k3
      apply Int.emod_eq_zero_of_dvd
      refine ⟨-m, ?_⟩
      grind
    exact h.zero hp (by rw [e]; exact hs.add hp h.vcs _ h3) h2
end
end PC

namespace PC
open PySem PySem.Spec PyProof.Rows L2
abbrev i_is_integer : Nat := 0
abbrev i_is_small_prime : Nat := 1
abbrev i_power : Nat := 2
abbrev i_inverse : Nat := 3
abbrev i_factors : Nat := 4
abbrev i_divisors : Nat := 5
abbrev i__law_state : Nat := 6
abbrev i__law_odd : Nat := 7
abbrev i__law_honest : Nat := 8
abbrev i__law_take : Nat := 9
abbrev i__law_reason : Nat := 10
abbrev i__law_is_prime : Nat := 11
abbrev i_law : Nat := 12
def f_is_integer : FD := { name := "is_integer", ps := ["value"], N := ["value"], body :=
  (.cons (.ret (.and (.isi (.var 0) [.int]) (.not (.isi (.var 0) [.bool]))))
  .nil) }
def f_is_small_prime : FD := { name := "is_small_prime", ps := ["value"], N := ["value"], body :=
  (.cons (.ret (.and (.call i_is_integer (.cons (.var 0) .nil)) (.cmp .isin (.var 0) (.glob "PRIMES" (.tup [(.int 2), (.int 3), (.int 5), (.int 7), (.int 11), (.int 13), (.int 17), (.int 19), (.int 23), (.int 29), (.int 31)])))))
  .nil) }
def f_power : FD := { name := "power", ps := ["a", "k"], N := ["a", "k", "total", "_"], body :=
  (.cons (.set 2 (.int 1))
  (.cons (.for_ (.range1 (.var 1)) (.name 3) (.cons (.set 2 (.bin .mul (.var 2) (.var 0)))
  .nil))
  (.cons (.ret (.var 2))
  .nil))) }
def f_inverse : FD := { name := "inverse", ps := ["a", "p"], N := ["a", "p", "k"], body :=
  (.cons (.for_ (.range2 (.int 1) (.var 1)) (.name 2) (.cons (.ite (.cmp .eq (.bin .mod (.bin .mul (.var 0) (.var 2)) (.var 1)) (.int 1)) (.cons (.ret (.var 2))
  .nil) .nil)
  .nil))
  (.cons (.raise_ "Refused" ["Refused", "Fault", "ValueError"] (some "reason") (.str "inverse"))
  .nil)) }
def f_factors : FD := { name := "factors", ps := ["n"], N := ["n", "found", "rest", "d", "k"], body :=
  (.cons (.own 1 (.lst .nil))
  (.cons (.set 2 (.var 0))
  (.cons (.set 3 (.int 2))
  (.cons (.whl 1000000 (.cmp .gt (.var 2) (.int 1)) (.cons (.set 4 (.int 0))
  (.cons (.whl 1000000 (.cmp .eq (.bin .mod (.var 2) (.var 3)) (.int 0)) (.cons (.set 2 (.bin .fdiv (.var 2) (.var 3)))
  (.cons (.set 4 (.bin .add (.var 4) (.int 1)))
  .nil)))
  (.cons (.ite (.cmp .gt (.var 4) (.int 0)) (.cons (.append 1 (.tup (.cons (.var 3) (.cons (.var 4) .nil))))
  .nil) .nil)
  (.cons (.set 3 (.bin .add (.var 3) (.int 1)))
  .nil)))))
  (.cons (.freeze 1)
  (.cons (.ret (.bi .tuple (.var 1)))
  .nil)))))) }
def f_divisors : FD := { name := "divisors", ps := ["n"], N := ["n", "d"], body :=
  (.cons (.ret (.bi .tuple (.comp (.range2 (.int 1) (.bin .add (.var 0) (.int 1))) (.name 1) (.cons (.cmp .eq (.bin .mod (.var 0) (.var 1)) (.int 0)) .nil) (.var 1))))
  .nil) }
def f__law_state : FD := { name := "_law_state", ps := ["script"], N := ["script", "seed", "total", "cell"], body :=
  (.cons (.set 1 (.int 0))
  (.cons (.set 2 (.int 1))
  (.cons (.for_ (.seq (.slice (.var 0) .none (.some (.int 63)))) (.name 3) (.cons (.set 1 (.bin .add (.bin .mul (.var 1) (.int 1000003)) (.bi .abs (.var 3))))
  (.cons (.set 2 (.bin .mod (.bi .int (.bin .add (.bin .mul (.var 2) (.int 48271)) (.var 3))) (.int 2147483647)))
  .nil)))
  (.cons (.ret (.newL (.cons (.var 1) (.cons (.ite (.cmp .ne (.var 2) (.int 1973665155)) (.var 2) (.int 7)) .nil))))
  .nil)))) }
def f__law_odd : FD := { name := "_law_odd", ps := ["value"], N := ["value", "item"], body :=
  (.cons (.ite (.cmp .eq (.var 0) (.str "a word that nothing else is")) (.cons (.ret (.bl true))
  .nil) .nil)
  (.cons (.ret (.and (.isi (.var 0) [.tuple, .list]) (.cmp .gt (.bi .len (.comp (.seq (.var 0)) (.name 1) (.cons (.call i__law_odd (.cons (.var 1) .nil)) .nil) (.var 1))) (.int 0))))
  .nil)) }
def f__law_honest : FD := { name := "_law_honest", ps := ["value"], N := ["value"], body :=
  (.cons (.ret (.ite (.call i__law_odd (.cons (.var 0) .nil)) (.str "odd") (.var 0)))
  .nil) }
def f__law_take : FD := { name := "_law_take", ps := ["state", "m"], N := ["state", "m", "value"], body :=
  (.cons (.ite (.cmp .gt (.sub (.var 0) (.int 0)) (.int 0)) (.cons (.set 2 (.bin .mod (.bi .int (.sub (.var 0) (.int 0))) (.var 1)))
  (.cons (.setC (.var 0) (.int 0) (.bin .fdiv (.sub (.var 0) (.int 0)) (.var 1)))
  (.cons (.ret (.var 2))
  .nil))) .nil)
  (.cons (.setC (.var 0) (.int 1) (.bin .mod (.bi .int (.bin .add (.bin .mul (.sub (.var 0) (.int 1)) (.int 48271)) (.int 11))) (.int 2147483647)))
  (.cons (.ret (.bin .mod (.bi .int (.bin .fdiv (.sub (.var 0) (.int 1)) (.int 7))) (.var 1)))
  .nil))) }
def f__law_reason : FD := { name := "_law_reason", ps := ["a", "p"], N := ["a", "p", "e"], body :=
  (.cons (.try_ (.cons (.expr (.call i__law_honest (.cons (.call i_inverse (.cons (.var 0) (.cons (.var 1) .nil))) .nil)))
  .nil) [{ cls := "Fault", slot := some 2, c := some (.and (.isi ["Refused"]) (.and (.isi ["ValueError"]) (.not (.isi ["Malformed", "NoText"])))), e := (.pair (.con (.str "refused")) (.fld "reason")) }])
  (.cons (.ret .non)
  .nil)) }
def f__law_is_prime : FD := { name := "_law_is_prime", ps := ["n"], N := ["n", "d"], body :=
  (.cons (.ret (.and (.cmp .gt (.var 0) (.int 1)) (.cmp .eq (.bi .len (.comp (.range2 (.int 2) (.var 0)) (.name 1) (.cons (.cmp .eq (.bin .mul (.bin .fdiv (.var 0) (.var 1)) (.var 1)) (.var 0)) .nil) (.var 1))) (.int 0))))
  .nil) }
def f_law : FD := { name := "law", ps := ["script"], N := ["script", "state", "p", "a", "k", "total", "turn", "n", "due", "d", "m", "told", "value", "b", "most"], body :=
  (.cons (.set 1 (.call i__law_state (.cons (.var 0) .nil)))
  (.cons (.set 2 (.sub (.lst (.cons (.int 2) (.cons (.int 3) (.cons (.int 5) (.cons (.int 7) (.cons (.int 11) (.cons (.int 13) (.cons (.int 17) (.cons (.int 19) (.cons (.int 23) (.cons (.int 29) (.cons (.int 31) .nil)))))))))))) (.call i__law_take (.cons (.var 1) (.cons (.int 11) .nil)))))
  (.cons (.set 3 (.bin .sub (.call i__law_take (.cons (.var 1) (.cons (.int 2001) .nil))) (.int 1000)))
  (.cons (.ite (.cmp .eq (.bin .mod (.bi .int (.var 3)) (.var 2)) (.int 0)) (.cons (.ite (.cmp .ne (.call i__law_reason (.cons (.var 3) (.cons (.var 2) .nil))) (.tup (.cons (.str "refused") (.cons (.str "inverse") .nil)))) (.cons (.ret (.bl false))
  .nil) .nil)
  .nil) (.cons (.set 13 (.call i__law_honest (.cons (.call i_inverse (.cons (.var 3) (.cons (.var 2) .nil))) .nil)))
  (.cons (.ite (.or (.not (.chain .lt .lt (.int 0) (.var 13) (.var 2))) (.cmp .ne (.bin .mod (.bi .int (.bin .mul (.var 3) (.var 13))) (.var 2)) (.int 1))) (.cons (.ret (.bl false))
  .nil) .nil)
  .nil)))
  (.cons (.set 4 (.call i__law_take (.cons (.var 1) (.cons (.int 9) .nil))))
  (.cons (.set 5 (.int 1))
  (.cons (.for_ (.range1 (.var 4)) (.name 6) (.cons (.set 5 (.bin .mul (.var 5) (.var 3)))
  .nil))
  (.cons (.set 7 (.bin .add (.int 1) (.call i__law_take (.cons (.var 1) (.cons (.int 300) .nil)))))
  (.cons (.own 8 (.lst .nil))
  (.cons (.for_ (.range2 (.int 2) (.bin .add (.var 7) (.int 1))) (.name 9) (.cons (.set 14 (.bi .len (.comp (.range2 (.int 1) (.int 9)) (.name 4) (.cons (.cmp .eq (.bin .mul (.bin .fdiv (.var 7) (.call i__law_honest (.cons (.call i_power (.cons (.var 9) (.cons (.var 4) .nil))) .nil))) (.call i__law_honest (.cons (.call i_power (.cons (.var 9) (.cons (.var 4) .nil))) .nil))) (.var 7)) .nil) (.var 4))))
  (.cons (.ite (.and (.call i__law_is_prime (.cons (.var 9) .nil)) (.cmp .gt (.var 14) (.int 0))) (.cons (.append 8 (.tup (.cons (.var 9) (.cons (.var 14) .nil))))
  .nil) .nil)
  .nil)))
  (.cons (.freeze 8)
  (.cons (.ite (.or (.cmp .ne (.call i__law_honest (.cons (.call i_power (.cons (.var 3) (.cons (.var 4) .nil))) .nil)) (.var 5)) (.or (.cmp .ne (.call i_divisors (.cons (.var 7) .nil)) (.bi .tuple (.comp (.range2 (.int 1) (.bin .add (.var 7) (.int 1))) (.name 9) (.cons (.cmp .eq (.bin .mul (.bin .fdiv (.var 7) (.var 9)) (.var 9)) (.var 7)) .nil) (.var 9)))) (.cmp .ne (.call i_factors (.cons (.var 7) .nil)) (.bi .tuple (.var 8))))) (.cons (.ret (.bl false))
  .nil) .nil)
  (.cons (.set 10 (.bin .sub (.call i__law_take (.cons (.var 1) (.cons (.int 60) .nil))) (.int 5)))
  (.cons (.set 11 (.call i_is_small_prime (.cons (.var 10) .nil)))
  (.cons (.ite (.or (.not (.isi (.var 11) [.bool])) (.cmp .ne (.var 11) (.and (.cmp .lt (.var 10) (.int 32)) (.call i__law_is_prime (.cons (.var 10) .nil))))) (.cons (.ret (.bl false))
  .nil) .nil)
  (.cons (.for_ (.seq (.lst (.cons (.bl true) (.cons (.bl false) (.cons .non (.cons (.str "2") (.cons (.tup (.cons (.int 2) .nil)) (.cons (.lst (.cons (.int 2) .nil)) (.cons (.tup .nil) .nil))))))))) (.name 12) (.cons (.ite (.or (.notB (.call i_is_integer (.cons (.var 12) .nil)) false) (.notB (.call i_is_small_prime (.cons (.var 12) .nil)) false)) (.cons (.ret (.bl false))
  .nil) .nil)
  .nil))
  (.cons (.ret (.isB (.call i_is_integer (.cons (.var 3) .nil)) true))
  .nil))))))))))))))))) }
def T : Tbl := { T := fun n => ([f_is_integer, f_is_small_prime, f_power, f_inverse, f_factors, f_divisors, f__law_state, f__law_odd, f__law_honest, f__law_take, f__law_reason, f__law_is_prime, f_law] : List FD)[n]?, G := [("PRIMES", (.tup [(.int 2), (.int 3), (.int 5), (.int 7), (.int 11), (.int 13), (.int 17), (.int 19), (.int 23), (.int 29), (.int 31)]))], X := [⟨"Fault", ["Fault", "ValueError"], none⟩, ⟨"Malformed", ["Malformed", "Fault", "ValueError"], none⟩, ⟨"Refused", ["Refused", "Fault", "ValueError"], some ("reason", "reason", true)⟩, ⟨"NoText", ["NoText", "Fault", "ValueError"], some ("at", "at", false)⟩] }
def topS (i : Nat) : Stmt := PySem.Challenge.pw_chieflayers_k00_numbers.main.body.getD i (.Pass ⟨0, 0, 0, 0⟩)
theorem ck_is_integer : chkF T f_is_integer (topS 7) = true := by decide +kernel
theorem sc_is_integer : scC f_is_integer.N f_is_integer.ps (defScope (topS 7)) = true := by decide +kernel
theorem ck_is_small_prime : chkF T f_is_small_prime (topS 8) = true := by decide +kernel
theorem sc_is_small_prime : scC f_is_small_prime.N f_is_small_prime.ps (defScope (topS 8)) = true := by decide +kernel
theorem ck_power : chkF T f_power (topS 9) = true := by decide +kernel
theorem sc_power : scC f_power.N f_power.ps (defScope (topS 9)) = true := by decide +kernel
theorem ck_inverse : chkF T f_inverse (topS 10) = true := by decide +kernel
theorem sc_inverse : scC f_inverse.N f_inverse.ps (defScope (topS 10)) = true := by decide +kernel
theorem ck_factors : chkF T f_factors (topS 11) = true := by decide +kernel
theorem sc_factors : scC f_factors.N f_factors.ps (defScope (topS 11)) = true := by decide +kernel
theorem ck_divisors : chkF T f_divisors (topS 12) = true := by decide +kernel
theorem sc_divisors : scC f_divisors.N f_divisors.ps (defScope (topS 12)) = true := by decide +kernel
theorem ck__law_state : chkF T f__law_state (topS 14) = true := by decide +kernel
theorem sc__law_state : scC f__law_state.N f__law_state.ps (defScope (topS 14)) = true := by decide +kernel
theorem ck__law_odd : chkF T f__law_odd (topS 15) = true := by decide +kernel
theorem sc__law_odd : scC f__law_odd.N f__law_odd.ps (defScope (topS 15)) = true := by decide +kernel
theorem ck__law_honest : chkF T f__law_honest (topS 16) = true := by decide +kernel
theorem sc__law_honest : scC f__law_honest.N f__law_honest.ps (defScope (topS 16)) = true := by decide +kernel
theorem ck__law_take : chkF T f__law_take (topS 17) = true := by decide +kernel
theorem sc__law_take : scC f__law_take.N f__law_take.ps (defScope (topS 17)) = true := by decide +kernel
theorem ck__law_reason : chkF T f__law_reason (topS 18) = true := by decide +kernel
theorem sc__law_reason : scC f__law_reason.N f__law_reason.ps (defScope (topS 18)) = true := by decide +kernel
theorem ck__law_is_prime : chkF T f__law_is_prime (topS 19) = true := by decide +kernel
theorem sc__law_is_prime : scC f__law_is_prime.N f__law_is_prime.ps (defScope (topS 19)) = true := by decide +kernel
theorem ck_law : chkF T f_law (topS 20) = true := by decide +kernel
theorem sc_law : scC f_law.N f_law.ps (defScope (topS 20)) = true := by decide +kernel
theorem ini_Refused : chkIni ((clsBody (topS 3)).getD 0 (.Pass ⟨0, 0, 0, 0⟩)) "reason" "reason" true = true := by decide +kernel
theorem ini_NoText : chkIni ((clsBody (topS 4)).getD 0 (.Pass ⟨0, 0, 0, 0⟩)) "at" "at" false = true := by decide +kernel
end PC

namespace PC
open PySem L2
theorem run_is_integer {n : Nat} {d0 : D} {M : Mem} : callN T.T (n + 1) i_is_integer [d0] M = endR (exs (callN T.T n)
  (.cons (.ret (.and (.isi (.var 0) [.int]) (.not (.isi (.var 0) [.bool]))))
  .nil) [.v d0] M) := (rfl)
theorem run_is_small_prime {n : Nat} {d0 : D} {M : Mem} : callN T.T (n + 1) i_is_small_prime [d0] M = endR (exs (callN T.T n)
  (.cons (.ret (.and (.call i_is_integer (.cons (.var 0) .nil)) (.cmp .isin (.var 0) (.glob "PRIMES" (.tup [(.int 2), (.int 3), (.int 5), (.int 7), (.int 11), (.int 13), (.int 17), (.int 19), (.int 23), (.int 29), (.int 31)])))))
  .nil) [.v d0] M) := (rfl)
theorem run_power {n : Nat} {d0 d1 : D} {M : Mem} : callN T.T (n + 1) i_power [d0, d1] M = endR (exs (callN T.T n)
  (.cons (.set 2 (.int 1))
  (.cons (.for_ (.range1 (.var 1)) (.name 3) (.cons (.set 2 (.bin .mul (.var 2) (.var 0)))
  .nil))
  (.cons (.ret (.var 2))
  .nil))) [.v d0, .v d1, .un, .un] M) := (rfl)
theorem run_inverse {n : Nat} {d0 d1 : D} {M : Mem} : callN T.T (n + 1) i_inverse [d0, d1] M = endR (exs (callN T.T n)
  (.cons (.for_ (.range2 (.int 1) (.var 1)) (.name 2) (.cons (.ite (.cmp .eq (.bin .mod (.bin .mul (.var 0) (.var 2)) (.var 1)) (.int 1)) (.cons (.ret (.var 2))
  .nil) .nil)
  .nil))
  (.cons (.raise_ "Refused" ["Refused", "Fault", "ValueError"] (some "reason") (.str "inverse"))
  .nil)) [.v d0, .v d1, .un] M) := (rfl)
theorem run_factors {n : Nat} {d0 : D} {M : Mem} : callN T.T (n + 1) i_factors [d0] M = endR (exs (callN T.T n)
  (.cons (.own 1 (.lst .nil))
  (.cons (.set 2 (.var 0))
  (.cons (.set 3 (.int 2))
  (.cons (.whl 1000000 (.cmp .gt (.var 2) (.int 1)) (.cons (.set 4 (.int 0))
  (.cons (.whl 1000000 (.cmp .eq (.bin .mod (.var 2) (.var 3)) (.int 0)) (.cons (.set 2 (.bin .fdiv (.var 2) (.var 3)))
  (.cons (.set 4 (.bin .add (.var 4) (.int 1)))
  .nil)))
  (.cons (.ite (.cmp .gt (.var 4) (.int 0)) (.cons (.append 1 (.tup (.cons (.var 3) (.cons (.var 4) .nil))))
  .nil) .nil)
  (.cons (.set 3 (.bin .add (.var 3) (.int 1)))
  .nil)))))
  (.cons (.freeze 1)
  (.cons (.ret (.bi .tuple (.var 1)))
  .nil)))))) [.v d0, .un, .un, .un, .un] M) := (rfl)
theorem run_divisors {n : Nat} {d0 : D} {M : Mem} : callN T.T (n + 1) i_divisors [d0] M = endR (exs (callN T.T n)
  (.cons (.ret (.bi .tuple (.comp (.range2 (.int 1) (.bin .add (.var 0) (.int 1))) (.name 1) (.cons (.cmp .eq (.bin .mod (.var 0) (.var 1)) (.int 0)) .nil) (.var 1))))
  .nil) [.v d0, .un] M) := (rfl)
theorem run__law_state {n : Nat} {d0 : D} {M : Mem} : callN T.T (n + 1) i__law_state [d0] M = endR (exs (callN T.T n)
  (.cons (.set 1 (.int 0))
  (.cons (.set 2 (.int 1))
  (.cons (.for_ (.seq (.slice (.var 0) .none (.some (.int 63)))) (.name 3) (.cons (.set 1 (.bin .add (.bin .mul (.var 1) (.int 1000003)) (.bi .abs (.var 3))))
  (.cons (.set 2 (.bin .mod (.bi .int (.bin .add (.bin .mul (.var 2) (.int 48271)) (.var 3))) (.int 2147483647)))
  .nil)))
  (.cons (.ret (.newL (.cons (.var 1) (.cons (.ite (.cmp .ne (.var 2) (.int 1973665155)) (.var 2) (.int 7)) .nil))))
  .nil)))) [.v d0, .un, .un, .un] M) := (rfl)
theorem run__law_odd {n : Nat} {d0 : D} {M : Mem} : callN T.T (n + 1) i__law_odd [d0] M = endR (exs (callN T.T n)
  (.cons (.ite (.cmp .eq (.var 0) (.str "a word that nothing else is")) (.cons (.ret (.bl true))
  .nil) .nil)
  (.cons (.ret (.and (.isi (.var 0) [.tuple, .list]) (.cmp .gt (.bi .len (.comp (.seq (.var 0)) (.name 1) (.cons (.call i__law_odd (.cons (.var 1) .nil)) .nil) (.var 1))) (.int 0))))
  .nil)) [.v d0, .un] M) := (rfl)
theorem run__law_honest {n : Nat} {d0 : D} {M : Mem} : callN T.T (n + 1) i__law_honest [d0] M = endR (exs (callN T.T n)
  (.cons (.ret (.ite (.call i__law_odd (.cons (.var 0) .nil)) (.str "odd") (.var 0)))
  .nil) [.v d0] M) := (rfl)
theorem run__law_take {n : Nat} {d0 d1 : D} {M : Mem} : callN T.T (n + 1) i__law_take [d0, d1] M = endR (exs (callN T.T n)
  (.cons (.ite (.cmp .gt (.sub (.var 0) (.int 0)) (.int 0)) (.cons (.set 2 (.bin .mod (.bi .int (.sub (.var 0) (.int 0))) (.var 1)))
  (.cons (.setC (.var 0) (.int 0) (.bin .fdiv (.sub (.var 0) (.int 0)) (.var 1)))
  (.cons (.ret (.var 2))
  .nil))) .nil)
  (.cons (.setC (.var 0) (.int 1) (.bin .mod (.bi .int (.bin .add (.bin .mul (.sub (.var 0) (.int 1)) (.int 48271)) (.int 11))) (.int 2147483647)))
  (.cons (.ret (.bin .mod (.bi .int (.bin .fdiv (.sub (.var 0) (.int 1)) (.int 7))) (.var 1)))
  .nil))) [.v d0, .v d1, .un] M) := (rfl)
theorem run__law_reason {n : Nat} {d0 d1 : D} {M : Mem} : callN T.T (n + 1) i__law_reason [d0, d1] M = endR (exs (callN T.T n)
  (.cons (.try_ (.cons (.expr (.call i__law_honest (.cons (.call i_inverse (.cons (.var 0) (.cons (.var 1) .nil))) .nil)))
  .nil) [{ cls := "Fault", slot := some 2, c := some (.and (.isi ["Refused"]) (.and (.isi ["ValueError"]) (.not (.isi ["Malformed", "NoText"])))), e := (.pair (.con (.str "refused")) (.fld "reason")) }])
  (.cons (.ret .non)
  .nil)) [.v d0, .v d1, .un] M) := (rfl)
theorem run__law_is_prime {n : Nat} {d0 : D} {M : Mem} : callN T.T (n + 1) i__law_is_prime [d0] M = endR (exs (callN T.T n)
  (.cons (.ret (.and (.cmp .gt (.var 0) (.int 1)) (.cmp .eq (.bi .len (.comp (.range2 (.int 2) (.var 0)) (.name 1) (.cons (.cmp .eq (.bin .mul (.bin .fdiv (.var 0) (.var 1)) (.var 1)) (.var 0)) .nil) (.var 1))) (.int 0))))
  .nil) [.v d0, .un] M) := (rfl)
theorem run_law {n : Nat} {d0 : D} {M : Mem} : callN T.T (n + 1) i_law [d0] M = endR (exs (callN T.T n)
  (.cons (.set 1 (.call i__law_state (.cons (.var 0) .nil)))
  (.cons (.set 2 (.sub (.lst (.cons (.int 2) (.cons (.int 3) (.cons (.int 5) (.cons (.int 7) (.cons (.int 11) (.cons (.int 13) (.cons (.int 17) (.cons (.int 19) (.cons (.int 23) (.cons (.int 29) (.cons (.int 31) .nil)))))))))))) (.call i__law_take (.cons (.var 1) (.cons (.int 11) .nil)))))
  (.cons (.set 3 (.bin .sub (.call i__law_take (.cons (.var 1) (.cons (.int 2001) .nil))) (.int 1000)))
  (.cons (.ite (.cmp .eq (.bin .mod (.bi .int (.var 3)) (.var 2)) (.int 0)) (.cons (.ite (.cmp .ne (.call i__law_reason (.cons (.var 3) (.cons (.var 2) .nil))) (.tup (.cons (.str "refused") (.cons (.str "inverse") .nil)))) (.cons (.ret (.bl false))
  .nil) .nil)
  .nil) (.cons (.set 13 (.call i__law_honest (.cons (.call i_inverse (.cons (.var 3) (.cons (.var 2) .nil))) .nil)))
  (.cons (.ite (.or (.not (.chain .lt .lt (.int 0) (.var 13) (.var 2))) (.cmp .ne (.bin .mod (.bi .int (.bin .mul (.var 3) (.var 13))) (.var 2)) (.int 1))) (.cons (.ret (.bl false))
  .nil) .nil)
  .nil)))
  (.cons (.set 4 (.call i__law_take (.cons (.var 1) (.cons (.int 9) .nil))))
  (.cons (.set 5 (.int 1))
  (.cons (.for_ (.range1 (.var 4)) (.name 6) (.cons (.set 5 (.bin .mul (.var 5) (.var 3)))
  .nil))
  (.cons (.set 7 (.bin .add (.int 1) (.call i__law_take (.cons (.var 1) (.cons (.int 300) .nil)))))
  (.cons (.own 8 (.lst .nil))
  (.cons (.for_ (.range2 (.int 2) (.bin .add (.var 7) (.int 1))) (.name 9) (.cons (.set 14 (.bi .len (.comp (.range2 (.int 1) (.int 9)) (.name 4) (.cons (.cmp .eq (.bin .mul (.bin .fdiv (.var 7) (.call i__law_honest (.cons (.call i_power (.cons (.var 9) (.cons (.var 4) .nil))) .nil))) (.call i__law_honest (.cons (.call i_power (.cons (.var 9) (.cons (.var 4) .nil))) .nil))) (.var 7)) .nil) (.var 4))))
  (.cons (.ite (.and (.call i__law_is_prime (.cons (.var 9) .nil)) (.cmp .gt (.var 14) (.int 0))) (.cons (.append 8 (.tup (.cons (.var 9) (.cons (.var 14) .nil))))
  .nil) .nil)
  .nil)))
  (.cons (.freeze 8)
  (.cons (.ite (.or (.cmp .ne (.call i__law_honest (.cons (.call i_power (.cons (.var 3) (.cons (.var 4) .nil))) .nil)) (.var 5)) (.or (.cmp .ne (.call i_divisors (.cons (.var 7) .nil)) (.bi .tuple (.comp (.range2 (.int 1) (.bin .add (.var 7) (.int 1))) (.name 9) (.cons (.cmp .eq (.bin .mul (.bin .fdiv (.var 7) (.var 9)) (.var 9)) (.var 7)) .nil) (.var 9)))) (.cmp .ne (.call i_factors (.cons (.var 7) .nil)) (.bi .tuple (.var 8))))) (.cons (.ret (.bl false))
  .nil) .nil)
  (.cons (.set 10 (.bin .sub (.call i__law_take (.cons (.var 1) (.cons (.int 60) .nil))) (.int 5)))
  (.cons (.set 11 (.call i_is_small_prime (.cons (.var 10) .nil)))
  (.cons (.ite (.or (.not (.isi (.var 11) [.bool])) (.cmp .ne (.var 11) (.and (.cmp .lt (.var 10) (.int 32)) (.call i__law_is_prime (.cons (.var 10) .nil))))) (.cons (.ret (.bl false))
  .nil) .nil)
  (.cons (.for_ (.seq (.lst (.cons (.bl true) (.cons (.bl false) (.cons .non (.cons (.str "2") (.cons (.tup (.cons (.int 2) .nil)) (.cons (.lst (.cons (.int 2) .nil)) (.cons (.tup .nil) .nil))))))))) (.name 12) (.cons (.ite (.or (.notB (.call i_is_integer (.cons (.var 12) .nil)) false) (.notB (.call i_is_small_prime (.cons (.var 12) .nil)) false)) (.cons (.ret (.bl false))
  .nil) .nil)
  .nil))
  (.cons (.ret (.isB (.call i_is_integer (.cons (.var 3) .nil)) true))
  .nil))))))))))))))))) [.v d0, .un, .un, .un, .un, .un, .un, .un, .un, .un, .un, .un, .un, .un, .un] M) := (rfl)
end PC

namespace PC
open PySem L2
def Stt (M : Mem) : Prop := ∃ s t : Int, M = [.lst [.int s, .int t]]
theorem callN_eq {n f : Nat} {ds : List D} {M : Mem} {fd : FD} (h : T.T f = some fd) : callN T.T (n + 1) f ds M = fd.run (callN T.T n) ds M := by rw [callN, h]
@[simp] theorem bir_len_lst (xs : List D) : Bi.run .len (.lst xs) = some (.int xs.length) := (rfl)
@[simp] theorem bir_len_tup (xs : List D) : Bi.run .len (.tup xs) = some (.int xs.length) := (rfl)
@[simp] theorem bir_int (i : Int) : Bi.run .int (.int i) = some (.int i) := (rfl)
@[simp] theorem bir_intb (i : Bool) : Bi.run .int (.bl i) = some (.int (if i then 1 else 0)) := (rfl)
@[simp] theorem bir_abs (i : Int) : Bi.run .abs (.int i) = some (.int (if i < 0 then -i else i)) := (rfl)
@[simp] theorem bir_tupt (xs : List D) : Bi.run .tuple (.tup xs) = some (.tup xs) := (rfl)
@[simp] theorem bir_tupl (xs : List D) : Bi.run .tuple (.lst xs) = some (.tup xs) := (rfl)
@[simp] theorem bir_lstt (xs : List D) : Bi.run .list (.tup xs) = some (.lst xs) := (rfl)
@[simp] theorem bir_lstl (xs : List D) : Bi.run .list (.lst xs) = some (.lst xs) := (rfl)
@[simp] theorem lenM_tup (M : Mem) (b : Bi) (xs : List D) : lenM M b (.tup xs) = Bi.run b (.tup xs) := by cases b <;> rfl
@[simp] theorem lenM_lst (M : Mem) (b : Bi) (xs : List D) : lenM M b (.lst xs) = Bi.run b (.lst xs) := by cases b <;> rfl
@[simp] theorem lenM_int (M : Mem) (b : Bi) (i : Int) : lenM M b (.int i) = Bi.run b (.int i) := by cases b <;> rfl
@[simp] theorem lenM_bl (M : Mem) (b : Bi) (i : Bool) : lenM M b (.bl i) = Bi.run b (.bl i) := by cases b <;> rfl
@[simp] theorem subM_tup' (M : Mem) (xs : List D) (i : Int) : subM M (.tup xs) (.int i) = L2.atI xs i := (rfl)
@[simp] theorem subM_lst' (M : Mem) (xs : List D) (i : Int) : subM M (.lst xs) (.int i) = L2.atI xs i := (rfl)
theorem subM_cell (M : Mem) (k : Nat) (i : Int) : subM M (.cell k) (.int i) = match M[k]? with | some (.lst xs) => L2.atI xs i | _ => none := rfl
@[simp] theorem bop_add (i j : Int) : Bop.run .add (.int i) (.int j) = some (.int (i + j)) := (rfl)
@[simp] theorem bop_sub (i j : Int) : Bop.run .sub (.int i) (.int j) = some (.int (i - j)) := (rfl)
theorem bop_mul (i j : Int) (h : mulOk i j = true) : Bop.run .mul (.int i) (.int j) = some (.int (i * j)) := by simp [Bop.run, h]
theorem bop_mod (i j : Int) (h : 0 < j) : Bop.run .mod (.int i) (.int j) = some (.int (i % j)) := by simp [Bop.run, h]
theorem bop_fdiv (i j : Int) (h : 0 < j) (k : j < 1073741824) : Bop.run .fdiv (.int i) (.int j) = some (.int (i / j)) := by
  have : divOk j = true := decide_eq_true ⟨h, by omega⟩
  simp [Bop.run, this]
theorem mulOk_r {i j : Int} (h : -(2 ^ 64) < j ∧ j < 2 ^ 64) : mulOk i j = true := by simp [mulOk]; exact .inr (by simpa using h)
theorem mulOk_l {i j : Int} (h : -(2 ^ 64) < i ∧ i < 2 ^ 64) : mulOk i j = true := by simp [mulOk]; exact .inl (by simpa using h)
@[simp] theorem atI_0 {α : Type} (x : α) (xs : List α) : L2.atI (x :: xs) 0 = some x := by simp [L2.atI, L2.ixN] <;> (try (rw [if_pos (by omega)])) <;> (try rfl)
@[simp] theorem atI_1 {α : Type} (x y : α) (xs : List α) : L2.atI (x :: y :: xs) 1 = some y := by simp [L2.atI, L2.ixN] <;> (try (rw [if_pos (by omega)])) <;> (try rfl)
theorem take_ok {n : Nat} {M : Mem} (h : Stt M) {m : Int} (h0 : 0 < m) (h1 : m < 1073741824) : ∃ x M', callN T.T (n + 1) i__law_take [.cell 0, .int m] M = .ok (.int x) M' ∧ Stt M' ∧ 0 ≤ x ∧ x < m := by
  obtain ⟨s, t, rfl⟩ := h
  rw [run__law_take]
  by_cases hs : 0 < s
  · refine ⟨s % m, [.lst [.int (s / m), .int t]], ?_, ⟨_, _, rfl⟩, Int.emod_nonneg _ (by omega), Int.emod_lt_of_pos _ h0⟩
    simp [subM_cell, hs, bop_mod _ _ h0, bop_fdiv _ _ h0 h1, L2.ixN]
  · refine ⟨((t * 48271 + 11) % 2147483647 / 7) % m, [.lst [.int s, .int ((t * 48271 + 11) % 2147483647)]], ?_, ⟨_, _, rfl⟩, Int.emod_nonneg _ (by omega), Int.emod_lt_of_pos _ h0⟩
    simp [subM_cell, hs, bop_mod, bop_mod _ _ h0, bop_fdiv, bop_mul, mulOk_r, L2.ixN]
theorem run_ne_same {d : D} (k : Nat) (hk : k ≤ 64) (h : D.fine k d = true) : Cop.run .ne d d = some false := by
  show (D.eqv? d d).map _ = _
  rw [eqv_fine k hk h h]
  simp
theorem run_eq_odd (k : Nat) (hk : k ≤ 64) {d : D} (h : D.fine k d = true) : Cop.run .eq d (.str "a word that nothing else is") = some false := by
  show D.eqv? d _ = _
  obtain ⟨q, h1, h2⟩ := fine_shaped hk h
  unfold D.eqv?
  rw [h1]
  have hs : SeqAt.shaped (.str "a word that nothing else is") = true := by decide +kernel
  simp only [D.py, h2, hs, Bool.and_self, if_true, Option.some.injEq]
  rcases fine_cases h with ⟨i, rfl⟩ | ⟨j, xs, rfl, hx, hd⟩
  · cases h1; simp [PyData.eqv]
  · obtain ⟨qs, e2, _, _⟩ := fines_py j xs hx
    rcases hd with rfl | rfl <;> simp only [D.py, e2, Option.some.injEq] at h1 <;> subst h1 <;> simp [PyData.eqv]
theorem odd_ok : ∀ (k n : Nat) (d : D) (M : Mem), k ≤ 64 → D.fine k d = true → callN T.T (n + k + 1) i__law_odd [d] M = .ok (.bl false) M
  | 0, n, d, M, _, h => by
    rcases fine_cases h with ⟨i, rfl⟩ | ⟨_, _, z, _⟩
    · rw [run__law_odd]
      have e := run_eq_odd 0 (by omega) h
      simp [e, Ty.any, Ty.is]
    · cases z
  | k + 1, n, d, M, hk, h => by
    rw [run__law_odd]
    have e := run_eq_odd (k + 1) hk h
    rcases fine_cases h with ⟨i, rfl⟩ | ⟨j, xs, z, hx, hd⟩
    · simp [e, Ty.any, Ty.is]
    · cases z
      have hi : ∀ x ∈ xs, callN T.T (n + (k + 1)) i__law_odd [x] M = .ok (.bl false) M := fun x hx' => odd_ok k n x M (by omega) (fines_iff.1 hx x hx')
      have key : ∀ (ys acc : List D) (f : D → Mem → Res (Option D)), (∀ y ∈ ys, f y M = .ok none M) → cmpL f ys acc M = .ok acc M := by
        intro ys acc f hy
        induction ys with
        | nil => rfl
        | cons y ys ih => rw [cmpL, hy y (List.mem_cons_self ..), Res.bind_ok]; exact ih fun z hz => hy z (List.mem_cons_of_mem _ hz)
      rcases hd with rfl | rfl
      · simp [e, Ty.any, Ty.is, ev_comp, D.items, Tg.put, Tg.slots, wipeE]
        rw [key _ _ _ fun y hy => ?_]
        · simp
        · rw [hi y hy]; simp
      · simp [e, Ty.any, Ty.is, ev_comp, D.items, Tg.put, Tg.slots, wipeE]
        rw [key _ _ _ fun y hy => ?_]
        · simp
        · rw [hi y hy]; simp
theorem honest_ok (k n : Nat) {d : D} {M : Mem} (hk : k ≤ 64) (h : D.fine k d = true) : callN T.T (n + k + 2) i__law_honest [d] M = .ok d M := by
  rw [run__law_honest]
  simp [odd_ok k n d M hk h]
theorem state_ok {n : Nat} (ns : List Int) : ∃ M', callN T.T (n + 1) i__law_state [.frz (IL ns)] [] = .ok (.cell 0) M' ∧ Stt M' := by
  rw [run__law_state]
  have sz : 2 ≤ sizeLine := by decide
  obtain ⟨ks, hk⟩ : ∃ ks, D.slice (.frz (IL ns)) none (some 63) = some (.lst (IL ks)) := by
    refine ⟨cutD ns none (some 63), ?_⟩
    simp [D.slice, cutD, List.map_drop, List.map_take]
  obtain ⟨ρ2, M2, e, ⟨s, t, s3, i1, i2⟩⟩ := forL_inv (t := .name 3) (f := exs (callN T.T n) (.cons (.set 1 (.bin .add (.bin .mul (.var 1) (.int 1000003)) (.bi .abs (.var 3))))
  (.cons (.set 2 (.bin .mod (.bi .int (.bin .add (.bin .mul (.var 2) (.int 48271)) (.var 3))) (.int 2147483647)))
  .nil))) D.int (fun done ρ M' => ∃ (s t : Int) (s3 : Slot), ρ = [.v (.frz (IL ns)), .v (.int s), .v (.int t), s3] ∧ M' = []) ks [] [.v (.frz (IL ns)), .v (.int 0), .v (.int 1), .un] []
    (fun a b ρ M' x eR q => by
      obtain ⟨s, t, s3, rfl, rfl⟩ := q
      refine ⟨_, _, _, rfl, ?_, s * 1000003 + (if x < 0 then -x else x), (t * 48271 + x) % 2147483647, .v (.int x), rfl, rfl⟩
      simp [bop_mul, mulOk_r, bop_mod]) ⟨0, 1, .un, rfl, rfl⟩
  subst i1 i2
  simp only [IL] at e hk
  simp [hk, D.items, e, sz]
  by_cases h : t = 1973665155
  · simp [h, sz]; exact ⟨_, _, rfl⟩
  · simp [h, sz]; exact ⟨_, _, rfl⟩
theorem run_ne_bl (a b : Bool) : Cop.run .ne (.bl a) (.bl b) = some (!(a == b)) := by cases a <;> cases b <;> decide
def okD : D → Bool | .cell _ => false | .frz _ => false | _ => true
def isI : D → Bool | .int _ => true | _ => false
theorem isint_ok {n : Nat} {M : Mem} {d : D} (h : okD d = true) : callN T.T (n + 1) i_is_integer [d] M = .ok (.bl (isI d)) M := by
  rw [run_is_integer]
  cases d <;> first | (simp [okD] at h; done) | simp [Ty.any, Ty.is, isI]
end PC

namespace PC
open PySem L2
section
variable {n : Nat} {M : Mem}
theorem power_ok {a : Int} {k : Nat} (ha : -(2 ^ 64) < a ∧ a < 2 ^ 64) (hk : k ≤ 1000) : callN T.T (n + 1) i_power [.int a, .int k] M = .ok (.int (a ^ k)) M := by
  rw [run_power]
  obtain ⟨ρ2, M2, e, ⟨rfl, s3, rfl⟩⟩ := forL_range (t := .name 3) (f := exs (callN T.T n) (.cons (.set 2 (.bin .mul (.var 2) (.var 0))) .nil)) (fun j ρ M' => M' = M ∧ ∃ s3, ρ = [.v (.int a), .v (.int k), .v (.int (a ^ j)), s3]) k [.v (.int a), .v (.int k), .v (.int 1), .un] M
    (fun j hj ρ M' h => by
      obtain ⟨rfl, s3, rfl⟩ := h
      refine ⟨_, _, _, rfl, ?_, rfl, .v (.int j), rfl⟩
      simp only [exs_cons, exs_nil, ex_set, ev_bin, ev_var, List.set_cons_zero, List.set_cons_succ, slotV_s, slotV_0, Res.of_some, Res.bind_ok, bop_mul _ _ (mulOk_r ha), Res.out_ok, Out.then_nx]
      rw [Int.pow_succ]) ⟨rfl, .un, by simp⟩
  simp only [exs_cons, exs_nil, ex_set, ev_int, ex_for, evI_range1, ev_var, List.set_cons_zero, List.set_cons_succ, slotV_s, slotV_0, Res.of_some, Res.bind_ok, Res.out_ok, Out.then_nx, rng1_nat (show k ≤ 1000000000 by omega)]
  rw [e]
  simp
theorem find_loop {a p : Int} (hp : 0 < p) (hb : p < 1000) : ∀ (ks : List Nat) (s2 : Slot), (∀ k ∈ ks, k ≤ 1000) → ∃ s2', forL (.name 2) (exs (callN T.T n) (.cons (.ite (.cmp .eq (.bin .mod (.bin .mul (.var 0) (.var 2)) (.var 1)) (.int 1)) (.cons (.ret (.var 2)) .nil) .nil) .nil)) (ks.map fun (k : Nat) => D.int (1 + (k : Int))) [.v (.int a), .v (.int p), s2] M =
    match ks.find? (fun (k : Nat) => decide (a * (1 + (k : Int)) % p = 1)) with
    | some k => .rt (.int (1 + (k : Int))) M
    | none => .nx [.v (.int a), .v (.int p), s2'] M
  | [], s2, _ => ⟨s2, rfl⟩
  | k :: ks, s2, h => by
    have hk := h k (List.mem_cons_self ..)
    obtain ⟨s', ih⟩ := find_loop hp hb ks (.v (.int (1 + (k : Int)))) fun j hj => h j (List.mem_cons_of_mem _ hj)
    refine ⟨s', ?_⟩
    rw [List.map_cons, forL]
    simp only [Tg.put, List.set_cons_zero, List.set_cons_succ, exs_cons, exs_nil, ex_ite, evT_def, ev_cmp, ev_bin, ev_var, ev_int, slotV_s, slotV_0, Res.of_some, Res.bind_ok, bop_mul _ _ (mulOk_r (show -(2 ^ 64) < (1 + (k : Int)) ∧ 1 + (k : Int) < 2 ^ 64 by omega)), bop_mod _ _ hp, run_eq_int, Option.map_some, truth_bl, Res.out_ok, List.find?]
    by_cases q : a * (1 + (k : Int)) % p = 1
    · simp [q]
    · simp only [q, decide_false, Bool.false_eq_true, if_false, Out.then_nx]
      exact ih
theorem rng_p {p : Int} (hp : 1 < p) (hb : p < 1000) : rng2 (.int 1) (.int p) M = .ok ((List.range (p - 1).toNat).map fun (k : Nat) => D.int (1 + (k : Int))) M := by
  rw [rng2_int (by omega) (by omega), rangeL_eq]
theorem inv_ok {a p : Int} (hf : Fld p) (hb : p < 1000) (ha : a % p ≠ 0) : ∃ k, 0 < k ∧ k < p ∧ a * k % p = 1 ∧ callN T.T (n + 1) i_inverse [.int a, .int p] M = .ok (.int k) M := by
  have p1 := hf.1
  obtain ⟨c, c0, c1, c2⟩ := hf.inv ha
  rw [run_inverse]
  obtain ⟨s', e⟩ := find_loop (n := n) (M := M) (a := a) (p := p) (by omega) hb (List.range (p - 1).toNat) .un fun k hk => by have := List.mem_range.1 hk; omega
  have ex : ((List.range (p - 1).toNat).find? (fun (k : Nat) => decide (a * (1 + (k : Int)) % p = 1))).isSome = true := by
    rw [List.find?_isSome]
    refine ⟨(c - 1).toNat, List.mem_range.2 (by omega), ?_⟩
    rw [decide_eq_true_iff, show 1 + (((c - 1).toNat : Nat) : Int) = c by omega]
    exact c2
  obtain ⟨k, hk⟩ := Option.isSome_iff_exists.1 ex
  have h1 := List.find?_some hk
  have h2 := List.mem_range.1 (List.mem_of_find?_eq_some hk)
  rw [hk] at e
  refine ⟨1 + (k : Int), by omega, by omega, of_decide_eq_true h1, ?_⟩
  simp only [exs_cons, exs_nil, ex_for, evI_range2, ev_int, ev_var, slotV_s, slotV_0, Res.of_some, Res.bind_ok, rng_p p1 hb, Res.out_ok, e, Out.then_rt, endR_rt]
theorem inv_no {a p : Int} (hp : 1 < p) (hb : p < 1000) (ha : a % p = 0) : callN T.T (n + 1) i_inverse [.int a, .int p] M = .err ⟨"Refused", ["Refused", "Fault", "ValueError"], [("reason", .str "inverse")]⟩ M := by
  rw [run_inverse]
  obtain ⟨s', e⟩ := find_loop (n := n) (M := M) (a := a) (p := p) (by omega) hb (List.range (p - 1).toNat) .un fun k hk => by have := List.mem_range.1 hk; omega
  have ex : (List.range (p - 1).toNat).find? (fun (k : Nat) => decide (a * (1 + (k : Int)) % p = 1)) = none := by
    rw [List.find?_eq_none]
    intro k hk
    rw [decide_eq_true_iff, Int.mul_emod, ha]
    simp
  rw [ex] at e
  simp only [exs_cons, exs_nil, ex_for, evI_range2, ev_int, ev_var, slotV_s, slotV_0, Res.of_some, Res.bind_ok, rng_p hp hb, Res.out_ok, e, Out.then_nx, ex_raise, ev_str, D.flat, if_true, Out.then_er, endR_er]
theorem reason_ok {a p : Int} (hp : 1 < p) (hb : p < 1000) (ha : a % p = 0) : callN T.T (n + 2) i__law_reason [.int a, .int p] M = .ok (.tup [.str "refused", .str "inverse"]) M := by
  have e1 := inv_no (n := n) (M := M) hp hb ha
  rw [run__law_reason]
  simp only [exs_cons, exs_nil, ex_try, ex_expr, ev_call, evs_cons, evs_nil, ev_var, slotV_s, slotV_0, Res.of_some, Res.bind_ok, e1, Res.bind_err, Res.out_err, Out.then_er]
  rfl
end
end PC

namespace PC
def isPn (z : Nat) : Bool := decide (1 < z) && decide (((List.range (z - 2)).filter fun k => decide (z / (2 + k) * (2 + k) = z)).length = 0)
def mostN (n d : Nat) : Nat := ((List.range 8).filter fun k => decide (n / d ^ (1 + k) * d ^ (1 + k) = n)).length
def dueN (n : Nat) : List (Nat × Nat) := ((List.range (n - 1)).filter fun k => isPn (2 + k) && decide (0 < mostN n (2 + k))).map fun k => (2 + k, mostN n (2 + k))
def divG : Nat → Nat → Nat → Nat → Nat × Nat
  | 0, r, _, k => (r, k)
  | m + 1, r, d, k => if r % d = 0 then divG m (r / d) d (k + 1) else (r, k)
def facG : Nat → Nat → Nat → List (Nat × Nat) → Option (List (Nat × Nat))
  | 0, _, _, _ => none
  | m + 1, r, d, found => if 1 < r then facG m (divG r r d 0).1 (d + 1) (if 0 < (divG r r d 0).2 then found ++ [(d, (divG r r d 0).2)] else found) else some found
def bigP : Nat := 15934017845547527751939463349734315575032128066792749677883109155917229132242220982347948
def isQ (d : Nat) : Bool := Nat.testBit bigP d
def dueR (n : Nat) : List (Nat × Nat) := ((List.range (n - 1)).filter fun k => isQ (2 + k) && decide (0 < mostN n (2 + k))).map fun k => (2 + k, mostN n (2 + k))
theorem isQ_ok : ∀ d, d < 301 → isPn d = isQ d := by decide +kernel
def listEqb : List (Nat × Nat) → List (Nat × Nat) → Bool
  | [], [] => true
  | x :: xs, y :: ys => Nat.beq x.1 y.1 && Nat.beq x.2 y.2 && listEqb xs ys
  | _, _ => false
theorem listEqb_eq : ∀ a b, listEqb a b = true → a = b
  | [], [], _ => rfl
  | [], _ :: _, h => by cases h
  | _ :: _, [], h => by cases h
  | x :: xs, y :: ys, h => by
    simp only [listEqb, Bool.and_eq_true] at h
    obtain ⟨⟨h1, h2⟩, h3⟩ := h
    have e1 := Nat.eq_of_beq_eq_true h1
    have e2 := Nat.eq_of_beq_eq_true h2
    rw [listEqb_eq xs ys h3]
    cases x; cases y; simp_all
def okN (n : Nat) : Bool := match facG 400 n 2 [] with | some l => listEqb l (dueR n) | none => false
def allN : Nat → Nat → Bool
  | 0, _ => true
  | m + 1, n => okN n && allN m (n + 1)
theorem all_300 : allN 300 1 = true := by decide +kernel
theorem allN_at : ∀ m n i, allN m n = true → n ≤ i → i < n + m → okN i = true
  | 0, n, i, _, h1, h2 => by omega
  | m + 1, n, i, h, h1, h2 => by
    rw [allN, Bool.and_eq_true] at h
    by_cases q : i = n
    · subst q; exact h.1
    · exact allN_at m (n + 1) i h.2 (by omega) (by omega)
theorem due_eq {n : Nat} (h : n ≤ 300) : dueN n = dueR n := by
  unfold dueN dueR
  congr 1
  refine List.filter_congr fun k hk => ?_
  have := List.mem_range.1 hk
  rw [isQ_ok _ (by omega)]
theorem fac_due {n : Nat} (h1 : 1 ≤ n) (h : n ≤ 300) : facG 400 n 2 [] = some (dueN n) := by
  have := allN_at 300 1 n all_300 h1 (by omega)
  unfold okN at this
  rw [due_eq h]
  split at this
  · rename_i l e
    rw [e, listEqb_eq _ _ this]
  · cases this
end PC

namespace PC
open PySem L2
theorem sz_ : sizeLine = 16777216 := rfl
theorem cast_dm (n d : Nat) : ((n : Int) / (d : Int) * (d : Int) = (n : Int)) ↔ n / d * d = n := by
  rw [← Int.natCast_ediv, ← Int.natCast_mul, Int.natCast_inj]
section
variable {n : Nat} {M : Mem}
theorem isprime_ok {z : Int} {m : Nat} (hz : z = m ∨ z ≤ 0 ∧ m = 0) (hm : m ≤ 1000) : callN T.T (n + 1) i__law_is_prime [.int z] M = .ok (.bl (isPn m)) M := by
  have sz := sz_
  rw [run__law_is_prime]
  rcases hz with rfl | ⟨hz, rfl⟩
  · have hc := cmp_filt (Φ := callN T.T n) (ρ := [.v (.int m), .un]) (M := M) (M1 := M) (it := .range2 (.int 2) (.var 0)) (t := .name 1) (c := .cmp .eq (.bin .mul (.bin .fdiv (.var 0) (.var 1)) (.var 1)) (.var 0)) (elt := .var 1)
      (w := fun k : Nat => D.int ((2 + k : Nat) : Int)) (g := fun k : Nat => D.int ((2 + k : Nat) : Int)) (fun k => decide (m / (2 + k) * (2 + k) = m)) (List.range (m - 2)) (by
        simp only [evI_range2, ev_int, ev_var, slotV_s, slotV_0, Res.of_some, Res.bind_ok, rng2_int (show -1000000000 ≤ (2 : Int) ∧ (2 : Int) ≤ 1000000000 by omega) (show -1000000000 ≤ (m : Int) ∧ (m : Int) ≤ 1000000000 by omega), rangeL_eq]
        rw [show ((m : Int) - 2).toNat = m - 2 by omega]
        simp) (fun k hk => ⟨_, rfl, by
        have hk := List.mem_range.1 hk
        simp only [wipeE, Tg.slots, List.set_cons_zero, List.set_cons_succ, evT_def, ev_cmp, ev_bin, ev_var, slotV_s, slotV_0, Res.of_some, Res.bind_ok, bop_fdiv (m : Int) ((2 + k : Nat) : Int) (by omega) (by omega), bop_mul _ _ (mulOk_r (show -(2 ^ 64) < ((2 + k : Nat) : Int) ∧ ((2 + k : Nat) : Int) < 2 ^ 64 by omega)), run_eq_int, Option.map_some, truth_bl]
        refine congrArg (fun b => Res.ok b M) ?_
        rw [decide_eq_decide]
        exact cast_dm m (2 + k), fun _ => by simp [wipeE, Tg.slots]⟩) (by simp; omega)
    simp only [exs_cons, exs_nil, ex_ret, ev_and, ev_cmp, ev_var, ev_int, slotV_s, slotV_0, Res.of_some, Res.bind_ok, run_gt_int, Option.map_some, truth_bl]
    by_cases h1 : 1 < m
    · have : decide ((1 : Int) < (m : Int)) = true := decide_eq_true (by omega)
      simp only [this, ev_cmp, ev_bi, hc, Res.bind_ok, lenM_lst, bir_len_lst, Res.of_some, ev_int, run_eq_int, Option.map_some, Res.out_ok, Out.then_rt, endR_rt]
      refine congrArg (fun b => Res.ok (D.bl b) M) ?_
      simp only [isPn, h1, decide_true, Bool.true_and, List.length_map]
      rw [decide_eq_decide]
      omega
    · have : decide ((1 : Int) < (m : Int)) = false := decide_eq_false (by omega)
      simp [this, isPn, h1]
  · simp [show ¬ (1 < z) by omega, isPn]
theorem pow_b {d k : Nat} (hd : 1 ≤ d) (h : d ≤ 300) (hk : k ≤ 8) : divOk (((d ^ k : Nat)) : Int) = true := by
  have h1 : d ^ k ≤ 300 ^ k := Nat.pow_le_pow_left h k
  have h2 : (300 : Nat) ^ k ≤ 300 ^ 8 := Nat.pow_le_pow_right (by omega) hk
  have h3 : (300 : Nat) ^ 8 < 2 ^ 80 := by decide
  have h4 : 0 < d ^ k := Nat.pow_pos hd
  refine decide_eq_true ⟨by omega, ?_⟩
  have : d ^ k < 2 ^ 80 := by omega
  exact_mod_cast this
theorem bop_fdiv2 (i j : Int) (h : divOk j = true) : Bop.run .fdiv (.int i) (.int j) = some (.int (i / j)) := by simp [Bop.run, h]
/-- how often a number divides, as worked out -/
theorem most_ok {m d : Nat} (hm : m ≤ 300) (hd : 1 ≤ d) (hd2 : d ≤ 300) {a0 a1 a2 a3 : Slot} {s4 s5 s6 s8 s10 s11 s12 s13 s14 : Slot} : ev (callN T.T (n + 3)) (.bi .len (.comp (.range2 (.int 1) (.int 9)) (.name 4) (.cons (.cmp .eq (.bin .mul (.bin .fdiv (.var 7) (.call i__law_honest (.cons (.call i_power (.cons (.var 9) (.cons (.var 4) .nil))) .nil))) (.call i__law_honest (.cons (.call i_power (.cons (.var 9) (.cons (.var 4) .nil))) .nil))) (.var 7)) .nil) (.var 4)))
    [a0, a1, a2, a3, s4, s5, s6, .v (.int m), s8, .v (.int d), s10, s11, s12, s13, s14] M = .ok (.int (mostN m d)) M := by
  have sz := sz_
  have hc := cmp_filt (Φ := callN T.T (n + 3)) (ρ := [a0, a1, a2, a3, s4, s5, s6, .v (.int m), s8, .v (.int d), s10, s11, s12, s13, s14]) (M := M) (M1 := M) (it := .range2 (.int 1) (.int 9)) (t := .name 4) (c := .cmp .eq (.bin .mul (.bin .fdiv (.var 7) (.call i__law_honest (.cons (.call i_power (.cons (.var 9) (.cons (.var 4) .nil))) .nil))) (.call i__law_honest (.cons (.call i_power (.cons (.var 9) (.cons (.var 4) .nil))) .nil))) (.var 7)) (elt := .var 4)
    (w := fun k : Nat => D.int ((1 + k : Nat) : Int)) (g := fun k : Nat => D.int ((1 + k : Nat) : Int)) (fun k => decide (m / d ^ (1 + k) * d ^ (1 + k) = m)) (List.range 8) (by
      simp only [evI_range2, ev_int, Res.bind_ok, rng2_int (show -1000000000 ≤ (1 : Int) ∧ (1 : Int) ≤ 1000000000 by omega) (show -1000000000 ≤ (9 : Int) ∧ (9 : Int) ≤ 1000000000 by omega), rangeL_eq]
      rw [show ((9 : Int) - 1).toNat = 8 from rfl]
      simp) (fun k hk => ⟨_, rfl, by
      have hk := List.mem_range.1 hk
      have e1 := power_ok (n := n + 2) (M := M) (a := (d : Int)) (k := 1 + k) (by omega) (by omega)
      have e2 := honest_ok 0 (n + 1) (d := .int ((d : Int) ^ (1 + k))) (M := M) (by omega) rfl
      have ep : (d : Int) ^ (1 + k) = ((d ^ (1 + k) : Nat) : Int) := (Int.natCast_pow d (1 + k)).symm
      have q1 := pow_b hd hd2 (show 1 + k ≤ 8 by omega)
      rw [ep] at e1 e2
      have q2 : mulOk ((m : Int) / ((d ^ (1 + k) : Nat) : Int)) ((d ^ (1 + k) : Nat) : Int) = true := by
        rw [← Int.natCast_ediv]
        have : m / d ^ (1 + k) ≤ m := Nat.div_le_self ..
        generalize m / d ^ (1 + k) = q at this
        exact mulOk_l (by omega)
      simp only [Nat.add_zero] at e2
      simp only [wipeE, Tg.slots, List.set_cons_zero, List.set_cons_succ, evT_def, ev_cmp, ev_bin, ev_call, evs_cons, evs_nil, ev_var, slotV_s, slotV_0, Res.of_some, Res.bind_ok]
      rw [e1]
      simp only [Res.bind_ok]
      rw [e2]
      simp only [Res.bind_ok, bop_fdiv2 _ _ q1, Res.of_some]
      rw [e1]
      simp only [Res.bind_ok]
      rw [e2]
      simp only [Res.bind_ok, bop_mul _ _ q2, Res.of_some, run_eq_int, Option.map_some, truth_bl]
      refine congrArg (fun b => Res.ok b M) ?_
      rw [decide_eq_decide]
      exact cast_dm m (d ^ (1 + k)), fun _ => by simp [wipeE, Tg.slots]⟩) (by simp; omega)
  simp only [ev_bi, hc, Res.bind_ok, lenM_lst, bir_len_lst, Res.of_some, List.length_map, mostN]
theorem divG_le : ∀ (m r d k : Nat), 2 ≤ d → 1 ≤ r → 1 ≤ (divG m r d k).1 ∧ (divG m r d k).1 ≤ r
  | 0, r, d, k, _, h => ⟨h, Nat.le_refl r⟩
  | m + 1, r, d, k, hd, h => by
    rw [divG]
    split
    · rename_i hz
      have h1 : 1 ≤ r / d := Nat.div_pos (Nat.le_of_dvd h (Nat.dvd_of_mod_eq_zero hz)) (by omega)
      obtain ⟨q1, q2⟩ := divG_le m (r / d) d (k + 1) hd h1
      exact ⟨q1, Nat.le_trans q2 (Nat.div_le_self ..)⟩
    · exact ⟨h, Nat.le_refl r⟩
theorem inner_ok {d : Nat} (hd : 2 ≤ d) (hd2 : d ≤ 3000) {a0 a1 : Slot} : ∀ (m r k N : Nat), r ≤ m → 1 ≤ r → m < N → whlL (evT (callN T.T n) (.cmp .eq (.bin .mod (.var 2) (.var 3)) (.int 0))) (exs (callN T.T n) (.cons (.set 2 (.bin .fdiv (.var 2) (.var 3))) (.cons (.set 4 (.bin .add (.var 4) (.int 1))) .nil))) N
      [a0, a1, .v (.int r), .v (.int d), .v (.int k)] M = .nx [a0, a1, .v (.int (divG m r d k).1), .v (.int d), .v (.int (divG m r d k).2)] M
  | 0, r, k, N, h1, h2, _ => by omega
  | m + 1, r, k, N, h1, h2, h3 => by
    obtain ⟨N, rfl⟩ : ∃ K, N = K + 1 := ⟨N - 1, by omega⟩
    rw [whlL, divG]
    simp only [evT_def, ev_cmp, ev_bin, ev_var, ev_int, slotV_s, slotV_0, Res.of_some, Res.bind_ok, bop_mod _ _ (show (0 : Int) < d by omega), run_eq_int, Option.map_some, truth_bl, Res.out_ok]
    have e : decide ((r : Int) % (d : Int) = 0) = decide (r % d = 0) := by
      rw [decide_eq_decide, ← Int.natCast_emod]; omega
    rw [e]
    by_cases hz : r % d = 0
    · have h4 : 1 ≤ r / d := Nat.div_pos (Nat.le_of_dvd h2 (Nat.dvd_of_mod_eq_zero hz)) (by omega)
      have h5 : r / d < r := Nat.div_lt_self h2 (by omega)
      simp only [hz, decide_true, if_true, exs_cons, exs_nil, ex_set, ev_bin, ev_var, ev_int, slotV_s, slotV_0, Res.of_some, Res.bind_ok, bop_fdiv _ _ (show (0 : Int) < d by omega) (show (d : Int) < 1073741824 by omega), Res.out_ok, Out.then_nx, List.set_cons_zero, List.set_cons_succ, bop_add]
      rw [← Int.natCast_ediv]
      exact inner_ok hd hd2 m (r / d) (k + 1) N (by omega) h4 (by omega)
    · simp only [hz, decide_false, Bool.false_eq_true, if_false]
def fD (l : List (Nat × Nat)) : List D := l.map fun x => .tup [.int x.1, .int x.2]
theorem outer_ok {a0 : Slot} : ∀ (m r d : Nat) (found res : List (Nat × Nat)) (N : Nat) (s4 : Slot), facG m r d found = some res → m ≤ N → 1 ≤ r → r ≤ 1000 → 2 ≤ d → d + m ≤ 2000 → found.length ≤ d → ∃ s2 s3 s4', whlL (evT (callN T.T n) (.cmp .gt (.var 2) (.int 1))) (exs (callN T.T n) (.cons (.set 4 (.int 0))
      (.cons (.whl 1000000 (.cmp .eq (.bin .mod (.var 2) (.var 3)) (.int 0)) (.cons (.set 2 (.bin .fdiv (.var 2) (.var 3)))
      (.cons (.set 4 (.bin .add (.var 4) (.int 1)))
      .nil)))
      (.cons (.ite (.cmp .gt (.var 4) (.int 0)) (.cons (.append 1 (.tup (.cons (.var 3) (.cons (.var 4) .nil))))
      .nil) .nil)
      (.cons (.set 3 (.bin .add (.var 3) (.int 1)))
      .nil))))) N [a0, .own (fD found), .v (.int r), .v (.int d), s4] M = .nx [a0, .own (fD res), s2, s3, s4'] M
  | 0, r, d, found, res, N, s4, h, _, _, _, _, _, _ => by cases h
  | m + 1, r, d, found, res, N, s4, h, h1, h2, h3, h4, h5, h6 => by
    have sz := sz_
    obtain ⟨N, rfl⟩ : ∃ K, N = K + 1 := ⟨N - 1, by omega⟩
    rw [whlL]
    rw [facG] at h
    simp only [evT_def, ev_cmp, ev_var, ev_int, slotV_s, slotV_0, Res.of_some, Res.bind_ok, run_gt_int, Option.map_some, truth_bl, Res.out_ok]
    by_cases hr : 1 < r
    · rw [if_pos hr] at h
      obtain ⟨q1, q2⟩ := divG_le r r d 0 h4 h2
      have ih := fun s => outer_ok (a0 := a0) m (divG r r d 0).1 (d + 1) _ res N s h (by omega) q1 (by omega) (by omega) (by omega) (by split <;> first | omega | (simp only [List.length_append, List.length_cons, List.length_nil]; omega))
      have ei := inner_ok (n := n) (M := M) (a0 := a0) (a1 := .own (fD found)) h4 (by omega) r r 0 1000000 (Nat.le_refl r) h2 (by omega)
      have q3 : (0 + 1 + 1 : Nat) ≤ sizeLine := by omega
      simp only [show decide ((1 : Int) < (r : Int)) = true from decide_eq_true (by omega), if_true, exs_cons, exs_nil, ex_set, ev_int, Res.out_ok, Out.then_nx, List.set_cons_zero, List.set_cons_succ]
      rw [show ((0 : Nat) : Int) = 0 from rfl] at ei
      rw [ex, ei]
      simp only [Out.then_nx, ex_ite, evT_def, ev_cmp, ev_var, ev_int, slotV_s, slotV_0, Res.of_some, Res.bind_ok, run_gt_int, Option.map_some, truth_bl, Res.out_ok]
      by_cases hk : 0 < (divG r r d 0).2
      · obtain ⟨s2, s3, s4', e⟩ := ih (.v (.int (divG r r d 0).2))
        refine ⟨s2, s3, s4', ?_⟩
        have hl : (fD found).length < sizeLine := by simp only [fD, List.length_map]; omega
        rw [if_pos hk] at e
        simp only [show decide ((0 : Int) < ((divG r r d 0).2 : Int)) = true from decide_eq_true (by omega), if_true, exs_cons, exs_nil, ex_append, slotO_s, slotO_0, ev_tup, evs_cons, evs_nil, ev_var, slotV_s, slotV_0, Res.of_some, Res.bind_ok, List.length_cons, List.length_nil, if_pos q3, Res.out_ok, if_pos hl, Out.then_nx, List.set_cons_zero, List.set_cons_succ, ex_set, ev_bin, ev_int, bop_add]
        have ef : fD (found ++ [(d, (divG r r d 0).2)]) = fD found ++ [.tup [.int d, .int (divG r r d 0).2]] := by simp [fD]
        rw [ef] at e
        exact e
      · obtain ⟨s2, s3, s4', e⟩ := ih (.v (.int (divG r r d 0).2))
        refine ⟨s2, s3, s4', ?_⟩
        rw [if_neg hk] at e
        simp only [show decide ((0 : Int) < ((divG r r d 0).2 : Int)) = false from decide_eq_false (by omega), Bool.false_eq_true, if_false, exs_nil, exs_cons, Out.then_nx, ex_set, ev_bin, ev_var, ev_int, slotV_s, slotV_0, Res.of_some, Res.bind_ok, bop_add, Res.out_ok, List.set_cons_zero, List.set_cons_succ]
        exact e
    · rw [if_neg hr] at h
      cases h
      refine ⟨.v (.int r), .v (.int d), s4, ?_⟩
      simp only [show decide ((1 : Int) < (r : Int)) = false from decide_eq_false (by omega), Bool.false_eq_true, if_false]
theorem factors_ok {m : Nat} (h1 : 1 ≤ m) (h2 : m ≤ 300) : callN T.T (n + 1) i_factors [.int m] M = .ok (.tup (fD (dueN m))) M := by
  rw [run_factors]
  obtain ⟨s2, s3, s4, e⟩ := outer_ok (n := n) (M := M) (a0 := .v (.int m)) 400 m 2 [] (dueN m) 1000000 .un (fac_due h1 h2) (by omega) h1 (by omega) (by omega) (by omega) (by simp)
  have e0 : fD [] = [] := rfl
  rw [e0] at e
  have q0 : (0 : Nat) ≤ sizeLine := Nat.zero_le _
  simp only [exs_cons, exs_nil, ex_own, ev_lst, evs_nil, Res.bind_ok, List.length_nil, if_pos q0, Res.out_ok, Out.then_nx, List.set_cons_zero, List.set_cons_succ, ex_set, ev_var, ev_int, slotV_s, slotV_0, Res.of_some]
  rw [ex]
  rw [show ((2 : Nat) : Int) = 2 from rfl] at e
  rw [e]
  simp
end
end PC

namespace PC
open PySem L2
def prD : D := .tup [.int 2, .int 3, .int 5, .int 7, .int 11, .int 13, .int 17, .int 19, .int 23, .int 29, .int 31]
def isPz (z : Int) : Bool := isPn z.toNat
def primeP (z : Int) : Bool := decide (z < 32) && isPz z
def hasTest (k : Nat) : Bool := match Cop.run .isin (.int ((k : Int) - 5)) prD with | some b => b == primeP ((k : Int) - 5) | none => false
theorem has_all : ∀ k, k < 60 → hasTest k = true := by decide +kernel
theorem has_prime {z : Int} (h : -5 ≤ z ∧ z < 55) : Cop.run .isin (.int z) prD = some (primeP z) := by
  have := has_all (z + 5).toNat (by omega)
  unfold hasTest at this
  rw [show (((z + 5).toNat : Nat) : Int) - 5 = z by omega] at this
  split at this
  · rename_i b e
    rw [e, beq_iff_eq.mp this]
  · cases this
section
variable {n : Nat} {M : Mem}
theorem isprime_z {z : Int} (h : z ≤ 1000) : callN T.T (n + 1) i__law_is_prime [.int z] M = .ok (.bl (isPz z)) M :=
  isprime_ok (z := z) (m := z.toNat) (by omega) (by omega)
theorem small_ok {z : Int} (h : -5 ≤ z ∧ z < 55) : callN T.T (n + 2) i_is_small_prime [.int z] M = .ok (.bl (primeP z)) M := by
  have e1 := isint_ok (n := n) (M := M) (d := .int z) rfl
  have e2 := has_prime h
  rw [run_is_small_prime]
  unfold prD at e2
  simp only [exs_cons, exs_nil, ex_ret, ev_and, ev_call, evs_cons, evs_nil, ev_var, slotV_s, slotV_0, Res.of_some, Res.bind_ok, e1, isI, truth_bl, ev_cmp, ev_glob, e2, Option.map_some, Res.out_ok, Out.then_rt, endR_rt]
theorem small_no {d : D} (h : okD d = true) (hi : isI d = false) : callN T.T (n + 2) i_is_small_prime [d] M = .ok (.bl false) M := by
  have e1 := isint_ok (n := n) (M := M) h
  rw [hi] at e1
  rw [run_is_small_prime]
  simp only [exs_cons, exs_nil, ex_ret, ev_and, ev_call, evs_cons, evs_nil, ev_var, slotV_s, slotV_0, Res.of_some, Res.bind_ok, e1, truth_bl, Res.out_ok, Out.then_rt, endR_rt]
theorem kinds_loop {a0 a1 a2 a3 a4 a5 a6 a7 a8 a9 a10 a11 a13 a14 : Slot} : ∀ (xs : List D) (s : Slot), (∀ x ∈ xs, okD x = true ∧ isI x = false) → ∃ s', forL (.name 12) (exs (callN T.T (n + 2)) (.cons (.ite (.or (.notB (.call i_is_integer (.cons (.var 12) .nil)) false) (.notB (.call i_is_small_prime (.cons (.var 12) .nil)) false)) (.cons (.ret (.bl false))
      .nil) .nil) .nil)) xs [a0, a1, a2, a3, a4, a5, a6, a7, a8, a9, a10, a11, s, a13, a14] M = .nx [a0, a1, a2, a3, a4, a5, a6, a7, a8, a9, a10, a11, s', a13, a14] M
  | [], s, _ => ⟨s, rfl⟩
  | x :: xs, s, h => by
    obtain ⟨h1, h2⟩ := h x (List.mem_cons_self ..)
    obtain ⟨s', ih⟩ := kinds_loop xs (.v x) fun y hy => h y (List.mem_cons_of_mem _ hy)
    have e1 := isint_ok (n := n + 1) (M := M) h1
    have e2 := small_no (n := n) (M := M) h1 h2
    rw [h2] at e1
    refine ⟨s', ?_⟩
    rw [forL]
    have nb : ∀ (e : E) (ρ : Ev) (b : Bool), ev (callN T.T (n + 2)) e ρ M = .ok (.bl b) M → ev (callN T.T (n + 2)) (.notB e false) ρ M = .ok (.bl (!(b == false))) M := fun e ρ b h => by rw [ev, h]; rfl
    have c1 : ev (callN T.T (n + 2)) (.call i_is_integer (.cons (.var 12) .nil)) [a0, a1, a2, a3, a4, a5, a6, a7, a8, a9, a10, a11, .v x, a13, a14] M = .ok (.bl false) M := by
      simp only [ev_call, evs_cons, evs_nil, ev_var, slotV_s, slotV_0, Res.of_some, Res.bind_ok, e1]
    have c2 : ev (callN T.T (n + 2)) (.call i_is_small_prime (.cons (.var 12) .nil)) [a0, a1, a2, a3, a4, a5, a6, a7, a8, a9, a10, a11, .v x, a13, a14] M = .ok (.bl false) M := by
      simp only [ev_call, evs_cons, evs_nil, ev_var, slotV_s, slotV_0, Res.of_some, Res.bind_ok, e2]
    simp only [Tg.put, List.set_cons_zero, List.set_cons_succ, exs_cons, exs_nil, ex_ite, evT_def, ev_or, nb _ _ _ c1, nb _ _ _ c2, Res.bind_ok, beq_self_eq_true, Bool.not_true, truth_bl, Res.of_some, Res.out_ok, Bool.false_eq_true, if_false, Out.then_nx]
    exact ih
/-- the divisors -/
def divN (m : Nat) : List Nat := (List.range m).filter fun k => decide (m % (1 + k) = 0)
def dvD (m : Nat) : List D := (divN m).map fun k => .int ((1 + k : Nat) : Int)
theorem rng_1 {m : Nat} (hm : m ≤ 1000) : rng2 (.int 1) (.int ((m : Int) + 1)) M = .ok ((List.range m).map fun (k : Nat) => D.int ((1 + k : Nat) : Int)) M := by
  rw [rng2_int (by omega) (by omega), rangeL_eq, show ((m : Int) + 1 - 1).toNat = m by omega]
  simp
theorem divisors_ok {m : Nat} (hm : m ≤ 300) : callN T.T (n + 1) i_divisors [.int m] M = .ok (.tup (dvD m)) M := by
  have sz := sz_
  rw [run_divisors]
  have hc := cmp_filt (Φ := callN T.T n) (ρ := [.v (.int m), .un]) (M := M) (M1 := M) (it := .range2 (.int 1) (.bin .add (.var 0) (.int 1))) (t := .name 1) (c := .cmp .eq (.bin .mod (.var 0) (.var 1)) (.int 0)) (elt := .var 1)
    (w := fun k : Nat => D.int ((1 + k : Nat) : Int)) (g := fun k : Nat => D.int ((1 + k : Nat) : Int)) (fun k => decide (m % (1 + k) = 0)) (List.range m) (by
      simp only [evI_range2, ev_int, ev_bin, ev_var, slotV_s, slotV_0, Res.of_some, Res.bind_ok, bop_add, rng_1 (show m ≤ 1000 by omega)]) (fun k hk => ⟨_, rfl, by
      simp only [wipeE, Tg.slots, List.set_cons_zero, List.set_cons_succ, evT_def, ev_cmp, ev_bin, ev_var, ev_int, slotV_s, slotV_0, Res.of_some, Res.bind_ok, bop_mod _ _ (show (0 : Int) < ((1 + k : Nat) : Int) by omega), run_eq_int, Option.map_some, truth_bl]
      refine congrArg (fun b => Res.ok b M) ?_
      rw [decide_eq_decide, ← Int.natCast_emod]
      omega, fun _ => by simp [wipeE, Tg.slots]⟩) (by simp; omega)
  simp only [exs_cons, exs_nil, ex_ret, ev_bi, hc, Res.bind_ok, lenM_lst, bir_tupl, Res.of_some, Res.out_ok, Out.then_rt, endR_rt]
  rfl
theorem dm_iff (m d : Nat) (hd : 0 < d) : m / d * d = m ↔ m % d = 0 := by
  have := Nat.div_add_mod m d
  rw [Nat.mul_comm] at this
  omega
theorem tried_ok {m : Nat} (hm : m ≤ 300) {a0 a1 a2 a3 s4 s5 s6 s8 s9 s10 s11 s12 s13 s14 : Slot} : ev (callN T.T n) (.bi .tuple (.comp (.range2 (.int 1) (.bin .add (.var 7) (.int 1))) (.name 9) (.cons (.cmp .eq (.bin .mul (.bin .fdiv (.var 7) (.var 9)) (.var 9)) (.var 7)) .nil) (.var 9)))
    [a0, a1, a2, a3, s4, s5, s6, .v (.int m), s8, s9, s10, s11, s12, s13, s14] M = .ok (.tup (dvD m)) M := by
  have sz := sz_
  have hc := cmp_filt (Φ := callN T.T n) (ρ := [a0, a1, a2, a3, s4, s5, s6, .v (.int m), s8, s9, s10, s11, s12, s13, s14]) (M := M) (M1 := M) (it := .range2 (.int 1) (.bin .add (.var 7) (.int 1))) (t := .name 9) (c := .cmp .eq (.bin .mul (.bin .fdiv (.var 7) (.var 9)) (.var 9)) (.var 7)) (elt := .var 9)
    (w := fun k : Nat => D.int ((1 + k : Nat) : Int)) (g := fun k : Nat => D.int ((1 + k : Nat) : Int)) (fun k => decide (m % (1 + k) = 0)) (List.range m) (by
      simp only [evI_range2, ev_int, ev_bin, ev_var, slotV_s, slotV_0, Res.of_some, Res.bind_ok, bop_add, rng_1 (show m ≤ 1000 by omega)]) (fun k hk => ⟨_, rfl, by
      have hk := List.mem_range.1 hk
      simp only [wipeE, Tg.slots, List.set_cons_zero, List.set_cons_succ, evT_def, ev_cmp, ev_bin, ev_var, ev_int, slotV_s, slotV_0, Res.of_some, Res.bind_ok, bop_fdiv (m : Int) ((1 + k : Nat) : Int) (by omega) (by omega), bop_mul _ _ (mulOk_r (show -(2 ^ 64) < ((1 + k : Nat) : Int) ∧ ((1 + k : Nat) : Int) < 2 ^ 64 by omega)), run_eq_int, Option.map_some, truth_bl]
      refine congrArg (fun b => Res.ok b M) ?_
      rw [decide_eq_decide, cast_dm]
      exact dm_iff m (1 + k) (by omega), fun _ => by simp [wipeE, Tg.slots]⟩) (by simp; omega)
  simp only [ev_bi, hc, Res.bind_ok, lenM_lst, bir_tupl, Res.of_some]
  rfl
/-- the factors as worked out -/
def duD (m : Nat) (ks : List Nat) : List D := fD ((ks.filter fun k => isPn (2 + k) && decide (0 < mostN m (2 + k))).map fun k => (2 + k, mostN m (2 + k)))
theorem dues_ok {m : Nat} (hm : m ≤ 300) {a0 a1 a2 a3 s4 s5 s6 s9 s10 s11 s12 s13 s14 : Slot} : ∃ s9' s14', ex (callN T.T (n + 3)) (.for_ (.range2 (.int 2) (.bin .add (.var 7) (.int 1))) (.name 9) (.cons (.set 14 (.bi .len (.comp (.range2 (.int 1) (.int 9)) (.name 4) (.cons (.cmp .eq (.bin .mul (.bin .fdiv (.var 7) (.call i__law_honest (.cons (.call i_power (.cons (.var 9) (.cons (.var 4) .nil))) .nil))) (.call i__law_honest (.cons (.call i_power (.cons (.var 9) (.cons (.var 4) .nil))) .nil))) (.var 7)) .nil) (.var 4))))
      (.cons (.ite (.and (.call i__law_is_prime (.cons (.var 9) .nil)) (.cmp .gt (.var 14) (.int 0))) (.cons (.append 8 (.tup (.cons (.var 9) (.cons (.var 14) .nil))))
      .nil) .nil)
      .nil))) [a0, a1, a2, a3, s4, s5, s6, .v (.int m), .own [], s9, s10, s11, s12, s13, s14] M = .nx [a0, a1, a2, a3, s4, s5, s6, .v (.int m), .own (fD (dueN m)), s9', s10, s11, s12, s13, s14'] M := by
  have sz := sz_
  obtain ⟨ρ2, M2, e, ⟨rfl, t9, t14, rfl⟩⟩ := forL_inv (t := .name 9) (f := exs (callN T.T (n + 3)) (.cons (.set 14 (.bi .len (.comp (.range2 (.int 1) (.int 9)) (.name 4) (.cons (.cmp .eq (.bin .mul (.bin .fdiv (.var 7) (.call i__law_honest (.cons (.call i_power (.cons (.var 9) (.cons (.var 4) .nil))) .nil))) (.call i__law_honest (.cons (.call i_power (.cons (.var 9) (.cons (.var 4) .nil))) .nil))) (.var 7)) .nil) (.var 4))))
      (.cons (.ite (.and (.call i__law_is_prime (.cons (.var 9) .nil)) (.cmp .gt (.var 14) (.int 0))) (.cons (.append 8 (.tup (.cons (.var 9) (.cons (.var 14) .nil))))
      .nil) .nil)
      .nil))) (fun k : Nat => D.int ((2 + k : Nat) : Int)) (fun dn ρ M' => M' = M ∧ ∃ t9 t14, ρ = [a0, a1, a2, a3, s4, s5, s6, .v (.int m), .own (duD m dn), t9, s10, s11, s12, s13, t14]) (List.range (m - 1)) []
    [a0, a1, a2, a3, s4, s5, s6, .v (.int m), .own [], s9, s10, s11, s12, s13, s14] M (fun c b ρ M' k eR q => by
      obtain ⟨rfl, t9, t14, rfl⟩ := q
      rw [List.nil_append]
      have hk : k < m - 1 := List.mem_range.1 (by rw [eR]; simp)
      have lc : c.length < m := by
        have := congrArg List.length eR
        simp at this; omega
      have e1 := most_ok (n := n) (M := M') (m := m) (d := 2 + k) (by omega) (by omega) (by omega) (a0 := a0) (a1 := a1) (a2 := a2) (a3 := a3) (s4 := s4) (s5 := s5) (s6 := s6) (s8 := .own (duD m c)) (s10 := s10) (s11 := s11) (s12 := s12) (s13 := s13) (s14 := t14)
      have e2 := isprime_ok (n := n + 2) (M := M') (z := ((2 + k : Nat) : Int)) (m := 2 + k) (.inl rfl) (by omega)
      have q3 : (0 + 1 + 1 : Nat) ≤ sizeLine := by omega
      have ld : (duD m c).length < sizeLine := by
        have : (c.filter fun k => isPn (2 + k) && decide (0 < mostN m (2 + k))).length ≤ c.length := List.length_filter_le ..
        simp only [duD, fD, List.length_map]; omega
      have da : duD m (c ++ [k]) = if (isPn (2 + k) && decide (0 < mostN m (2 + k))) = true then duD m c ++ [.tup [.int ((2 + k : Nat) : Int), .int (mostN m (2 + k))]] else duD m c := by
        unfold duD fD
        rw [List.filter_append, List.filter_cons]
        split
        · rename_i h; simp [h]
        · rename_i h; simp [h]
      refine ⟨_, _, _, rfl, ?_, rfl, .v (.int ((2 + k : Nat) : Int)), .v (.int (mostN m (2 + k))), rfl⟩
      rw [da]
      simp only [List.set_cons_zero, List.set_cons_succ, exs_cons, exs_nil, ex_set]
      rw [e1]
      simp only [Res.out_ok, Out.then_nx, List.set_cons_zero, List.set_cons_succ, ex_ite, evT_def, ev_and, ev_call, evs_cons, evs_nil, ev_var, slotV_s, slotV_0, Res.of_some, Res.bind_ok]
      rw [e2]
      simp only [Res.bind_ok, truth_bl]
      cases hp : isPn (2 + k) with
      | false => simp
      | true =>
        simp only [ev_cmp, ev_var, ev_int, slotV_s, slotV_0, Res.of_some, Res.bind_ok, run_gt_int, Option.map_some, truth_bl, Res.out_ok, Bool.true_and]
        by_cases h0 : 0 < mostN m (2 + k)
        · have : decide ((0 : Int) < (mostN m (2 + k) : Int)) = true := decide_eq_true (by omega)
          simp only [this, h0, decide_true, if_true, exs_cons, exs_nil, ex_append, slotO_s, slotO_0, ev_tup, evs_cons, evs_nil, ev_var, slotV_s, slotV_0, Res.of_some, Res.bind_ok, List.length_cons, List.length_nil, if_pos q3, Res.out_ok, if_pos ld, Out.then_nx, List.set_cons_zero, List.set_cons_succ]
        · have : decide ((0 : Int) < (mostN m (2 + k) : Int)) = false := decide_eq_false (by omega)
          simp only [this, h0, decide_false, Bool.false_eq_true, if_false, exs_nil, Out.then_nx]) ⟨rfl, s9, s14, rfl⟩
  refine ⟨t9, t14, ?_⟩
  simp only [ex_for, evI_range2, ev_int, ev_bin, ev_var, slotV_s, slotV_0, Res.of_some, Res.bind_ok, bop_add, rng2_int (show -1000000000 ≤ (2 : Int) ∧ (2 : Int) ≤ 1000000000 by omega) (show -1000000000 ≤ (m : Int) + 1 ∧ (m : Int) + 1 ≤ 1000000000 by omega), Res.out_ok, rangeL_eq]
  rw [show ((m : Int) + 1 - 2).toNat = m - 1 by omega]
  have ew : (List.range (m - 1)).map (fun k : Nat => D.int (2 + (k : Int))) = (List.range (m - 1)).map fun k : Nat => D.int ((2 + k : Nat) : Int) := by simp
  rw [ew, e]
  rfl
/-- a power as worked out -/
theorem total_ok {a : Int} {k : Nat} (ha : -(2 ^ 64) < a ∧ a < 2 ^ 64) (hk : k ≤ 1000) {a0 a1 a2 s6 s7 s8 s9 s10 s11 s12 s13 s14 : Slot} : ∃ s6', ex (callN T.T n) (.for_ (.range1 (.var 4)) (.name 6) (.cons (.set 5 (.bin .mul (.var 5) (.var 3)))
      .nil)) [a0, a1, a2, .v (.int a), .v (.int k), .v (.int 1), s6, s7, s8, s9, s10, s11, s12, s13, s14] M = .nx [a0, a1, a2, .v (.int a), .v (.int k), .v (.int (a ^ k)), s6', s7, s8, s9, s10, s11, s12, s13, s14] M := by
  obtain ⟨ρ2, M2, e, ⟨rfl, t6, rfl⟩⟩ := forL_range (t := .name 6) (f := exs (callN T.T n) (.cons (.set 5 (.bin .mul (.var 5) (.var 3))) .nil)) (fun j ρ M' => M' = M ∧ ∃ t6, ρ = [a0, a1, a2, .v (.int a), .v (.int k), .v (.int (a ^ j)), t6, s7, s8, s9, s10, s11, s12, s13, s14]) k [a0, a1, a2, .v (.int a), .v (.int k), .v (.int 1), s6, s7, s8, s9, s10, s11, s12, s13, s14] M
    (fun j hj ρ M' h => by
      obtain ⟨rfl, s3, rfl⟩ := h
      refine ⟨_, _, _, rfl, ?_, rfl, .v (.int j), rfl⟩
      simp only [exs_cons, exs_nil, ex_set, ev_bin, ev_var, List.set_cons_zero, List.set_cons_succ, slotV_s, slotV_0, Res.of_some, Res.bind_ok, bop_mul _ _ (mulOk_r ha), Res.out_ok, Out.then_nx]
      rw [Int.pow_succ]) ⟨rfl, s6, by simp⟩
  refine ⟨t6, ?_⟩
  simp only [ex_for, evI_range1, ev_var, slotV_s, slotV_0, Res.of_some, Res.bind_ok, Res.out_ok, rng1_nat (show k ≤ 1000000000 by omega)]
  exact e
end
end PC

namespace PC
open PySem L2
theorem pr_ok {n : Nat} {M : Mem} (hs : Stt M) {a0 s2 s3 s4 s5 s6 s7 s8 s9 s10 s11 s12 s13 s14 : Slot} : ∃ p M', ev (callN T.T (n + 1)) (.sub (.lst (.cons (.int 2) (.cons (.int 3) (.cons (.int 5) (.cons (.int 7) (.cons (.int 11) (.cons (.int 13) (.cons (.int 17) (.cons (.int 19) (.cons (.int 23) (.cons (.int 29) (.cons (.int 31) .nil)))))))))))) (.call i__law_take (.cons (.var 1) (.cons (.int 11) .nil))))
    [a0, .v (.cell 0), s2, s3, s4, s5, s6, s7, s8, s9, s10, s11, s12, s13, s14] M = .ok (.int p) M' ∧ Stt M' ∧ p < 1000 ∧ Fld p := by
  have sz : 11 ≤ sizeLine := by decide
  obtain ⟨x, M', e1, e2, e3, e4⟩ := take_ok (n := n) hs (show (0 : Int) < 11 by omega) (by omega)
  simp [sz, e1]
  have : x = 0 ∨ x = 1 ∨ x = 2 ∨ x = 3 ∨ x = 4 ∨ x = 5 ∨ x = 6 ∨ x = 7 ∨ x = 8 ∨ x = 9 ∨ x = 10 := by omega
  rcases this with rfl | rfl | rfl | rfl | rfl | rfl | rfl | rfl | rfl | rfl | rfl
  · exact ⟨2, M', rfl, e2, by decide, by decide, by decide⟩
  · exact ⟨3, M', rfl, e2, by decide, by decide, by decide⟩
  · exact ⟨5, M', rfl, e2, by decide, by decide, by decide⟩
  · exact ⟨7, M', rfl, e2, by decide, by decide, by decide⟩
  · exact ⟨11, M', rfl, e2, by decide, by decide, by decide⟩
  · exact ⟨13, M', rfl, e2, by decide, by decide, by decide⟩
  · exact ⟨17, M', rfl, e2, by decide, by decide, by decide⟩
  · exact ⟨19, M', rfl, e2, by decide, by decide, by decide⟩
  · exact ⟨23, M', rfl, e2, by decide, by decide, by decide⟩
  · exact ⟨29, M', rfl, e2, by decide, by decide, by decide⟩
  · exact ⟨31, M', rfl, e2, by decide, by decide, by decide⟩
theorem fine_fD (l : List (Nat × Nat)) : D.fine 2 (.tup (fD l)) = true := by
  simp only [D.fine]
  rw [fines_iff]
  intro x hx
  obtain ⟨y, _, rfl⟩ := List.mem_map.1 hx
  rfl
theorem fine_dvD (m : Nat) : D.fine 1 (.tup (dvD m)) = true := by
  simp only [D.fine]
  rw [fines_iff]
  intro x hx
  obtain ⟨y, _, rfl⟩ := List.mem_map.1 hx
  rfl
theorem ne_int_same (i : Int) : Cop.run .ne (.int i) (.int i) = some false := by simp
/-- the first half: the inverse -/
theorem half_ok {M : Mem} {a p : Int} (hf : Fld p) (hb : p < 1000) (ha : -1000 ≤ a ∧ a ≤ 1000) {a0 a1 s4 s5 s6 s7 s8 s9 s10 s11 s12 s13 s14 : Slot} : ∃ s13', ex (callN T.T 19) (.ite (.cmp .eq (.bin .mod (.bi .int (.var 3)) (.var 2)) (.int 0)) (.cons (.ite (.cmp .ne (.call i__law_reason (.cons (.var 3) (.cons (.var 2) .nil))) (.tup (.cons (.str "refused") (.cons (.str "inverse") .nil)))) (.cons (.ret (.bl false))
      .nil) .nil)
      .nil) (.cons (.set 13 (.call i__law_honest (.cons (.call i_inverse (.cons (.var 3) (.cons (.var 2) .nil))) .nil)))
      (.cons (.ite (.or (.not (.chain .lt .lt (.int 0) (.var 13) (.var 2))) (.cmp .ne (.bin .mod (.bi .int (.bin .mul (.var 3) (.var 13))) (.var 2)) (.int 1))) (.cons (.ret (.bl false))
      .nil) .nil)
      .nil))) [a0, a1, .v (.int p), .v (.int a), s4, s5, s6, s7, s8, s9, s10, s11, s12, s13, s14] M = .nx [a0, a1, .v (.int p), .v (.int a), s4, s5, s6, s7, s8, s9, s10, s11, s12, s13', s14] M := by
  have sz := sz_
  have p0 := hf.pos
  have p1 := hf.1
  have q2 : (0 + 1 + 1 : Nat) ≤ sizeLine := by omega
  by_cases hz : a % p = 0
  · have e1 : callN T.T 19 i__law_reason [.int a, .int p] M = .ok (.tup [.str "refused", .str "inverse"]) M := reason_ok (n := 17) p1 hb hz
    have nn : Cop.run .ne (.tup [.str "refused", .str "inverse"]) (.tup [.str "refused", .str "inverse"]) = some false := by decide +kernel
    refine ⟨s13, ?_⟩
    simp only [ex_ite, evT_def, ev_cmp, ev_bin, ev_bi, ev_var, ev_int, slotV_s, slotV_0, Res.of_some, Res.bind_ok, lenM_int, bir_int, bop_mod _ _ p0, hz, run_eq_int, decide_true, Option.map_some, truth_bl, Res.out_ok, if_true, exs_cons, exs_nil, ev_call, evs_cons, evs_nil, e1, ev_tup, ev_str, List.length_cons, List.length_nil, if_pos q2, nn, Bool.false_eq_true, if_false, Out.then_nx]
  · obtain ⟨k, k0, k1, k2, e1⟩ := inv_ok (n := 18) (M := M) hf hb hz
    have e2 : callN T.T 19 i__law_honest [.int k] M = .ok (.int k) M := honest_ok 0 17 (by omega) rfl
    simp only [Nat.reduceAdd] at e1
    refine ⟨.v (.int k), ?_⟩
    simp only [ex_ite, evT_def, ev_cmp, ev_bin, ev_bi, ev_var, ev_int, slotV_s, slotV_0, Res.of_some, Res.bind_ok, lenM_int, bir_int, bop_mod _ _ p0, hz, run_eq_int, decide_false, Option.map_some, truth_bl, Res.out_ok, Bool.false_eq_true, if_false, exs_cons, exs_nil, ex_set, ev_call, evs_cons, evs_nil, e1, e2, Out.then_nx, List.set_cons_zero, List.set_cons_succ, ev_or, ev_not, ev_chain, run_lt_int, k0, k1, decide_true, Bool.not_true, bop_mul _ _ (mulOk_l (show -(2 ^ 64) < a ∧ a < 2 ^ 64 by omega)), k2, ne_int_same]
theorem main (ns : List Int) (hl : ns.length ≤ 63) : ∃ M', callN T.T 20 i_law [.frz (ns.map .int)] [] = .ok (.bl true) M' := by
  have sz := sz_
  obtain ⟨M1, e1, S1⟩ := state_ok (n := 18) ns
  obtain ⟨p, M2, e2, S2, hb, hf⟩ := pr_ok (n := 18) S1 (a0 := .v (.frz (List.map D.int ns))) (s2 := .un) (s3 := .un) (s4 := .un) (s5 := .un) (s6 := .un) (s7 := .un) (s8 := .un) (s9 := .un) (s10 := .un) (s11 := .un) (s12 := .un) (s13 := .un) (s14 := .un)
  obtain ⟨x, M3, e3, S3, x0, x1⟩ := take_ok (n := 18) S2 (show (0 : Int) < 2001 by omega) (by omega)
  obtain ⟨a, ha⟩ : ∃ a, a = x - 1000 := ⟨_, rfl⟩
  have ab : -1000 ≤ a ∧ a ≤ 1000 := by omega
  obtain ⟨s13, e4⟩ := half_ok (M := M3) (a := a) (p := p) hf hb ab (a0 := .v (.frz (List.map D.int ns))) (a1 := .v (.cell 0)) (s4 := .un) (s5 := .un) (s6 := .un) (s7 := .un) (s8 := .un) (s9 := .un) (s10 := .un) (s11 := .un) (s12 := .un) (s13 := .un) (s14 := .un)
  obtain ⟨y, M4, e5, S4, y0, y1⟩ := take_ok (n := 18) S3 (show (0 : Int) < 9 by omega) (by omega)
  obtain ⟨k, rfl⟩ : ∃ k : Nat, y = k := ⟨y.toNat, by omega⟩
  obtain ⟨s6, e6⟩ := total_ok (n := 19) (M := M4) (a := a) (k := k) (by omega) (by omega) (a0 := .v (.frz (List.map D.int ns))) (a1 := .v (.cell 0)) (a2 := .v (.int p)) (s6 := .un) (s7 := .un) (s8 := .un) (s9 := .un) (s10 := .un) (s11 := .un) (s12 := .un) (s13 := s13) (s14 := .un)
  obtain ⟨z, M5, e7, S5, z0, z1⟩ := take_ok (n := 18) S4 (show (0 : Int) < 300 by omega) (by omega)
  obtain ⟨m, hm⟩ : ∃ m : Nat, 1 + z = m := ⟨(1 + z).toNat, by omega⟩
  have m1 : 1 ≤ m := by omega
  have m2 : m ≤ 300 := by omega
  obtain ⟨s9, s14, e8⟩ := dues_ok (n := 16) (M := M5) (m := m) m2 (a0 := .v (.frz (List.map D.int ns))) (a1 := .v (.cell 0)) (a2 := .v (.int p)) (a3 := .v (.int a)) (s4 := .v (.int k)) (s5 := .v (.int (a ^ k))) (s6 := s6) (s9 := .un) (s10 := .un) (s11 := .un) (s12 := .un) (s13 := s13) (s14 := .un)
  have f1 : callN T.T 19 i_power [.int a, .int k] M5 = .ok (.int (a ^ k)) M5 := power_ok (n := 18) (by omega) (by omega)
  have f2 : callN T.T 19 i__law_honest [.int (a ^ k)] M5 = .ok (.int (a ^ k)) M5 := honest_ok 0 17 (by omega) rfl
  have f3 : callN T.T 19 i_divisors [.int m] M5 = .ok (.tup (dvD m)) M5 := divisors_ok (n := 18) m2
  have f4 : callN T.T 19 i_factors [.int m] M5 = .ok (.tup (fD (dueN m))) M5 := factors_ok (n := 18) m1 m2
  have f5 := tried_ok (n := 19) (M := M5) m2 (a0 := .v (.frz (List.map D.int ns))) (a1 := .v (.cell 0)) (a2 := .v (.int p)) (a3 := .v (.int a)) (s4 := .v (.int k)) (s5 := .v (.int (a ^ k))) (s6 := s6) (s8 := .v (.lst (fD (dueN m)))) (s9 := s9) (s10 := .un) (s11 := .un) (s12 := .un) (s13 := s13) (s14 := s14)
  have g1 := run_ne_same 2 (by omega) (fine_fD (dueN m))
  have g2 := run_ne_same 1 (by omega) (fine_dvD m)
  obtain ⟨w, M6, e9, S6, w0, w1⟩ := take_ok (n := 18) S5 (show (0 : Int) < 60 by omega) (by omega)
  obtain ⟨v, hv⟩ : ∃ v, v = w - 5 := ⟨_, rfl⟩
  have f6 : callN T.T 19 i_is_small_prime [.int v] M6 = .ok (.bl (primeP v)) M6 := small_ok (n := 17) (by omega)
  have f7 : callN T.T 19 i__law_is_prime [.int v] M6 = .ok (.bl (isPz v)) M6 := isprime_z (n := 18) (by omega)
  have f8 : callN T.T 19 i_is_integer [.int a] M6 = .ok (.bl true) M6 := isint_ok (n := 18) rfl
  obtain ⟨s12, e10⟩ := kinds_loop (n := 17) (M := M6) (a0 := .v (.frz (List.map D.int ns))) (a1 := .v (.cell 0)) (a2 := .v (.int p)) (a3 := .v (.int a)) (a4 := .v (.int k)) (a5 := .v (.int (a ^ k))) (a6 := s6) (a7 := .v (.int m)) (a8 := .v (.lst (fD (dueN m)))) (a9 := s9) (a10 := .v (.int v)) (a11 := .v (.bl (primeP v))) (a13 := s13) (a14 := s14) [.bl true, .bl false, .non, .str "2", .tup [.int 2], .lst [.int 2], .tup []] .un (fun x hx => by
    simp only [List.mem_cons, List.not_mem_nil, or_false] at hx
    rcases hx with rfl | rfl | rfl | rfl | rfl | rfl | rfl <;> exact ⟨rfl, rfl⟩)
  have q0 : (0 : Nat) ≤ sizeLine := Nat.zero_le _
  have q1 : (0 + 1 : Nat) ≤ sizeLine := by omega
  have q7 : (0 + 1 + 1 + 1 + 1 + 1 + 1 + 1 : Nat) ≤ sizeLine := by omega
  simp only [Nat.reduceAdd] at e1 e2 e3 e5 e7 e8 e9 e10
  rw [run_law]
  simp only [List.length_cons, List.length_nil, exs_cons, ex_set, ev_call, evs_cons, evs_nil, ev_var, slotV_s, slotV_0, Res.of_some, Res.bind_ok, e1, Res.out_ok, Out.then_nx, List.set_cons_zero, List.set_cons_succ]
  rw [e2]
  simp only [Res.out_ok, Out.then_nx, List.set_cons_zero, List.set_cons_succ, ev_bin, ev_call, evs_cons, evs_nil, ev_var, ev_int, slotV_s, slotV_0, Res.of_some, Res.bind_ok, e3, bop_sub, ← ha]
  rw [e4]
  simp only [Res.out_ok, Out.then_nx, List.set_cons_zero, List.set_cons_succ, slotV_s, slotV_0, Res.of_some, Res.bind_ok, e5]
  rw [e6]
  simp only [Res.out_ok, Out.then_nx, List.set_cons_zero, List.set_cons_succ, slotV_s, slotV_0, Res.of_some, Res.bind_ok, e7, bop_add, hm, ex_own, ev_lst, evs_nil, List.length_nil, if_pos q0]
  rw [e8]
  simp only [Out.then_nx, ex_freeze, slotO_s, slotO_0, List.set_cons_zero, List.set_cons_succ, ex_ite, evT_def, ev_or, ev_cmp, ev_call, evs_cons, evs_nil, ev_var, slotV_s, slotV_0, Res.of_some, Res.bind_ok, f1, f2, ne_int_same, Option.map_some, truth_bl, f3]
  rw [f5]
  simp only [Res.bind_ok, g2, Option.map_some, Res.of_some, truth_bl, ev_cmp, ev_call, evs_cons, evs_nil, ev_bi, ev_var, slotV_s, slotV_0, f4, lenM_lst, bir_tupl, g1, Res.out_ok, Bool.false_eq_true, if_false, exs_nil, Out.then_nx, e9, ev_int, bop_sub, ← hv, List.set_cons_zero, List.set_cons_succ, f6, ev_not, ev_isi, Ty.any, Ty.is, Bool.not_true, ev_and, run_lt_int]
  have b1 : ∀ (ρ : Ev), slotV ρ 3 = some (.int a) → ev (callN T.T 19) (.isB (.call i_is_integer (.cons (.var 3) .nil)) true) ρ M6 = .ok (.bl true) M6 := fun ρ h => by
    rw [ev]
    simp only [ev_call, evs_cons, evs_nil, ev_var, h, Res.of_some, Res.bind_ok, f8]
    rfl
  refine ⟨M6, ?_⟩
  by_cases q : v < 32
  · have pv : primeP v = isPz v := by simp [primeP, q]
    simp only [q, decide_true, f7, pv, Res.bind_ok, run_ne_bl, beq_self_eq_true, Bool.not_true, Option.map_some, Res.of_some, truth_bl, Res.out_ok, Bool.false_eq_true, if_false, Out.then_nx, ex_for, evI_seq, ev_lst, ev_tup, evs_cons, evs_nil, ev_bl, ev_non, ev_str, ev_int, List.length_cons, List.length_nil, if_pos q0, if_pos q1, if_pos q7, D.items]
    simp only [pv] at e10
    rw [e10]
    simp only [Out.then_nx, ex_ret]
    rw [b1 _ rfl]
    rfl
  · have pv : primeP v = false := by simp [primeP, q]
    simp only [q, decide_false, pv, Res.bind_ok, run_ne_bl, beq_self_eq_true, Bool.not_true, Option.map_some, Res.of_some, truth_bl, Res.out_ok, Bool.false_eq_true, if_false, Out.then_nx, ex_for, evI_seq, ev_lst, ev_tup, evs_cons, evs_nil, ev_bl, ev_non, ev_str, ev_int, List.length_cons, List.length_nil, if_pos q0, if_pos q1, if_pos q7, D.items]
    simp only [pv] at e10
    rw [e10]
    simp only [Out.then_nx, ex_ret]
    rw [b1 _ rfl]
    rfl
end PC

namespace PC
open PySem PySem.Spec PyProof.Rows L2
set_option maxHeartbeats 0 in
theorem all_mk {l : PySem.W.OpenLaw} {w : World} {K : PySem.W.Frag} {h : Heap} {mg : Str → Option Value} {fa f0 f1 f2 f3 f4 f5 f6 f7 f8 f9 f10 f11 f12 : Addr} (X : K.In h) (G : h.Ns mainGlobals mg) (hfa : mg "law" = some (.ref fa))
    {od0 an0 od1 an1 od2 an2 od3 an3 od4 an4 od5 an5 od6 an6 od7 an7 od8 an8 od9 an9 od10 an10 od11 an11 od12 an12 : Option Addr} {sl0 sl1 sl2 sl3 sl4 sl5 sl6 sl7 sl8 sl9 sl10 sl11 sl12 : Array (Option Value)}
    {oc0 kV0 dc0 pm0 cd0 ct0 oc1 kV1 dc1 pm1 cd1 ct1 oc2 kV2 dc2 pm2 cd2 ct2 oc3 kV3 dc3 pm3 cd3 ct3 oc4 kV4 dc4 pm4 cd4 ct4 oc5 kV5 dc5 pm5 cd5 ct5 oc6 kV6 dc6 pm6 cd6 ct6 oc7 kV7 dc7 pm7 cd7 ct7 oc8 kV8 dc8 pm8 cd8 ct8 oc9 kV9 dc9 pm9 cd9 ct9 oc10 kV10 dc10 pm10 cd10 ct10 oc11 kV11 dc11 pm11 cd11 ct11 oc12 kV12 dc12 pm12 cd12 ct12 : Value}
    (a0 : PySem.W.nsIn K mainGlobals "is_integer" = some (some (.ref f0))) (l0 : K.lookup f0 = some ⟨oc0, od0, .func (PySem.W.fnOf "is_integer" "is_integer" (defArgs (topS 7)) (defBody (topS 7)) (defScope (topS 7)) .none kV0 dc0 pm0 an0 cd0 ct0), sl0⟩) (c0 : PySem.W.codeIn K cd0 "is_integer" = true) (k0 : PySem.W.keepIn K (.ref f0) = true)
    (a1 : PySem.W.nsIn K mainGlobals "is_small_prime" = some (some (.ref f1))) (l1 : K.lookup f1 = some ⟨oc1, od1, .func (PySem.W.fnOf "is_small_prime" "is_small_prime" (defArgs (topS 8)) (defBody (topS 8)) (defScope (topS 8)) .none kV1 dc1 pm1 an1 cd1 ct1), sl1⟩) (c1 : PySem.W.codeIn K cd1 "is_small_prime" = true) (k1 : PySem.W.keepIn K (.ref f1) = true)
    (a2 : PySem.W.nsIn K mainGlobals "power" = some (some (.ref f2))) (l2 : K.lookup f2 = some ⟨oc2, od2, .func (PySem.W.fnOf "power" "power" (defArgs (topS 9)) (defBody (topS 9)) (defScope (topS 9)) .none kV2 dc2 pm2 an2 cd2 ct2), sl2⟩) (c2 : PySem.W.codeIn K cd2 "power" = true) (k2 : PySem.W.keepIn K (.ref f2) = true)
    (a3 : PySem.W.nsIn K mainGlobals "inverse" = some (some (.ref f3))) (l3 : K.lookup f3 = some ⟨oc3, od3, .func (PySem.W.fnOf "inverse" "inverse" (defArgs (topS 10)) (defBody (topS 10)) (defScope (topS 10)) .none kV3 dc3 pm3 an3 cd3 ct3), sl3⟩) (c3 : PySem.W.codeIn K cd3 "inverse" = true) (k3 : PySem.W.keepIn K (.ref f3) = true)
    (a4 : PySem.W.nsIn K mainGlobals "factors" = some (some (.ref f4))) (l4 : K.lookup f4 = some ⟨oc4, od4, .func (PySem.W.fnOf "factors" "factors" (defArgs (topS 11)) (defBody (topS 11)) (defScope (topS 11)) .none kV4 dc4 pm4 an4 cd4 ct4), sl4⟩) (c4 : PySem.W.codeIn K cd4 "factors" = true) (k4 : PySem.W.keepIn K (.ref f4) = true)
    (a5 : PySem.W.nsIn K mainGlobals "divisors" = some (some (.ref f5))) (l5 : K.lookup f5 = some ⟨oc5, od5, .func (PySem.W.fnOf "divisors" "divisors" (defArgs (topS 12)) (defBody (topS 12)) (defScope (topS 12)) .none kV5 dc5 pm5 an5 cd5 ct5), sl5⟩) (c5 : PySem.W.codeIn K cd5 "divisors" = true) (k5 : PySem.W.keepIn K (.ref f5) = true)
    (a6 : PySem.W.nsIn K mainGlobals "_law_state" = some (some (.ref f6))) (l6 : K.lookup f6 = some ⟨oc6, od6, .func (PySem.W.fnOf "_law_state" "_law_state" (defArgs (topS 14)) (defBody (topS 14)) (defScope (topS 14)) .none kV6 dc6 pm6 an6 cd6 ct6), sl6⟩) (c6 : PySem.W.codeIn K cd6 "_law_state" = true) (k6 : PySem.W.keepIn K (.ref f6) = true)
    (a7 : PySem.W.nsIn K mainGlobals "_law_odd" = some (some (.ref f7))) (l7 : K.lookup f7 = some ⟨oc7, od7, .func (PySem.W.fnOf "_law_odd" "_law_odd" (defArgs (topS 15)) (defBody (topS 15)) (defScope (topS 15)) .none kV7 dc7 pm7 an7 cd7 ct7), sl7⟩) (c7 : PySem.W.codeIn K cd7 "_law_odd" = true) (k7 : PySem.W.keepIn K (.ref f7) = true)
    (a8 : PySem.W.nsIn K mainGlobals "_law_honest" = some (some (.ref f8))) (l8 : K.lookup f8 = some ⟨oc8, od8, .func (PySem.W.fnOf "_law_honest" "_law_honest" (defArgs (topS 16)) (defBody (topS 16)) (defScope (topS 16)) .none kV8 dc8 pm8 an8 cd8 ct8), sl8⟩) (c8 : PySem.W.codeIn K cd8 "_law_honest" = true) (k8 : PySem.W.keepIn K (.ref f8) = true)
    (a9 : PySem.W.nsIn K mainGlobals "_law_take" = some (some (.ref f9))) (l9 : K.lookup f9 = some ⟨oc9, od9, .func (PySem.W.fnOf "_law_take" "_law_take" (defArgs (topS 17)) (defBody (topS 17)) (defScope (topS 17)) .none kV9 dc9 pm9 an9 cd9 ct9), sl9⟩) (c9 : PySem.W.codeIn K cd9 "_law_take" = true) (k9 : PySem.W.keepIn K (.ref f9) = true)
    (a10 : PySem.W.nsIn K mainGlobals "_law_reason" = some (some (.ref f10))) (l10 : K.lookup f10 = some ⟨oc10, od10, .func (PySem.W.fnOf "_law_reason" "_law_reason" (defArgs (topS 18)) (defBody (topS 18)) (defScope (topS 18)) .none kV10 dc10 pm10 an10 cd10 ct10), sl10⟩) (c10 : PySem.W.codeIn K cd10 "_law_reason" = true) (k10 : PySem.W.keepIn K (.ref f10) = true)
    (a11 : PySem.W.nsIn K mainGlobals "_law_is_prime" = some (some (.ref f11))) (l11 : K.lookup f11 = some ⟨oc11, od11, .func (PySem.W.fnOf "_law_is_prime" "_law_is_prime" (defArgs (topS 19)) (defBody (topS 19)) (defScope (topS 19)) .none kV11 dc11 pm11 an11 cd11 ct11), sl11⟩) (c11 : PySem.W.codeIn K cd11 "_law_is_prime" = true) (k11 : PySem.W.keepIn K (.ref f11) = true)
    (a12 : PySem.W.nsIn K mainGlobals "law" = some (some (.ref f12))) (l12 : K.lookup f12 = some ⟨oc12, od12, .func (PySem.W.fnOf "law" "law" (defArgs (topS 20)) (defBody (topS 20)) (defScope (topS 20)) .none kV12 dc12 pm12 an12 cd12 ct12), sl12⟩) (c12 : PySem.W.codeIn K cd12 "law" = true) (k12 : PySem.W.keepIn K (.ref f12) = true)
    (z0 : PySem.W.nsIn K mainGlobals "len" = some none)
    (z1 : PySem.W.nsIn K mainGlobals "int" = some none)
    (z2 : PySem.W.nsIn K mainGlobals "abs" = some none)
    (z3 : PySem.W.nsIn K mainGlobals "tuple" = some none)
    (z4 : PySem.W.nsIn K mainGlobals "list" = some none)
    (z5 : PySem.W.nsIn K mainGlobals "sum" = some none)
    (z6 : PySem.W.nsIn K mainGlobals "sorted" = some none)
    (z7 : PySem.W.nsIn K mainGlobals "all" = some none)
    (z8 : PySem.W.nsIn K mainGlobals "any" = some none)
    (z9 : PySem.W.nsIn K mainGlobals "range" = some none)
    (z10 : PySem.W.nsIn K mainGlobals "zip" = some none)
    (z11 : PySem.W.nsIn K mainGlobals "isinstance" = some none)
    (z12 : PySem.W.nsIn K mainGlobals "bool" = some none)
    (z13 : PySem.W.nsIn K mainGlobals "str" = some none)
    (z14 : PySem.W.nsIn K mainGlobals "ValueError" = some none)
    (gk0 : GlobOk K "PRIMES" (.tup [(.int 2), (.int 3), (.int 5), (.int 7), (.int 11), (.int 13), (.int 17), (.int 19), (.int 23), (.int 29), (.int 31)]))
    (hgs : PySem.W.specialIn K (.builtin "object.__class__") "__get__" = some (some (.builtin "getset_descriptor.__get__"))) (htk : PySem.W.takesIn K (.builtin "object.__class__") = some true)
    (ho : PySem.W.nsIn K cStatics "thirdparty.any" = some none) (hsu : PySem.W.nsIn K mainGlobals "super" = some none) (htop : (l.prog.main.scope.names.lookup ("super" : Str)).isSome = false)
    {C0 : Addr}
    {C1 : Addr}
    {C2 : Addr}
    {C3 : Addr}
    (xa0 : PySem.W.nsIn K mainGlobals "Fault" = some (some (.ref C0)))
    (xk0 : PySem.W.keepIn K (.ref C0) = true)
    (xb0 : PySem.W.subIn K (.ref C0) (.type "BaseException") = some true)
    (xt0 : PySem.W.typeIn K (.ref C0) = some (.type "type"))
    (xi0 : PySem.W.isClsIn K C0 = true)
    (xg0 : PySem.W.findIn K (.ref C0) "__getattribute__" = some (some (.builtin "BaseException.__getattribute__")))
    (xq0 : PySem.W.findIn K (.ref C0) "__getattr__" = some none)
    (xh0 : PySem.W.hasDictIn K C0 = true)
    (xo0 : PySem.W.findIn K (.ref C0) "__class__" = some (some (.builtin "object.__class__")))
    (xj0 : PySem.W.mroIn K C0 (.type "object") = some true)
    (xv0 : PySem.W.subIn K (.ref C0) (.type "ValueError") = some true)
    (xe0 : PySem.W.excIn K C0 vtail "ValueError.__new__" = true)
    (xa1 : PySem.W.nsIn K mainGlobals "Malformed" = some (some (.ref C1)))
    (xk1 : PySem.W.keepIn K (.ref C1) = true)
    (xb1 : PySem.W.subIn K (.ref C1) (.type "BaseException") = some true)
    (xt1 : PySem.W.typeIn K (.ref C1) = some (.type "type"))
    (xi1 : PySem.W.isClsIn K C1 = true)
    (xg1 : PySem.W.findIn K (.ref C1) "__getattribute__" = some (some (.builtin "BaseException.__getattribute__")))
    (xq1 : PySem.W.findIn K (.ref C1) "__getattr__" = some none)
    (xh1 : PySem.W.hasDictIn K C1 = true)
    (xo1 : PySem.W.findIn K (.ref C1) "__class__" = some (some (.builtin "object.__class__")))
    (xj1 : PySem.W.mroIn K C1 (.type "object") = some true)
    (xv1 : PySem.W.subIn K (.ref C1) (.type "ValueError") = some true)
    (xe1 : PySem.W.excIn K C1 vtail "ValueError.__new__" = true)
    (xa2 : PySem.W.nsIn K mainGlobals "Refused" = some (some (.ref C2)))
    (xk2 : PySem.W.keepIn K (.ref C2) = true)
    (xb2 : PySem.W.subIn K (.ref C2) (.type "BaseException") = some true)
    (xt2 : PySem.W.typeIn K (.ref C2) = some (.type "type"))
    (xi2 : PySem.W.isClsIn K C2 = true)
    (xg2 : PySem.W.findIn K (.ref C2) "__getattribute__" = some (some (.builtin "BaseException.__getattribute__")))
    (xq2 : PySem.W.findIn K (.ref C2) "__getattr__" = some none)
    (xh2 : PySem.W.hasDictIn K C2 = true)
    (xo2 : PySem.W.findIn K (.ref C2) "__class__" = some (some (.builtin "object.__class__")))
    (xj2 : PySem.W.mroIn K C2 (.type "object") = some true)
    (xv2 : PySem.W.subIn K (.ref C2) (.type "ValueError") = some true)
    {nm2 qn2 : Str} {N2 fI2 cda2 cc2 : Addr} {bs2 bm2 sb2 : List Value} {sn2 : List Str} {ab2 : Bool} {col2 : Option Bool} {dd2 xod2 xan2 cdd2 cld2 : Option Addr} {ka2 kb2 kc2 ke2 kf2 : Option Value}
    {xoc2 xkV2 xdc2 xpm2 xct2 ccl2 cl2 : Value} {xsl2 ccs2 csl2 : Array (Option Value)} {vs2 : Array Value} {file2 : Str} {tf2 : Tok}
    (xL2 : K.lookup C2 = some (excClassObj nm2 qn2 C2 N2 bs2 bm2 true sn2 sb2 ab2 col2 dd2 ka2 kb2 kc2 ke2 kf2 "ValueError.__new__"))
    (xr2 : PySem.HandSPX.refsVE bm2 = true)
    (xs2 : PySem.W.findIn K (.ref C2) "__setattr__" = some (some (.builtin "object.__setattr__")))
    (xm2 : PySem.W.ks_superIn K C2 C2 "__init__" = some (some (.builtin "ValueError.__init__")))
    (xu2 : PySem.W.mroIn K C2 (.ref C2) = some true)
    (xn2 : PySem.W.findIn K (.ref C2) "reason" = some none)
    (xI2 : PySem.W.findIn K (.ref C2) "__init__" = some (some (.ref fI2)))
    (xy2 : PySem.W.typeIn K (.ref fI2) = some (.type "function"))
    (xl2 : K.lookup fI2 = some ⟨xoc2, xod2, .func (PySem.W.ksFn "__init__" "Refused.__init__" (defArgs ((clsBody (topS 3)).getD 0 (.Pass ⟨0, 0, 0, 0⟩))) (defBody ((clsBody (topS 3)).getD 0 (.Pass ⟨0, 0, 0, 0⟩))) (defScope ((clsBody (topS 3)).getD 0 (.Pass ⟨0, 0, 0, 0⟩))) .none xkV2 xdc2 xpm2 xan2 (.ref cda2) xct2 cc2), xsl2⟩)
    (xc2 : PySem.W.codeIn K (.ref cda2) "Refused.__init__" = true)
    (xd2 : K.lookup cda2 = some ⟨ccl2, cdd2, .fields vs2, ccs2⟩)
    (xw2 : vs2[2]? = some (.str file2 tf2))
    (xf2 : ((l.prog.main.file : Str) == file2) = true)
    (xz2 : K.lookup cc2 = some ⟨cl2, cld2, .cell (some (.ref C2)), csl2⟩)
    (xa3 : PySem.W.nsIn K mainGlobals "NoText" = some (some (.ref C3)))
    (xk3 : PySem.W.keepIn K (.ref C3) = true)
    (xb3 : PySem.W.subIn K (.ref C3) (.type "BaseException") = some true)
    (xt3 : PySem.W.typeIn K (.ref C3) = some (.type "type"))
    (xi3 : PySem.W.isClsIn K C3 = true)
    (xg3 : PySem.W.findIn K (.ref C3) "__getattribute__" = some (some (.builtin "BaseException.__getattribute__")))
    (xq3 : PySem.W.findIn K (.ref C3) "__getattr__" = some none)
    (xh3 : PySem.W.hasDictIn K C3 = true)
    (xo3 : PySem.W.findIn K (.ref C3) "__class__" = some (some (.builtin "object.__class__")))
    (xj3 : PySem.W.mroIn K C3 (.type "object") = some true)
    (xv3 : PySem.W.subIn K (.ref C3) (.type "ValueError") = some true)
    {nm3 qn3 : Str} {N3 fI3 cda3 cc3 : Addr} {bs3 bm3 sb3 : List Value} {sn3 : List Str} {ab3 : Bool} {col3 : Option Bool} {dd3 xod3 xan3 cdd3 cld3 : Option Addr} {ka3 kb3 kc3 ke3 kf3 : Option Value}
    {xoc3 xkV3 xdc3 xpm3 xct3 ccl3 cl3 : Value} {xsl3 ccs3 csl3 : Array (Option Value)} {vs3 : Array Value} {file3 : Str} {tf3 : Tok}
    (xL3 : K.lookup C3 = some (excClassObj nm3 qn3 C3 N3 bs3 bm3 true sn3 sb3 ab3 col3 dd3 ka3 kb3 kc3 ke3 kf3 "ValueError.__new__"))
    (xr3 : PySem.HandSPX.refsVE bm3 = true)
    (xs3 : PySem.W.findIn K (.ref C3) "__setattr__" = some (some (.builtin "object.__setattr__")))
    (xm3 : PySem.W.ks_superIn K C3 C3 "__init__" = some (some (.builtin "ValueError.__init__")))
    (xu3 : PySem.W.mroIn K C3 (.ref C3) = some true)
    (xn3 : PySem.W.findIn K (.ref C3) "at" = some none)
    (xI3 : PySem.W.findIn K (.ref C3) "__init__" = some (some (.ref fI3)))
    (xy3 : PySem.W.typeIn K (.ref fI3) = some (.type "function"))
    (xl3 : K.lookup fI3 = some ⟨xoc3, xod3, .func (PySem.W.ksFn "__init__" "NoText.__init__" (defArgs ((clsBody (topS 4)).getD 0 (.Pass ⟨0, 0, 0, 0⟩))) (defBody ((clsBody (topS 4)).getD 0 (.Pass ⟨0, 0, 0, 0⟩))) (defScope ((clsBody (topS 4)).getD 0 (.Pass ⟨0, 0, 0, 0⟩))) .none xkV3 xdc3 xpm3 xan3 (.ref cda3) xct3 cc3), xsl3⟩)
    (xc3 : PySem.W.codeIn K (.ref cda3) "NoText.__init__" = true)
    (xd3 : K.lookup cda3 = some ⟨ccl3, cdd3, .fields vs3, ccs3⟩)
    (xw3 : vs3[2]? = some (.str file3 tf3))
    (xf3 : ((l.prog.main.file : Str) == file3) = true)
    (xz3 : K.lookup cc3 = some ⟨cl3, cld3, .cell (some (.ref C3)), csl3⟩)
    (xp0_0 : PySem.W.subIn K (.ref C0) (.ref C0) = some true)
    (xp0_1 : PySem.W.subIn K (.ref C0) (.ref C1) = some false)
    (xd0_1 : C0 ≠ C1)
    (xp0_2 : PySem.W.subIn K (.ref C0) (.ref C2) = some false)
    (xd0_2 : C0 ≠ C2)
    (xp0_3 : PySem.W.subIn K (.ref C0) (.ref C3) = some false)
    (xd0_3 : C0 ≠ C3)
    (xp1_0 : PySem.W.subIn K (.ref C1) (.ref C0) = some true)
    (xd1_0 : C1 ≠ C0)
    (xp1_1 : PySem.W.subIn K (.ref C1) (.ref C1) = some true)
    (xp1_2 : PySem.W.subIn K (.ref C1) (.ref C2) = some false)
    (xd1_2 : C1 ≠ C2)
    (xp1_3 : PySem.W.subIn K (.ref C1) (.ref C3) = some false)
    (xd1_3 : C1 ≠ C3)
    (xp2_0 : PySem.W.subIn K (.ref C2) (.ref C0) = some true)
    (xd2_0 : C2 ≠ C0)
    (xp2_1 : PySem.W.subIn K (.ref C2) (.ref C1) = some false)
    (xd2_1 : C2 ≠ C1)
    (xp2_2 : PySem.W.subIn K (.ref C2) (.ref C2) = some true)
    (xp2_3 : PySem.W.subIn K (.ref C2) (.ref C3) = some false)
    (xd2_3 : C2 ≠ C3)
    (xp3_0 : PySem.W.subIn K (.ref C3) (.ref C0) = some true)
    (xd3_0 : C3 ≠ C0)
    (xp3_1 : PySem.W.subIn K (.ref C3) (.ref C1) = some false)
    (xd3_1 : C3 ≠ C1)
    (xp3_2 : PySem.W.subIn K (.ref C3) (.ref C2) = some false)
    (xd3_2 : C3 ≠ C2)
    (xp3_3 : PySem.W.subIn K (.ref C3) (.ref C3) = some true)
    : ∃ fd : FuncData, (∀ (s : Shared) (v : Value), BindsTo s fd ⟨[v], []⟩ [("script", v)]) ∧ ∀ base : Heap, K.In base → base.Ns mainGlobals mg → FnOk l.prog w K mg base (L2.CX l.prog w) (20 + 3) fa fd ["script"] (spL K T 20 i_law) := by
  have e := hfa.symm.trans (PySem.W.mg_of X G a12)
  cases e
  have F0 := fun_mk (st := topS 7) l0 c0 k0
  have s0 : ∃ st ad fdat, Stands K mg T f_is_integer st ad fdat := ⟨_, _, _, ⟨PySem.W.mg_of X G a0, F0, F0.binds (ps := ["value"]) fun _ _ _ _ _ _ us hl => (match us, hl with | [_], _ => rfl), sc_of sc_is_integer, ck_is_integer⟩⟩
  have F1 := fun_mk (st := topS 8) l1 c1 k1
  have s1 : ∃ st ad fdat, Stands K mg T f_is_small_prime st ad fdat := ⟨_, _, _, ⟨PySem.W.mg_of X G a1, F1, F1.binds (ps := ["value"]) fun _ _ _ _ _ _ us hl => (match us, hl with | [_], _ => rfl), sc_of sc_is_small_prime, ck_is_small_prime⟩⟩
  have F2 := fun_mk (st := topS 9) l2 c2 k2
  have s2 : ∃ st ad fdat, Stands K mg T f_power st ad fdat := ⟨_, _, _, ⟨PySem.W.mg_of X G a2, F2, F2.binds (ps := ["a", "k"]) fun _ _ _ _ _ _ us hl => (match us, hl with | [_, _], _ => rfl), sc_of sc_power, ck_power⟩⟩
  have F3 := fun_mk (st := topS 10) l3 c3 k3
  have s3 : ∃ st ad fdat, Stands K mg T f_inverse st ad fdat := ⟨_, _, _, ⟨PySem.W.mg_of X G a3, F3, F3.binds (ps := ["a", "p"]) fun _ _ _ _ _ _ us hl => (match us, hl with | [_, _], _ => rfl), sc_of sc_inverse, ck_inverse⟩⟩
  have F4 := fun_mk (st := topS 11) l4 c4 k4
  have s4 : ∃ st ad fdat, Stands K mg T f_factors st ad fdat := ⟨_, _, _, ⟨PySem.W.mg_of X G a4, F4, F4.binds (ps := ["n"]) fun _ _ _ _ _ _ us hl => (match us, hl with | [_], _ => rfl), sc_of sc_factors, ck_factors⟩⟩
  have F5 := fun_mk (st := topS 12) l5 c5 k5
  have s5 : ∃ st ad fdat, Stands K mg T f_divisors st ad fdat := ⟨_, _, _, ⟨PySem.W.mg_of X G a5, F5, F5.binds (ps := ["n"]) fun _ _ _ _ _ _ us hl => (match us, hl with | [_], _ => rfl), sc_of sc_divisors, ck_divisors⟩⟩
  have F6 := fun_mk (st := topS 14) l6 c6 k6
  have s6 : ∃ st ad fdat, Stands K mg T f__law_state st ad fdat := ⟨_, _, _, ⟨PySem.W.mg_of X G a6, F6, F6.binds (ps := ["script"]) fun _ _ _ _ _ _ us hl => (match us, hl with | [_], _ => rfl), sc_of sc__law_state, ck__law_state⟩⟩
  have F7 := fun_mk (st := topS 15) l7 c7 k7
  have s7 : ∃ st ad fdat, Stands K mg T f__law_odd st ad fdat := ⟨_, _, _, ⟨PySem.W.mg_of X G a7, F7, F7.binds (ps := ["value"]) fun _ _ _ _ _ _ us hl => (match us, hl with | [_], _ => rfl), sc_of sc__law_odd, ck__law_odd⟩⟩
  have F8 := fun_mk (st := topS 16) l8 c8 k8
  have s8 : ∃ st ad fdat, Stands K mg T f__law_honest st ad fdat := ⟨_, _, _, ⟨PySem.W.mg_of X G a8, F8, F8.binds (ps := ["value"]) fun _ _ _ _ _ _ us hl => (match us, hl with | [_], _ => rfl), sc_of sc__law_honest, ck__law_honest⟩⟩
  have F9 := fun_mk (st := topS 17) l9 c9 k9
  have s9 : ∃ st ad fdat, Stands K mg T f__law_take st ad fdat := ⟨_, _, _, ⟨PySem.W.mg_of X G a9, F9, F9.binds (ps := ["state", "m"]) fun _ _ _ _ _ _ us hl => (match us, hl with | [_, _], _ => rfl), sc_of sc__law_take, ck__law_take⟩⟩
  have F10 := fun_mk (st := topS 18) l10 c10 k10
  have s10 : ∃ st ad fdat, Stands K mg T f__law_reason st ad fdat := ⟨_, _, _, ⟨PySem.W.mg_of X G a10, F10, F10.binds (ps := ["a", "p"]) fun _ _ _ _ _ _ us hl => (match us, hl with | [_, _], _ => rfl), sc_of sc__law_reason, ck__law_reason⟩⟩
  have F11 := fun_mk (st := topS 19) l11 c11 k11
  have s11 : ∃ st ad fdat, Stands K mg T f__law_is_prime st ad fdat := ⟨_, _, _, ⟨PySem.W.mg_of X G a11, F11, F11.binds (ps := ["n"]) fun _ _ _ _ _ _ us hl => (match us, hl with | [_], _ => rfl), sc_of sc__law_is_prime, ck__law_is_prime⟩⟩
  have F12 := fun_mk (st := topS 20) l12 c12 k12
  have s12 : ∃ st ad fdat, Stands K mg T f_law st ad fdat := ⟨_, _, _, ⟨PySem.W.mg_of X G a12, F12, F12.binds (ps := ["script"]) fun _ _ _ _ _ _ us hl => (match us, hl with | [_], _ => rfl), sc_of sc_law, ck_law⟩⟩
  have e0 : ∃ C, XcOk l.prog K mg T.X (T.X.getD 0 ⟨"", [], none⟩) C := by
    have w : XcK K T.X (T.X.getD 0 ⟨"", [], none⟩) C0 := ⟨xa0, ⟨xg0, xq0, xb0, xh0, xo0, hgs, htk, xj0⟩, kit_val xv0, (fun x f o q => by cases q), fun c hc => by
      rcases List.mem_cons.1 hc with rfl | hc
      · exact ⟨C0, xa0, exm_by xb0 xi0 xt0 xp0_0, kit_one⟩
      rcases List.mem_cons.1 hc with rfl | hc
      · exact ⟨C1, xa1, exm_by xb1 xi1 xt1 xp0_1, kit_ref xd0_1 xi1 xt1 xp0_1⟩
      rcases List.mem_cons.1 hc with rfl | hc
      · exact ⟨C2, xa2, exm_by xb2 xi2 xt2 xp0_2, kit_ref xd0_2 xi2 xt2 xp0_2⟩
      rcases List.mem_cons.1 hc with rfl | hc
      · exact ⟨C3, xa3, exm_by xb3 xi3 xt3 xp0_3, kit_ref xd0_3 xi3 xt3 xp0_3⟩
      cases hc⟩
    exact ⟨C0, ⟨w, PySem.W.mg_of X G xa0, xk0, xb0, xt0, xe0⟩⟩
  have e1 : ∃ C, XcOk l.prog K mg T.X (T.X.getD 1 ⟨"", [], none⟩) C := by
    have w : XcK K T.X (T.X.getD 1 ⟨"", [], none⟩) C1 := ⟨xa1, ⟨xg1, xq1, xb1, xh1, xo1, hgs, htk, xj1⟩, kit_val xv1, (fun x f o q => by cases q), fun c hc => by
      rcases List.mem_cons.1 hc with rfl | hc
      · exact ⟨C0, xa0, exm_by xb0 xi0 xt0 xp1_0, kit_ref xd1_0 xi0 xt0 xp1_0⟩
      rcases List.mem_cons.1 hc with rfl | hc
      · exact ⟨C1, xa1, exm_by xb1 xi1 xt1 xp1_1, kit_one⟩
      rcases List.mem_cons.1 hc with rfl | hc
      · exact ⟨C2, xa2, exm_by xb2 xi2 xt2 xp1_2, kit_ref xd1_2 xi2 xt2 xp1_2⟩
      rcases List.mem_cons.1 hc with rfl | hc
      · exact ⟨C3, xa3, exm_by xb3 xi3 xt3 xp1_3, kit_ref xd1_3 xi3 xt3 xp1_3⟩
      cases hc⟩
    exact ⟨C1, ⟨w, PySem.W.mg_of X G xa1, xk1, xb1, xt1, xe1⟩⟩
  have e2 : ∃ C, XcOk l.prog K mg T.X (T.X.getD 2 ⟨"", [], none⟩) C := by
    have w : XcK K T.X (T.X.getD 2 ⟨"", [], none⟩) C2 := ⟨xa2, ⟨xg2, xq2, xb2, xh2, xo2, hgs, htk, xj2⟩, kit_val xv2, (fun x f o q => by cases q; exact xn2), fun c hc => by
      rcases List.mem_cons.1 hc with rfl | hc
      · exact ⟨C0, xa0, exm_by xb0 xi0 xt0 xp2_0, kit_ref xd2_0 xi0 xt0 xp2_0⟩
      rcases List.mem_cons.1 hc with rfl | hc
      · exact ⟨C1, xa1, exm_by xb1 xi1 xt1 xp2_1, kit_ref xd2_1 xi1 xt1 xp2_1⟩
      rcases List.mem_cons.1 hc with rfl | hc
      · exact ⟨C2, xa2, exm_by xb2 xi2 xt2 xp2_2, kit_one⟩
      rcases List.mem_cons.1 hc with rfl | hc
      · exact ⟨C3, xa3, exm_by xb3 xi3 xt3 xp2_3, kit_ref xd2_3 xi3 xt3 xp2_3⟩
      cases hc⟩
    exact ⟨C2, ⟨w, PySem.W.mg_of X G xa2, xk2, xb2, xt2, ⟨fI2, _, initIn_of ini_Refused ⟨⟨_, _, _, _, _, _, _, _, _, _, _, _, _, _, _, xL2, xr2⟩, xs2, xb2, xt2, xk2⟩ xv2 xm2 xu2 ho xn2 (PySem.W.mg_none_of X G hsu) htop xl2 xc2 xd2 xw2 xf2 xz2, xI2, xy2, .all fun us hl => (match us, hl with | [_, _], _ => rfl)⟩⟩⟩
  have e3 : ∃ C, XcOk l.prog K mg T.X (T.X.getD 3 ⟨"", [], none⟩) C := by
    have w : XcK K T.X (T.X.getD 3 ⟨"", [], none⟩) C3 := ⟨xa3, ⟨xg3, xq3, xb3, xh3, xo3, hgs, htk, xj3⟩, kit_val xv3, (fun x f o q => by cases q; exact xn3), fun c hc => by
      rcases List.mem_cons.1 hc with rfl | hc
      · exact ⟨C0, xa0, exm_by xb0 xi0 xt0 xp3_0, kit_ref xd3_0 xi0 xt0 xp3_0⟩
      rcases List.mem_cons.1 hc with rfl | hc
      · exact ⟨C1, xa1, exm_by xb1 xi1 xt1 xp3_1, kit_ref xd3_1 xi1 xt1 xp3_1⟩
      rcases List.mem_cons.1 hc with rfl | hc
      · exact ⟨C2, xa2, exm_by xb2 xi2 xt2 xp3_2, kit_ref xd3_2 xi2 xt2 xp3_2⟩
      rcases List.mem_cons.1 hc with rfl | hc
      · exact ⟨C3, xa3, exm_by xb3 xi3 xt3 xp3_3, kit_one⟩
      cases hc⟩
    exact ⟨C3, ⟨w, PySem.W.mg_of X G xa3, xk3, xb3, xt3, ⟨fI3, _, initIn_of ini_NoText ⟨⟨_, _, _, _, _, _, _, _, _, _, _, _, _, _, _, xL3, xr3⟩, xs3, xb3, xt3, xk3⟩ xv3 xm3 xu3 ho xn3 (PySem.W.mg_none_of X G hsu) htop xl3 xc3 xd3 xw3 xf3 xz3, xI3, xy3, .all fun us hl => (match us, hl with | [_, _], _ => rfl)⟩⟩⟩
  have m : Mods l.prog K mg T := by
    refine ⟨fun x hx => ?_, fun x dd hx => ?_, fun f fd hf => ?_, fun c hc => ?_⟩
    · simp only [bltNames, List.mem_cons, List.not_mem_nil, or_false] at hx
      rcases hx with rfl | rfl | rfl | rfl | rfl | rfl | rfl | rfl | rfl | rfl | rfl | rfl | rfl | rfl | rfl
      · exact PySem.W.mg_none_of X G z0
      · exact PySem.W.mg_none_of X G z1
      · exact PySem.W.mg_none_of X G z2
      · exact PySem.W.mg_none_of X G z3
      · exact PySem.W.mg_none_of X G z4
      · exact PySem.W.mg_none_of X G z5
      · exact PySem.W.mg_none_of X G z6
      · exact PySem.W.mg_none_of X G z7
      · exact PySem.W.mg_none_of X G z8
      · exact PySem.W.mg_none_of X G z9
      · exact PySem.W.mg_none_of X G z10
      · exact PySem.W.mg_none_of X G z11
      · exact PySem.W.mg_none_of X G z12
      · exact PySem.W.mg_none_of X G z13
      · exact PySem.W.mg_none_of X G z14
    · exact globs_of X G (G := T.G) (fun y d hy => by
        rcases List.mem_cons.1 hy with hy | hy
        · cases hy; exact gk0
        cases hy) hx
    · match f, hf with
      | 0, hf => cases hf; exact s0
      | 1, hf => cases hf; exact s1
      | 2, hf => cases hf; exact s2
      | 3, hf => cases hf; exact s3
      | 4, hf => cases hf; exact s4
      | 5, hf => cases hf; exact s5
      | 6, hf => cases hf; exact s6
      | 7, hf => cases hf; exact s7
      | 8, hf => cases hf; exact s8
      | 9, hf => cases hf; exact s9
      | 10, hf => cases hf; exact s10
      | 11, hf => cases hf; exact s11
      | 12, hf => cases hf; exact s12
      | (k + 13), hf => cases hf
    ·
      rcases List.mem_cons.1 hc with rfl | hc
      · exact e0
      rcases List.mem_cons.1 hc with rfl | hc
      · exact e1
      rcases List.mem_cons.1 hc with rfl | hc
      · exact e2
      rcases List.mem_cons.1 hc with rfl | hc
      · exact e3
      cases hc
  exact ⟨PySem.W.fnOf "law" "law" (defArgs (topS 20)) (defBody (topS 20)) (defScope (topS 20)) .none kV12 dc12 pm12 an12 cd12 ct12, fun s v => .of_eq rfl, fun base _ _ => law_fn rfl m (n := 20) (f := i_law) (fd := f_law) rfl F12 (PySem.W.mg_of X G a12) (sc_of sc_law) ck_law (by decide) (F12.binds (ps := ["script"]) fun _ _ _ _ _ _ us hl => (match us, hl with | [_], _ => rfl))⟩
end PC
open PySem PySem.W PyProof.Rows
set_option maxHeartbeats 0 in
theorem PySem.Challenge.cw_chieflayers_k00_numbers_holds : PySem.Challenge.rw_chieflayers_k00_numbers.Holds := by
  w_on; o_law; k_head; (case hw => w_witness2)
  k_fill
  refine L2.walk_of (l := PySem.Challenge.rw_chieflayers_k00_numbers) (n := 63) (k := 20 + 3) (x := "script") (CX := fun w => L2.CX (PySem.Challenge.rw_chieflayers_k00_numbers).prog w) (sp := fun w => PC.spL _ PC.T 20 PC.i_law) rfl (by decide) rfl ⟨rfl, by decide, by decide⟩ (fun w h Y => PySem.W.kIn_of Y) ?F (fun w H a ns hl _ hS => (PC.main ns hl).elim fun _ hm => PC.law_end hm hS) (fun w H s e s' z => PC.cx_no z)
  case F =>
    intro w mg fa h KX G hmg
    refine' PC.all_mk KX G hmg ?a0 ?l0 ?c0 ?k0 ?a1 ?l1 ?c1 ?k1 ?a2 ?l2 ?c2 ?k2 ?a3 ?l3 ?c3 ?k3 ?a4 ?l4 ?c4 ?k4 ?a5 ?l5 ?c5 ?k5 ?a6 ?l6 ?c6 ?k6 ?a7 ?l7 ?c7 ?k7 ?a8 ?l8 ?c8 ?k8 ?a9 ?l9 ?c9 ?k9 ?a10 ?l10 ?c10 ?k10 ?a11 ?l11 ?c11 ?k11 ?a12 ?l12 ?c12 ?k12 ?z0 ?z1 ?z2 ?z3 ?z4 ?z5 ?z6 ?z7 ?z8 ?z9 ?z10 ?z11 ?z12 ?z13 ?z14 ?gk0 ?hgs ?htk ?ho ?hsu ?htop ?xa0 ?xk0 ?xb0 ?xt0 ?xi0 ?xg0 ?xq0 ?xh0 ?xo0 ?xj0 ?xv0 ?xe0 ?xa1 ?xk1 ?xb1 ?xt1 ?xi1 ?xg1 ?xq1 ?xh1 ?xo1 ?xj1 ?xv1 ?xe1 ?xa2 ?xk2 ?xb2 ?xt2 ?xi2 ?xg2 ?xq2 ?xh2 ?xo2 ?xj2 ?xv2 ?xL2 ?xr2 ?xs2 ?xm2 ?xu2 ?xn2 ?xI2 ?xy2 ?xl2 ?xc2 ?xd2 ?xw2 ?xf2 ?xz2 ?xa3 ?xk3 ?xb3 ?xt3 ?xi3 ?xg3 ?xq3 ?xh3 ?xo3 ?xj3 ?xv3 ?xL3 ?xr3 ?xs3 ?xm3 ?xu3 ?xn3 ?xI3 ?xy3 ?xl3 ?xc3 ?xd3 ?xw3 ?xf3 ?xz3 ?xp0_0 ?xp0_1 ?xd0_1 ?xp0_2 ?xd0_2 ?xp0_3 ?xd0_3 ?xp1_0 ?xd1_0 ?xp1_1 ?xp1_2 ?xd1_2 ?xp1_3 ?xd1_3 ?xp2_0 ?xd2_0 ?xp2_1 ?xd2_1 ?xp2_2 ?xp2_3 ?xd2_3 ?xp3_0 ?xd3_0 ?xp3_1 ?xd3_1 ?xp3_2 ?xd3_2 ?xp3_3
    (case a0 => k_is)
    (case l0 => k_is)
    (case c0 => k_is)
    (case k0 => k_is)
    (case a1 => k_is)
    (case l1 => k_is)
    (case c1 => k_is)
    (case k1 => k_is)
    (case a2 => k_is)
    (case l2 => k_is)
    (case c2 => k_is)
    (case k2 => k_is)
    (case a3 => k_is)
    (case l3 => k_is)
    (case c3 => k_is)
    (case k3 => k_is)
    (case a4 => k_is)
    (case l4 => k_is)
    (case c4 => k_is)
    (case k4 => k_is)
    (case a5 => k_is)
    (case l5 => k_is)
    (case c5 => k_is)
    (case k5 => k_is)
    (case a6 => k_is)
    (case l6 => k_is)
    (case c6 => k_is)
    (case k6 => k_is)
    (case a7 => k_is)
    (case l7 => k_is)
    (case c7 => k_is)
    (case k7 => k_is)
    (case a8 => k_is)
    (case l8 => k_is)
    (case c8 => k_is)
    (case k8 => k_is)
    (case a9 => k_is)
    (case l9 => k_is)
    (case c9 => k_is)
    (case k9 => k_is)
    (case a10 => k_is)
    (case l10 => k_is)
    (case c10 => k_is)
    (case k10 => k_is)
    (case a11 => k_is)
    (case l11 => k_is)
    (case c11 => k_is)
    (case k11 => k_is)
    (case a12 => k_is)
    (case l12 => k_is)
    (case c12 => k_is)
    (case k12 => k_is)
    (case z0 => k_is)
    (case z1 => k_is)
    (case z2 => k_is)
    (case z3 => k_is)
    (case z4 => k_is)
    (case z5 => k_is)
    (case z6 => k_is)
    (case z7 => k_is)
    (case z8 => k_is)
    (case z9 => k_is)
    (case z10 => k_is)
    (case z11 => k_is)
    (case z12 => k_is)
    (case z13 => k_is)
    (case z14 => k_is)
    (case gk0 => exact ⟨_, by k_is, PC.glob_tup (is := [2, 3, 5, 7, 11, 13, 17, 19, 23, 29, 31]) (by k_is) (by decide) (by repeat' (first | exact .nil | refine .cons ⟨_, rfl⟩ ?_))⟩)
    (case hgs => k_is)
    (case htk => k_is)
    (case ho => k_is)
    (case hsu => k_is)
    (case htop => rfl)
    (case xa0 => k_is)
    (case xk0 => k_is)
    (case xb0 => k_is)
    (case xt0 => k_is)
    (case xi0 => k_is)
    (case xg0 => k_is)
    (case xq0 => k_is)
    (case xh0 => k_is)
    (case xo0 => k_is)
    (case xj0 => k_is)
    (case xv0 => k_is)
    (case xe0 => k_exc)
    (case xa1 => k_is)
    (case xk1 => k_is)
    (case xb1 => k_is)
    (case xt1 => k_is)
    (case xi1 => k_is)
    (case xg1 => k_is)
    (case xq1 => k_is)
    (case xh1 => k_is)
    (case xo1 => k_is)
    (case xj1 => k_is)
    (case xv1 => k_is)
    (case xe1 => k_exc)
    (case xa2 => k_is)
    (case xk2 => k_is)
    (case xb2 => k_is)
    (case xt2 => k_is)
    (case xi2 => k_is)
    (case xg2 => k_is)
    (case xq2 => k_is)
    (case xh2 => k_is)
    (case xo2 => k_is)
    (case xj2 => k_is)
    (case xv2 => k_is)
    (case xL2 => k_is)
    (case xr2 => decide +kernel)
    (case xs2 => k_is)
    (case xm2 => ks_is)
    (case xu2 => k_is)
    (case xn2 => k_is)
    (case xI2 => k_is)
    (case xy2 => k_is)
    (case xl2 => k_is)
    (case xc2 => k_is)
    (case xd2 => k_is)
    (case xw2 => rfl)
    (case xf2 => decide +kernel)
    (case xz2 => k_is)
    (case xa3 => k_is)
    (case xk3 => k_is)
    (case xb3 => k_is)
    (case xt3 => k_is)
    (case xi3 => k_is)
    (case xg3 => k_is)
    (case xq3 => k_is)
    (case xh3 => k_is)
    (case xo3 => k_is)
    (case xj3 => k_is)
    (case xv3 => k_is)
    (case xL3 => k_is)
    (case xr3 => decide +kernel)
    (case xs3 => k_is)
    (case xm3 => ks_is)
    (case xu3 => k_is)
    (case xn3 => k_is)
    (case xI3 => k_is)
    (case xy3 => k_is)
    (case xl3 => k_is)
    (case xc3 => k_is)
    (case xd3 => k_is)
    (case xw3 => rfl)
    (case xf3 => decide +kernel)
    (case xz3 => k_is)
    (case xp0_0 => first | rfl | k_is)
    (case xp0_1 => first | rfl | k_is)
    (case xd0_1 => decide)
    (case xp0_2 => first | rfl | k_is)
    (case xd0_2 => decide)
    (case xp0_3 => first | rfl | k_is)
    (case xd0_3 => decide)
    (case xp1_0 => first | rfl | k_is)
    (case xd1_0 => decide)
    (case xp1_1 => first | rfl | k_is)
    (case xp1_2 => first | rfl | k_is)
    (case xd1_2 => decide)
    (case xp1_3 => first | rfl | k_is)
    (case xd1_3 => decide)
    (case xp2_0 => first | rfl | k_is)
    (case xd2_0 => decide)
    (case xp2_1 => first | rfl | k_is)
    (case xd2_1 => decide)
    (case xp2_2 => first | rfl | k_is)
    (case xp2_3 => first | rfl | k_is)
    (case xd2_3 => decide)
    (case xp3_0 => first | rfl | k_is)
    (case xd3_0 => decide)
    (case xp3_1 => first | rfl | k_is)
    (case xd3_1 => decide)
    (case xp3_2 => first | rfl | k_is)
    (case xd3_2 => decide)
    (case xp3_3 => first | rfl | k_is)
