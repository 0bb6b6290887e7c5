import PyProof.Rows.All
import HandS.ForMost
import HandS.TupAny
import HandS.IsInst
import HandS.Flow
import HandS.Strs
import HandS.Exc
import HandS.ExcOwn
import HandS.ExcField
import HandS.Comp
import HandS.Iter
import HandS.ExcIs
import HandS.HeadHook1
import HandS.HeadEnd
import HandS.WordsExc
import HandS.Head0
import HandS.Head1
import HandS.Head2
import HandS.HeadHook2
import KE.KStateDown
import HandS.More
import PySem.Challenge.RW_standingpowers_k01_numbers_names_and_spa
set_option Elab.async false
set_option linter.all false
section
set_option linter.all false
/-! EV, part 1: the evaluator. Values, a store of mutable cells, an own small language, what it computes. -/
namespace EV
open PySem L2

/-- a key of a dict: a whole number or a text (by its codes) -/
abbrev Ky := Sum Int (List Nat)

/-- data that stands still -/
inductive P where
  | non | bl (b : Bool) | int (i : Int) | str (x : List Nat)
  | tup (l : List P) | lst (l : List P)
  | dK (l : List (Ky × P)) | dT (l : List (List Ky × P))
  | obj (c : Nat) (fs : List (String × P))
  | gd (j : Nat)
  | fn (j : Nat)

/-- what a name may hold: data, a cell of the store, a tuple that has cells in it -/
inductive R where
  | p (x : P) | cell (n : Nat) | tupc (l : List R)

/-- what stands in a cell -/
inductive Ob where
  | lst (l : List R) | dK (l : List (Ky × R)) | dT (l : List (List Ky × R)) | ins (c : Nat) (fs : List (String × R))

abbrev Store := List Ob
abbrev Env := List (Option R)

/-- an exception in flight: its class, its fields -/
structure Exc where
  c : Nat
  fs : List (String × P)

inductive Res (α : Type) where
  | ok (a : α) (st : Store) | err (x : Exc) (st : Store) | bad

def Res.bind {α β : Type} (r : Res α) (f : α → Store → Res β) : Res β := match r with
  | .ok a st => f a st
  | .err x st => .err x st
  | .bad => .bad
@[simp] theorem Res.bind_ok {α β : Type} (a : α) (st : Store) (f : α → Store → Res β) : (Res.ok a st).bind f = f a st := rfl
@[simp] theorem Res.bind_err {α β : Type} (x : Exc) (st : Store) (f : α → Store → Res β) : (Res.err x st : Res α).bind f = .err x st := rfl
@[simp] theorem Res.bind_bad {α β : Type} (f : α → Store → Res β) : (Res.bad : Res α).bind f = .bad := rfl

def ofO {α : Type} (o : Option α) (st : Store) : Res α := match o with
  | some a => .ok a st
  | none => .bad
@[simp] theorem ofO_some {α : Type} (a : α) (st : Store) : ofO (some a) st = .ok a st := rfl
@[simp] theorem ofO_none {α : Type} (st : Store) : ofO (none : Option α) st = .bad := rfl

def R.toP : R → Option P
  | .p x => some x
  | _ => none
def toPs : List R → Option (List P)
  | [] => some []
  | .p x :: r => (toPs r).map (x :: ·)
  | _ :: _ => none
theorem toPs_map (l : List P) : toPs (l.map R.p) = some l := by
  induction l with
  | nil => rfl
  | cons a r ih => simp [toPs, ih]
def mkTup (l : List R) : R := match toPs l with
  | some ps => .p (.tup ps)
  | none => .tupc l
@[simp] theorem mkTup_map (l : List P) : mkTup (l.map R.p) = .p (.tup l) := by unfold mkTup; rw [toPs_map]

/-- most items, signs -/
abbrev LINE : Nat := 16777216

mutual
/-- all cells in it lie below n -/
def R.bel (n : Nat) : R → Bool
  | .p _ => true
  | .cell m => decide (m < n)
  | .tupc l => bels n l
def bels (n : Nat) : List R → Bool
  | [] => true
  | r :: l => r.bel n && bels n l
end
def belv {κ : Type} (n : Nat) (l : List (κ × R)) : Bool := l.all fun q => q.2.bel n
def Ob.bel (n : Nat) : Ob → Bool
  | .lst l => bels n l
  | .dK l => belv n l
  | .dT l => belv n l
  | .ins _ l => belv n l

def isP : R → Bool
  | .p _ => true
  | _ => false

/-- cells above n0 turned into data -/
def frz (n0 : Nat) (st : Store) : Nat → R → Option P
  | _, .p x => some x
  | 0, _ => none
  | k + 1, .cell c => if c < n0 then none else match st[c]? with
    | some (.lst l) => (l.mapM (frz n0 st k)).map .lst
    | some (.ins c l) => (l.mapM fun q => (frz n0 st k q.2).map fun y => (q.1, y)).map (.obj c)
    | some (.dK l) => (l.mapM fun q => (frz n0 st k q.2).map fun y => (q.1, y)).map .dK
    | some (.dT l) => (l.mapM fun q => (frz n0 st k q.2).map fun y => (q.1, y)).map .dT
    | none => none
  | k + 1, .tupc l => (l.mapM (frz n0 st k)).map .tup
theorem frz_p (n0 : Nat) (st : Store) (k : Nat) (x : P) : frz n0 st k (.p x) = some x := by cases k <;> rfl

/-! ### operators -/
inductive Bop where
  | add | sub | mul | fdiv | mod | pow
  deriving DecidableEq
inductive Cop where
  | eq | ne | lt | le | gt | ge | inn | nin | is | isn
  deriving DecidableEq

/-- a product that may be large: one side small, or both of few bits -/
def mulOk (i j : Int) : Bool := decide (i.natAbs < 2 ^ 64) || decide (j.natAbs < 2 ^ 64)

def binP : Bop → P → P → Option P
  | .add, .int i, .int j => some (.int (i + j))
  | .sub, .int i, .int j => some (.int (i - j))
  | .mul, .int i, .int j => if mulOk i j then some (.int (i * j)) else none
  | .fdiv, .int i, .int j => if 0 < j ∧ j < 1073741824 then some (.int (i / j)) else none
  | .mod, .int i, .int j => if 0 < j then some (.int (i % j)) else none
  | .pow, .int i, .int j => if 0 ≤ j ∧ j ≤ 1000000 ∧ i.natAbs < 2 ^ 64 then some (.int (i ^ j.toNat)) else none
  | .add, .str x, .str y => if x.length + y.length ≤ LINE then some (.str (x ++ y)) else none
  | .add, .tup x, .tup y => if x.length + y.length ≤ LINE then some (.tup (x ++ y)) else none
  | _, _, _ => none
/-- the items of a list, a tuple -/
def seqR (r : R) (st : Store) : Option (List R) := match r with
  | .p (.lst l) => some (l.map .p)
  | .p (.tup l) => some (l.map .p)
  | .tupc l => some l
  | .cell c => (match st[c]? with
    | some (.lst l) => some l
    | _ => none)
  | _ => none
def lstR (r : R) (st : Store) : Option (List R) := match r with
  | .p (.lst l) => some (l.map .p)
  | .cell c => (match st[c]? with
    | some (.lst l) => some l
    | _ => none)
  | _ => none
def binR (o : Bop) (x y : R) (st : Store) : Option R := match x, y with
  | .p a, .p b => (match binP o a b with
    | some c => some (.p c)
    | none => none)
  | _, _ => none

mutual
/-- data for == -/
def P.py : P → Option PyData
  | .non => some .none
  | .bl b => some (.bool b)
  | .int i => some (.int i)
  | .str x => some (.str ⟨x.toArray⟩)
  | .tup l => (pys l).map .tuple
  | .lst l => (pys l).map .list
  | _ => none
def pys : List P → Option (List PyData)
  | [] => some []
  | p :: l => match P.py p, pys l with
    | some d, some r => some (d :: r)
    | _, _ => none
end
/-- a value as data that stands still, a list in a cell looked at -/
def R.look (r : R) (st : Store) : Option P := match r with
  | .p x => some x
  | .cell c => (match st[c]? with
    | some (.lst l) => (toPs l).map .lst
    | _ => none)
  | _ => none
def eqP (a b : P) : Option Bool := match a.py, b.py with
  | some d, some e => if SeqAt.shaped d && SeqAt.shaped e then some (PyData.eqv d e) else none
  | _, _ => none
def eqR (x y : R) (st : Store) : Option Bool := match x.look st, y.look st with
  | some a, some b => eqP a b
  | _, _ => none
def P.flat : P → Bool
  | .non | .bl _ | .int _ | .str _ => true
  | _ => false
/-- one flat thing is another one -/
def eqF : P → P → Bool
  | .non, .non => true
  | .bl a, .bl b => a == b
  | .int a, .int b => a == b
  | .str a, .str b => a == b
  | .bl a, .int b => (if a then 1 else 0) == b
  | .int a, .bl b => a == (if b then 1 else 0)
  | _, _ => false
def flats : List R → Option (List P)
  | [] => some []
  | .p x :: r => if x.flat then (flats r).map (x :: ·) else none
  | _ :: _ => none
def inR (x y : R) (st : Store) : Option Bool := match x, y with
  | .p (.str a), .p (.str b) => (match a with
    | [c] => some (decide (c ∈ b))
    | _ => none)
  | .p a, y => if a.flat then (match (seqR y st).bind flats with
    | some l => some (l.any fun b => eqF b a)
    | none => none) else none
  | _, _ => none
def cmpR (o : Cop) (x y : R) (st : Store) : Option Bool := match o with
  | .eq => eqR x y st
  | .ne => (match eqR x y st with
    | some b => some (!b)
    | none => none)
  | .inn => inR x y st
  | .nin => (match inR x y st with
    | some b => some (!b)
    | none => none)
  | .is => (match x, y with
    | .p .non, .p .non => some true
    | .p _, .p .non => some false
    | .cell _, .p .non => some false
    | .tupc _, .p .non => some false
    | _, _ => none)
  | .isn => (match x, y with
    | .p .non, .p .non => some false
    | .p _, .p .non => some true
    | .cell _, .p .non => some true
    | .tupc _, .p .non => some true
    | _, _ => none)
  | .lt => (match x, y with
    | .p (.int a), .p (.int b) => some (decide (a < b))
    | _, _ => none)
  | .le => (match x, y with
    | .p (.int a), .p (.int b) => some (decide (a ≤ b))
    | _, _ => none)
  | .gt => (match x, y with
    | .p (.int a), .p (.int b) => some (decide (b < a))
    | _, _ => none)
  | .ge => (match x, y with
    | .p (.int a), .p (.int b) => some (decide (b ≤ a))
    | _, _ => none)

def truth (r : R) (st : Store) : Option Bool := match r with
  | .p .non => some false
  | .p (.bl b) => some b
  | .p (.int i) => some (i != 0)
  | .p (.str x) => some (!x.isEmpty)
  | .p (.tup l) => some (!l.isEmpty)
  | .p (.lst l) => some (!l.isEmpty)
  | .cell c => (match st[c]? with
    | some (.lst l) => some (!l.isEmpty)
    | _ => none)
  | _ => none

/-- tables of the program's text -/
structure Cl where
  name : String
  kind : Nat := 0
  init : Nat := 0
  fz : Bool := true
  meths : List (String × Nat) := []
  flds : List String := []
inductive Mode where
  | frz | keep
  deriving DecidableEq

def kyP : Ky → P
  | .inl i => .int i
  | .inr x => .str x
def kyOf : P → Option Ky
  | .int i => some (.inl i)
  | .str x => some (.inr x)
  | _ => none
def kysOf : List P → Option (List Ky)
  | [] => some []
  | p :: l => match kyOf p, kysOf l with
    | some k, some r => some (k :: r)
    | _, _ => none

/-- the i-th item -/
def idxR (gds : List (List (Ky × P))) (x i : R) (st : Store) : Option R := match x, i with
  | .p (.str s), .p (.int i) => (match atI s i with
    | some c => some (.p (.str [c]))
    | none => none)
  | .p (.gd j), .p k => (match kyOf k, gds[j]? with
    | some k, some t => (t.lookup k).map .p
    | _, _ => none)
  | x, .p (.int i) => (match seqR x st with
    | some l => atI l i
    | none => none)
  | _, _ => none

def cutL {α : Type} (l : List α) (lo hi : Option Int) : List α := (l.drop (HT.sIx l.length 0 lo)).take (HT.sIx l.length l.length hi - HT.sIx l.length 0 lo)
def slcR (x : R) (lo hi : Option Int) (st : Store) : Option R := match x with
  | .p (.str s) => some (.p (.str (cutL s lo hi)))
  | .p (.lst l) => some (.p (.lst (cutL l lo hi)))
  | .p (.tup l) => some (.p (.tup (cutL l lo hi)))
  | _ => none

/-- builtin functions -/
inductive Bi where
  | len | int | str | list | tuple | all | any | sum | lenset | min2 | max2
  deriving DecidableEq
/-- methods of builtin things -/
inductive Mt where
  | append
  deriving DecidableEq
inductive Ty where
  | int | bool | str | list | tuple | own (c : Nat)
  deriving DecidableEq

def blsR : List R → Option (List Bool)
  | [] => some []
  | .p (.bl b) :: l => (blsR l).map (b :: ·)
  | _ :: _ => none
def intsR : List R → Option (List Int)
  | [] => some []
  | .p (.int i) :: l => (intsR l).map (i :: ·)
  | _ :: _ => none
def strsR : List R → Option (List (List Nat))
  | [] => some []
  | .p (.str i) :: l => (strsR l).map (i :: ·)
  | _ :: _ => none

/-- how many different ones -/
def distinct {α : Type} [DecidableEq α] (l : List α) : List α := l.foldl (fun acc x => if x ∈ acc then acc else acc ++ [x]) []

/-- the signs of a whole number -/
def icodes (i : Int) : List Nat := (toString i).toList.map Char.toNat
def lenOf (x : R) (st : Store) : Option R := match x with
  | .p (.str x) => some (.p (.int x.length))
  | x => (match seqR x st with
    | some l => some (.p (.int l.length))
    | none => none)
def intOf : R → Option R
  | .p (.int i) => some (.p (.int i))
  | .p (.bl b) => some (.p (.int (if b then 1 else 0)))
  | _ => none
def int2Of (f : Int → Int → Int) (x y : R) : Option R := match x, y with
  | .p (.int a), .p (.int b) => some (.p (.int (f a b)))
  | _, _ => none
def strOf : R → Option R
  | .p (.int i) => if decide (i.natAbs.log2 < 1920) && decide ((icodes i).length ≤ LINE) then some (.p (.str (icodes i))) else none
  | _ => none
def biR (b : Bi) (xs : List R) (st : Store) : Option R := match b, xs with
  | .len, [x] => lenOf x st
  | .int, [x] => intOf x
  | .str, [x] => strOf x
  | .list, [x] => (match (seqR x st).bind toPs with
    | some l => some (.p (.lst l))
    | none => none)
  | .tuple, [x] => (match (lstR x st).bind toPs with
    | some l => some (.p (.tup l))
    | none => none)
  | .all, [x] => (match (lstR x st).bind blsR with
    | some l => some (.p (.bl (l.all id)))
    | none => none)
  | .any, [x] => (match (lstR x st).bind blsR with
    | some l => some (.p (.bl (l.any id)))
    | none => none)
  | .sum, [x] => (match (lstR x st).bind intsR with
    | some l => some (.p (.int l.sum))
    | none => none)
  | .lenset, [x] => (match (lstR x st).bind strsR with
    | some l => if l.length < 4000 then some (.p (.int (distinct l).length)) else none
    | none => none)
  | .min2, [x, y] => int2Of (fun a b => if b < a then b else a) x y
  | .max2, [x, y] => int2Of (fun a b => if b > a then b else a) x y
  | _, _ => none

def isR (cls : List Cl) (t : Ty) (x : R) (st : Store) : Option Bool := match x, t with
  | .p (.int _), .int => some true
  | .p (.bl _), .int => some true
  | .p (.bl _), .bool => some true
  | .p (.int _), .bool => some false
  | .p (.obj c _), .own d => if c = d then some true else none
  | .cell m, .own d => (match st[m]? with
    | some (.ins c _) => if c = d then some true else none
    | _ => none)
  | _, _ => none

def fldR (x : R) (f : String) (st : Store) : Option R := match x with
  | .p (.obj _ fs) => (fs.lookup f).map .p
  | .cell m => (match st[m]? with
    | some (.ins _ fs) => fs.lookup f
    | _ => none)
  | _ => none
def clsR (x : R) (st : Store) : Option Nat := match x with
  | .p (.obj c _) => some c
  | .cell m => (match st[m]? with
    | some (.ins c _) => some c
    | _ => none)
  | _ => none

/-- of which built-in type -/
def tyR (x : R) (st : Store) : Option String := match x with
  | .p (.str _) => some "str"
  | .p (.int _) => some "int"
  | .p (.lst _) => some "list"
  | .cell m => (match st[m]? with
    | some (.lst _) => some "list"
    | some (.dK _) => some "dict"
    | some (.dT _) => some "dict"
    | _ => none)
  | _ => none
def mtT : Mt → String
  | .append => "list"
/-- an instance of a class with plain fields -/
def okCl (cls : List Cl) (x : R) (st : Store) : Bool := match clsR x st with
  | some c => (match cls[c]? with
    | some C => decide (C.kind = 0)
    | none => false)
  | none => false

def putF {α : Type} (f : String) (v : α) : List (String × α) → List (String × α)
  | [] => [(f, v)]
  | (g, x) :: r => if g = f then (g, v) :: r else (g, x) :: putF f v r

/-! ### the language -/
inductive Tg where
  | v (i : Nat) | t (l : List Tg)

mutual
inductive E where
  | var (i : Nat)
  | con (x : P)
  | glo (x : String)
  | bin (o : Bop) (a b : E)
  | neg (a : E)
  | cmp (o : Cop) (a b : E)
  | chn (o o' : Cop) (a b c : E)
  | and (a b : E) | or (a b : E) | nt (a : E)
  | ite (c a b : E)
  | tup (l : List E)
  | lst (m : Bool) (l : List E)
  | call (f : Nat) (l : List E)
  | new (c : Nat) (l : List E)
  | bi (b : Bi) (l : List E)
  | lstm (a : E)
  | isi (a : E) (t : Ty)
  | mt (m : Mt) (o : E) (l : List E)
  | om (m : String) (o : E) (l : List E)
  | idx (a i : E)
  | slc (a : E) (lo hi : Option E)
  | fld (a : E) (f : String)
  | lc (m : Bool) (elt : E) (tg : Tg) (it : It) (c : Option E) (own : List Nat)
  | lc2 (m : Bool) (elt : E) (tg : Tg) (it : It) (tg' : Tg) (it' : It) (own own' : List Nat)
inductive It where
  | seq (a : E) | rng1 (a : E) | rng2 (a b : E) | enum (a : E) | zip (a b : E)
end

/-- what an except suite says: of the exception at hand -/
inductive X where
  | con (x : P) | isi (c : Option Nat) | fld (f : String) | nt (a : X) | or (a b : X) | cmp (o : Cop) (a b : X) | sub (a b : X)
inductive XS where
  | ret (a : X) | ifr (c a : X) (r : XS) | rai (c : Nat) (l : List E)

inductive S where
  | asg (i : Nat) (e : E)
  | asgT (t : Tg) (e : E)
  | fset (o : E) (f : String) (e : E)
  | iset (o i e : E)
  | aug (i : Nat) (o : Bop) (e : E)
  | faug (x : E) (f : String) (o : Bop) (e : E)
  | ex (e : E)
  | ret (e : Option E)
  | ife (c : E) (a b : List S)
  | whl (c : E) (b : List S)
  | for (t : Tg) (it : It) (b : List S)
  | brk | cnt | pas
  | rai (c : Nat) (l : List E)
  | tryx (b : List S) (c : Nat) (i : Option Nat) (h : XS)
  | nev

inductive Fl where
  | nx (e : Env) | rt (v : R) | bk (e : Env) | ct (e : Env)

abbrev CF := Nat → List R → Nat → Store → Res R

/-- names of a block forgotten -/
def wipeE (env : Env) : List Nat → Env
  | [] => env
  | v :: vs => (wipeE env vs).set v none
/-- names that a loop's turn made are forgotten -/
def mask : Env → Env → Env
  | none :: r, _ :: r' => none :: mask r r'
  | some _ :: r, y :: r' => y :: mask r r'
  | [], r' => r'.map fun _ => none
  | _ :: _, [] => []

mutual
def asgTg : Tg → R → Env → Option Env
  | .v i, r, env => if i < env.length then some (env.set i (some r)) else none
  | .t l, r, env => (match r with
    | .p (.tup ps) => asgTgs l (ps.map .p) env
    | .tupc rs => asgTgs l rs env
    | _ => none)
def asgTgs : List Tg → List R → Env → Option Env
  | [], [], env => some env
  | t :: ts, r :: rs, env => (match asgTg t r env with
    | some env' => asgTgs ts rs env'
    | none => none)
  | _, _, _ => none
end

/-- what a walk walks -/
inductive Wk where
  | vals (l : List R) | cel (c : Nat)

def evEs (ev : E → Env → Store → Res R) : List E → Env → Store → Res (List R)
  | [], _, st => .ok [] st
  | e :: es, env, st => (ev e env st).bind fun v st => (evEs ev es env st).bind fun vs st => .ok (v :: vs) st
def evO (ev : E → Env → Store → Res R) : Option E → Env → Store → Res (Option Int)
  | none, _, st => .ok none st
  | some e, env, st => (ev e env st).bind fun v st => match v with
    | .p (.int i) => .ok (some i) st
    | _ => .bad

def rngL (lo hi : Int) : List R := (List.range (hi - lo).toNat).map fun (i : Nat) => R.p (.int (lo + (i : Int)))
def smallI (i : Int) : Bool := decide (-(2 ^ 62) ≤ i) && decide (i < 2 ^ 62)

def evIt (ev : E → Env → Store → Res R) : It → Env → Store → Res Wk
  | .seq a, env, st => (ev a env st).bind fun v st => match v with
    | .p (.lst l) => .ok (.vals (l.map .p)) st
    | .p (.tup l) => .ok (.vals (l.map .p)) st
    | .tupc l => .ok (.vals l) st
    | .p (.str x) => .ok (.vals (x.map fun c => .p (.str [c]))) st
    | .cell c => (match st[c]? with
      | some (.lst _) => .ok (.cel c) st
      | _ => .bad)
    | _ => .bad
  | .rng1 a, env, st => (ev a env st).bind fun v st => match v with
    | .p (.int i) => if smallI i then .ok (.vals (rngL 0 i)) st else .bad
    | _ => .bad
  | .rng2 a b, env, st => (ev a env st).bind fun v st => (ev b env st).bind fun u st => match v, u with
    | .p (.int i), .p (.int j) => if smallI i && smallI j then .ok (.vals (rngL i j)) st else .bad
    | _, _ => .bad
  | .enum a, env, st => (ev a env st).bind fun v st => match v with
    | .p (.lst l) => .ok (.vals (l.mapIdx fun i x => mkTup [.p (.int i), .p x])) st
    | _ => .bad
  | .zip a b, env, st => (ev a env st).bind fun v st => (ev b env st).bind fun u st => match v, u with
    | .p (.lst l), .p (.lst l') => .ok (.vals (List.zipWith (fun x y => mkTup [.p x, .p y]) l l')) st
    | .p (.tup l), .p (.tup l') => .ok (.vals (List.zipWith (fun x y => mkTup [.p x, .p y]) l l')) st
    | _, _ => .bad

/-- within a block nothing may be raised -/
def noErr {α : Type} (r : Res α) : Res α := match r with
  | .ok a st => .ok a st
  | _ => .bad
@[simp] theorem noErr_ok {α : Type} (a : α) (st : Store) : noErr (.ok a st) = .ok a st := rfl
abbrev EvE := E → Env → Store → Res R
abbrev EvT := E → Env → Store → Res Bool
abbrev ExSs := List S → Env → Store → Res Fl
/-- a turn of a comprehension -/
def lcT (ev : EvE) (et : EvT) (elt : E) (tg : Tg) (c : Option E) (env : Env) (x : R) (st : Store) : Res (Option R) := match asgTg tg x env with
  | some env' => (match c with
    | none => (noErr (ev elt env' st)).bind fun v st => .ok (some v) st
    | some c => (noErr (et c env' st)).bind fun k st => if k then (noErr (ev elt env' st)).bind fun v st => .ok (some v) st else .ok none st)
  | none => .bad
def optC (v : Option R) (vs : List R) : List R := match v with
  | some v => v :: vs
  | none => vs
@[simp] theorem optC_some (v : R) (vs : List R) : optC (some v) vs = v :: vs := rfl
@[simp] theorem optC_none (vs : List R) : optC none vs = vs := rfl
/-- the turns of a comprehension -/
def lcL (ev : EvE) (et : EvT) (elt : E) (tg : Tg) (c : Option E) (env : Env) : List R → Store → Res (List R)
  | [], st => .ok [] st
  | x :: l, st => (lcT ev et elt tg c env x st).bind fun v st => (lcL ev et elt tg c env l st).bind fun vs st => .ok (optC v vs) st
/-- .. over a list in a cell, looked at in each turn; m: what is left -/
def lcC (ev : EvE) (et : EvT) (elt : E) (tg : Tg) (c : Option E) (env : Env) (cc : Nat) : Nat → Nat → Store → Res (List R)
  | m, i, st => match st[cc]? with
    | some (.lst l) => (match l[i]? with
      | some x => (match m with
        | 0 => .bad
        | m + 1 => (lcT ev et elt tg c env x st).bind fun v st => (lcC ev et elt tg c env cc m (i + 1) st).bind fun vs st => .ok (optC v vs) st)
      | none => .ok [] st)
    | _ => .bad
/-- a turn of a loop -/
def forT (ex : ExSs) (t : Tg) (b : List S) (x : R) (env : Env) (st : Store) : Res Fl := match asgTg t x env with
  | some env' => ex b env' st
  | none => .bad
/-- the turns of a loop -/
def forL (ex : ExSs) (t : Tg) (b : List S) (env0 : Env) : List R → Env → Store → Res Fl
  | [], env, st => .ok (.nx env) st
  | x :: l, env, st => (forT ex t b x env st).bind fun f st => match f with
    | .nx env' => forL ex t b env0 l (mask env0 env') st
    | .ct env' => forL ex t b env0 l (mask env0 env') st
    | .bk env' => .ok (.nx (mask env0 env')) st
    | .rt v => .ok (.rt v) st
/-- .. over a list in a cell, looked at in each turn; m: what is left -/
def forC (ex : ExSs) (t : Tg) (b : List S) (env0 : Env) (c : Nat) : Nat → Nat → Env → Store → Res Fl
  | m, i, env, st => match st[c]? with
    | some (.lst l) => (match l[i]? with
      | some x => (match m with
        | 0 => .bad
        | m + 1 => (forT ex t b x env st).bind fun f st => match f with
          | .nx env' => forC ex t b env0 c m (i + 1) (mask env0 env') st
          | .ct env' => forC ex t b env0 c m (i + 1) (mask env0 env') st
          | .bk env' => .ok (.nx (mask env0 env')) st
          | .rt v => .ok (.rt v) st)
      | none => .ok (.nx env) st)
    | _ => .bad
def whlL (et : EvT) (ex : ExSs) (c : E) (b : List S) (env0 : Env) : Nat → Env → Store → Res Fl
  | 0, _, _ => .bad
  | n + 1, env, st => (et c env st).bind fun k st => if k then (ex b env st).bind fun f st => (match f with
    | .nx env' => whlL et ex c b env0 n (mask env0 env') st
    | .ct env' => whlL et ex c b env0 n (mask env0 env') st
    | .bk env' => .ok (.nx (mask env0 env')) st
    | .rt v => .ok (.rt v) st) else .ok (.nx env) st

/-- what a name of the top stands for -/
inductive GV where
  | fn (i : Nat) | cl (i : Nat) | con (x : P) | blt
structure Tab where
  cls : List Cl
  gds : List (List (Ky × P))
  gl : List (String × GV)
  sub : Nat → Nat → Bool

section
variable (T : Tab) (c0 c1 : CF) (fl : Nat)

/-- a cell's object is written; below the floor only data may be put in -/
def putC (c : Nat) (o : Ob) (new : List R) (st : Store) : Res R :=
  if (c < fl && !(new.all isP)) then .bad else .ok (.p .non) (st.set c o)

def mtR (m : Mt) (x : R) (xs : List R) (st : Store) : Res R := match m, x, xs with
  | .append, .cell c, [y] => (match st[c]? with
    | some (.lst l) => if l.length < LINE then putC fl c (.lst (l ++ [y])) [y] st else .bad
    | _ => .bad)
  | _, _, _ => .bad

mutual
def evE : Nat → E → Env → Store → Res R
  | 0, _, _, _ => .bad
  | n + 1, e, env, st => match e with
    | .var i => (match env[i]? with
      | some (some r) => .ok r st
      | _ => .bad)
    | .con x => .ok (.p x) st
    | .glo x => (match T.gl.lookup x with
      | some (.con y) => .ok (.p y) st
      | _ => .bad)
    | .bin o a b => (evE n a env st).bind fun x st => (evE n b env st).bind fun y st => ofO (binR o x y st) st
    | .neg a => (evE n a env st).bind fun x st => match x with
      | .p (.int i) => .ok (.p (.int (-i))) st
      | _ => .bad
    | .cmp o a b => (evE n a env st).bind fun x st => (evE n b env st).bind fun y st => (ofO (cmpR o x y st) st).bind fun b st => .ok (.p (.bl b)) st
    | .chn o o' a b c => (evE n a env st).bind fun x st => (evE n b env st).bind fun y st => (ofO (cmpR o x y st) st).bind fun k st =>
        if k then (evE n c env st).bind fun z st => (ofO (cmpR o' y z st) st).bind fun b st => .ok (.p (.bl b)) st else .ok (.p (.bl false)) st
    | .and a b => (evE n a env st).bind fun x st => (ofO (truth x st) st).bind fun k st => if k then evE n b env st else .ok x st
    | .or a b => (evE n a env st).bind fun x st => (ofO (truth x st) st).bind fun k st => if k then .ok x st else evE n b env st
    | .nt a => (evE n a env st).bind fun x st => (ofO (truth x st) st).bind fun k st => .ok (.p (.bl (!k))) st
    | .ite c a b => (evT n c env st).bind fun k st => if k then evE n a env st else evE n b env st
    | .tup l => (evEs (evE n) l env st).bind fun vs st => if vs.length ≤ LINE then .ok (mkTup vs) st else .bad
    | .lst m l => (evEs (evE n) l env st).bind fun vs st => if vs.length ≤ LINE then (if m then .ok (.cell st.length) (st ++ [.lst vs]) else (ofO (toPs vs) st).bind fun ps st => .ok (.p (.lst ps)) st) else .bad
    | .call f l => (evEs (evE n) l env st).bind fun vs st => c0 f vs fl st
    | .new c l => (evEs (evE n) l env st).bind fun vs st => (match T.cls[c]? with
      | some C => (c1 C.init (.cell st.length :: vs) st.length (st ++ [.ins c []])).bind fun v st' => (match v with
        | .p .non => if C.fz then (match frz st.length st' 6 (.cell st.length) with
            | some x => .ok (.p x) (st'.take st.length)
            | none => .bad) else .ok (.cell st.length) st'
        | _ => .bad)
      | none => .bad)
    | .bi b l => (evEs (evE n) l env st).bind fun vs st => ofO (biR b vs st) st
    | .lstm a => (evE n a env st).bind fun x st => match seqR x st with
      | some l => .ok (.cell st.length) (st ++ [.lst l])
      | none => .bad
    | .isi a t => (evE n a env st).bind fun x st => (ofO (isR T.cls t x st) st).bind fun b st => .ok (.p (.bl b)) st
    | .mt m o l => (evE n o env st).bind fun x st => if tyR x st = some (mtT m) then (evEs (evE n) l env st).bind fun vs st => mtR fl m x vs st else .bad
    | .om m o l => (evE n o env st).bind fun x st => (match (clsR x st).bind (T.cls[·]?) with
      | some C => (match C.meths.lookup m with
        | some f => (evEs (evE n) l env st).bind fun vs st => c0 f (x :: vs) fl st
        | none => .bad)
      | none => .bad)
    | .idx a i => (evE n a env st).bind fun x st => (evE n i env st).bind fun y st => ofO (idxR T.gds x y st) st
    | .slc a lo hi => (evE n a env st).bind fun x st => (evO (evE n) lo env st).bind fun i st => (evO (evE n) hi env st).bind fun j st => ofO (slcR x i j st) st
    | .fld a f => (evE n a env st).bind fun x st => if okCl T.cls x st then ofO (fldR x f st) st else .bad
    | .lc m elt tg it c own => (evIt (evE n) it env st).bind fun w st => (match w with
      | .vals l => (lcL (evE n) (evT n) elt tg c (wipeE env own) l st).bind fun vs st => if l.length ≤ LINE then (if m then .ok (.cell st.length) (st ++ [.lst vs]) else (ofO (toPs vs) st).bind fun ps st => .ok (.p (.lst ps)) st) else .bad
      | .cel cc => (lcC (evE n) (evT n) elt tg c (wipeE env own) cc 1048576 0 st).bind fun vs st => if 1048576 ≤ LINE then (if m then .ok (.cell st.length) (st ++ [.lst vs]) else (ofO (toPs vs) st).bind fun ps st => .ok (.p (.lst ps)) st) else .bad)
    | .lc2 _ _ _ _ _ _ _ _ => .bad
def evT : Nat → E → Env → Store → Res Bool
  | 0, _, _, _ => .bad
  | n + 1, e, env, st => match e with
    | .and a b => (evT n a env st).bind fun k st => if k then evT n b env st else .ok false st
    | .or a b => (evT n a env st).bind fun k st => if k then .ok true st else evT n b env st
    | .nt a => (evT n a env st).bind fun k st => .ok (!k) st
    | .ite c a b => (evT n c env st).bind fun k st => if k then evT n a env st else evT n b env st
    | e => (evE n e env st).bind fun x st => ofO (truth x st) st
end

/-- a field is written -/
def setFl (T : Tab) (fl : Nat) (env : Env) (x v : R) (f : String) (st : Store) : Res Fl := match x with
  | .cell m => (match st[m]? with
    | some (.ins c fs) => (match T.cls[c]? with
      | some C => if C.flds.contains f && decide (fs.length < 100) && decide (C.kind = 0) then (putC fl m (.ins c (putF f v fs)) [v] st).bind fun _ st => .ok (.nx env) st else .bad
      | none => .bad)
    | _ => .bad)
  | _ => .bad

def fin (keep : Bool) (n0 : Nat) (v : R) (st : Store) : Res R := if keep then .ok v st else match frz n0 st 6 v with
  | some x => .ok (.p x) (st.take n0)
  | none => .bad

def isExc (T : Tab) (c : Nat) : Bool := match T.cls[c]? with
  | some C => decide (1 ≤ C.kind)
  | none => false
/-- what op= does: with whole numbers only -/
def augR (o : Bop) (x y : R) : Option R := match o, x, y with
  | .add, .p (.int i), .p (.int j) => some (.p (.int (i + j)))
  | .sub, .p (.int i), .p (.int j) => some (.p (.int (i - j)))
  | _, _, _ => none

def evX (x : Exc) : X → Option P
  | .con y => some y
  | .isi none => if x.fs.isEmpty then some (.bl true) else none
  | .isi (some c) => if x.fs.isEmpty then some (.bl (T.sub x.c c)) else none
  | .fld f => x.fs.lookup f
  | .nt a => (match evX x a with
    | some (.bl b) => some (.bl (!b))
    | _ => none)
  | .or a b => (match evX x a with
    | some (.bl true) => some (.bl true)
    | some (.bl false) => evX x b
    | _ => none)
  | .cmp o a b => (match evX x a, evX x b with
    | some (.int i), some (.int j) => (match o with
      | .eq => some (.bl (decide (i = j)))
      | .ne => some (.bl (!decide (i = j)))
      | _ => none)
    | _, _ => none)
  | .sub a b => (match evX x a, evX x b with
    | some (.int i), some (.int j) => some (.int (i - j))
    | _, _ => none)
def evXS (x : Exc) : XS → Store → Res Fl
  | .ret a, st => (match evX T x a with
    | some v => .ok (.rt (.p v)) st
    | none => .bad)
  | .ifr c a r, st => (match evX T x c with
    | some (.bl true) => (match evX T x a with
      | some v => .ok (.rt (.p v)) st
      | none => .bad)
    | some (.bl false) => evXS x r st
    | _ => .bad)
  | .rai _ _, _ => .bad

mutual
def exS : Nat → S → Env → Store → Res Fl
  | 0, _, _, _ => .bad
  | n + 1, s, env, st => match s with
    | .asg i e => (evE T c0 c1 fl n e env st).bind fun v st => if i < env.length then .ok (.nx (env.set i (some v))) st else .bad
    | .asgT t e => (evE T c0 c1 fl n e env st).bind fun v st => (match asgTg t v env with
      | some env' => .ok (.nx env') st
      | none => .bad)
    | .fset o f e => (evE T c0 c1 fl n e env st).bind fun v st => (evE T c0 c1 fl n o env st).bind fun x st => setFl T fl env x v f st
    | .iset o i e => (evE T c0 c1 fl n e env st).bind fun v st => (evE T c0 c1 fl n o env st).bind fun x st => (evE T c0 c1 fl n i env st).bind fun y st => (match x, y with
      | .cell m, .p (.int i) => (match st[m]? with
        | some (.lst l) => (match ixN l.length i with
          | some j => (putC fl m (.lst (l.set j v)) [v] st).bind fun _ st => .ok (.nx env) st
          | none => .bad)
        | _ => .bad)
      | _, _ => .bad)
    | .aug i o e => (match env[i]? with
      | some (some x) => (evE T c0 c1 fl n e env st).bind fun y st => (ofO (augR o x y) st).bind fun v st => .ok (.nx (env.set i (some v))) st
      | _ => .bad)
    | .faug x f o e => (evE T c0 c1 fl n x env st).bind fun x st => if okCl T.cls x st then (ofO (fldR x f st) st).bind fun v st => (evE T c0 c1 fl n e env st).bind fun y st' => if clsR x st' = clsR x st then (ofO (augR o v y) st').bind fun z st => setFl T fl env x z f st else .bad else .bad
    | .ex e => (evE T c0 c1 fl n e env st).bind fun _ st => .ok (.nx env) st
    | .ret none => .ok (.rt (.p .non)) st
    | .ret (some e) => (evE T c0 c1 fl n e env st).bind fun v st => .ok (.rt v) st
    | .ife c a b => (evT T c0 c1 fl n c env st).bind fun k st => if k then exSs n a env st else exSs n b env st
    | .whl c b => whlL (evT T c0 c1 fl n) (exSs n) c b env 1048576 env st
    | .for t it b => (evIt (evE T c0 c1 fl n) it env st).bind fun w st => (match w with
      | .vals l => forL (exSs n) t b env l env st
      | .cel c => forC (exSs n) t b env c 1048576 0 env st)
    | .brk => .ok (.bk env) st
    | .cnt => .ok (.ct env) st
    | .pas => .ok (.nx env) st
    | .rai c l => (evEs (evE T c0 c1 fl n) l env st).bind fun vs st => (match T.cls[c]?, toPs vs with
      | some C, some ps => .err ⟨c, C.flds.zip ps⟩ st
      | _, _ => .bad)
    | .tryx b c _ h => (match exSs n b env st with
      | .err x st => if isExc T x.c then (if T.sub x.c c then evXS T x h st else .err x st) else .bad
      | r => r)
    | .nev => .bad
def exSs : Nat → List S → Env → Store → Res Fl
  | 0, _, _, _ => .bad
  | n + 1, l, env, st => match l with
    | [] => .ok (.nx env) st
    | s :: r => (exS n s env st).bind fun f st => (match f with
      | .nx env' => exSs n r env' st
      | f => .ok f st)
end
end

/-- a def -/
structure Fn where
  ps : Nat
  nn : Nat
  keep : Bool
  body : List S

/-- a call of the f-th def with k levels of calls to go -/
def callF (T : Tab) (fns : List Fn) : Nat → CF
  | 0, _, _, _, _ => .bad
  | k + 1, f, args, fl, st => match fns[f]? with
    | none => .bad
    | some F => if args.length = F.ps then (match exSs T (callF T fns k) (callF T fns (k - 1)) (if F.keep then fl else st.length) 60 F.body (args.map some ++ List.replicate (F.nn - F.ps) none) st with
      | .ok (.nx _) st' => fin F.keep st.length (.p .non) st'
      | .ok (.rt v) st' => fin F.keep st.length v st'
      | .err x st' => .err x (if F.keep then st' else st'.take st.length)
      | _ => .bad) else .bad
end EV
end
section
set_option linter.all false
/-! EV, part 2: what the evaluator does with each form, as rules for simp. -/
namespace EV
open PySem L2
section
variable (T : Tab) (c0 c1 : CF) (fl n : Nat) (env : Env) (st : Store)
theorem ev_var (i : Nat) : evE T c0 c1 fl (n + 1) (.var i) env st = (match env[i]? with
  | some (some r) => .ok r st
  | _ => .bad) := rfl
@[simp] theorem ev_var' {i : Nat} {r : R} (h : env[i]? = some (some r)) : evE T c0 c1 fl (n + 1) (.var i) env st = .ok r st := by rw [ev_var, h]
@[simp] theorem ev_con (x : P) : evE T c0 c1 fl (n + 1) (.con x) env st = .ok (.p x) st := rfl
theorem ev_glo (x : String) : evE T c0 c1 fl (n + 1) (.glo x) env st = (match T.gl.lookup x with
      | some (.con y) => .ok (.p y) st
      | _ => .bad) := rfl
@[simp] theorem ev_glo' {x : String} {y : P} (h : T.gl.lookup x = some (.con y)) : evE T c0 c1 fl (n + 1) (.glo x) env st = .ok (.p y) st := by rw [ev_glo, h]
@[simp] theorem ev_bin (o : Bop) (a b : E) : evE T c0 c1 fl (n + 1) (.bin o a b) env st = (evE T c0 c1 fl n a env st).bind fun x st => (evE T c0 c1 fl n b env st).bind fun y st => ofO (binR o x y st) st := rfl
def negR (x : R) (st : Store) : Res R := match x with
  | .p (.int i) => .ok (.p (.int (-i))) st
  | _ => .bad
@[simp] theorem negR_int (i : Int) : negR (.p (.int i)) st = .ok (.p (.int (-i))) st := rfl
@[simp] theorem ev_neg (a : E) : evE T c0 c1 fl (n + 1) (.neg a) env st = (evE T c0 c1 fl n a env st).bind fun x st => negR x st := rfl
@[simp] theorem ev_cmp (o : Cop) (a b : E) : evE T c0 c1 fl (n + 1) (.cmp o a b) env st = (evE T c0 c1 fl n a env st).bind fun x st => (evE T c0 c1 fl n b env st).bind fun y st => (ofO (cmpR o x y st) st).bind fun b st => .ok (.p (.bl b)) st := rfl
@[simp] theorem ev_chn (o o' : Cop) (a b c : E) : evE T c0 c1 fl (n + 1) (.chn o o' a b c) env st = (evE T c0 c1 fl n a env st).bind fun x st => (evE T c0 c1 fl n b env st).bind fun y st => (ofO (cmpR o x y st) st).bind fun k st =>
        if k then (evE T c0 c1 fl n c env st).bind fun z st => (ofO (cmpR o' y z st) st).bind fun b st => .ok (.p (.bl b)) st else .ok (.p (.bl false)) st := rfl
@[simp] theorem ev_and (a b : E) : evE T c0 c1 fl (n + 1) (.and a b) env st = (evE T c0 c1 fl n a env st).bind fun x st => (ofO (truth x st) st).bind fun k st => if k then evE T c0 c1 fl n b env st else .ok x st := rfl
@[simp] theorem ev_or (a b : E) : evE T c0 c1 fl (n + 1) (.or a b) env st = (evE T c0 c1 fl n a env st).bind fun x st => (ofO (truth x st) st).bind fun k st => if k then .ok x st else evE T c0 c1 fl n b env st := rfl
@[simp] theorem ev_nt (a : E) : evE T c0 c1 fl (n + 1) (.nt a) env st = (evE T c0 c1 fl n a env st).bind fun x st => (ofO (truth x st) st).bind fun k st => .ok (.p (.bl (!k))) st := rfl
@[simp] theorem ev_ite (c a b : E) : evE T c0 c1 fl (n + 1) (.ite c a b) env st = (evT T c0 c1 fl n c env st).bind fun k st => if k then evE T c0 c1 fl n a env st else evE T c0 c1 fl n b env st := rfl
@[simp] theorem ev_tup (l : List E) : evE T c0 c1 fl (n + 1) (.tup l) env st = (evEs (evE T c0 c1 fl n) l env st).bind fun vs st => if vs.length ≤ LINE then .ok (mkTup vs) st else .bad := rfl
@[simp] theorem ev_lst (m : Bool) (l : List E) : evE T c0 c1 fl (n + 1) (.lst m l) env st = (evEs (evE T c0 c1 fl n) l env st).bind fun vs st => if vs.length ≤ LINE then (if m then .ok (.cell st.length) (st ++ [.lst vs]) else (ofO (toPs vs) st).bind fun ps st => .ok (.p (.lst ps)) st) else .bad := rfl
@[simp] theorem ev_call (f : Nat) (l : List E) : evE T c0 c1 fl (n + 1) (.call f l) env st = (evEs (evE T c0 c1 fl n) l env st).bind fun vs st => c0 f vs fl st := rfl
def newR (C : Cl) (st : Store) (v : R) (st' : Store) : Res R := match v with
  | .p .non => if C.fz then (match frz st.length st' 6 (.cell st.length) with
      | some x => .ok (.p x) (st'.take st.length)
      | none => .bad) else .ok (.cell st.length) st'
  | _ => .bad
theorem ev_new (c : Nat) (l : List E) : evE T c0 c1 fl (n + 1) (.new c l) env st = (evEs (evE T c0 c1 fl n) l env st).bind fun vs st => (match T.cls[c]? with
      | some C => (c1 C.init (.cell st.length :: vs) st.length (st ++ [.ins c []])).bind fun v st' => newR C st v st'
      | none => .bad) := rfl
@[simp] theorem ev_new' {c : Nat} {C : Cl} (l : List E) (h : T.cls[c]? = some C) : evE T c0 c1 fl (n + 1) (.new c l) env st = (evEs (evE T c0 c1 fl n) l env st).bind fun vs st => (c1 C.init (.cell st.length :: vs) st.length (st ++ [.ins c []])).bind fun v st' => newR C st v st' := by
  rw [ev_new, h]
@[simp] theorem ev_bi (b : Bi) (l : List E) : evE T c0 c1 fl (n + 1) (.bi b l) env st = (evEs (evE T c0 c1 fl n) l env st).bind fun vs st => ofO (biR b vs st) st := rfl
def thawR (x : R) (st : Store) : Res R := match seqR x st with
  | some l => .ok (.cell st.length) (st ++ [.lst l])
  | none => .bad
@[simp] theorem thawR_lst (l : List P) : thawR (.p (.lst l)) st = .ok (.cell st.length) (st ++ [.lst (l.map .p)]) := rfl
@[simp] theorem thawR_tup (l : List P) : thawR (.p (.tup l)) st = .ok (.cell st.length) (st ++ [.lst (l.map .p)]) := rfl
@[simp] theorem ev_lstm (a : E) : evE T c0 c1 fl (n + 1) (.lstm a) env st = (evE T c0 c1 fl n a env st).bind fun x st => thawR x st := rfl
@[simp] theorem ev_isi (a : E) (t : Ty) : evE T c0 c1 fl (n + 1) (.isi a t) env st = (evE T c0 c1 fl n a env st).bind fun x st => (ofO (isR T.cls t x st) st).bind fun b st => .ok (.p (.bl b)) st := rfl
@[simp] theorem ev_mt (m : Mt) (o : E) (l : List E) : evE T c0 c1 fl (n + 1) (.mt m o l) env st = (evE T c0 c1 fl n o env st).bind fun x st => if tyR x st = some (mtT m) then (evEs (evE T c0 c1 fl n) l env st).bind fun vs st => mtR fl m x vs st else .bad := rfl
theorem ev_om (m : String) (o : E) (l : List E) : evE T c0 c1 fl (n + 1) (.om m o l) env st = (evE T c0 c1 fl n o env st).bind fun x st => (match (clsR x st).bind (T.cls[·]?) with
      | some C => (match C.meths.lookup m with
        | some f => (evEs (evE T c0 c1 fl n) l env st).bind fun vs st => c0 f (x :: vs) fl st
        | none => .bad)
      | none => .bad) := rfl
@[simp] theorem ev_idx (a i : E) : evE T c0 c1 fl (n + 1) (.idx a i) env st = (evE T c0 c1 fl n a env st).bind fun x st => (evE T c0 c1 fl n i env st).bind fun y st => ofO (idxR T.gds x y st) st := rfl
@[simp] theorem ev_slc (a : E) (lo hi : Option E) : evE T c0 c1 fl (n + 1) (.slc a lo hi) env st = (evE T c0 c1 fl n a env st).bind fun x st => (evO (evE T c0 c1 fl n) lo env st).bind fun i st => (evO (evE T c0 c1 fl n) hi env st).bind fun j st => ofO (slcR x i j st) st := rfl
@[simp] theorem ev_fld (a : E) (f : String) : evE T c0 c1 fl (n + 1) (.fld a f) env st = (evE T c0 c1 fl n a env st).bind fun x st => if okCl T.cls x st then ofO (fldR x f st) st else .bad := rfl
def lcR (m : Bool) (k : Nat) (vs : List R) (st : Store) : Res R := if k ≤ LINE then (if m then .ok (.cell st.length) (st ++ [.lst vs]) else (ofO (toPs vs) st).bind fun ps st => .ok (.p (.lst ps)) st) else .bad
theorem lcR_ps {k : Nat} (vs : List P) (h : k ≤ LINE) : lcR false k (vs.map .p) st = .ok (.p (.lst vs)) st := by
  unfold lcR
  rw [if_pos h, if_neg (by decide), toPs_map]
  rfl
theorem lcR_m {k : Nat} (vs : List R) (h : k ≤ LINE) : lcR true k vs st = .ok (.cell st.length) (st ++ [.lst vs]) := by
  unfold lcR
  rw [if_pos h, if_pos rfl]
def lcW (ev : EvE) (et : EvT) (m : Bool) (elt : E) (tg : Tg) (c : Option E) (env : Env) (w : Wk) (st : Store) : Res R := match w with
  | .vals l => (lcL ev et elt tg c env l st).bind fun vs st => lcR m l.length vs st
  | .cel cc => (lcC ev et elt tg c env cc 1048576 0 st).bind fun vs st => lcR m 1048576 vs st
@[simp] theorem lcW_vals (ev : EvE) (et : EvT) (m : Bool) (elt : E) (tg : Tg) (c : Option E) (env : Env) (l : List R) (st : Store) : lcW ev et m elt tg c env (.vals l) st = (lcL ev et elt tg c env l st).bind fun vs st => lcR m l.length vs st := rfl
@[simp] theorem ev_lc (m : Bool) (elt : E) (tg : Tg) (it : It) (c : Option E) (own : List Nat) : evE T c0 c1 fl (n + 1) (.lc m elt tg it c own) env st = (evIt (evE T c0 c1 fl n) it env st).bind fun w st => lcW (evE T c0 c1 fl n) (evT T c0 c1 fl n) m elt tg c (wipeE env own) w st := rfl
@[simp] theorem evT_and (a b : E) : evT T c0 c1 fl (n + 1) (.and a b) env st = (evT T c0 c1 fl n a env st).bind fun k st => if k then evT T c0 c1 fl n b env st else .ok false st := rfl
@[simp] theorem evT_or (a b : E) : evT T c0 c1 fl (n + 1) (.or a b) env st = (evT T c0 c1 fl n a env st).bind fun k st => if k then .ok true st else evT T c0 c1 fl n b env st := rfl
@[simp] theorem evT_nt (a : E) : evT T c0 c1 fl (n + 1) (.nt a) env st = (evT T c0 c1 fl n a env st).bind fun k st => .ok (!k) st := rfl
def plainT : E → Bool
  | .and _ _ | .or _ _ | .nt _ | .ite _ _ _ => false
  | _ => true
theorem evT_plain {e : E} (h : plainT e = true) : evT T c0 c1 fl (n + 1) e env st = (evE T c0 c1 fl n e env st).bind fun x st => ofO (truth x st) st := by
  cases e <;> first | rfl | cases h
@[simp] theorem evT_var (i : Nat) : evT T c0 c1 fl (n + 1) (.var i) env st = (evE T c0 c1 fl n (.var i) env st).bind fun x st => ofO (truth x st) st := rfl
@[simp] theorem evT_con (i : P) : evT T c0 c1 fl (n + 1) (.con i) env st = (evE T c0 c1 fl n (.con i) env st).bind fun x st => ofO (truth x st) st := rfl
@[simp] theorem evT_glo (i : String) : evT T c0 c1 fl (n + 1) (.glo i) env st = (evE T c0 c1 fl n (.glo i) env st).bind fun x st => ofO (truth x st) st := rfl
@[simp] theorem evT_bin (o : Bop) (a b : E) : evT T c0 c1 fl (n + 1) (.bin o a b) env st = (evE T c0 c1 fl n (.bin o a b) env st).bind fun x st => ofO (truth x st) st := rfl
@[simp] theorem evT_cmp (o : Cop) (a b : E) : evT T c0 c1 fl (n + 1) (.cmp o a b) env st = (evE T c0 c1 fl n (.cmp o a b) env st).bind fun x st => ofO (truth x st) st := rfl
@[simp] theorem evT_chn (o o' : Cop) (a b c : E) : evT T c0 c1 fl (n + 1) (.chn o o' a b c) env st = (evE T c0 c1 fl n (.chn o o' a b c) env st).bind fun x st => ofO (truth x st) st := rfl
@[simp] theorem evT_ite (c a b : E) : evT T c0 c1 fl (n + 1) (.ite c a b) env st = (evT T c0 c1 fl n c env st).bind fun k st => if k then evT T c0 c1 fl n a env st else evT T c0 c1 fl n b env st := rfl
@[simp] theorem evT_call (f : Nat) (l : List E) : evT T c0 c1 fl (n + 1) (.call f l) env st = (evE T c0 c1 fl n (.call f l) env st).bind fun x st => ofO (truth x st) st := rfl
@[simp] theorem evT_bi (f : Bi) (l : List E) : evT T c0 c1 fl (n + 1) (.bi f l) env st = (evE T c0 c1 fl n (.bi f l) env st).bind fun x st => ofO (truth x st) st := rfl
@[simp] theorem evT_isi (a : E) (t : Ty) : evT T c0 c1 fl (n + 1) (.isi a t) env st = (evE T c0 c1 fl n (.isi a t) env st).bind fun x st => ofO (truth x st) st := rfl
@[simp] theorem evT_mt (m : Mt) (o : E) (l : List E) : evT T c0 c1 fl (n + 1) (.mt m o l) env st = (evE T c0 c1 fl n (.mt m o l) env st).bind fun x st => ofO (truth x st) st := rfl
@[simp] theorem evT_om (m : String) (o : E) (l : List E) : evT T c0 c1 fl (n + 1) (.om m o l) env st = (evE T c0 c1 fl n (.om m o l) env st).bind fun x st => ofO (truth x st) st := rfl
@[simp] theorem evT_idx (a b : E) : evT T c0 c1 fl (n + 1) (.idx a b) env st = (evE T c0 c1 fl n (.idx a b) env st).bind fun x st => ofO (truth x st) st := rfl
@[simp] theorem evT_fld (a : E) (f : String) : evT T c0 c1 fl (n + 1) (.fld a f) env st = (evE T c0 c1 fl n (.fld a f) env st).bind fun x st => ofO (truth x st) st := rfl
@[simp] theorem evT_slc (a : E) (lo hi : Option E) : evT T c0 c1 fl (n + 1) (.slc a lo hi) env st = (evE T c0 c1 fl n (.slc a lo hi) env st).bind fun x st => ofO (truth x st) st := rfl
/-! statements -/
def setV (env : Env) (i : Nat) (v : R) (st : Store) : Res Fl := if i < env.length then .ok (.nx (env.set i (some v))) st else .bad
theorem setV_ok {i : Nat} (v : R) (h : i < env.length) : setV env i v st = .ok (.nx (env.set i (some v))) st := if_pos h
@[simp] theorem ex_asg (i : Nat) (e : E) : exS T c0 c1 fl (n + 1) (.asg i e) env st = (evE T c0 c1 fl n e env st).bind fun v st => setV env i v st := rfl
def setT (env : Env) (t : Tg) (v : R) (st : Store) : Res Fl := match asgTg t v env with
  | some env' => .ok (.nx env') st
  | none => .bad
@[simp] theorem ex_asgT (t : Tg) (e : E) : exS T c0 c1 fl (n + 1) (.asgT t e) env st = (evE T c0 c1 fl n e env st).bind fun v st => setT env t v st := rfl
theorem setFl_ok {m c : Nat} {C : Cl} {fs : List (String × R)} {v : R} {f : String} (h : st[m]? = some (.ins c fs)) (hC : T.cls[c]? = some C) (hf : (C.flds.contains f && decide (fs.length < 100) && decide (C.kind = 0)) = true) (hp : fl ≤ m ∨ isP v = true) : setFl T fl env (.cell m) v f st = .ok (.nx env) (st.set m (.ins c (putF f v fs))) := by
  unfold setFl putC
  simp only [h, hC, hf, if_true]
  have q : (decide (m < fl) && !([v].all isP)) = false := by
    rcases hp with hp | hp
    · have : ¬ m < fl := by omega
      simp [this]
    · simp [hp]
  rw [q]
  rfl
@[simp] theorem ex_fset (o : E) (f : String) (e : E) : exS T c0 c1 fl (n + 1) (.fset o f e) env st = (evE T c0 c1 fl n e env st).bind fun v st => (evE T c0 c1 fl n o env st).bind fun x st => setFl T fl env x v f st := rfl
def setIx (env : Env) (x y v : R) (st : Store) : Res Fl := match x, y with
  | .cell m, .p (.int i) => (match st[m]? with
    | some (.lst l) => (match ixN l.length i with
      | some j => (putC fl m (.lst (l.set j v)) [v] st).bind fun _ st => .ok (.nx env) st
      | none => .bad)
    | _ => .bad)
  | _, _ => .bad
theorem setIx_ok {m j : Nat} {l : List R} {v : R} {i : Int} (h : st[m]? = some (.lst l)) (hi : ixN l.length i = some j) (hp : fl ≤ m ∨ isP v = true) : setIx fl env (.cell m) (.p (.int i)) v st = .ok (.nx env) (st.set m (.lst (l.set j v))) := by
  unfold setIx putC
  simp only [h, hi]
  have q : (decide (m < fl) && !([v].all isP)) = false := by
    rcases hp with hp | hp
    · have : ¬ m < fl := by omega
      simp [this]
    · simp [hp]
  rw [q]
  rfl
@[simp] theorem ex_iset (o i e : E) : exS T c0 c1 fl (n + 1) (.iset o i e) env st = (evE T c0 c1 fl n e env st).bind fun v st => (evE T c0 c1 fl n o env st).bind fun x st => (evE T c0 c1 fl n i env st).bind fun y st => setIx fl env x y v st := rfl
theorem ex_aug (i : Nat) (o : Bop) (e : E) : exS T c0 c1 fl (n + 1) (.aug i o e) env st = (match env[i]? with
      | some (some x) => (evE T c0 c1 fl n e env st).bind fun y st => (ofO (augR o x y) st).bind fun v st => .ok (.nx (env.set i (some v))) st
      | _ => .bad) := rfl
@[simp] theorem ex_aug' {i : Nat} {x : R} (o : Bop) (e : E) (h : env[i]? = some (some x)) : exS T c0 c1 fl (n + 1) (.aug i o e) env st = (evE T c0 c1 fl n e env st).bind fun y st => (ofO (augR o x y) st).bind fun v st => .ok (.nx (env.set i (some v))) st := by rw [ex_aug, h]
@[simp] theorem augR_add (i j : Int) : augR .add (.p (.int i)) (.p (.int j)) = some (.p (.int (i + j))) := rfl
@[simp] theorem augR_sub (i j : Int) : augR .sub (.p (.int i)) (.p (.int j)) = some (.p (.int (i - j))) := rfl
@[simp] theorem ex_faug (x : E) (f : String) (o : Bop) (e : E) : exS T c0 c1 fl (n + 1) (.faug x f o e) env st = (evE T c0 c1 fl n x env st).bind fun x st => if okCl T.cls x st then (ofO (fldR x f st) st).bind fun v st => (evE T c0 c1 fl n e env st).bind fun y st' => if clsR x st' = clsR x st then (ofO (augR o v y) st').bind fun z st => setFl T fl env x z f st else .bad else .bad := rfl
@[simp] theorem ex_ex (e : E) : exS T c0 c1 fl (n + 1) (.ex e) env st = (evE T c0 c1 fl n e env st).bind fun _ st => .ok (.nx env) st := rfl
@[simp] theorem ex_ret0 : exS T c0 c1 fl (n + 1) (.ret none) env st = .ok (.rt (.p .non)) st := rfl
@[simp] theorem ex_ret (e : E) : exS T c0 c1 fl (n + 1) (.ret (some e)) env st = (evE T c0 c1 fl n e env st).bind fun v st => .ok (.rt v) st := rfl
@[simp] theorem ex_ife (c : E) (a b : List S) : exS T c0 c1 fl (n + 1) (.ife c a b) env st = (evT T c0 c1 fl n c env st).bind fun k st => if k then exSs T c0 c1 fl n a env st else exSs T c0 c1 fl n b env st := rfl
@[simp] theorem ex_whl (c : E) (b : List S) : exS T c0 c1 fl (n + 1) (.whl c b) env st = whlL (evT T c0 c1 fl n) (exSs T c0 c1 fl n) c b env 1048576 env st := rfl
def forW (ex : ExSs) (t : Tg) (b : List S) (env : Env) (w : Wk) (st : Store) : Res Fl := match w with
  | .vals l => forL ex t b env l env st
  | .cel c => forC ex t b env c 1048576 0 env st
@[simp] theorem forW_vals (ex : ExSs) (t : Tg) (b : List S) (env : Env) (l : List R) (st : Store) : forW ex t b env (.vals l) st = forL ex t b env l env st := rfl
@[simp] theorem forW_cel (ex : ExSs) (t : Tg) (b : List S) (env : Env) (c : Nat) (st : Store) : forW ex t b env (.cel c) st = forC ex t b env c 1048576 0 env st := rfl
@[simp] theorem ex_for (t : Tg) (it : It) (b : List S) : exS T c0 c1 fl (n + 1) (.for t it b) env st = (evIt (evE T c0 c1 fl n) it env st).bind fun w st => forW (exSs T c0 c1 fl n) t b env w st := rfl
@[simp] theorem ex_brk : exS T c0 c1 fl (n + 1) .brk env st = .ok (.bk env) st := rfl
@[simp] theorem ex_cnt : exS T c0 c1 fl (n + 1) .cnt env st = .ok (.ct env) st := rfl
@[simp] theorem ex_pas : exS T c0 c1 fl (n + 1) .pas env st = .ok (.nx env) st := rfl
def raiR (C : Cl) (c : Nat) (vs : List R) (st : Store) : Res Fl := match toPs vs with
  | some ps => .err ⟨c, C.flds.zip ps⟩ st
  | none => .bad
theorem ex_rai (c : Nat) (l : List E) : exS T c0 c1 fl (n + 1) (.rai c l) env st = (evEs (evE T c0 c1 fl n) l env st).bind fun vs st => (match T.cls[c]?, toPs vs with
      | some C, some ps => .err ⟨c, C.flds.zip ps⟩ st
      | _, _ => .bad) := rfl
@[simp] theorem ex_rai' {c : Nat} {C : Cl} (l : List E) (h : T.cls[c]? = some C) : exS T c0 c1 fl (n + 1) (.rai c l) env st = (evEs (evE T c0 c1 fl n) l env st).bind fun vs st => raiR C c vs st := by
  rw [ex_rai, h]
  unfold raiR
  congr 1
  funext vs st
  cases toPs vs <;> rfl
def tryR (T : Tab) (c : Nat) (h : XS) (r : Res Fl) : Res Fl := match r with
  | .err x st => if isExc T x.c then (if T.sub x.c c then evXS T x h st else .err x st) else .bad
  | r => r
@[simp] theorem tryR_ok (c : Nat) (h : XS) (f : Fl) : tryR T c h (.ok f st) = .ok f st := rfl
@[simp] theorem tryR_err (c : Nat) (h : XS) (x : Exc) : tryR T c h (.err x st) = if isExc T x.c then (if T.sub x.c c then evXS T x h st else .err x st) else .bad := rfl
@[simp] theorem ex_try (b : List S) (c : Nat) (i : Option Nat) (h : XS) : exS T c0 c1 fl (n + 1) (.tryx b c i h) env st = tryR T c h (exSs T c0 c1 fl n b env st) := by
  show (match exSs T c0 c1 fl n b env st with
      | .err x st => if isExc T x.c then (if T.sub x.c c then evXS T x h st else .err x st) else .bad
      | r => r) = _
  unfold tryR
  rfl
@[simp] theorem exs_nil : exSs T c0 c1 fl (n + 1) [] env st = .ok (.nx env) st := rfl
def seqF (T : Tab) (c0 c1 : CF) (fl n : Nat) (r : List S) (f : Fl) (st : Store) : Res Fl := match f with
  | .nx env' => exSs T c0 c1 fl n r env' st
  | f => .ok f st
@[simp] theorem seqF_nx (r : List S) (env : Env) : seqF T c0 c1 fl n r (.nx env) st = exSs T c0 c1 fl n r env st := rfl
@[simp] theorem seqF_rt (r : List S) (v : R) : seqF T c0 c1 fl n r (.rt v) st = .ok (.rt v) st := rfl
@[simp] theorem seqF_bk (r : List S) (v : Env) : seqF T c0 c1 fl n r (.bk v) st = .ok (.bk v) st := rfl
@[simp] theorem seqF_ct (r : List S) (v : Env) : seqF T c0 c1 fl n r (.ct v) st = .ok (.ct v) st := rfl
@[simp] theorem exs_cons (s : S) (r : List S) : exSs T c0 c1 fl (n + 1) (s :: r) env st = (exS T c0 c1 fl n s env st).bind fun f st => seqF T c0 c1 fl n r f st := by
  show ((exS T c0 c1 fl n s env st).bind fun f st => (match f with
      | .nx env' => exSs T c0 c1 fl n r env' st
      | f => .ok f st)) = _
  congr 1
end
/-! parts -/
section
variable (ev : EvE) (env : Env) (st : Store)
@[simp] theorem evEs_nil : evEs ev [] env st = .ok [] st := rfl
@[simp] theorem evEs_cons (e : E) (es : List E) : evEs ev (e :: es) env st = (ev e env st).bind fun v st => (evEs ev es env st).bind fun vs st => .ok (v :: vs) st := rfl
@[simp] theorem evO_none : evO ev none env st = .ok none st := rfl
def partR (v : R) (st : Store) : Res (Option Int) := match v with
  | .p (.int i) => .ok (some i) st
  | _ => .bad
@[simp] theorem partR_int (i : Int) : partR (.p (.int i)) st = .ok (some i) st := rfl
@[simp] theorem evO_some (e : E) : evO ev (some e) env st = (ev e env st).bind fun v st => partR v st := rfl
def seqW (v : R) (st : Store) : Res Wk := match v with
  | .p (.lst l) => .ok (.vals (l.map .p)) st
  | .p (.tup l) => .ok (.vals (l.map .p)) st
  | .tupc l => .ok (.vals l) st
  | .p (.str x) => .ok (.vals (x.map fun c => .p (.str [c]))) st
  | .cell c => (match st[c]? with
    | some (.lst _) => .ok (.cel c) st
    | _ => .bad)
  | _ => .bad
@[simp] theorem seqW_lst (l : List P) : seqW (.p (.lst l)) st = .ok (.vals (l.map .p)) st := rfl
@[simp] theorem seqW_tup (l : List P) : seqW (.p (.tup l)) st = .ok (.vals (l.map .p)) st := rfl
@[simp] theorem seqW_str (x : List Nat) : seqW (.p (.str x)) st = .ok (.vals (x.map fun c => .p (.str [c]))) st := rfl
theorem seqW_cell {c : Nat} {l : List R} (h : st[c]? = some (.lst l)) : seqW (.cell c) st = .ok (.cel c) st := by
  unfold seqW
  simp only [h]
@[simp] theorem it_seq (a : E) : evIt ev (.seq a) env st = (ev a env st).bind fun v st => seqW v st := rfl
def rngW (v : R) (st : Store) : Res Wk := match v with
  | .p (.int i) => if smallI i then .ok (.vals (rngL 0 i)) st else .bad
  | _ => .bad
theorem rngW_ok {i : Int} (h : smallI i = true) : rngW (.p (.int i)) st = .ok (.vals (rngL 0 i)) st := if_pos h
@[simp] theorem it_rng1 (a : E) : evIt ev (.rng1 a) env st = (ev a env st).bind fun v st => rngW v st := rfl
def rngW2 (v u : R) (st : Store) : Res Wk := match v, u with
  | .p (.int i), .p (.int j) => if smallI i && smallI j then .ok (.vals (rngL i j)) st else .bad
  | _, _ => .bad
theorem rngW2_ok {i j : Int} (h : smallI i = true) (h' : smallI j = true) : rngW2 (.p (.int i)) (.p (.int j)) st = .ok (.vals (rngL i j)) st := if_pos (by rw [h, h']; rfl)
@[simp] theorem it_rng2 (a b : E) : evIt ev (.rng2 a b) env st = (ev a env st).bind fun v st => (ev b env st).bind fun u st => rngW2 v u st := rfl
end
/-! values -/
section
variable (st : Store)
@[simp] theorem binR_p (o : Bop) (a b : P) : binR o (.p a) (.p b) st = (binP o a b).map .p := by
  show (match binP o a b with
    | some c => some (R.p c)
    | none => none) = _
  cases binP o a b <;> rfl
@[simp] theorem binP_add (i j : Int) : binP .add (.int i) (.int j) = some (.int (i + j)) := rfl
@[simp] theorem binP_sub (i j : Int) : binP .sub (.int i) (.int j) = some (.int (i - j)) := rfl
theorem binP_mul {i j : Int} (h : mulOk i j = true) : binP .mul (.int i) (.int j) = some (.int (i * j)) := if_pos h
theorem binP_fdiv {i j : Int} (h : 0 < j) (h' : j < 1073741824) : binP .fdiv (.int i) (.int j) = some (.int (i / j)) := if_pos ⟨h, h'⟩
theorem binP_mod {i j : Int} (h : 0 < j) : binP .mod (.int i) (.int j) = some (.int (i % j)) := if_pos h
theorem binP_pow {i j : Int} (h : 0 ≤ j) (h1 : j ≤ 1000000) (h2 : i.natAbs < 2 ^ 64) : binP .pow (.int i) (.int j) = some (.int (i ^ j.toNat)) := if_pos ⟨h, h1, h2⟩
theorem binP_str {x y : List Nat} (h : x.length + y.length ≤ LINE) : binP .add (.str x) (.str y) = some (.str (x ++ y)) := if_pos h
theorem binP_tup {x y : List P} (h : x.length + y.length ≤ LINE) : binP .add (.tup x) (.tup y) = some (.tup (x ++ y)) := if_pos h
@[simp] theorem cmpR_lt (a b : Int) : cmpR .lt (.p (.int a)) (.p (.int b)) st = some (decide (a < b)) := rfl
@[simp] theorem cmpR_le (a b : Int) : cmpR .le (.p (.int a)) (.p (.int b)) st = some (decide (a ≤ b)) := rfl
@[simp] theorem cmpR_gt (a b : Int) : cmpR .gt (.p (.int a)) (.p (.int b)) st = some (decide (b < a)) := rfl
@[simp] theorem cmpR_ge (a b : Int) : cmpR .ge (.p (.int a)) (.p (.int b)) st = some (decide (b ≤ a)) := rfl
@[simp] theorem truth_bl (b : Bool) : truth (.p (.bl b)) st = some b := rfl
@[simp] theorem truth_int (i : Int) : truth (.p (.int i)) st = some (i != 0) := rfl
@[simp] theorem truth_str (x : List Nat) : truth (.p (.str x)) st = some (!x.isEmpty) := rfl
@[simp] theorem truth_tup (x : List P) : truth (.p (.tup x)) st = some (!x.isEmpty) := rfl
@[simp] theorem truth_lst (x : List P) : truth (.p (.lst x)) st = some (!x.isEmpty) := rfl
@[simp] theorem mask_nil : mask [] [] = [] := rfl
@[simp] theorem mask_none (r r' : Env) (y : Option R) : mask (none :: r) (y :: r') = none :: mask r r' := rfl
@[simp] theorem mask_some (r r' : Env) (x : R) (y : Option R) : mask (some x :: r) (y :: r') = y :: mask r r' := rfl
@[simp] theorem forT_v (ex : ExSs) (i : Nat) (b : List S) (x : R) (env : Env) (st : Store) (h : i < env.length) : forT ex (.v i) b x env st = ex b (env.set i (some x)) st := by
  unfold forT asgTg
  rw [if_pos h]
@[simp] theorem lcT_v (ev : EvE) (et : EvT) (elt : E) (i : Nat) (env : Env) (x : R) (st : Store) (h : i < env.length) : lcT ev et elt (.v i) none env x st = (noErr (ev elt (env.set i (some x)) st)).bind fun v st => .ok (some v) st := by
  unfold lcT asgTg
  rw [if_pos h]
@[simp] theorem fin_p (n0 : Nat) (x : P) (st : Store) : fin false n0 (.p x) st = .ok (.p x) (st.take n0) := by
  unfold fin
  rw [if_neg (by decide), frz_p]
@[simp] theorem fin_keep (n0 : Nat) (x : R) (st : Store) : fin true n0 x st = .ok x st := rfl
end
/-- how a call runs -/
def retR (keep : Bool) (n0 : Nat) (r : Res Fl) : Res R := match r with
  | .ok (.nx _) st' => fin keep n0 (.p .non) st'
  | .ok (.rt v) st' => fin keep n0 v st'
  | .err x st' => .err x (if keep then st' else st'.take n0)
  | _ => .bad
@[simp] theorem retR_nx (keep : Bool) (n0 : Nat) (e : Env) (st : Store) : retR keep n0 (.ok (.nx e) st) = fin keep n0 (.p .non) st := rfl
@[simp] theorem retR_rt (keep : Bool) (n0 : Nat) (v : R) (st : Store) : retR keep n0 (.ok (.rt v) st) = fin keep n0 v st := rfl
@[simp] theorem retR_err (keep : Bool) (n0 : Nat) (x : Exc) (st : Store) : retR keep n0 (.err x st) = .err x (if keep then st else st.take n0) := rfl
theorem call_def {T : Tab} {fns : List Fn} {k f : Nat} {F : Fn} {args : List R} {fl : Nat} {st : Store} (h : fns[f]? = some F) (hl : args.length = F.ps) :
    callF T fns (k + 1) f args fl st = retR F.keep st.length (exSs T (callF T fns k) (callF T fns (k - 1)) (if F.keep then fl else st.length) 60 F.body (args.map some ++ List.replicate (F.nn - F.ps) none) st) := by
  rw [callF]
  simp only [h, if_pos hl]
  unfold retR
  split <;> simp_all
/-- a loop that carries a state -/
theorem forL_fold {α σ : Type} (ex : ExSs) (t : Tg) (b : List S) (env0 : Env) (emb : α → R) (ev : σ → Env) (step : σ → α → σ) (l : List α) (st : Store)
    (h : ∀ s a, a ∈ l → ∃ e, forT ex t b (emb a) (ev s) st = .ok (.nx e) st ∧ mask env0 e = ev (step s a)) : ∀ s, forL ex t b env0 (l.map emb) (ev s) st = .ok (.nx (ev (l.foldl step s))) st := by
  induction l with
  | nil => intro s; rfl
  | cons a r ih =>
    intro s
    obtain ⟨e, h1, h2⟩ := h s a List.mem_cons_self
    show ((forT ex t b (emb a) (ev s) st).bind fun f st => _) = _
    rw [h1]
    show forL ex t b env0 (r.map emb) (mask env0 e) st = _
    rw [h2]
    exact ih (fun s a ha => h s a (List.mem_cons_of_mem _ ha)) _
/-- a comprehension without a test whose elements leave the store -/
theorem lcL_map {α : Type} (ev : EvE) (et : EvT) (elt : E) (tg : Tg) (env : Env) (emb : α → R) (f : α → R) (l : List α) (st : Store)
    (h : ∀ a, a ∈ l → lcT ev et elt tg none env (emb a) st = .ok (some (f a)) st) : lcL ev et elt tg none env (l.map emb) st = .ok (l.map f) st := by
  induction l with
  | nil => rfl
  | cons a r ih =>
    show ((lcT ev et elt tg none env (emb a) st).bind fun v st => _) = _
    rw [h a List.mem_cons_self]
    show ((lcL ev et elt tg none env (r.map emb) st).bind fun vs st => _) = _
    rw [ih fun a ha => h a (List.mem_cons_of_mem _ ha)]
    rfl
end EV
end
section
set_option linter.all false
/-! EV, part 3: how the evaluator's values and cells lie in the abstract heap. -/
namespace EV
open PySem PySem.Spec PyProof.Rows L2

/-- where the text's classes, defs and dicts stand -/
structure Ads where
  CA : Nat → Addr
  FA : Nat → Addr
  DA : Nat → Addr

def ky : Ky → Key
  | .inl i => .inl i
  | .inr x => .inr ⟨x.toArray⟩
theorem toArray_inj {x y : List Nat} (h : (⟨x.toArray⟩ : Str) = ⟨y.toArray⟩) : x = y := by
  injection h with h
  simpa using congrArg Array.toList h
theorem ky_inj {a b : Ky} (h : ky a = ky b) : a = b := by
  cases a <;> cases b <;> simp only [ky] at h
  · injection h with h
    rw [h]
  · cases h
  · cases h
  · injection h with h
    rw [toArray_inj h]

/-- the heap without the cells and what is hidden -/
def Gv (H : Hp) (am hid : List Addr) : Hp := fun b => if b ∈ am ∨ b ∈ hid then none else H b
theorem gv_of {H : Hp} {am hid : List Addr} {b : Addr} {o : HO} (h : Gv H am hid b = some o) : H b = some o ∧ b ∉ am ∧ b ∉ hid := by
  unfold Gv at h
  split at h
  · cases h
  · rename_i n
    exact ⟨h, fun z => n (.inl z), fun z => n (.inr z)⟩
theorem gv_mk {H : Hp} {am hid : List Addr} {b : Addr} {o : HO} (h : H b = some o) (h1 : b ∉ am) (h2 : b ∉ hid) : Gv H am hid b = some o := by
  unfold Gv
  rw [if_neg (fun z => z.elim h1 h2)]
  exact h

/-- what is read there is read here -/
structure Le (G G' : Hp) : Prop where
  l : ∀ b xs, Rd G b (.lst xs) → Rd G' b (.lst xs)
  t : ∀ b xs, Rd G b (.tup xs) → Rd G' b (.tup xs)
  k : ∀ b xs, Rd G b (.dK xs) → Rd G' b (.dK xs)
  d : ∀ b xs, Rd G b (.dT xs) → Rd G' b (.dT xs)
  i : ∀ b C dx fs, G b = some (.ins C dx fs) → G' b = some (.ins C dx fs)
theorem Le.of {G G' : Hp} (h : ∀ b o, G b = some o → G' b = some o) : Le G G' := by
  have r : ∀ b u, Rd G b u → Rd G' b u := fun b u q => by
    rcases q with q | ⟨o, q⟩
    · exact .inl (h _ _ q)
    · exact .inr ⟨o, h _ _ q⟩
  exact ⟨fun _ _ => r _ _, fun _ _ => r _ _, fun _ _ => r _ _, fun _ _ => r _ _, fun _ _ _ _ => h _ _⟩
theorem Le.refl (G : Hp) : Le G G := Le.of fun _ _ h => h
theorem Le.trans {G G1 G2 : Hp} (a : Le G G1) (b : Le G1 G2) : Le G G2 :=
  ⟨fun _ _ h => b.l _ _ (a.l _ _ h), fun _ _ h => b.t _ _ (a.t _ _ h), fun _ _ h => b.k _ _ (a.k _ _ h), fun _ _ h => b.d _ _ (a.d _ _ h), fun _ _ _ _ h => b.i _ _ _ _ (a.i _ _ _ _ h)⟩
section
variable {K : PySem.W.Frag} {G G' : Hp}
theorem Le.sqL (h : Le G G') {a : Addr} {xs : List V} (q : SqL K G a xs) : SqL K G' a xs := q.imp (h.l _ _) id
theorem Le.sqT (h : Le G G') {a : Addr} {xs : List V} (q : SqT K G a xs) : SqT K G' a xs := q.imp (h.t _ _) id
end

section
variable (K : PySem.W.Frag) (A : Ads) (G : Hp)
mutual
/-- data, as a value over the heap G -/
inductive RV : P → V → Prop where
  | non : RV .non .non
  | bl (b : Bool) : RV (.bl b) (.bl b)
  | int (i : Int) : RV (.int i) (.int i)
  | str (x : List Nat) (h : x.length ≤ LINE) : RV (.str x) (.str ⟨x.toArray⟩)
  | tup {a : Addr} {vs : List V} {ps : List P} : SqT K G a vs → RVs ps vs → RV (.tup ps) (.ref a)
  | lst {a : Addr} {vs : List V} {ps : List P} : SqL K G a vs → RVs ps vs → RV (.lst ps) (.ref a)
  | dK {a : Addr} {kvs : List (Key × V)} {l : List (Ky × P)} : Rd G a (.dK kvs) → RVk l kvs → RV (.dK l) (.ref a)
  | dT {a : Addr} {kvs : List (List Key × V)} {l : List (List Ky × P)} : Rd G a (.dT kvs) → RVt l kvs → RV (.dT l) (.ref a)
  | obj {a dx : Addr} {c : Nat} {fs : List (String × P)} {fvs : List (Str × V)} : G a = some (.ins (A.CA c) dx fvs) → RVf fs fvs → (∀ q, q ∈ fs → NoAttr K (A.CA c) (Str.ofString q.1)) → RV (.obj c fs) (.ref a)
  | gd (j : Nat) : RV (.gd j) (.ref (A.DA j))
  | fn (j : Nat) : RV (.fn j) (.ref (A.FA j))
inductive RVs : List P → List V → Prop where
  | nil : RVs [] []
  | cons {p : P} {v : V} {ps : List P} {vs : List V} : RV p v → RVs ps vs → RVs (p :: ps) (v :: vs)
inductive RVk : List (Ky × P) → List (Key × V) → Prop where
  | nil : RVk [] []
  | cons {k : Ky} {p : P} {v : V} {ps : List (Ky × P)} {vs : List (Key × V)} : RV p v → RVk ps vs → RVk ((k, p) :: ps) ((ky k, v) :: vs)
inductive RVt : List (List Ky × P) → List (List Key × V) → Prop where
  | nil : RVt [] []
  | cons {k : List Ky} {p : P} {v : V} {ps : List (List Ky × P)} {vs : List (List Key × V)} : RV p v → RVt ps vs → RVt ((k, p) :: ps) ((k.map ky, v) :: vs)
inductive RVf : List (String × P) → List (Str × V) → Prop where
  | nil : RVf [] []
  | cons {f : String} {p : P} {v : V} {ps : List (String × P)} {vs : List (Str × V)} : RV p v → RVf ps vs → RVf ((f, p) :: ps) ((Str.ofString f, v) :: vs)
end
variable (am : List Addr)
mutual
inductive RR : R → V → Prop where
  | p {x : P} {v : V} : RV K A G x v → RR (.p x) v
  | cell {n : Nat} {a : Addr} : am[n]? = some a → RR (.cell n) (.ref a)
  | tupc {a : Addr} {vs : List V} {l : List R} : SqT K G a vs → RRs l vs → RR (.tupc l) (.ref a)
inductive RRs : List R → List V → Prop where
  | nil : RRs [] []
  | cons {p : R} {v : V} {ps : List R} {vs : List V} : RR p v → RRs ps vs → RRs (p :: ps) (v :: vs)
end
end

section
variable {K : PySem.W.Frag} {A : Ads} {G G' : Hp} {am am' : List Addr}
mutual
theorem RV.mono (h : Le G G') : ∀ {x : P} {v : V}, RV K A G x v → RV K A G' x v
  | _, _, .non => .non
  | _, _, .bl b => .bl b
  | _, _, .int i => .int i
  | _, _, .str x q => .str x q
  | _, _, .tup q r => .tup (h.sqT q) (RVs.mono h r)
  | _, _, .lst q r => .lst (h.sqL q) (RVs.mono h r)
  | _, _, .dK q r => .dK (h.k _ _ q) (RVk.mono h r)
  | _, _, .dT q r => .dT (h.d _ _ q) (RVt.mono h r)
  | _, _, .obj q r z => .obj (h.i _ _ _ _ q) (RVf.mono h r) z
  | _, _, .gd j => .gd j
  | _, _, .fn j => .fn j
theorem RVs.mono (h : Le G G') : ∀ {x : List P} {v : List V}, RVs K A G x v → RVs K A G' x v
  | _, _, .nil => .nil
  | _, _, .cons r t => .cons (RV.mono h r) (RVs.mono h t)
theorem RVk.mono (h : Le G G') : ∀ {x : List (Ky × P)} {v : List (Key × V)}, RVk K A G x v → RVk K A G' x v
  | _, _, .nil => .nil
  | _, _, .cons r t => .cons (RV.mono h r) (RVk.mono h t)
theorem RVt.mono (h : Le G G') : ∀ {x : List (List Ky × P)} {v : List (List Key × V)}, RVt K A G x v → RVt K A G' x v
  | _, _, .nil => .nil
  | _, _, .cons r t => .cons (RV.mono h r) (RVt.mono h t)
theorem RVf.mono (h : Le G G') : ∀ {x : List (String × P)} {v : List (Str × V)}, RVf K A G x v → RVf K A G' x v
  | _, _, .nil => .nil
  | _, _, .cons r t => .cons (RV.mono h r) (RVf.mono h t)
end
mutual
theorem RR.mono (h : Le G G') (ha : ∀ (n : Nat) (a : Addr), am[n]? = some a → am'[n]? = some a) : ∀ {x : R} {v : V}, RR K A G am x v → RR K A G' am' x v
  | _, _, .p r => .p (r.mono h)
  | _, _, .cell q => .cell (ha _ _ q)
  | _, _, .tupc q r => .tupc (h.sqT q) (RRs.mono h ha r)
theorem RRs.mono (h : Le G G') (ha : ∀ (n : Nat) (a : Addr), am[n]? = some a → am'[n]? = some a) : ∀ {x : List R} {v : List V}, RRs K A G am x v → RRs K A G' am' x v
  | _, _, .nil => .nil
  | _, _, .cons r t => .cons (RR.mono h ha r) (RRs.mono h ha t)
end
theorem RVs.length {x : List P} {v : List V} (h : RVs K A G x v) : x.length = v.length := by
  induction x generalizing v with
  | nil => cases h; rfl
  | cons a r ih =>
    cases h with
    | cons _ t => rw [List.length_cons, List.length_cons, ih t]
theorem RRs.length {x : List R} {v : List V} (h : RRs K A G am x v) : x.length = v.length := by
  induction x generalizing v with
  | nil => cases h; rfl
  | cons a r ih =>
    cases h with
    | cons _ t => rw [List.length_cons, List.length_cons, ih t]
theorem RRs.get {x : List R} {v : List V} (h : RRs K A G am x v) {i : Nat} {r : R} (q : x[i]? = some r) : ∃ u, v[i]? = some u ∧ RR K A G am r u := by
  induction x generalizing v i with
  | nil => simp at q
  | cons a l ih =>
    cases h with
    | cons h1 t =>
      cases i with
      | zero => simp at q; subst q; exact ⟨_, rfl, h1⟩
      | succ i => simp at q; obtain ⟨u, e, z⟩ := ih t q; exact ⟨u, by simpa using e, z⟩
theorem RRs.get' {x : List R} {v : List V} (h : RRs K A G am x v) {i : Nat} {u : V} (q : v[i]? = some u) : ∃ r, x[i]? = some r ∧ RR K A G am r u := by
  induction x generalizing v i with
  | nil => cases h; simp at q
  | cons a l ih =>
    cases h with
    | cons h1 t =>
      cases i with
      | zero => simp at q; subst q; exact ⟨_, rfl, h1⟩
      | succ i => simp at q; obtain ⟨r, e, z⟩ := ih t q; exact ⟨r, by simpa using e, z⟩
theorem RRs.append {x y : List R} {v w : List V} (h : RRs K A G am x v) (h' : RRs K A G am y w) : RRs K A G am (x ++ y) (v ++ w) := by
  induction x generalizing v with
  | nil => cases h; exact h'
  | cons a l ih =>
    cases h with
    | cons h1 t => exact .cons h1 (ih t)
theorem RRs.set {x : List R} {v : List V} (h : RRs K A G am x v) {r : R} {u : V} (q : RR K A G am r u) (i : Nat) : RRs K A G am (x.set i r) (v.set i u) := by
  induction x generalizing v i with
  | nil => cases h; exact .nil
  | cons a l ih =>
    cases h with
    | cons h1 t =>
      cases i with
      | zero => exact .cons q t
      | succ i => exact .cons h1 (ih t i)
theorem RRs.take {x : List R} {v : List V} (h : RRs K A G am x v) (i : Nat) : RRs K A G am (x.take i) (v.take i) := by
  induction x generalizing v i with
  | nil => cases h; simp; exact .nil
  | cons a l ih =>
    cases h with
    | cons h1 t =>
      cases i with
      | zero => exact .nil
      | succ i => exact .cons h1 (ih t i)
theorem RRs.drop {x : List R} {v : List V} (h : RRs K A G am x v) (i : Nat) : RRs K A G am (x.drop i) (v.drop i) := by
  induction x generalizing v i with
  | nil => cases h; simp; exact .nil
  | cons a l ih =>
    cases h with
    | cons h1 t =>
      cases i with
      | zero => exact .cons h1 t
      | succ i => exact ih t i
/-- data lists among value lists -/
theorem RVs.rr : ∀ {x : List P} {v : List V}, RVs K A G x v → RRs K A G am (x.map .p) v
  | _, _, .nil => .nil
  | _, _, .cons r t => .cons (.p r) (RVs.rr t)
theorem RRs.rv : ∀ {x : List P} {v : List V}, RRs K A G am (x.map .p) v → RVs K A G x v
  | [], _, h => by cases h; exact .nil
  | _ :: _, _, h => by
    cases h with
    | cons r t =>
      cases r with
      | p r => exact .cons r (RRs.rv t)
theorem toPs_of : ∀ {l : List R} {ps : List P}, toPs l = some ps → l = ps.map .p
  | [], ps, h => by
    have : ([] : List P) = ps := Option.some.inj h
    rw [← this]; rfl
  | .p x :: r, ps, h => by
    unfold toPs at h
    cases e : toPs r with
    | none => rw [e] at h; cases h
    | some q =>
      rw [e] at h
      have : x :: q = ps := Option.some.inj h
      rw [← this, toPs_of e]; rfl
  | .cell _ :: _, _, h => by cases h
  | .tupc _ :: _, _, h => by cases h
theorem RRs.toPs {l : List R} {ps : List P} {vs : List V} (h : RRs K A G am l vs) (e : toPs l = some ps) : RVs K A G ps vs := by
  rw [toPs_of e] at h
  exact h.rv
theorem RR.tup {l : List R} {a : Addr} {vs : List V} (h : SqT K G a vs) (r : RRs K A G am l vs) : RR K A G am (mkTup l) (.ref a) := by
  unfold mkTup
  cases e : EV.toPs l with
  | none => exact .tupc h r
  | some ps => exact .p (.tup h (r.toPs e))
end

/-! ### cells -/
section
variable (K : PySem.W.Frag) (A : Ads) (G : Hp) (am : List Addr)
inductive RRv {κ κ' : Type} (f : κ → κ') : List (κ × R) → List (κ' × V) → Prop where
  | nil : RRv f [] []
  | cons {k : κ} {r : R} {v : V} {l : List (κ × R)} {vs : List (κ' × V)} : RR K A G am r v → RRv f l vs → RRv f ((k, r) :: l) ((f k, v) :: vs)
def OR (H : Hp) (a : Addr) : Ob → Prop
  | .lst l => ∃ vs, H a = some (.lst vs) ∧ RRs K A G am l vs
  | .dK l => ∃ kvs, H a = some (.dK kvs) ∧ RRv K A G am ky l kvs
  | .dT l => ∃ kvs, H a = some (.dT kvs) ∧ RRv K A G am (List.map ky) l kvs
  | .ins c fs => ∃ dx fvs, H a = some (.ins (A.CA c) dx fvs) ∧ RRv K A G am Str.ofString fs fvs ∧ ∀ q, q ∈ fs → NoAttr K (A.CA c) (Str.ofString q.1)
end
theorem RRv.mono {K : PySem.W.Frag} {A : Ads} {G G' : Hp} {am am' : List Addr} {κ κ' : Type} {f : κ → κ'} (h : Le G G') (ha : ∀ (n : Nat) (a : Addr), am[n]? = some a → am'[n]? = some a) {x : List (κ × R)} {v : List (κ' × V)} (r : RRv K A G am f x v) : RRv K A G' am' f x v := by
  induction r with
  | nil => exact .nil
  | cons r _ ih => exact .cons (r.mono h ha) ih
theorem OR.mono {K : PySem.W.Frag} {A : Ads} {G G' : Hp} {am am' : List Addr} {H H' : Hp} {a : Addr} {o : Ob} (h : Le G G') (ha : ∀ (n : Nat) (a : Addr), am[n]? = some a → am'[n]? = some a) (e : H' a = H a) (q : OR K A G am H a o) : OR K A G' am' H' a o := by
  cases o with
  | lst l => obtain ⟨vs, q1, q2⟩ := q; exact ⟨vs, e.trans q1, q2.mono h ha⟩
  | dK l => obtain ⟨vs, q1, q2⟩ := q; exact ⟨vs, e.trans q1, q2.mono h ha⟩
  | dT l => obtain ⟨vs, q1, q2⟩ := q; exact ⟨vs, e.trans q1, q2.mono h ha⟩
  | ins c l => obtain ⟨dx, vs, q1, q2, q3⟩ := q; exact ⟨dx, vs, e.trans q1, q2.mono h ha, q3⟩
theorem OR.some {K : PySem.W.Frag} {A : Ads} {G : Hp} {am : List Addr} {H : Hp} {a : Addr} {o : Ob} (q : OR K A G am H a o) : ∃ u, H a = some u ∧ Mut (some u) := by
  cases o with
  | lst l => obtain ⟨vs, q1, _⟩ := q; exact ⟨_, q1, trivial⟩
  | dK l => obtain ⟨vs, q1, _⟩ := q; exact ⟨_, q1, trivial⟩
  | dT l => obtain ⟨vs, q1, _⟩ := q; exact ⟨_, q1, trivial⟩
  | ins c l => obtain ⟨dx, vs, q1, _⟩ := q; exact ⟨_, q1, trivial⟩

/-- the store, as it lies in H: am the cells' addresses; hid: what no datum leans on -/
structure SR (K : PySem.W.Frag) (A : Ads) (hid : List Addr) (H : Hp) (am : List Addr) (st : Store) : Prop where
  len : am.length = st.length
  nd : am.Nodup
  hd : ∀ b ∈ hid, b ∉ am
  hs : ∀ b ∈ hid, ∃ o, H b = some o
  ob : ∀ (c : Nat) (a : Addr) (o : Ob), am[c]? = some a → st[c]? = some o → OR K A (Gv H am hid) am H a o
/-- what stood stands; only new things became cells -/
structure Ext (H : Hp) (am : List Addr) (H' : Hp) (am' : List Addr) : Prop where
  pre : am <+: am'
  keep : ∀ b o, b ∉ am → H b = some o → H' b = some o ∧ b ∉ am'
/-- below the floor no cell came to hold another cell -/
def NoNew (fl : Nat) (st st' : Store) : Prop := st.length ≤ st'.length ∧ ∀ c, c < fl → ∀ (m : Nat) (o o' : Ob), st[c]? = some o → st'[c]? = some o' → o.bel m = true → o'.bel m = true
structure Post (K : PySem.W.Frag) (A : Ads) (hid : List Addr) (fl : Nat) (H : Hp) (am : List Addr) (st : Store) (H' : Hp) (am' : List Addr) (st' : Store) : Prop where
  ext : Ext H am H' am'
  sr : SR K A hid H' am' st'
  nn : NoNew fl st st'

theorem pre_get {am am' : List Addr} (h : am <+: am') : ∀ (n : Nat) (a : Addr), am[n]? = some a → am'[n]? = some a := fun n a e => by
  obtain ⟨t, rfl⟩ := h
  exact (List.getElem?_append_left (List.getElem?_eq_some_iff.mp e).1).trans e
theorem Ext.refl (H : Hp) (am : List Addr) : Ext H am H am := ⟨List.prefix_refl _, fun b o n h => ⟨h, n⟩⟩
theorem Ext.trans {H H1 H2 : Hp} {am am1 am2 : List Addr} (a : Ext H am H1 am1) (b : Ext H1 am1 H2 am2) : Ext H am H2 am2 :=
  ⟨a.pre.trans b.pre, fun c o n h => let ⟨h1, n1⟩ := a.keep c o n h; b.keep c o n1 h1⟩
theorem Ext.le {H H' : Hp} {am am' hid : List Addr} (e : Ext H am H' am') : Le (Gv H am hid) (Gv H' am' hid) := Le.of fun b o h => by
  obtain ⟨h1, h2, h3⟩ := gv_of h
  obtain ⟨h4, h5⟩ := e.keep b o h2 h1
  exact gv_mk h4 h5 h3
theorem Ext.at {H H' : Hp} {am am' : List Addr} (e : Ext H am H' am') : ∀ (n : Nat) (a : Addr), am[n]? = some a → am'[n]? = some a := pre_get e.pre
theorem Ext.rr {K : PySem.W.Frag} {A : Ads} {H H' : Hp} {am am' hid : List Addr} (e : Ext H am H' am') {r : R} {v : V} (q : RR K A (Gv H am hid) am r v) : RR K A (Gv H' am' hid) am' r v := q.mono e.le e.at
theorem Ext.rrs {K : PySem.W.Frag} {A : Ads} {H H' : Hp} {am am' hid : List Addr} (e : Ext H am H' am') {r : List R} {v : List V} (q : RRs K A (Gv H am hid) am r v) : RRs K A (Gv H' am' hid) am' r v := q.mono e.le e.at
theorem NoNew.refl (fl : Nat) (st : Store) : NoNew fl st st := ⟨Nat.le_refl _, fun c _ m o o' h h' q => by rw [h] at h'; cases h'; exact q⟩
theorem NoNew.trans {fl : Nat} {st s1 s2 : Store} (a : NoNew fl st s1) (b : NoNew fl s1 s2) : NoNew fl st s2 := by
  refine ⟨Nat.le_trans a.1 b.1, fun c hc m o o' h h' q => ?_⟩
  have hl : c < s1.length := Nat.lt_of_lt_of_le (List.getElem?_eq_some_iff.mp h).1 a.1
  exact b.2 c hc m _ o' (List.getElem?_eq_getElem hl) h' (a.2 c hc m o _ h (List.getElem?_eq_getElem hl) q)
theorem NoNew.mono {fl fl' : Nat} {st st' : Store} (h : fl ≤ fl') (a : NoNew fl' st st') : NoNew fl st st' := ⟨a.1, fun c hc => a.2 c (Nat.lt_of_lt_of_le hc h)⟩
section
variable {K : PySem.W.Frag} {A : Ads} {hid : List Addr} {fl : Nat} {H H1 H2 : Hp} {am am1 am2 : List Addr} {st s1 s2 : Store}
theorem Post.refl (h : SR K A hid H am st) : Post K A hid fl H am st H am st := ⟨Ext.refl _ _, h, NoNew.refl _ _⟩
theorem Post.trans (a : Post K A hid fl H am st H1 am1 s1) (b : Post K A hid fl H1 am1 s1 H2 am2 s2) : Post K A hid fl H am st H2 am2 s2 := ⟨a.ext.trans b.ext, b.sr, a.nn.trans b.nn⟩

theorem upd_get {H : Hp} {p b : Addr} {o u : HO} (h : H b = some u) (n : H p = none) : upd H p o b = some u := by
  rw [upd_ne (ne_of_none h n)]; exact h
theorem SR.noh (h : SR K A hid H am st) {p : Addr} (n : H p = none) : p ∉ hid := fun z => by
  obtain ⟨o, q⟩ := h.hs p z
  rw [n] at q
  cases q
theorem SR.new (h : SR K A hid H am st) {p : Addr} (n : H p = none) : p ∉ am := fun z => by
  obtain ⟨c, hc⟩ := List.mem_iff_getElem?.mp z
  have hl : c < st.length := by
    rw [← h.len]
    exact (List.getElem?_eq_some_iff.mp hc).1
  obtain ⟨u, q, _⟩ := (h.ob c p _ hc (List.getElem?_eq_getElem hl)).some
  rw [n] at q
  cases q
/-- a new thing is laid that no cell names -/
theorem SR.laid (h : SR K A hid H am st) {p : Addr} (n : H p = none) (o : HO) : Ext H am (upd H p o) am ∧ SR K A hid (upd H p o) am st := by
  have e : Ext H am (upd H p o) am := ⟨List.prefix_refl _, fun b u nb q => ⟨upd_get q n, nb⟩⟩
  refine ⟨e, h.len, h.nd, h.hd, fun b hb => (h.hs b hb).imp fun u q => upd_get q n, fun c a ob h1 h2 => ?_⟩
  have q := h.ob c a ob h1 h2
  obtain ⟨u, qu, _⟩ := q.some
  exact q.mono e.le e.at (upd_ne (ne_of_none qu n))
theorem SR.laidP (h : SR K A hid H am st) {p : Addr} (n : H p = none) (o : HO) : Post K A hid fl H am st (upd H p o) am st := ⟨(h.laid n o).1, (h.laid n o).2, NoNew.refl _ _⟩
theorem SR.gvn (h : SR K A hid H am st) {p : Addr} (n : H p = none) (o : HO) : Gv (upd H p o) am hid p = some o := gv_mk upd_same (h.new n) (h.noh n)
theorem SR.cellE (h : SR K A hid H am st) {p : Addr} (n : H p = none) (o : HO) : Ext H am (upd H p o) (am ++ [p]) := ⟨List.prefix_append _ _, fun b u nb q => ⟨upd_get q n, fun z => by
    rcases List.mem_append.mp z with z | z
    · exact nb z
    · have this : b = p := by simpa using z
      rw [this, n] at q
      cases q⟩⟩
/-- a new cell -/
theorem SR.cell (h : SR K A hid H am st) {p : Addr} (n : H p = none) (o : HO) (ob : Ob) (mu : Mut (some o))
    (q : OR K A (Gv (upd H p o) (am ++ [p]) hid) (am ++ [p]) (upd H p o) p ob) : Post K A hid fl H am st (upd H p o) (am ++ [p]) (st ++ [ob]) := by
  have np : p ∉ am := h.new n
  have hh : p ∉ hid := h.noh n
  have e : Ext H am (upd H p o) (am ++ [p]) := ⟨List.prefix_append _ _, fun b u nb q => ⟨upd_get q n, fun z => by
    rcases List.mem_append.mp z with z | z
    · exact nb z
    · have this : b = p := by simpa using z
      rw [this, n] at q
      cases q⟩⟩
  refine ⟨e, ⟨by simp [h.len], ?_, fun b hb z => ?_, fun b hb => (h.hs b hb).imp fun u q => upd_get q n, fun c a ob' h1 h2 => ?_⟩, ?_⟩
  · rw [List.nodup_append]
    refine ⟨h.nd, by simp, fun a ha b hb => ?_⟩
    have : b = p := by simpa using hb
    subst this
    rintro rfl
    exact np ha
  · rcases List.mem_append.mp z with z | z
    · exact h.hd b hb z
    · have : b = p := by simpa using z
      subst this
      exact hh hb
  · by_cases hc : c < am.length
    · rw [List.getElem?_append_left hc] at h1
      rw [List.getElem?_append_left (by rw [← h.len]; exact hc)] at h2
      have z := h.ob c a ob' h1 h2
      obtain ⟨u, qu, _⟩ := z.some
      exact z.mono e.le e.at (upd_ne (ne_of_none qu n))
    · have hc1 := (List.getElem?_eq_some_iff.mp h1).1
      rw [List.length_append, List.length_singleton] at hc1
      have ec : c = am.length := by omega
      subst ec
      rw [List.getElem?_append_right (Nat.le_refl _), Nat.sub_self] at h1
      rw [h.len, List.getElem?_append_right (Nat.le_refl _), Nat.sub_self] at h2
      cases h1
      cases h2
      exact q
  · refine ⟨by simp, fun c hc m o1 o2 h1 h2 => ?_⟩
    rw [List.getElem?_append_left (List.getElem?_eq_some_iff.mp h1).1, h1] at h2
    cases h2
    exact id
theorem gv_upd_cell {H : Hp} {am hid : List Addr} {a : Addr} {o : HO} (ha : a ∈ am) : Gv (upd H a o) am hid = Gv H am hid := by
  funext b
  unfold Gv
  by_cases hb : b ∈ am ∨ b ∈ hid
  · rw [if_pos hb, if_pos hb]
  · rw [if_neg hb, if_neg hb, upd_ne]
    rintro rfl
    exact hb (.inl ha)
/-- a cell's object is written -/
theorem SR.write (h : SR K A hid H am st) {c : Nat} {a : Addr} (hc : am[c]? = some a) (o : HO) (ob : Ob) (q : OR K A (Gv H am hid) am (upd H a o) a ob)
    (nn : c < fl → ∀ (m : Nat) (o' : Ob), st[c]? = some o' → o'.bel m = true → ob.bel m = true) : Post K A hid fl H am st (upd H a o) am (st.set c ob) := by
  have ha : a ∈ am := List.mem_of_getElem? hc
  have eg : Gv (upd H a o) am hid = Gv H am hid := gv_upd_cell ha
  refine ⟨⟨List.prefix_refl _, fun b u nb q => ⟨(upd_ne (fun z : b = a => nb (by rw [z]; exact ha))).trans q, nb⟩⟩, ⟨by simp [h.len], h.nd, h.hd, fun b hb => (h.hs b hb).imp fun u q => (upd_ne (fun z : b = a => h.hd b hb (by rw [z]; exact ha))).trans q, fun c' a' ob' h1 h2 => ?_⟩, ?_⟩
  · rw [eg]
    by_cases e : c' = c
    · subst e
      rw [hc] at h1
      cases h1
      have hl : c' < st.length := by rw [← h.len]; exact (List.getElem?_eq_some_iff.mp hc).1
      rw [List.getElem?_set_self hl] at h2
      cases h2
      exact q
    · rw [List.getElem?_set_ne (Ne.symm e)] at h2
      have ne : a' ≠ a := fun z => by
        subst z
        obtain ⟨i1, e1⟩ := List.getElem?_eq_some_iff.mp h1
        obtain ⟨i2, e2⟩ := List.getElem?_eq_some_iff.mp hc
        exact e ((List.getElem_inj h.nd).mp (e1.trans e2.symm))
      exact (h.ob c' a' ob' h1 h2).mono (Le.refl _) (fun _ _ z => z) (upd_ne ne)
  · refine ⟨by simp, fun c' hc' m o1 o2 h1 h2 hb => ?_⟩
    by_cases e : c' = c
    · subst e
      rw [List.getElem?_set_self (List.getElem?_eq_some_iff.mp h1).1] at h2
      cases h2
      exact nn hc' m o1 h1 hb
    · rw [List.getElem?_set_ne (Ne.symm e), h1] at h2
      cases h2
      exact hb
theorem SR.at (h : SR K A hid H am st) {c : Nat} {o : Ob} (hc : st[c]? = some o) : ∃ a, am[c]? = some a ∧ OR K A (Gv H am hid) am H a o := by
  have hl : c < am.length := by rw [h.len]; exact (List.getElem?_eq_some_iff.mp hc).1
  exact ⟨_, List.getElem?_eq_getElem hl, h.ob c _ o (List.getElem?_eq_getElem hl) hc⟩
end
end EV
end
section
set_option linter.all false
/-! EV, part 4: cells turned into data, cells forgotten behind a call. -/
namespace EV
open PySem PySem.Spec PyProof.Rows L2
section
variable {K : PySem.W.Frag} {A : Ads} {G G' : Hp} {am am' hid : List Addr} {H H' : Hp} {st st' : Store} {fl : Nat}
mutual
theorem RR.bel : ∀ {r : R} {v : V}, RR K A G am r v → r.bel am.length = true
  | _, _, .p _ => by unfold R.bel; rfl
  | _, _, .cell q => by
    unfold R.bel
    exact decide_eq_true (List.getElem?_eq_some_iff.mp q).1
  | _, _, .tupc _ r => by
    unfold R.bel
    exact RRs.bel r
theorem RRs.bel : ∀ {r : List R} {v : List V}, RRs K A G am r v → bels am.length r = true
  | _, _, .nil => by unfold bels; rfl
  | _, _, .cons r t => by
    unfold bels
    rw [RR.bel r, RRs.bel t]
    rfl
end
theorem RRv.bel {κ κ' : Type} {f : κ → κ'} {l : List (κ × R)} {v : List (κ' × V)} (h : RRv K A G am f l v) : belv am.length l = true := by
  induction h with
  | nil => rfl
  | cons r _ ih =>
    unfold belv at ih ⊢
    rw [List.all_cons, ih]
    simp [r.bel]
theorem OR.bel {a : Addr} {o : Ob} (h : OR K A G am H a o) : o.bel am.length = true := by
  cases o with
  | lst l => obtain ⟨_, _, q⟩ := h; exact q.bel
  | dK l => obtain ⟨_, _, q⟩ := h; exact q.bel
  | dT l => obtain ⟨_, _, q⟩ := h; exact q.bel
  | ins c l => obtain ⟨_, _, _, q, _⟩ := h; exact q.bel
mutual
theorem RR.cut (le : Le G G') (hp : am <+: am') : ∀ {r : R} {v : V}, RR K A G am' r v → r.bel am.length = true → RR K A G' am r v
  | _, _, .p r, _ => .p (r.mono le)
  | _, _, .cell (n := n) q, b => by
    unfold R.bel at b
    have hn : n < am.length := of_decide_eq_true b
    refine .cell ?_
    obtain ⟨t, rfl⟩ := hp
    rwa [List.getElem?_append_left hn] at q
  | _, _, .tupc q r, b => by
    unfold R.bel at b
    exact .tupc (le.sqT q) (RRs.cut le hp r b)
theorem RRs.cut (le : Le G G') (hp : am <+: am') : ∀ {r : List R} {v : List V}, RRs K A G am' r v → bels am.length r = true → RRs K A G' am r v
  | _, _, .nil, _ => .nil
  | _, _, .cons r t, b => by
    unfold bels at b
    obtain ⟨b1, b2⟩ := Bool.and_eq_true_iff.mp b
    exact .cons (RR.cut le hp r b1) (RRs.cut le hp t b2)
end
theorem RRv.cut {κ κ' : Type} {f : κ → κ'} (le : Le G G') (hp : am <+: am') {l : List (κ × R)} {v : List (κ' × V)} (h : RRv K A G am' f l v) (b : belv am.length l = true) : RRv K A G' am f l v := by
  induction h with
  | nil => exact .nil
  | cons r _ ih =>
    unfold belv at b ih
    rw [List.all_cons] at b
    obtain ⟨b1, b2⟩ := Bool.and_eq_true_iff.mp b
    exact .cons (r.cut le hp b1) (ih b2)
theorem OR.cut (le : Le G G') (hp : am <+: am') {a : Addr} {o : Ob} (h : OR K A G am' H a o) (b : o.bel am.length = true) : OR K A G' am H a o := by
  cases o with
  | lst l => obtain ⟨vs, q1, q2⟩ := h; exact ⟨vs, q1, q2.cut le hp b⟩
  | dK l => obtain ⟨vs, q1, q2⟩ := h; exact ⟨vs, q1, q2.cut le hp b⟩
  | dT l => obtain ⟨vs, q1, q2⟩ := h; exact ⟨vs, q1, q2.cut le hp b⟩
  | ins c l => obtain ⟨dx, vs, q1, q2, q3⟩ := h; exact ⟨dx, vs, q1, q2.cut le hp b, q3⟩
theorem le_gv (hp : am <+: am') : Le (Gv H am' hid) (Gv H am hid) := Le.of fun b o h => by
  obtain ⟨h1, h2, h3⟩ := gv_of h
  exact gv_mk h1 (fun z => h2 (hp.subset z)) h3
/-- behind a call: the cells that it made are forgotten -/
theorem Post.trunc (h : SR K A hid H am st) (p : Post K A hid st.length H am st H' am' st') (hf : fl ≤ st.length) : Post K A hid fl H am st H' am (st'.take st.length) := by
  have hp := p.ext.pre
  have hl : am.length = st.length := h.len
  have bel : ∀ (c : Nat) (o : Ob), c < st.length → st'[c]? = some o → o.bel am.length = true := fun c o hc e => by
    have e0 := List.getElem?_eq_getElem hc
    have ha : c < am.length := by omega
    exact p.nn.2 c hc am.length _ o e0 e (h.ob c _ _ (List.getElem?_eq_getElem ha) e0).bel
  refine ⟨⟨List.prefix_refl _, fun b o n e => ⟨(p.ext.keep b o n e).1, n⟩⟩, ⟨?_, h.nd, h.hd, p.sr.hs, fun c a o h1 h2 => ?_⟩, ?_⟩
  · rw [List.length_take, Nat.min_eq_left p.nn.1, hl]
  · have hc : c < st.length := by rw [← hl]; exact (List.getElem?_eq_some_iff.mp h1).1
    rw [List.getElem?_take_of_lt hc] at h2
    exact (p.sr.ob c a o (pre_get hp c a h1) h2).cut (le_gv hp) hp (bel c o hc h2)
  · refine ⟨by rw [List.length_take, Nat.min_eq_left p.nn.1]; exact Nat.le_refl _, fun c hc m o o' h1 h2 => ?_⟩
    have hc' : c < st.length := Nat.lt_of_lt_of_le hc hf
    rw [List.getElem?_take_of_lt hc'] at h2
    exact p.nn.2 c hc' m o o' h1 h2
theorem mapM_nil {α β : Type} (f : α → Option β) : ([] : List α).mapM f = some [] := rfl
theorem mapM_cons {α β : Type} (f : α → Option β) (a : α) (l : List α) : (a :: l).mapM f = (f a).bind fun b => (l.mapM f).bind fun r => some (b :: r) := by
  rw [List.mapM_cons]; rfl
theorem mapM_some {α β : Type} {f : α → Option β} {a : α} {l : List α} {r : List β} (h : (a :: l).mapM f = some r) : ∃ b t, f a = some b ∧ l.mapM f = some t ∧ r = b :: t := by
  rw [mapM_cons] at h
  obtain ⟨b, h1, h2⟩ := Option.bind_eq_some_iff.mp h
  obtain ⟨t, h3, h4⟩ := Option.bind_eq_some_iff.mp h2
  exact ⟨b, t, h1, h3, (Option.some.inj h4).symm⟩
theorem frz_ok (h : SR K A hid H am st) (n0 : Nat) : ∀ (k : Nat) (r : R) (v : V) (x : P), RR K A (Gv H am hid) am r v → frz n0 st k r = some x → RV K A (Gv H (am.take n0) hid) x v := by
  have le : Le (Gv H am hid) (Gv H (am.take n0) hid) := le_gv (List.take_prefix _ _)
  intro k
  induction k with
  | zero =>
    intro r v x q e
    cases q with
    | p q =>
      rw [frz_p] at e
      cases e
      exact q.mono le
    | cell q => cases e
    | tupc q z => cases e
  | succ k ih =>
    have ihs : ∀ (l : List R) (vs : List V) (ps : List P), RRs K A (Gv H am hid) am l vs → l.mapM (frz n0 st k) = some ps → RVs K A (Gv H (am.take n0) hid) ps vs := by
      intro l
      induction l with
      | nil =>
        intro vs ps q e
        cases q
        rw [mapM_nil] at e
        cases e
        exact .nil
      | cons a l ihl =>
        intro vs ps q e
        obtain ⟨b, t, e1, e2, rfl⟩ := mapM_some e
        cases q with
        | cons q1 q2 => exact .cons (ih _ _ _ q1 e1) (ihl _ _ q2 e2)
    intro r v x q e
    cases q with
    | p q =>
      rw [frz_p] at e
      cases e
      exact q.mono le
    | @cell c a q =>
      have e : (if c < n0 then none else match st[c]? with
        | some (.lst l) => (l.mapM (frz n0 st k)).map P.lst
        | some (.ins c l) => (l.mapM fun q => (frz n0 st k q.2).map fun y => (q.1, y)).map (P.obj c)
        | some (.dK l) => (l.mapM fun q => (frz n0 st k q.2).map fun y => (q.1, y)).map P.dK
        | some (.dT l) => (l.mapM fun q => (frz n0 st k q.2).map fun y => (q.1, y)).map P.dT
        | none => none) = some x := e
      by_cases hc : c < n0
      · rw [if_pos hc] at e; cases e
      · rw [if_neg hc] at e
        have na : a ∉ am.take n0 := fun z => by
          obtain ⟨i, hi⟩ := List.mem_iff_getElem?.mp z
          have hi0 : i < n0 := by
            have z := (List.getElem?_eq_some_iff.mp hi).1
            rw [List.length_take] at z
            omega
          rw [List.getElem?_take_of_lt hi0] at hi
          obtain ⟨i1, e1⟩ := List.getElem?_eq_some_iff.mp hi
          obtain ⟨i2, e2⟩ := List.getElem?_eq_some_iff.mp q
          have := (List.getElem_inj h.nd).mp (e1.trans e2.symm)
          omega
        have nh : a ∉ hid := fun z => h.hd a z (List.mem_of_getElem? q)
        cases eo : st[c]? with
        | none => rw [eo] at e; cases e
        | some ob =>
          rw [eo] at e
          have qo := h.ob c a ob q eo
          cases ob with
          | lst l =>
            obtain ⟨vs, q1, q2⟩ := qo
            obtain ⟨ps, e1, e2⟩ := Option.map_eq_some_iff.mp e
            rw [← e2]
            exact .lst (SqL.of (gv_mk q1 na nh)) (ihs _ _ _ q2 e1)
          | ins c l =>
            obtain ⟨dx, vs, q1, q2, q3⟩ := qo
            obtain ⟨ps, e1, e2⟩ := Option.map_eq_some_iff.mp e
            rw [← e2]
            refine .obj (gv_mk q1 na nh) ?_ ?_
            · clear e e2 eo q1 q3
              induction q2 generalizing ps with
              | nil => rw [mapM_nil] at e1; cases e1; exact .nil
              | cons r _ ihv =>
                obtain ⟨b, t, e3, e4, rfl⟩ := mapM_some e1
                obtain ⟨y, e5, rfl⟩ := Option.map_eq_some_iff.mp e3
                exact .cons (ih _ _ _ r e5) (ihv _ e4)
            · clear e e2 eo q1 q2
              induction l generalizing ps with
              | nil => rw [mapM_nil] at e1; cases e1; exact fun q hq => nomatch hq
              | cons a l ihl =>
                obtain ⟨b, t, e3, e4, rfl⟩ := mapM_some e1
                obtain ⟨y, e5, rfl⟩ := Option.map_eq_some_iff.mp e3
                intro q hq
                rcases List.mem_cons.mp hq with rfl | hq
                · exact q3 a List.mem_cons_self
                · exact ihl (fun q h => q3 q (List.mem_cons_of_mem _ h)) t e4 q hq
          | dK l =>
            obtain ⟨vs, q1, q2⟩ := qo
            obtain ⟨ps, e1, e2⟩ := Option.map_eq_some_iff.mp e
            rw [← e2]
            refine .dK (.inl (gv_mk q1 na nh)) ?_
            clear e e2 eo q1
            induction q2 generalizing ps with
            | nil => rw [mapM_nil] at e1; cases e1; exact .nil
            | cons r _ ihv =>
              obtain ⟨b, t, e3, e4, rfl⟩ := mapM_some e1
              obtain ⟨y, e5, rfl⟩ := Option.map_eq_some_iff.mp e3
              exact .cons (ih _ _ _ r e5) (ihv _ e4)
          | dT l =>
            obtain ⟨vs, q1, q2⟩ := qo
            obtain ⟨ps, e1, e2⟩ := Option.map_eq_some_iff.mp e
            rw [← e2]
            refine .dT (.inl (gv_mk q1 na nh)) ?_
            clear e e2 eo q1
            induction q2 generalizing ps with
            | nil => rw [mapM_nil] at e1; cases e1; exact .nil
            | cons r _ ihv =>
              obtain ⟨b, t, e3, e4, rfl⟩ := mapM_some e1
              obtain ⟨y, e5, rfl⟩ := Option.map_eq_some_iff.mp e3
              exact .cons (ih _ _ _ r e5) (ihv _ e4)
    | @tupc a vs l q z =>
      have e : (l.mapM (frz n0 st k)).map P.tup = some x := e
      obtain ⟨ps, e1, e2⟩ := Option.map_eq_some_iff.mp e
      rw [← e2]
      exact .tup (le.sqT q) (ihs _ _ _ z e1)
theorem take_pre {am am' : List Addr} (h : am <+: am') : am'.take am.length = am := by
  obtain ⟨t, rfl⟩ := h
  simp
end
end EV
end
section
set_option linter.all false
set_option maxRecDepth 100000
/-! EV, part 5: each operator does what the evaluator says. -/
namespace EV
open PySem PySem.Spec PyProof.Rows L2
/-- what is wanted behind a tree that gives a value -/
def OpW (X : Cx) (f : Sem Value) (H : Hp) (Q : VK) : Prop := ∀ (pins : List (Addr × Obj)) (s : Shared) (σ : L2.St), Inv X pins σ H s → wpAny (model X.prog X.w) X.A f (EP X pins σ Q) X.xe s
theorem use2 {X : Cx} {f : Value → Value → Sem Value} {r : R2} (h : OpR X f r) {x y : V} {v u : Value} {H : Hp} {Q : VK} (rx : RelV x v) (ry : RelV y u) (q : r x y H Q) : OpW X (f v u) H Q := fun pins s σ I => h pins s σ H x y v u Q I rx ry q
theorem useC {X : Cx} {f : Value} {r : List V → Hp → VK → Prop} (h : CallR X f r) {xs : List V} {us : List Value} {H : Hp} {Q : VK} (rx : Vals xs us) (q : r xs H Q) : OpW X (call f us) H Q := fun pins s σ I => h pins s σ H xs us Q I rx q
def rW (X : Cx) (f : Value → Value → Sem Value) : R2 := fun x y H Q => ∀ v u, RelV x v → RelV y u → OpW X (f v u) H Q
theorem opW (X : Cx) (f : Value → Value → Sem Value) : OpR X f (rW X f) := fun pins s σ H x y v u Q I rx ry h => h v u rx ry pins s σ I

def bopO : Bop → Operator
  | .add => .Add | .sub => .Sub | .mul => .Mult | .fdiv => .FloorDiv | .mod => .Mod | .pow => .Pow
def copO : Cop → CmpOp
  | .eq => .Eq | .ne => .NotEq | .lt => .Lt | .le => .LtE | .gt => .Gt | .ge => .GtE | .inn => .In | .nin => .NotIn | .is => .Is | .isn => .IsNot

theorem line_eq : LINE = sizeLine := sizeLine_eq.symm
theorem str_len (x : List Nat) : (⟨x.toArray⟩ : Str).length = x.length := by simp [Str.length]
theorem str_cps (x : List Nat) : (⟨x.toArray⟩ : Str).cps.toList = x := by simp
theorem str_app (x y : List Nat) : (⟨x.toArray⟩ : Str) ++ (⟨y.toArray⟩ : Str) = ⟨(x ++ y).toArray⟩ := by
  show (⟨x.toArray ++ y.toArray⟩ : Str) = _
  simp
section
variable {K : PySem.W.Frag} {A : Ads} {am hid : List Addr} {H : Hp} {st : Store}
theorem sq_gv_L {a : Addr} {xs : List V} (h : SqL K (Gv H am hid) a xs) : SqL K H a xs := by
  rcases h with (h | ⟨o, h⟩) | h
  · exact .inl (.inl (gv_of h).1)
  · exact .inl (.inr ⟨o, (gv_of h).1⟩)
  · exact .inr h
theorem sq_gv_T {a : Addr} {xs : List V} (h : SqT K (Gv H am hid) a xs) : SqT K H a xs := by
  rcases h with (h | ⟨o, h⟩) | h
  · exact .inl (.inl (gv_of h).1)
  · exact .inl (.inr ⟨o, (gv_of h).1⟩)
  · exact .inr h
theorem rd_gv {a : Addr} {u : HO} (h : Rd (Gv H am hid) a u) : Rd H a u := by
  rcases h with h | ⟨o, h⟩
  · exact .inl (gv_of h).1
  · exact .inr ⟨o, (gv_of h).1⟩
end
section
variable {X : Cx} {A : Ads} {am hid : List Addr} {H : Hp} {st : Store} {fl : Nat}
/-- the items of a list or tuple -/
theorem seqR_ok {r : R} {v : V} {l : List R} (h : SR X.K A hid H am st) (q : RR X.K A (Gv H am hid) am r v) (e : seqR r st = some l) :
    ∃ a vs, v = .ref a ∧ (SqL X.K H a vs ∨ SqT X.K H a vs) ∧ RRs X.K A (Gv H am hid) am l vs := by
  cases q with
  | p q =>
    cases q with
    | lst q1 q2 =>
      have e : some (List.map R.p _) = some l := e
      cases e
      exact ⟨_, _, rfl, .inl (sq_gv_L q1), q2.rr⟩
    | tup q1 q2 =>
      have e : some (List.map R.p _) = some l := e
      cases e
      exact ⟨_, _, rfl, .inr (sq_gv_T q1), q2.rr⟩
    | _ => cases e
  | @cell c a q =>
    unfold seqR at e
    cases eo : st[c]? with
    | none => simp only [eo] at e; cases e
    | some o =>
      cases o with
      | lst l' =>
        simp only [eo] at e
        cases e
        obtain ⟨vs, q1, q2⟩ := h.ob c a _ q eo
        exact ⟨_, _, rfl, .inl (SqL.of q1), q2⟩
      | _ => simp only [eo] at e; cases e
  | tupc q z =>
    have e : some _ = some l := e
    cases e
    exact ⟨_, _, rfl, .inr (sq_gv_T q), z⟩
theorem lstR_ok {r : R} {v : V} {l : List R} (h : SR X.K A hid H am st) (q : RR X.K A (Gv H am hid) am r v) (e : lstR r st = some l) :
    ∃ a vs, v = .ref a ∧ SqL X.K H a vs ∧ RRs X.K A (Gv H am hid) am l vs := by
  cases q with
  | p q =>
    cases q with
    | lst q1 q2 =>
      have e : some (List.map R.p _) = some l := e
      cases e
      exact ⟨_, _, rfl, sq_gv_L q1, q2.rr⟩
    | _ => cases e
  | @cell c a q =>
    unfold lstR at e
    cases eo : st[c]? with
    | none => simp only [eo] at e; cases e
    | some o =>
      cases o with
      | lst l' =>
        simp only [eo] at e
        cases e
        obtain ⟨vs, q1, q2⟩ := h.ob c a _ q eo
        exact ⟨_, _, rfl, SqL.of q1, q2⟩
      | _ => simp only [eo] at e; cases e
  | tupc q z => cases e
theorem binP_ok {o : Bop} {x y z : P} {v u : V} {vv uu : Value} {Q : VK} (h : SR X.K A hid H am st) (qx : RV X.K A (Gv H am hid) x v) (qy : RV X.K A (Gv H am hid) y u) (e : binP o x y = some z)
    (rv : RelV v vv) (ru : RelV u uu) (hQ : ∀ w H', Post X.K A hid fl H am st H' am st → RV X.K A (Gv H' am hid) z w → Q w H') : OpW X (binaryOp (bopO o) vv uu) H Q := by
  have here := Post.refl (fl := fl) h
  cases qx <;> cases qy <;> cases o <;> (first | (cases e; done) | skip)
  case int.int.add i j =>
    cases (show some (P.int (i + j)) = some z from e)
    exact use2 op_add rv ru ⟨i, j, rfl, rfl, hQ _ _ here (.int _)⟩
  case int.int.sub i j =>
    cases (show some (P.int (i - j)) = some z from e)
    exact use2 op_sub rv ru ⟨i, j, rfl, rfl, hQ _ _ here (.int _)⟩
  case int.int.mul i j =>
    have e : (if mulOk i j then some (P.int (i * j)) else none) = some z := e
    by_cases hm : mulOk i j = true
    · rw [if_pos hm] at e
      cases e
      refine use2 op_mul rv ru ⟨i, j, rfl, rfl, ?_, hQ _ _ here (.int _)⟩
      unfold mulOk at hm
      rcases Bool.or_eq_true_iff.mp hm with hm | hm
      · have := of_decide_eq_true hm
        exact .inl ⟨by omega, by omega⟩
      · have := of_decide_eq_true hm
        exact .inr ⟨by omega, by omega⟩
    · rw [if_neg hm] at e; cases e
  case int.int.fdiv i j =>
    have e : (if 0 < j ∧ j < 1073741824 then some (P.int (i / j)) else none) = some z := e
    by_cases hm : 0 < j ∧ j < 1073741824
    · rw [if_pos hm] at e
      cases e
      exact use2 op_fdiv rv ru ⟨i, j, rfl, rfl, hm, hQ _ _ here (.int _)⟩
    · rw [if_neg hm] at e; cases e
  case int.int.mod i j =>
    have e : (if 0 < j then some (P.int (i % j)) else none) = some z := e
    by_cases hm : 0 < j
    · rw [if_pos hm] at e
      cases e
      exact use2 op_mod rv ru ⟨i, j, rfl, rfl, hm, hQ _ _ here (.int _)⟩
    · rw [if_neg hm] at e; cases e
  case int.int.pow i j =>
    have e : (if 0 ≤ j ∧ j ≤ 1000000 ∧ i.natAbs < 2 ^ 64 then some (P.int (i ^ j.toNat)) else none) = some z := e
    by_cases hm : 0 ≤ j ∧ j ≤ 1000000 ∧ i.natAbs < 2 ^ 64
    · rw [if_pos hm] at e
      cases e
      exact use2 op_pow rv ru ⟨i, j, rfl, rfl, hm, hQ _ _ here (.int _)⟩
    · rw [if_neg hm] at e; cases e
  case str.str.add x _ y _ =>
    have e : (if x.length + y.length ≤ LINE then some (P.str (x ++ y)) else none) = some z := e
    by_cases hm : x.length + y.length ≤ LINE
    · rw [if_pos hm] at e
      cases e
      refine use2 op_add_str rv ru ⟨_, _, rfl, rfl, by rw [str_len, str_len, ← line_eq]; exact hm, ?_⟩
      rw [str_app]
      exact hQ _ _ here (.str _ (by rw [List.length_append]; exact hm))
    · rw [if_neg hm] at e; cases e
  case tup.tup.add a vs ps q1 q2 a' vs' ps' q1' q2' =>
    have e : (if ps.length + ps'.length ≤ LINE then some (P.tup (ps ++ ps')) else none) = some z := e
    by_cases hm : ps.length + ps'.length ≤ LINE
    · rw [if_pos hm] at e
      cases e
      have hall : RVs X.K A (Gv H am hid) (ps ++ ps') (vs ++ vs') := by
        have q := (q2.rr (am := am)).append (q2'.rr (am := am))
        rw [← List.map_append] at q
        exact q.rv
      refine use2 op_catA rv ru ⟨a, a', vs, vs', rfl, rfl, sq_gv_T q1, sq_gv_T q1', by rw [← q2.length, ← q2'.length, ← line_eq]; exact hm, fun e => ?_, fun _ e => ?_, fun _ _ p np => ?_⟩
      · subst e
        exact hQ _ _ here (.tup q1' hall)
      · subst e
        rw [List.append_nil] at hall
        exact hQ _ _ here (.tup q1 hall)
      · have pp := h.laidP (fl := fl) np (.tup (vs ++ vs'))
        exact hQ _ _ pp (.tup (SqT.of (h.gvn np _)) (hall.mono pp.ext.le))
    · rw [if_neg hm] at e; cases e
end
end EV
end
section
set_option linter.all false
set_option maxRecDepth 100000
/-! EV, part 6: comparisons, truth, places, slices. -/
namespace EV
open PySem PySem.Spec PyProof.Rows L2
section
variable {K : PySem.W.Frag} {A : Ads} {am hid : List Addr} {H : Hp} {st : Store}
mutual
theorem RV.dp : ∀ {p : P} {v : V} {d : PyData}, RV K A (Gv H am hid) p v → p.py = some d → Dp K H v d
  | _, _, _, .non, e => by
    unfold P.py at e
    cases e
    exact .non
  | _, _, _, .bl b, e => by
    unfold P.py at e
    cases e
    exact .bl b
  | _, _, _, .int i, e => by
    unfold P.py at e
    cases e
    exact .int i
  | _, _, _, .str x h, e => by
    unfold P.py at e
    cases e
    exact .str _
  | _, _, _, .tup q r, e => by
    unfold P.py at e
    obtain ⟨ds, e1, e2⟩ := Option.map_eq_some_iff.mp e
    rw [← e2]
    exact .tup (sq_gv_T q) (RVs.dp r e1)
  | _, _, _, .lst q r, e => by
    unfold P.py at e
    obtain ⟨ds, e1, e2⟩ := Option.map_eq_some_iff.mp e
    rw [← e2]
    exact .lst (sq_gv_L q) (RVs.dp r e1)
  | _, _, _, .dK q r, e => by
    unfold P.py at e
    cases e
  | _, _, _, .dT q r, e => by
    unfold P.py at e
    cases e
  | _, _, _, .obj q r _, e => by
    unfold P.py at e
    cases e
  | _, _, _, .gd j, e => by
    unfold P.py at e
    cases e
  | _, _, _, .fn j, e => by
    unfold P.py at e
    cases e
theorem RVs.dp : ∀ {p : List P} {v : List V} {d : List PyData}, RVs K A (Gv H am hid) p v → pys p = some d → DpAll K H v d
  | _, _, _, .nil, e => by
    unfold pys at e
    cases e
    exact .nil
  | _, _, _, .cons (p := p) (ps := ps) r t, e => by
    unfold pys at e
    cases e1 : p.py with
    | none => rw [e1] at e; cases e
    | some d =>
      cases e2 : pys ps with
      | none => rw [e1, e2] at e; cases e
      | some ds =>
        rw [e1, e2] at e
        cases e
        exact .cons (RV.dp r e1) (RVs.dp t e2)
end
end
section
variable {X : Cx} {A : Ads} {am hid : List Addr} {H : Hp} {st : Store} {fl : Nat}
theorem look_dp {r : R} {v : V} {p : P} {d : PyData} (h : SR X.K A hid H am st) (q : RR X.K A (Gv H am hid) am r v) (e : r.look st = some p) (e2 : p.py = some d) : Dp X.K H v d := by
  cases q with
  | p q =>
    cases (show some _ = some p from e)
    exact q.dp e2
  | @cell c a q =>
    unfold R.look at e
    cases eo : st[c]? with
    | none => simp only [eo] at e; cases e
    | some o =>
      cases o with
      | lst l =>
        simp only [eo] at e
        obtain ⟨ps, e3, e4⟩ := Option.map_eq_some_iff.mp e
        obtain ⟨vs, q1, q2⟩ := h.ob c a _ q eo
        rw [← e4] at e2
        unfold P.py at e2
        obtain ⟨ds, e5, e6⟩ := Option.map_eq_some_iff.mp e2
        rw [← e6]
        exact .lst (SqL.of q1) ((q2.toPs e3).dp e5)
      | _ => simp only [eo] at e; cases e
  | tupc q z => cases e
theorem flat_rv {G : Hp} {p : P} {v : V} (q : RV X.K A G p v) (f : p.flat = true) : flatV v = true := by
  cases q <;> first | rfl | cases f
theorem beq_str (x y : List Nat) : ((⟨x.toArray⟩ : Str) == (⟨y.toArray⟩ : Str)) = (x == y) := by
  rw [Bool.eq_iff_iff]
  simp
theorem eqF_rv {G G' : Hp} {p q : P} {v u : V} (a : RV X.K A G p v) (b : RV X.K A G' q u) (fa : p.flat = true) (fb : q.flat = true) : eqV v u = eqF p q := by
  cases a <;> first
    | (cases fa; done)
    | (cases b <;> first
        | (cases fb; done)
        | rfl
        | exact beq_str _ _)
theorem flats_ok {G : Hp} : ∀ {l : List R} {ps : List P} {vs : List V}, flats l = some ps → RRs X.K A G am l vs → l = ps.map .p ∧ ps.all P.flat = true
  | [], ps, _, e, _ => by
    cases e
    exact ⟨rfl, rfl⟩
  | .p x :: r, ps, _, e, q => by
    unfold flats at e
    by_cases hf : x.flat = true
    · rw [if_pos hf] at e
      obtain ⟨t, e1, e2⟩ := Option.map_eq_some_iff.mp e
      cases q with
      | cons q1 q2 =>
        obtain ⟨h1, h2⟩ := flats_ok e1 q2
        rw [← e2, h1]
        exact ⟨rfl, by rw [List.all_cons, hf, h2]; rfl⟩
    · rw [if_neg hf] at e; cases e
  | .cell _ :: _, _, _, e, _ => by cases e
  | .tupc _ :: _, _, _, e, _ => by cases e
theorem flats_V {G : Hp} {ps : List P} {vs : List V} (q : RVs X.K A G ps vs) (f : ps.all P.flat = true) : vs.all flatV = true := by
  induction ps generalizing vs with
  | nil => cases q; rfl
  | cons p l ih =>
    cases q with
    | cons q1 q2 =>
      rw [List.all_cons] at f
      obtain ⟨f1, f2⟩ := Bool.and_eq_true_iff.mp f
      rw [List.all_cons, flat_rv q1 f1, ih q2 f2]
      rfl
theorem flats_in {G G' : Hp} {p : P} {v : V} (a : RV X.K A G' p v) (fa : p.flat = true) {ps : List P} {vs : List V} (q : RVs X.K A G ps vs) (f : ps.all P.flat = true) : inV v vs = ps.any fun b => eqF b p := by
  induction ps generalizing vs with
  | nil => cases q; rfl
  | cons b l ih =>
    cases q with
    | cons q1 q2 =>
      rw [List.all_cons] at f
      obtain ⟨f1, f2⟩ := Bool.and_eq_true_iff.mp f
      unfold inV
      rw [List.any_cons, List.any_cons, eqF_rv q1 a f1 fa]
      have := ih q2 f2
      unfold inV at this
      rw [this]
theorem inR_ok {neg : Bool} {x y : R} {v u : V} {vv uu : Value} {b : Bool} {Q : VK} (h : SR X.K A hid H am st) (qx : RR X.K A (Gv H am hid) am x v) (qy : RR X.K A (Gv H am hid) am y u) (e : inR x y st = some b)
    (rv : RelV v vv) (ru : RelV u uu) (hQ : Q (.bl (if neg then !b else b)) H) : OpW X (compareOp (if neg then .NotIn else .In) vv uu) H Q := by
  have seq : ∀ {a : P}, x = .p a → (if a.flat then (match (seqR y st).bind flats with
      | some l => some (l.any fun b => eqF b a)
      | none => none) else none) = some b → OpW X (compareOp (if neg then .NotIn else .In) vv uu) H Q := by
    intro a ex e9
    subst ex
    by_cases hf : a.flat = true
    · rw [if_pos hf] at e9
      cases es : seqR y st with
      | none => rw [es] at e9; cases e9
      | some l =>
        rw [es] at e9
        have e9 : (match flats l with
          | some l => some (l.any fun b => eqF b a)
          | none => none) = some b := e9
        cases ef : flats l with
        | none => rw [ef] at e9; cases e9
        | some ps =>
          rw [ef] at e9
          cases e9
          cases qx with
          | p qa =>
            obtain ⟨p, vs, rfl, hs, z⟩ := seqR_ok h qy es
            obtain ⟨e1, f1⟩ := flats_ok ef z
            rw [e1] at z
            have z := z.rv
            have hin := flats_in qa hf z f1
            cases neg with
            | false => exact use2 op_in_seq rv ru ⟨p, vs, rfl, hs, flat_rv qa hf, flats_V z f1, by rw [hin]; exact hQ⟩
            | true => exact use2 op_notIn_seq rv ru ⟨p, vs, rfl, hs, flat_rv qa hf, flats_V z f1, by rw [hin]; exact hQ⟩
    · rw [if_neg hf] at e9; cases e9
  cases x with
  | p a =>
    cases a with
    | str a =>
      cases y with
      | p c =>
        cases c with
        | str z =>
          have hc : ∃ c, a = [c] ∧ b = decide (c ∈ z) := by
            cases a with
            | nil => cases e
            | cons c r =>
              cases r with
              | nil => exact ⟨c, rfl, (Option.some.inj e).symm⟩
              | cons _ _ => cases e
          obtain ⟨c, rfl, rfl⟩ := hc
          cases qx with
          | p qa =>
            cases qa
            cases qy with
            | p qb =>
              cases qb
              cases neg with
              | false => exact use2 op_in_sign rv ru ⟨c, _, rfl, rfl, by rw [str_cps]; exact hQ⟩
              | true => exact use2 op_notIn_sign rv ru ⟨c, _, rfl, rfl, by rw [str_cps]; exact hQ⟩
        | _ => exact seq rfl e
      | _ => exact seq rfl e
    | _ => exact seq rfl e
  | _ => cases e
theorem ltI_ok {x y : R} {v u : V} {i j : Int} {G : Hp} (ex : x = .p (.int i)) (ey : y = .p (.int j)) (qx : RR X.K A G am x v) (qy : RR X.K A G am y u) : v = .int i ∧ u = .int j := by
  subst ex ey
  cases qx with
  | p q => cases q; cases qy with
    | p q => cases q; exact ⟨rfl, rfl⟩
theorem int2 {o : Int → Int → Bool} {x y : R} {b : Bool} (e : (match x, y with
    | .p (.int a), .p (.int b) => some (o a b)
    | _, _ => none) = some b) : ∃ i j, x = .p (.int i) ∧ y = .p (.int j) ∧ b = o i j := by
  cases x with
  | p x =>
    cases x with
    | int i =>
      cases y with
      | p y =>
        cases y with
        | int j => exact ⟨i, j, rfl, rfl, (Option.some.inj e).symm⟩
        | _ => cases e
      | _ => cases e
    | _ => cases e
  | _ => cases e
theorem isN_ok {x y : R} {v u : V} {G : Hp} {b : Bool} {f : Bool → Bool} (e : (match x, y with
    | .p .non, .p .non => some (f true)
    | .p _, .p .non => some (f false)
    | .cell _, .p .non => some (f false)
    | .tupc _, .p .non => some (f false)
    | _, _ => none) = some b) (qx : RR X.K A G am x v) (qy : RR X.K A G am y u) : u = .non ∧ b = f (decide (v = .non)) := by
  cases qy with
  | p qy =>
    cases qy with
    | non =>
      refine ⟨rfl, ?_⟩
      cases qx with
      | p qx => cases qx <;> (cases e; simp)
      | cell q => cases e; simp
      | tupc q z => cases e; simp
    | _ => cases x with
      | p x => cases x <;> cases e
      | _ => cases e
  | _ => cases x with
      | p x => cases x <;> cases e
      | _ => cases e
theorem cmpR_ok (hu : X.A.units + 64 < cLine) {o : Cop} {x y : R} {v u : V} {vv uu : Value} {b : Bool} {Q : VK} (h : SR X.K A hid H am st) (qx : RR X.K A (Gv H am hid) am x v) (qy : RR X.K A (Gv H am hid) am y u) (e : cmpR o x y st = some b)
    (rv : RelV v vv) (ru : RelV u uu) (hQ : Q (.bl b) H) : OpW X (compareOp (copO o) vv uu) H Q := by
  have eqs : ∀ {b : Bool}, eqR x y st = some b → ∃ d e, Dp X.K H v d ∧ Dp X.K H u e ∧ SeqAt.shaped d = true ∧ SeqAt.shaped e = true ∧ b = PyData.eqv d e := by
    intro b e
    unfold eqR at e
    cases e1 : x.look st with
    | none => simp only [e1] at e; cases e
    | some p =>
      cases e2 : y.look st with
      | none => simp only [e1, e2] at e; cases e
      | some q =>
        simp only [e1, e2] at e
        unfold eqP at e
        cases e3 : p.py with
        | none => simp only [e3] at e; cases e
        | some d =>
          cases e4 : q.py with
          | none => simp only [e3, e4] at e; cases e
          | some d' =>
            simp only [e3, e4] at e
            by_cases hs : (SeqAt.shaped d && SeqAt.shaped d') = true
            · rw [if_pos hs] at e
              obtain ⟨h1, h2⟩ := Bool.and_eq_true_iff.mp hs
              exact ⟨d, d', look_dp h qx e1 e3, look_dp h qy e2 e4, h1, h2, (Option.some.inj e).symm⟩
            · rw [if_neg hs] at e; cases e
  cases o with
  | eq =>
    obtain ⟨d, d', h1, h2, h3, h4, rfl⟩ := eqs e
    exact use2 (op_eqD hu) rv ru ⟨d, d', h1, h2, h3, h4, hQ⟩
  | ne =>
    have e : (match eqR x y st with
      | some b => some (!b)
      | none => none) = some b := e
    cases ee : eqR x y st with
    | none => rw [ee] at e; cases e
    | some c =>
      rw [ee] at e
      obtain ⟨d, d', h1, h2, h3, h4, rfl⟩ := eqs ee
      cases e
      exact use2 (op_neD hu) rv ru ⟨d, d', h1, h2, h3, h4, hQ⟩
  | inn => exact inR_ok (neg := false) h qx qy e rv ru hQ
  | nin =>
    have e : (match inR x y st with
      | some b => some (!b)
      | none => none) = some b := e
    cases ee : inR x y st with
    | none => rw [ee] at e; cases e
    | some c =>
      rw [ee] at e
      cases e
      exact inR_ok (neg := true) h qx qy ee rv ru hQ
  | is =>
    obtain ⟨h1, h2⟩ := isN_ok (f := id) e qx qy
    rw [h2] at hQ
    exact use2 op_isN rv ru ⟨h1, hQ⟩
  | isn =>
    obtain ⟨h1, h2⟩ := isN_ok (f := not) e qx qy
    rw [h2] at hQ
    exact use2 op_notN rv ru ⟨h1, hQ⟩
  | lt =>
    obtain ⟨i, j, e1, e2, rfl⟩ := int2 (o := fun a b => decide (a < b)) e
    obtain ⟨rfl, rfl⟩ := ltI_ok e1 e2 qx qy
    exact use2 op_lt rv ru ⟨i, j, rfl, rfl, hQ⟩
  | le =>
    obtain ⟨i, j, e1, e2, rfl⟩ := int2 (o := fun a b => decide (a ≤ b)) e
    obtain ⟨rfl, rfl⟩ := ltI_ok e1 e2 qx qy
    exact use2 op_le rv ru ⟨i, j, rfl, rfl, hQ⟩
  | gt =>
    obtain ⟨i, j, e1, e2, rfl⟩ := int2 (o := fun a b => decide (b < a)) e
    obtain ⟨rfl, rfl⟩ := ltI_ok e1 e2 qx qy
    exact use2 op_gt rv ru ⟨i, j, rfl, rfl, hQ⟩
  | ge =>
    obtain ⟨i, j, e1, e2, rfl⟩ := int2 (o := fun a b => decide (b ≤ a)) e
    obtain ⟨rfl, rfl⟩ := ltI_ok e1 e2 qx qy
    exact use2 op_ge rv ru ⟨i, j, rfl, rfl, hQ⟩
theorem emp_rvs {G : Hp} {ps : List P} {vs : List V} (q : RVs X.K A G ps vs) : ps.isEmpty = vs.isEmpty := by cases q <;> rfl
theorem emp_rrs {G : Hp} {ps : List R} {vs : List V} (q : RRs X.K A G am ps vs) : ps.isEmpty = vs.isEmpty := by cases q <;> rfl
theorem truth_ok {x : R} {v : V} {b : Bool} (h : SR X.K A hid H am st) (qx : RR X.K A (Gv H am hid) am x v) (e : truth x st = some b) : TruV X.K v H b := by
  cases qx with
  | p q =>
    cases q with
    | non => cases e; rfl
    | bl k => cases e; rfl
    | int i => cases e; rfl
    | str y hy =>
      cases e
      refine ⟨by rw [str_len, ← line_eq]; exact hy, ?_⟩
      rw [str_len]
      cases y <;> rfl
    | tup q1 q2 =>
      cases e
      exact .inr (.inl ⟨_, sq_gv_T q1, by rw [emp_rvs q2]⟩)
    | lst q1 q2 =>
      cases e
      exact .inl ⟨_, sq_gv_L q1, by rw [emp_rvs q2]⟩
    | _ => cases e
  | @cell c a q =>
    unfold truth at e
    cases eo : st[c]? with
    | none => simp only [eo] at e; cases e
    | some o =>
      cases o with
      | lst l =>
        simp only [eo] at e
        cases e
        obtain ⟨vs, q1, q2⟩ := h.ob c a _ q eo
        exact .inl ⟨_, SqL.of q1, by rw [emp_rrs q2]⟩
      | _ => simp only [eo] at e; cases e
  | tupc q z => cases e
end
end EV
end
section
set_option linter.all false
set_option maxRecDepth 100000
/-! EV, part 7: places, slices, fields, calls of built-in functions, methods. -/
namespace EV
open PySem PySem.Spec PyProof.Rows L2
/-- a dict of the top -/
def GdOk (P : Program) (w : World) (K : PySem.W.Frag) (A : Ads) (a : Addr) (t : List (Ky × EV.P)) : Prop :=
  ∃ f : Key → Option Value, (∀ h : Heap, K.In h → h.MapOf (mixKind P w) a f) ∧ ∀ k, match t.lookup k with
    | some p => ∃ v u, f (ky k) = some u ∧ RelV v u ∧ ∀ G, RV K A G p v
    | none => f (ky k) = none
section
variable {X : Cx} {A : Ads} {am hid : List Addr} {H : Hp} {st : Store} {fl : Nat}
theorem rvs_get {G : Hp} {l : List P} {v : List V} (h : RVs X.K A G l v) {i : Nat} {r : P} (q : l[i]? = some r) : ∃ u, v[i]? = some u ∧ RV X.K A G r u := by
  obtain ⟨u, e, z⟩ := (h.rr (am := [])).get (i := i) (r := .p r) (by rw [List.getElem?_map, q]; rfl)
  cases z with
  | p z => exact ⟨u, e, z⟩
theorem atI_rr {G : Hp} {l : List R} {v : List V} (h : RRs X.K A G am l v) {i : Int} {r : R} (q : atI l i = some r) : ∃ u, atI v i = some u ∧ RR X.K A G am r u := by
  unfold atI at q ⊢
  obtain ⟨j, e1, e2⟩ := Option.bind_eq_some_iff.mp q
  obtain ⟨u, e3, z⟩ := h.get e2
  refine ⟨u, ?_, z⟩
  rw [← h.length, e1]
  exact e3
theorem atI_map {α β : Type} {f : α → β} {l : List α} {i : Int} : atI (l.map f) i = (atI l i).map f := by
  unfold atI
  rw [List.length_map]
  cases ixN l.length i with
  | none => rfl
  | some j => simp
/-- an item -/
theorem idx_ok {gds : List (List (Ky × P))} (hg : ∀ j t, gds[j]? = some t → GdOk X.prog X.w X.K A (A.DA j) t) {a b : Expr} {ta tb : TE} {pos : Pos} {σ : L2.St} {H0 : Hp} {Q : VK}
    (ha : PE X a ta) (hb : PE X b tb) (hs : PlainIx b)
    (q : ta σ H0 fun x H1 => tb σ H1 fun y H2 => ∃ rx ry z am st hid, SR X.K A hid H2 am st ∧ RR X.K A (Gv H2 am hid) am rx x ∧ RR X.K A (Gv H2 am hid) am ry y ∧ idxR gds rx ry st = some z ∧ ∀ u, RR X.K A (Gv H2 am hid) am z u → Q u H2) (pins : List (Addr × Obj)) (s : Shared) (I : Inv X pins σ H0 s) :
    wpAny (model X.prog X.w) X.A (eval (.Subscript a b pos) X.env) (EP X pins σ Q) X.xe s := by
  refine Subscript_ (binT ha hb I q fun v u s2 x y H2 I2 rx ry q => ?_)
  obtain ⟨r, r', z, am, st, hid, h, qx, qy, e, hQ⟩ := q
  have plain : ∀ {i : Int} {l : List R}, r' = .p (.int i) → seqR r st = some l → atI l i = some z → wpAny (model X.prog X.w) X.A (subscriptTail a b v u) (EP X pins σ Q) X.xe s2 := by
    intro i l er es ez
    subst er
    obtain ⟨p, vs, rfl, hsq, zz⟩ := seqR_ok h qx es
    obtain ⟨w, e1, e2⟩ := atI_rr zz ez
    cases qy with
    | p qy =>
      cases qy
      rcases hsq with hsq | hsq
      · exact ix_list a b pins s2 σ H2 _ _ v u Q I2 rx ry ⟨p, vs, i, w, rfl, rfl, hsq, e1, hQ w e2⟩ (hs _ _)
      · exact ix_tup a b pins s2 σ H2 _ _ v u Q I2 rx ry ⟨p, vs, i, w, rfl, rfl, hsq, e1, hQ w e2⟩ (hs _ _)
  have seq : (match r, r' with
      | r, .p (.int i) => (match seqR r st with
        | some l => atI l i
        | none => none)
      | _, _ => none) = some z → wpAny (model X.prog X.w) X.A (subscriptTail a b v u) (EP X pins σ Q) X.xe s2 := by
    intro e
    cases r' with
    | p c =>
      cases c with
      | int i =>
        cases es : seqR r st with
        | none => simp only [es] at e; cases e
        | some l =>
          simp only [es] at e
          exact plain rfl es e
      | _ => cases e
    | _ => cases e
  cases r with
  | p c =>
    cases c with
    | str z' =>
      cases r' with
      | p d =>
        cases d with
        | int i =>
          have e : (match atI z' i with
            | some c => some (R.p (.str [c]))
            | none => none) = some z := e
          cases ea : atI z' i with
          | none => rw [ea] at e; cases e
          | some c =>
            rw [ea] at e
            cases e
            cases qx with
            | p qx =>
              cases qx with
              | str _ hl =>
                cases qy with
                | p qy =>
                  cases qy
                  refine ix_str a b pins s2 σ H2 _ _ v u Q I2 rx ry ⟨_, i, c, rfl, rfl, by rw [str_len, ← line_eq]; exact hl, by rw [str_cps]; exact ea, ?_⟩ (hs _ _)
                  exact hQ _ (.p (.str [c] (by show 1 ≤ 16777216; decide)))
        | _ => cases e
      | _ => cases e
    | gd j =>
      cases r' with
      | p k =>
        have e : (match kyOf k, gds[j]? with
          | some k, some t => (t.lookup k).map R.p
          | _, _ => none) = some z := e
        cases ek : kyOf k with
        | none => simp only [ek] at e; cases e
        | some kk =>
          cases et : gds[j]? with
          | none => simp only [ek, et] at e; cases e
          | some t =>
            simp only [ek, et] at e
            obtain ⟨p, e1, e2⟩ := Option.map_eq_some_iff.mp e
            subst e2
            obtain ⟨f, hm, hf⟩ := hg j t et
            have hf := hf kk
            rw [e1] at hf
            obtain ⟨v0, u0, e3, r3, z3⟩ := hf
            cases qx with
            | p qx =>
              cases qx
              cases (show v = Value.ref _ from rx)
              cases qy with
              | p qy =>
                have hk : (mixKind X.prog X.w).is (ky kk) u = true := by
                  cases qy <;> (try (cases ek; done))
                  · cases ek; exact kV_is (k := Sum.inl _) ry
                  · cases ek; exact kV_is (k := Sum.inr _) ry
                have m := hm s2.heap I2.kIn
                exact tail_any m.typeIs slot_dict_getitem.lookup (wpAny_getItem_of hk m e3 ⟨v0, H2, I2.tok _, r3, hQ _ (.p (z3 _))⟩) (hs _ _)
      | _ => cases e
    | _ => exact seq (by
      cases r' with
      | p c => cases c <;> first | exact e | cases e
      | _ => cases e)
  | _ => exact seq (by
      cases r' with
      | p c => cases c <;> first | exact e | cases e
      | _ => cases e)
theorem rvs_cut {G : Hp} {l : List P} {v : List V} (h : RVs X.K A G l v) (lo hi : Option Int) : RVs X.K A G (cutL l lo hi) (cutV v lo hi) := by
  have q := ((h.rr (am := [])).drop (HT.sIx l.length 0 lo)).take (HT.sIx l.length l.length hi - HT.sIx l.length 0 lo)
  rw [← List.map_drop, ← List.map_take] at q
  unfold cutL cutV
  rw [← h.length]
  exact q.rv
theorem cutL_len {α : Type} (l : List α) (lo hi : Option Int) : (cutL l lo hi).length ≤ l.length := by
  unfold cutL
  rw [List.length_take, List.length_drop]
  omega
/-- a slice -/
theorem slc_ok : SlR X (fun x lo hi H Q => ∃ r z am st hid, SR X.K A hid H am st ∧ RR X.K A (Gv H am hid) am r x ∧ slcR r lo hi st = some z ∧ ∀ u H', Post X.K A hid fl H am st H' am st → RR X.K A (Gv H' am hid) am z u → Q u H') := by
  intro pins s σ H x v vl vu lo hi sl Q I rx hsl pl pu h
  obtain ⟨r, z, am, st, hid, h, qx, e, hQ⟩ := h
  have here := Post.refl (fl := fl) h
  cases qx with
  | p q =>
    cases q with
    | str x hl =>
      cases (show some _ = some z from e)
      refine sl_str pins s σ H _ v vl vu lo hi sl Q I rx hsl pl pu ⟨_, rfl, by rw [str_len, ← line_eq]; exact hl, ?_⟩
      have e2 : cutS ⟨x.toArray⟩ lo hi = ⟨(cutL x lo hi).toArray⟩ := by
        unfold cutS cutL
        rw [str_cps, str_len]
      rw [e2]
      exact hQ _ _ here (.p (.str _ (Nat.le_trans (cutL_len x lo hi) hl)))
    | @lst a vs ps q1 q2 =>
      cases (show some _ = some z from e)
      refine sl_list pins s σ H _ v vl vu lo hi sl Q I rx hsl pl pu ⟨a, vs, rfl, sq_gv_L q1, fun p np => ?_⟩
      have pp := h.laidP (fl := fl) np (.lst (cutV vs lo hi))
      exact hQ _ _ pp (.p (.lst (SqL.of (h.gvn np _)) ((rvs_cut q2 lo hi).mono pp.ext.le)))
    | @tup a vs ps q1 q2 =>
      cases (show some _ = some z from e)
      refine sl_tupA pins s σ H _ v vl vu lo hi sl Q I rx hsl pl pu ⟨a, vs, rfl, sq_gv_T q1, fun hw => ?_, fun _ p np => ?_⟩
      · refine hQ _ _ here (.p (.tup q1 ?_))
        have e2 : cutL ps lo hi = ps := by
          unfold cutL
          rw [q2.length, hw.1, hw.2, ← q2.length]
          simp
        rw [e2]
        exact q2
      · have pp := h.laidP (fl := fl) np (.tup (cutV vs lo hi))
        exact hQ _ _ pp (.p (.tup (SqT.of (h.gvn np _)) ((rvs_cut q2 lo hi).mono pp.ext.le)))
    | _ => cases e
  | _ => cases e
theorem bls_ok {G : Hp} : ∀ {l : List R} {bs : List Bool} {vs : List V}, blsR l = some bs → RRs X.K A G am l vs → vs = bs.map V.bl
  | [], bs, _, e, q => by cases e; cases q; rfl
  | .p (.bl b) :: r, bs, _, e, q => by
    unfold blsR at e
    obtain ⟨t, e1, e2⟩ := Option.map_eq_some_iff.mp e
    cases q with
    | cons q1 q2 =>
      cases q1 with
      | p q1 =>
        cases q1
        rw [← e2, bls_ok e1 q2]; rfl
  | .p .non :: _, _, _, e, _ => by cases e
  | .p (.int _) :: _, _, _, e, _ => by cases e
  | .p (.str _) :: _, _, _, e, _ => by cases e
  | .p (.tup _) :: _, _, _, e, _ => by cases e
  | .p (.lst _) :: _, _, _, e, _ => by cases e
  | .p (.dK _) :: _, _, _, e, _ => by cases e
  | .p (.dT _) :: _, _, _, e, _ => by cases e
  | .p (.obj _ _) :: _, _, _, e, _ => by cases e
  | .p (.gd _) :: _, _, _, e, _ => by cases e
  | .p (.fn _) :: _, _, _, e, _ => by cases e
  | .cell _ :: _, _, _, e, _ => by cases e
  | .tupc _ :: _, _, _, e, _ => by cases e
theorem ints_ok {G : Hp} : ∀ {l : List R} {bs : List Int} {vs : List V}, intsR l = some bs → RRs X.K A G am l vs → vs = bs.map V.int
  | [], bs, _, e, q => by cases e; cases q; rfl
  | .p (.int b) :: r, bs, _, e, q => by
    unfold intsR at e
    obtain ⟨t, e1, e2⟩ := Option.map_eq_some_iff.mp e
    cases q with
    | cons q1 q2 =>
      cases q1 with
      | p q1 =>
        cases q1
        rw [← e2, ints_ok e1 q2]; rfl
  | .p .non :: _, _, _, e, _ => by cases e
  | .p (.bl _) :: _, _, _, e, _ => by cases e
  | .p (.str _) :: _, _, _, e, _ => by cases e
  | .p (.tup _) :: _, _, _, e, _ => by cases e
  | .p (.lst _) :: _, _, _, e, _ => by cases e
  | .p (.dK _) :: _, _, _, e, _ => by cases e
  | .p (.dT _) :: _, _, _, e, _ => by cases e
  | .p (.obj _ _) :: _, _, _, e, _ => by cases e
  | .p (.gd _) :: _, _, _, e, _ => by cases e
  | .p (.fn _) :: _, _, _, e, _ => by cases e
  | .cell _ :: _, _, _, e, _ => by cases e
  | .tupc _ :: _, _, _, e, _ => by cases e
theorem strs_ok {G : Hp} : ∀ {l : List R} {bs : List (List Nat)} {vs : List V}, strsR l = some bs → RRs X.K A G am l vs → vs = bs.map fun x => V.str ⟨x.toArray⟩
  | [], bs, _, e, q => by cases e; cases q; rfl
  | .p (.str b) :: r, bs, _, e, q => by
    unfold strsR at e
    obtain ⟨t, e1, e2⟩ := Option.map_eq_some_iff.mp e
    cases q with
    | cons q1 q2 =>
      cases q1 with
      | p q1 =>
        cases q1
        rw [← e2, strs_ok e1 q2]; rfl
  | .p .non :: _, _, _, e, _ => by cases e
  | .p (.bl _) :: _, _, _, e, _ => by cases e
  | .p (.int _) :: _, _, _, e, _ => by cases e
  | .p (.tup _) :: _, _, _, e, _ => by cases e
  | .p (.lst _) :: _, _, _, e, _ => by cases e
  | .p (.dK _) :: _, _, _, e, _ => by cases e
  | .p (.dT _) :: _, _, _, e, _ => by cases e
  | .p (.obj _ _) :: _, _, _, e, _ => by cases e
  | .p (.gd _) :: _, _, _, e, _ => by cases e
  | .p (.fn _) :: _, _, _, e, _ => by cases e
  | .cell _ :: _, _, _, e, _ => by cases e
  | .tupc _ :: _, _, _, e, _ => by cases e
end
end EV
end
section
set_option linter.all false
set_option maxRecDepth 100000
/-! EV, part 8: how many different texts a list has: len(set(..)); the worked proofs of the layer, turned to any number of texts. -/
namespace EV
open PySem PySem.Spec PyProof.Rows
theorem snoc_ind {α : Type} {M : List α → Prop} (h0 : M []) (h1 : ∀ l x, M l → M (l ++ [x])) (l : List α) : M l := by
  have z : ∀ r : List α, M r.reverse := fun r => by
    induction r with
    | nil => exact h0
    | cons a t ih => rw [List.reverse_cons]; exact h1 _ _ ih
  have e := z l.reverse
  rwa [List.reverse_reverse] at e
theorem distinct_snoc {α : Type} [DecidableEq α] (l : List α) (x : α) : distinct (l ++ [x]) = if x ∈ distinct l then distinct l else distinct l ++ [x] := by
  unfold distinct
  rw [List.foldl_append]
  rfl
theorem distinct_le {α : Type} [DecidableEq α] (l : List α) : (distinct l).length ≤ l.length := by
  refine snoc_ind (M := fun l => (distinct l).length ≤ l.length) (Nat.le_refl _) (fun l x ih => ?_) l
  rw [distinct_snoc, List.length_append, List.length_singleton]
  split
  · omega
  · rw [List.length_append, List.length_singleton]; omega
theorem distinct_mem {α : Type} [DecidableEq α] (l : List α) (y : α) : y ∈ distinct l ↔ y ∈ l := by
  refine snoc_ind (M := fun l => y ∈ distinct l ↔ y ∈ l) Iff.rfl (fun l x ih => ?_) l
  rw [distinct_snoc]
  by_cases h : x ∈ distinct l
  · rw [if_pos h, ih, List.mem_append, List.mem_singleton]
    refine ⟨.inl, fun z => z.elim id fun e => ?_⟩
    rw [← ih, e]
    exact h
  · rw [if_neg h, List.mem_append, List.mem_append, ih]
theorem distinct_map {α β : Type} [DecidableEq α] [DecidableEq β] {f : α → β} (hf : ∀ a b, f a = f b → a = b) (l : List α) : distinct (l.map f) = (distinct l).map f := by
  refine snoc_ind (M := fun l => distinct (l.map f) = (distinct l).map f) rfl (fun l x ih => ?_) l
  rw [List.map_append, List.map_singleton, distinct_snoc, distinct_snoc, ih]
  by_cases h : x ∈ distinct l
  · rw [if_pos h, if_pos (List.mem_map_of_mem h)]
  · rw [if_neg h, if_neg, List.map_append, List.map_singleton]
    intro z
    obtain ⟨y, h1, h2⟩ := List.mem_map.mp z
    rw [hf _ _ h2] at h1
    exact h h1
/-- what is in the set behind i texts, how many -/
def dS (xs : List Str) (i : Nat) (k : Str) : Bool := decide (k ∈ distinct (xs.take i))
def dN (xs : List Str) (i : Nat) : Nat := (distinct (xs.take i)).length
theorem dN_le (xs : List Str) (i : Nat) : dN xs i ≤ i := Nat.le_trans (distinct_le _) (by rw [List.length_take]; omega)
theorem take_get {xs : List Str} {i : Nat} (h : i < xs.length) : xs.take (i + 1) = xs.take i ++ [xs.getD i Str.empty] := by
  rw [List.take_add_one, List.getElem?_eq_getElem h, List.getD_eq_getElem?_getD, List.getElem?_eq_getElem h]
  rfl
theorem dS_next {xs : List Str} {i : Nat} (h : i < xs.length) (y : Str) : dS xs (i + 1) y = (dS xs i y || decide (y = xs.getD i Str.empty)) := by
  unfold dS
  rw [Bool.eq_iff_iff, Bool.or_eq_true_iff, decide_eq_true_iff, decide_eq_true_iff, decide_eq_true_iff, distinct_mem, distinct_mem, take_get h, List.mem_append, List.mem_singleton]
theorem dN_next {xs : List Str} {i : Nat} (h : i < xs.length) : dN xs (i + 1) = if dS xs i (xs.getD i Str.empty) then dN xs i else dN xs i + 1 := by
  unfold dN dS
  rw [take_get h, distinct_snoc]
  by_cases z : xs.getD i Str.empty ∈ distinct (xs.take i)
  · rw [if_pos z, if_pos (decide_eq_true z)]
  · rw [if_neg z, if_neg (by simpa using z), List.length_append, List.length_singleton]
section
variable {prog : Program} {w : World} {A : Around} {R : Result → Shared → Prop} {I : Addr} {fp wr : List Addr} {G : Array GenState → Array GenState → Prop} {n : Nat} {P : Nat → Value → Prop} {St : Nat → Shared → Prop}
theorem loopTx (W : WalksS prog w A.in1 I fp wr G n P St) (S : Addr) (hSf : S ∉ fp) (xs : List Str) (szx : xs.length = n) (hn1 : n + 1 < scanBound)
    (valAt : ∀ i v, P i v → ∃ t, v = .str (xs.getD i Str.empty) t) :
    ∀ (k i : Nat) (s : Shared), n - i = k → i ≤ n → St i s →
      s.heap.SetOf (PySem.strKind prog w) S (dS xs i) (dN xs i) →
      (∀ s', Moved (S :: wr) G s s' → s'.heap.SetOf (PySem.strKind prog w) S (dS xs n) (dN xs n) → R (.ok (.ret .none)) s') →
      codeAny (model prog w) A (.builtin "set.update.loop" ⟨[.ref S, .ref I], []⟩) R s := by
  have nSw : S ∉ wr := fun h => hSf (W.sub _ h)
  have wsub : ∀ b ∈ wr, b ∈ S :: wr := fun b hb => List.mem_cons_of_mem _ hb
  intro k
  induction k with
  | zero =>
    intro i s hk hi gw0 hS hR
    have hin : i = n := by omega
    subst hin
    refine codeAny_builtin PyProof.Rows.F.entry_set_update_loop ?_
    rw [Around.under_plainId PyProof.Rows.F.plain_set_update_loop _]
    show wpAny _ A.in1 (pyNext (.ref I) >>= _) _ _ s
    refine wpAny_bind (W.done s _ _ gw0 fun s' mv => ?_)
    show wpAny _ A.in1 (ret Value.none) _ _ s'
    exact wpAny_pure (hR s' (mv.mono wsub) (by
      obtain ⟨o, es, ep, t, ho, rest⟩ := hS
      exact ⟨o, es, ep, t, mv.heap S _ nSw ho, rest⟩))
  | succ k ih =>
    intro i s hk hi gw0 hS hR
    have lti : i < n := by omega
    refine codeAny_builtin PyProof.Rows.F.entry_set_update_loop ?_
    rw [Around.under_plainId PyProof.Rows.F.plain_set_update_loop _]
    show wpAny _ A.in1 (pyNext (.ref I) >>= _) _ _ s
    refine wpAny_bind (W.item i s _ _ lti gw0 fun v s' hY gw1 mv => ?_)
    obtain ⟨t, rfl⟩ := valAt i v hY
    have sN : s'.heap.SetOf (PySem.strKind prog w) S (dS xs i) (dN xs i) := by
      obtain ⟨o, es, ep, tb, ho, rest⟩ := hS
      exact ⟨o, es, ep, tb, mv.heap S _ nSw ho, rest⟩
    show wpAny _ A.in1 (holding [Value.str (xs.getD i Str.empty) t] (setAdd S (.str (xs.getD i Str.empty) t)) >>= _) _ _ s'
    refine wpAny_bind (wpAny_holding ?_)
    unfold setAdd
    refine wpAny_holding ?_
    refine wpAny_bind ((PySem.strKind prog w).pyHash (k := xs.getD i Str.empty) (strKind_is _ _ _ _) ?_)
    refine wpAny_setAddHashed_of (knd := PySem.strKind prog w) (s := { s' with toks := s'.toks + 1 }) (strKind_is _ _ _ _) rfl sN (by have := dN_le xs i; omega) fun h' same1 sT => ?_
    have newS : h'.SetOf (PySem.strKind prog w) S (dS xs (i + 1)) (dN xs (i + 1)) :=
      SetOf_congr sT (fun y => (dS_next (by omega) y).symm) (dN_next (by omega)).symm
    refine wpAny_pure ⟨plainId_quiet PyProof.Rows.F.plain_set_update_loop _, ih (i + 1) _ (by omega) lti (W.frame _ s' _ _ gw1 (Nat.le_succ _) fun b hb o e => ?_) newS fun s'' mv2 sE => ?_⟩
    · rw [same1.2 b (fun h : b = S => hSf (by rw [← h]; exact hb))]; exact e
    · refine hR s'' (Moved.trans W.gtrans ((mv.mono wsub).then_heap (Nat.le_succ _) fun b o hb e => ?_) mv2) sE
      rw [same1.2 b (fun h : b = S => hb (by rw [h]; exact List.mem_cons_self))]; exact e

end
section
variable {prog : Program} {w : World} {A : Around} {E : Value → Shared → Prop} {s : Shared}
set_option maxHeartbeats 3200000 in
theorem call_set_tx {l : Addr} {items : Array Value} {xs : List Str} {Q : Value → Shared → Prop}
    (hh : A.handled = none) (hl : s.heap.IsList l items) (hi : PyProof.Rows.StrsAre items.toList xs) (hn1 : xs.length + 1 < scanBound)
    (h : ∀ (h' : Heap) (tk : Nat), h'.SetOf (PySem.strKind prog w) s.heap.objs.size (dS xs items.size) (dN xs items.size) →
      (∀ b o, b < s.heap.objs.size → s.heap.get? b = some o → h'.get? b = some o) → Q (.ref s.heap.objs.size) { s with heap := h', toks := tk }) :
    wpAny (model prog w) A (call (.type "set") [.ref l]) Q E s := by
  obtain ⟨c, tl, mro0⟩ := PySem.F.called_set.mro
  have made0 := PySem.F.called_set.made
  have wsub := PySem.F.called_set.sub
  refine wpAny_call (codeAny_of_tree ?_)
  show wpAny _ _ (callAny (.type "set") _) _ _ _
  refine wpAny_pure ⟨Code.quiet_builtin _ (by decide +kernel), codeAny_builtin PySem.F.entry_type_call ?_⟩
  rw [Around.under_plain (weight_type_call_type "set" [.ref l] []) rfl]
  have h1 := PySem.F.called_set.notType
  have h2 := PySem.F.called_set.canCreate
  have ct0 := PySem.F.typeCall_set_1 (.ref l)
  repeat (any_goals (first | assumption | wp_step))

  refine codeAny_mono (code_set_new_1 (.ref l) (E := E) (Q₁ := fun obj s₁ => ∃ led : Bool, obj = .ref s.heap.objs.size ∧ s₁ = { s with heap := s.heap.push { cls := .type "set", dict := none, data := .set #[] 0 (.fresh 0 0 led) } }) fun led => ⟨led, rfl, rfl⟩) fun r s₁ hr => ?_
  cases r with
  | error e => exact hr
  | ok fl =>
    cases fl with
    | ret obj =>
      obtain ⟨led, rfl, rfl⟩ := hr
      have hS : (s.heap.push { cls := .type "set", dict := none, data := .set #[] 0 (.fresh 0 0 led) }).get? s.heap.objs.size = some { cls := .type "set", dict := none, data := .set #[] 0 (.fresh 0 0 led) } := Heap.get?_push_size _ rfl
      have hT : Shared.TypeIs { s with heap := s.heap.push { cls := .type "set", dict := none, data := .set #[] 0 (.fresh 0 0 led) } } (.ref s.heap.objs.size) "set" := ⟨_, hS, rfl⟩
      have li0 := PySem.F.called_set.init.lookup
      have bi0 := PySem.F.called_set.init.bind (.ref s.heap.objs.size)
      repeat (any_goals (first | assumption | wp_step))

      refine codeAny_mono (codeAny_call_builtin (R := wants (fun r s₂ => r = .none ∧ ∃ h' tk, s₂ = { s with heap := h', toks := tk } ∧
          h'.SetOf (PySem.strKind prog w) s.heap.objs.size (dS xs items.size) (dN xs items.size) ∧
          (∀ b o, b < s.heap.objs.size → s.heap.get? b = some o → h'.get? b = some o)) E) PySem.F.called_set.init.plain PySem.F.entry_set_init (check_set_init_1 hT ?_)) fun r₂ s₂ hr₂ => ?_
      · obtain ⟨ol, gl0, cl0, nl, dt0⟩ := hl
        obtain ⟨ocls, odict, odata, oslots⟩ := ol
        simp only at cl0 dt0
        subst cl0; subst dt0
        have gl1 : (s.heap.push { cls := .type "set", dict := none, data := .set #[] 0 (.fresh 0 0 led) }).get? l = some { cls := .type "list", dict := odict, data := .seq items nl, slots := oslots } := Heap.get?_push_of_some _ gl0
        have su1 := PySem.F.sub_list_set
        have su2 := PySem.F.sub_list_frozenset
        have ne0 : (Value.type "list" == Value.type "dict") = false := by decide
        have il1 : (s.heap.push { cls := .type "set", dict := none, data := .set #[] 0 (.fresh 0 0 led) }).IsList l items := ⟨_, gl1, rfl, nl, rfl⟩
        unfold Builtin.«set.__init__» noKeywords Builtin.Frozenset.updateFrom
        generalize ePI : pyIter = PI
        wp_walk
        subst ePI

        refine wpAny_pyIter_list il1 ?_
        refine wpAny_bind (wpAny_runValue ?_)
        have belS : l < s.heap.objs.size := Heap.lt_size gl0
        have hn3 : A.in1.in1.in1.handled = none := by simp [hh]
        have apI : l ≠ (s.heap.push { cls := .type "set", dict := none, data := .set #[] 0 (.fresh 0 0 led) }).objs.size := by
          rw [Heap.size_push]; exact Nat.ne_of_lt (Nat.lt_succ_of_lt belS)
        have hSf : s.heap.objs.size ∉ [(s.heap.push { cls := .type "set", dict := none, data := .set #[] 0 (.fresh 0 0 led) }).objs.size, l] := by
          rw [Heap.size_push]; simp only [List.mem_cons, List.mem_singleton, List.not_mem_nil, or_false, not_or]
          exact ⟨Nat.ne_of_lt (Nat.lt_succ_self _), Nat.ne_of_gt belS⟩
        have szx : xs.length = items.size := by rw [← StrsAre.len_eq hi, Array.length_toList]
        have valAt : ∀ (i : Nat) (v : Value), items[i]? = some v → ∃ t, v = .str (xs.getD i Str.empty) t := fun i v hv => SS.strs_at hi i v (by rw [Array.getElem?_toList]; exact hv)
        refine loopTx ((Walks.list hn3 _ l apI items).toS) s.heap.objs.size
          hSf xs szx (by rw [← szx]; exact hn1) valAt (items.size - 0) 0 _ (by omega) (Nat.zero_le _)
          ⟨⟨_, Heap.get?_push_size _ rfl, rfl, rfl⟩, (il1.push _)⟩ ?hS0 ?hR
        case hS0 =>
          have getS : ((s.heap.push { cls := .type "set", dict := none, data := .set #[] 0 (.fresh 0 0 led) }).push { cls := .type "list_iterator", data := .fields #[.ref l, .int 0 0] }).get? s.heap.objs.size
              = some { cls := .type "set", dict := none, data := .set #[] 0 (.fresh 0 0 led) } := Heap.get?_push_of_some _ hS
          exact PyProof.Rows.SetOf_congr ((PyProof.Rows.setObjOf_fresh (knd := PySem.strKind prog w) led).setOf getS (by unfold scanBound; omega)) (fun _ => rfl) rfl
        case hR =>
          intro s' mv sN
          obtain ⟨h', g', d', tk', os'⟩ := s'
          have eg : g' = s.gens := mv.gens
          have ed : d' = s.drawn := mv.drawn
          have eo : os' = s.os := mv.os
          subst eg; subst ed; subst eo
          show wpAny _ _ _ _ _ _
          refine wpAny_pure ?_
          show wpAny _ _ (ret Value.none) _ _ _
          refine wpAny_pure ⟨rfl, h', tk', rfl, sN, fun b o hb e => ?_⟩
          have nb1 : b ≠ s.heap.objs.size := Nat.ne_of_lt hb
          have nb2 : b ≠ (s.heap.push { cls := .type "set", dict := none, data := .set #[] 0 (.fresh 0 0 led) }).objs.size := by
            rw [Heap.size_push]; exact Nat.ne_of_lt (Nat.lt_succ_of_lt hb)
          exact mv.heap b o (by simp only [List.mem_cons, List.mem_singleton, List.not_mem_nil, or_false, not_or]; exact ⟨nb1, nb2⟩) (Heap.get?_push_of_some _ (Heap.get?_push_of_some _ e))

      · cases r₂ with
        | error e => exact hr₂
        | ok fl₂ =>
          cases fl₂ with
          | ret r =>
            obtain ⟨rfl, h', tk, rfl, sN, hk'⟩ := hr₂
            repeat (any_goals (first | assumption | wp_step))
            exact h _ _ sN hk'
          | _ => exact hr₂.elim
    | _ => exact hr.elim

end
end EV
end
section
set_option linter.all false
set_option maxRecDepth 100000
/-! EV, part 9: built-in functions, isinstance, fields, append. -/
namespace EV
open PySem PySem.Spec PyProof.Rows L2
section
variable {X : Cx} {A : Ads} {am hid : List Addr} {H : Hp} {st : Store} {fl : Nat}
theorem one_of {G : Hp} {x : R} {vs : List V} (h : RRs X.K A G am [x] vs) : ∃ v, vs = [v] ∧ RR X.K A G am x v := by
  cases h with
  | cons h t => cases t; exact ⟨_, rfl, h⟩
theorem two_of {G : Hp} {x y : R} {vs : List V} (h : RRs X.K A G am [x, y] vs) : ∃ v u, vs = [v, u] ∧ RR X.K A G am x v ∧ RR X.K A G am y u := by
  cases h with
  | cons h t =>
    cases t with
    | cons h' t => cases t; exact ⟨_, _, rfl, h, h'⟩
theorem bind_ex {α β : Type} {o : Option α} {f : α → Option β} {b : β} (h : o.bind f = some b) : ∃ a, o = some a ∧ f a = some b := Option.bind_eq_some_iff.mp h
/-- the built-in's name, its value -/
def biN : Bi → String
  | .len => "len" | .int => "int" | .str => "str" | .list => "list" | .tuple => "tuple" | .all => "all" | .any => "any" | .sum => "sum" | .lenset => "" | .min2 => "min" | .max2 => "max"
def biF : Bi → Value
  | .len => .builtin "len" | .int => .type "int" | .str => .type "str" | .list => .type "list" | .tuple => .type "tuple" | .all => .builtin "all" | .any => .builtin "any" | .sum => .builtin "sum" | .lenset => .none | .min2 => .builtin "min" | .max2 => .builtin "max"
theorem biF_boot : ∀ b : Bi, b ≠ .lenset → bootBuiltins (Str.ofString (biN b)) = some (biF b)
  | .len, _ => by decide +kernel
  | .int, _ => by decide +kernel
  | .str, _ => by decide +kernel
  | .list, _ => by decide +kernel
  | .tuple, _ => by decide +kernel
  | .all, _ => by decide +kernel
  | .any, _ => by decide +kernel
  | .sum, _ => by decide +kernel
  | .min2, _ => by decide +kernel
  | .max2, _ => by decide +kernel
  | .lenset, h => absurd rfl h
theorem biN_ok : ∀ b : Bi, Str.ofString (biN b) ≠ "__name__" ∧ (Str.ofString (biN b) == ("__debug__" : Str)) = false
  | .len => by decide +kernel
  | .int => by decide +kernel
  | .str => by decide +kernel
  | .list => by decide +kernel
  | .tuple => by decide +kernel
  | .all => by decide +kernel
  | .any => by decide +kernel
  | .sum => by decide +kernel
  | .min2 => by decide +kernel
  | .max2 => by decide +kernel
  | .lenset => by decide +kernel
theorem bi_ok (hc : X.calm = true) {b : Bi} {xs : List R} {vs : List V} {us : List Value} {z : R} {Q : VK} (h : SR X.K A hid H am st) (q : RRs X.K A (Gv H am hid) am xs vs) (e : biR b xs st = some z) (hb : b ≠ .lenset)
    (r : Vals vs us) (hQ : ∀ u H', Post X.K A hid fl H am st H' am st → RR X.K A (Gv H' am hid) am z u → Q u H') : OpW X (call (biF b) us) H Q := by
  have here := Post.refl (fl := fl) h
  cases b with
  | lenset => exact absurd rfl hb
  | len =>
    match xs, e with
    | [x], e =>
      obtain ⟨v, rfl, qx⟩ := one_of q
      have seq : (match seqR x st with
          | some l => some (R.p (.int l.length))
          | none => none) = some z → OpW X (call (biF .len) us) H Q := by
        intro e
        cases es : seqR x st with
        | none => simp only [es] at e; cases e
        | some l =>
          simp only [es] at e
          cases e
          obtain ⟨a, ws, rfl, hs, qq⟩ := seqR_ok h qx es
          refine useC call_len_seq r ⟨a, ws, rfl, hs, ?_⟩
          have := hQ (.int (l.length : Int)) _ here (.p (.int _))
          rw [qq.length] at this
          exact this
      cases x with
      | p c =>
        cases c with
        | str y =>
          cases e
          cases qx with
          | p qx =>
            cases qx with
            | str _ hl =>
              refine useC call_len_str r ⟨_, rfl, by rw [str_len, ← line_eq]; exact hl, ?_⟩
              rw [str_len]
              exact hQ _ _ here (.p (.int _))
        | _ => exact seq e
      | _ => exact seq e
  | int =>
    match xs, e with
    | [x], e =>
      obtain ⟨v, rfl, qx⟩ := one_of q
      have e : intOf x = some z := e
      cases qx with
      | p qx =>
        cases qx with
        | int i => cases e; exact useC call_int1 r (.inl ⟨i, rfl, hQ _ _ here (.p (.int _))⟩)
        | bl k => cases e; exact useC call_int1 r (.inr ⟨k, rfl, hQ _ _ here (.p (.int _))⟩)
        | _ => cases e
      | _ => cases e
  | str =>
    match xs, e with
    | [x], e =>
      obtain ⟨v, rfl, qx⟩ := one_of q
      have e : strOf x = some z := e
      cases qx with
      | p qx =>
        cases qx with
        | int i =>
          have e : (if (decide (i.natAbs.log2 < 1920) && decide ((icodes i).length ≤ LINE)) = true then some (R.p (.str (icodes i))) else none) = some z := e
          by_cases hz : (decide (i.natAbs.log2 < 1920) && decide ((icodes i).length ≤ LINE)) = true
          · rw [if_pos hz] at e
            cases e
            obtain ⟨h1, h2⟩ := Bool.and_eq_true_iff.mp hz
            refine useC call_str_int r ⟨i, rfl, of_decide_eq_true h1, ?_⟩
            rw [Str.ofString_eq_toList]
            exact hQ _ _ here (.p (.str _ (of_decide_eq_true h2)))
          · rw [if_neg hz] at e; cases e
        | _ => cases e
      | _ => cases e
  | list =>
    match xs, e with
    | [x], e =>
      obtain ⟨v, rfl, qx⟩ := one_of q
      have e : (match (seqR x st).bind toPs with
        | some l => some (R.p (.lst l))
        | none => none) = some z := e
      cases es : (seqR x st).bind toPs with
      | none => rw [es] at e; cases e
      | some l =>
        rw [es] at e
        cases e
        obtain ⟨l', e1, e2⟩ := bind_ex es
        obtain ⟨a, ws, rfl, hs, qq⟩ := seqR_ok h qx e1
        refine useC call_list_of r ⟨a, ws, rfl, hs, fun p np => ?_⟩
        have pp := h.laidP (fl := fl) np (.lst ws)
        exact hQ _ _ pp (.p (.lst (SqL.of (h.gvn np _)) ((qq.toPs e2).mono pp.ext.le)))
  | tuple =>
    match xs, e with
    | [x], e =>
      obtain ⟨v, rfl, qx⟩ := one_of q
      have e : (match (lstR x st).bind toPs with
        | some l => some (R.p (.tup l))
        | none => none) = some z := e
      cases es : (lstR x st).bind toPs with
      | none => rw [es] at e; cases e
      | some l =>
        rw [es] at e
        cases e
        obtain ⟨l', e1, e2⟩ := bind_ex es
        obtain ⟨a, ws, rfl, hs, qq⟩ := lstR_ok h qx e1
        refine useC call_tuple_of r ⟨a, ws, rfl, .inl ⟨hs, fun p np => ?_⟩⟩
        have pp := h.laidP (fl := fl) np (.tup ws)
        exact hQ _ _ pp (.p (.tup (SqT.of (h.gvn np _)) ((qq.toPs e2).mono pp.ext.le)))
  | all =>
    match xs, e with
    | [x], e =>
      obtain ⟨v, rfl, qx⟩ := one_of q
      have e : (match (lstR x st).bind blsR with
        | some l => some (R.p (.bl (l.all id)))
        | none => none) = some z := e
      cases es : (lstR x st).bind blsR with
      | none => rw [es] at e; cases e
      | some l =>
        rw [es] at e
        cases e
        obtain ⟨l', e1, e2⟩ := bind_ex es
        obtain ⟨a, ws, rfl, hs, qq⟩ := lstR_ok h qx e1
        rw [bls_ok e2 qq] at hs
        exact useC (cr_all hc) r ⟨a, l, rfl, hs, hQ _ _ here (.p (.bl _))⟩
  | any =>
    match xs, e with
    | [x], e =>
      obtain ⟨v, rfl, qx⟩ := one_of q
      have e : (match (lstR x st).bind blsR with
        | some l => some (R.p (.bl (l.any id)))
        | none => none) = some z := e
      cases es : (lstR x st).bind blsR with
      | none => rw [es] at e; cases e
      | some l =>
        rw [es] at e
        cases e
        obtain ⟨l', e1, e2⟩ := bind_ex es
        obtain ⟨a, ws, rfl, hs, qq⟩ := lstR_ok h qx e1
        rw [bls_ok e2 qq] at hs
        exact useC (cr_any hc) r ⟨a, l, rfl, hs, hQ _ _ here (.p (.bl _))⟩
  | sum =>
    match xs, e with
    | [x], e =>
      obtain ⟨v, rfl, qx⟩ := one_of q
      have e : (match (lstR x st).bind intsR with
        | some l => some (R.p (.int l.sum))
        | none => none) = some z := e
      cases es : (lstR x st).bind intsR with
      | none => rw [es] at e; cases e
      | some l =>
        rw [es] at e
        cases e
        obtain ⟨l', e1, e2⟩ := bind_ex es
        obtain ⟨a, ws, rfl, hs, qq⟩ := lstR_ok h qx e1
        rw [ints_ok e2 qq] at hs
        exact useC (cr_sum hc) r ⟨a, l, rfl, hs, hQ _ _ here (.p (.int _))⟩
  | min2 =>
    match xs, e with
    | [x, y], e =>
      obtain ⟨v, u, rfl, qx, qy⟩ := two_of q
      have e : int2Of _ x y = some z := e
      cases qx with
      | p qx =>
        cases qx with
        | int i =>
          cases qy with
          | p qy =>
            cases qy with
            | int j => cases e; exact useC (call_min2 hc) r ⟨i, j, rfl, hQ _ _ here (.p (.int _))⟩
            | _ => cases e
          | _ => cases e
        | _ => cases qy with
          | p qy => cases qy <;> cases e
          | _ => cases e
      | _ => cases qy with
          | p qy => cases qy <;> cases e
          | _ => cases e
  | max2 =>
    match xs, e with
    | [x, y], e =>
      obtain ⟨v, u, rfl, qx, qy⟩ := two_of q
      have e : int2Of _ x y = some z := e
      cases qx with
      | p qx =>
        cases qx with
        | int i =>
          cases qy with
          | p qy =>
            cases qy with
            | int j => cases e; exact useC (call_max2 hc) r ⟨i, j, rfl, hQ _ _ here (.p (.int _))⟩
            | _ => cases e
          | _ => cases e
        | _ => cases qy with
          | p qy => cases qy <;> cases e
          | _ => cases e
      | _ => cases qy with
          | p qy => cases qy <;> cases e
          | _ => cases e
/-! isinstance -/
structure ClIs (K : PySem.W.Frag) (C : Addr) : Prop where
  ha : PySem.W.findIn K (.ref C) "__class__" = some (some (.builtin "object.__class__"))
  hn : PySem.W.specialIn K (.builtin "object.__class__") "__get__" = some (some (.builtin "getset_descriptor.__get__"))
  htk : PySem.W.takesIn K (.builtin "object.__class__") = some true
  hm : PySem.W.mroIn K C (.type "object") = some true
  self : PySem.W.kitOne K (.ref C) (.ref C) = some true
def tyVal (A : Ads) : Ty → V
  | .int => .ty "int" | .bool => .ty "bool" | .str => .ty "str" | .list => .ty "list" | .tuple => .ty "tuple" | .own c => .ref (A.CA c)
def tyVal' (A : Ads) : Ty → Value
  | .int => .type "int" | .bool => .type "bool" | .str => .type "str" | .list => .type "list" | .tuple => .type "tuple" | .own c => .ref (A.CA c)
theorem tyV_cls (A : Ads) (t : Ty) : ClsV (tyVal A t) (tyVal' A t) := by cases t <;> constructor
theorem isi_ok {cls : List Cl} {t : Ty} {x : R} {v : V} {us : List Value} {b : Bool} {Q : VK} (hcl : ∀ d, t = .own d → Cls X.K (A.CA d) ∧ ClIs X.K (A.CA d))
    (h : SR X.K A hid H am st) (qx : RR X.K A (Gv H am hid) am x v) (e : isR cls t x st = some b) (r : Vals [v, tyVal A t] us) (hQ : Q (.bl b) H) : OpW X (call (.builtin "isinstance") us) H Q := by
  have own : ∀ {c d : Nat} {a dx : Addr} {fvs : List (Str × V)}, t = .own d → (if c = d then some true else none) = some b → v = .ref a → H a = some (.ins (A.CA c) dx fvs) → OpW X (call (.builtin "isinstance") us) H Q := by
    intro c d a dx fvs et e ev ha
    by_cases hcd : c = d
    · rw [if_pos hcd] at e
      cases e
      subst hcd et ev
      obtain ⟨k1, k2⟩ := hcl c rfl
      exact useC call_isi r ⟨.ref a, .ref (A.CA c), .ref (A.CA c), .ref (A.CA c), true, rfl, .own _, .base (.ins ha k1 k2.ha k2.hn k2.htk k2.hm), k2.self, hQ⟩
    · rw [if_neg hcd] at e; cases e
  cases qx with
  | p q =>
    cases q with
    | int i =>
      cases t with
      | int => cases e; exact useC call_isi r ⟨_, _, .type "int", .type "int", true, rfl, .ty _, .base (.int i), kit_ty (by decide +kernel), hQ⟩
      | bool => cases e; exact useC call_isi r ⟨_, _, .type "int", .type "bool", false, rfl, .ty _, .base (.int i), kit_ty (by decide +kernel), hQ⟩
      | _ => cases e
    | bl i =>
      cases t with
      | int => cases e; exact useC call_isi r ⟨_, _, .type "bool", .type "int", true, rfl, .ty _, .base (.bl i), kit_ty (by decide +kernel), hQ⟩
      | bool => cases e; exact useC call_isi r ⟨_, _, .type "bool", .type "bool", true, rfl, .ty _, .base (.bl i), kit_ty (by decide +kernel), hQ⟩
      | _ => cases e
    | @obj a dx c fs fvs q1 q2 q3 =>
      cases t with
      | own d => exact own rfl e rfl (gv_of q1).1
      | _ => cases e
    | _ => cases t <;> cases e
  | @cell m a q =>
    cases t with
    | own d =>
      have e : (match st[m]? with
        | some (.ins c _) => if c = d then some true else none
        | _ => none) = some b := e
      cases eo : st[m]? with
      | none => rw [eo] at e; cases e
      | some o =>
        rw [eo] at e
        cases o with
        | ins c fs =>
          obtain ⟨dx, vs, q1, _, _⟩ := h.ob m a _ q eo
          exact own rfl e rfl q1
        | _ => cases e
    | _ => cases e
  | tupc q z => cases t <;> cases e

/-! fields -/
theorem ofS_inj {a b : String} (h : Str.ofString a = Str.ofString b) : a = b := by
  rw [Str.ofString_eq_toList, Str.ofString_eq_toList] at h
  injection h with h
  have h : a.toList.map Char.toNat = b.toList.map Char.toNat := by simpa using congrArg Array.toList h
  have inj : ∀ {x y : List Char}, x.map Char.toNat = y.map Char.toNat → x = y := by
    intro x
    induction x with
    | nil => intro y h; cases y with
      | nil => rfl
      | cons _ _ => cases h
    | cons c x ih =>
      intro y h
      cases y with
      | nil => cases h
      | cons d y =>
        rw [List.map_cons, List.map_cons] at h
        injection h with h1 h2
        rw [ih h2]
        congr 1
        exact Char.ext (UInt32.toNat_inj.mp h1)
  exact String.toList_inj.mp (inj h)
theorem rvf_look {G : Hp} {fs : List (String × P)} {fvs : List (Str × V)} (h : RVf X.K A G fs fvs) {f : String} : match fs.lookup f with
    | some p => ∃ v, fvs.lookup (Str.ofString f) = some v ∧ RV X.K A G p v
    | none => fvs.lookup (Str.ofString f) = none := by
  induction fs generalizing fvs with
  | nil => cases h; exact rfl
  | cons q fs ih =>
    obtain ⟨g, p⟩ := q
    cases h with
    | cons r t =>
      rw [List.lookup_cons, List.lookup_cons]
      by_cases e : f = g
      · subst e
        simp only [beq_self_eq_true]
        exact ⟨_, rfl, r⟩
      · have e1 : (f == g) = false := beq_eq_false_iff_ne.mpr e
        have e2 : (Str.ofString f == Str.ofString g) = false := beq_eq_false_iff_ne.mpr fun z => e (ofS_inj z)
        rw [e1, e2]
        exact ih t
theorem rrv_look {G : Hp} {fs : List (String × R)} {fvs : List (Str × V)} (h : RRv X.K A G am Str.ofString fs fvs) {f : String} : match fs.lookup f with
    | some p => ∃ v, fvs.lookup (Str.ofString f) = some v ∧ RR X.K A G am p v
    | none => fvs.lookup (Str.ofString f) = none := by
  induction h with
  | nil => exact rfl
  | @cons g r v l vs r t ih =>
      rw [List.lookup_cons, List.lookup_cons]
      by_cases e : f = g
      · subst e
        simp only [beq_self_eq_true]
        exact ⟨_, rfl, r⟩
      · have e1 : (f == g) = false := beq_eq_false_iff_ne.mpr e
        have e2 : (Str.ofString f == Str.ofString g) = false := beq_eq_false_iff_ne.mpr fun z => e (ofS_inj z)
        rw [e1, e2]
        exact ih
theorem lookup_mem' {α : Type} {l : List (String × α)} {f : String} {a : α} (h : l.lookup f = some a) : (f, a) ∈ l := by
  induction l with
  | nil => cases h
  | cons q l ih =>
    obtain ⟨g, b⟩ := q
    rw [List.lookup_cons] at h
    by_cases e : f = g
    · subst e
      simp only [beq_self_eq_true] at h
      cases h
      exact List.mem_cons_self
    · rw [beq_eq_false_iff_ne.mpr e] at h
      exact List.mem_cons_of_mem _ (ih h)
/-- an instance, whatever holds it -/
theorem inst_of {x : R} {v : V} {c : Nat} (h : SR X.K A hid H am st) (qx : RR X.K A (Gv H am hid) am x v) (e : clsR x st = some c) : ∃ a dx fvs, v = .ref a ∧ H a = some (.ins (A.CA c) dx fvs) ∧
    ∀ f : String, PySem.W.findIn X.K (.ref (A.CA c)) (Str.ofString f) ≠ some none → fvs.lookup (Str.ofString f) = none := by
  cases qx with
  | p q =>
    cases q with
    | @obj a dx c' fs fvs q1 q2 q3 =>
      cases (show some _ = some c from e)
      refine ⟨a, dx, fvs, rfl, (gv_of q1).1, fun f hf => ?_⟩
      have z := rvf_look q2 (f := f)
      cases el : fs.lookup f with
      | none => rw [el] at z; exact z
      | some p => exact absurd (q3 _ (lookup_mem' el)) hf
    | _ => cases e
  | @cell m a q =>
    unfold clsR at e
    cases eo : st[m]? with
    | none => simp only [eo] at e; cases e
    | some o =>
      simp only [eo] at e
      cases o with
      | ins c' fs =>
        cases e
        obtain ⟨dx, fvs, q1, q2, q3⟩ := h.ob m a _ q eo
        refine ⟨a, dx, fvs, rfl, q1, fun f hf => ?_⟩
        have z := rrv_look q2 (f := f)
        cases el : fs.lookup f with
        | none => rw [el] at z; exact z
        | some p => exact absurd (q3 _ (lookup_mem' el)) hf
      | _ => cases e
  | tupc q z => cases e
theorem fld_ok {x z : R} {v : V} {f : String} (h : SR X.K A hid H am st) (qx : RR X.K A (Gv H am hid) am x v) (e : fldR x f st = some z) :
    ∃ a c dx fvs u, v = .ref a ∧ H a = some (.ins (A.CA c) dx fvs) ∧ NoAttr X.K (A.CA c) (Str.ofString f) ∧ fvs.lookup (Str.ofString f) = some u ∧ RR X.K A (Gv H am hid) am z u := by
  cases qx with
  | p q =>
    cases q with
    | @obj a dx c fs fvs q1 q2 q3 =>
      obtain ⟨p, e1, e2⟩ := Option.map_eq_some_iff.mp (show (fs.lookup f).map R.p = some z from e)
      subst e2
      have zz := rvf_look q2 (f := f)
      rw [e1] at zz
      obtain ⟨u, e3, r⟩ := zz
      exact ⟨a, c, dx, fvs, u, rfl, (gv_of q1).1, q3 _ (lookup_mem' e1), e3, .p r⟩
    | _ => cases e
  | @cell m a q =>
    unfold fldR at e
    cases eo : st[m]? with
    | none => simp only [eo] at e; cases e
    | some o =>
      simp only [eo] at e
      cases o with
      | ins c fs =>
        obtain ⟨dx, fvs, q1, q2, q3⟩ := h.ob m a _ q eo
        have zz := rrv_look q2 (f := f)
        have e : fs.lookup f = some z := e
        rw [e] at zz
        obtain ⟨u, e3, r⟩ := zz
        exact ⟨a, c, dx, fvs, u, rfl, q1, q3 _ (lookup_mem' e), e3, r⟩
      | _ => cases e
  | tupc q z => cases e
theorem putF_rr {G : Hp} {fs : List (String × R)} {fvs : List (Str × V)} (h : RRv X.K A G am Str.ofString fs fvs) {f : String} {r : R} {v : V} (q : RR X.K A G am r v) : RRv X.K A G am Str.ofString (EV.putF f r fs) (L2.putF (Str.ofString f) v fvs) := by
  induction h with
  | nil => exact .cons q .nil
  | @cons g r' v' l vs r' t ih =>
    show RRv X.K A G am Str.ofString (if g = f then (g, r) :: l else (g, _) :: EV.putF f r l) (if Str.ofString g = Str.ofString f then (Str.ofString g, v) :: vs else (Str.ofString g, _) :: L2.putF (Str.ofString f) v vs)
    by_cases e : g = f
    · rw [if_pos e, if_pos (congrArg Str.ofString e)]
      exact .cons q t
    · rw [if_neg e, if_neg fun z => e (ofS_inj z)]
      exact .cons r' ih
theorem putF_mem {fs : List (String × R)} {f : String} {r : R} {q : String × R} (h : q ∈ EV.putF f r fs) : q.1 = f ∨ ∃ q', q' ∈ fs ∧ q'.1 = q.1 := by
  induction fs with
  | nil =>
    have h : q ∈ [(f, r)] := h
    rw [List.mem_singleton] at h
    exact .inl (by rw [h])
  | cons p l ih =>
    obtain ⟨g, x⟩ := p
    have h : q ∈ (if g = f then (g, r) :: l else (g, x) :: EV.putF f r l) := h
    by_cases e : g = f
    · rw [if_pos e] at h
      rcases List.mem_cons.mp h with h | h
      · exact .inl (by rw [h]; exact e)
      · exact .inr ⟨q, List.mem_cons_of_mem _ h, rfl⟩
    · rw [if_neg e] at h
      rcases List.mem_cons.mp h with h | h
      · exact .inr ⟨(g, x), List.mem_cons_self, by rw [h]⟩
      · rcases ih h with z | ⟨q', z1, z2⟩
        · exact .inl z
        · exact .inr ⟨q', List.mem_cons_of_mem _ z1, z2⟩
theorem putF_bel {n : Nat} {fs : List (String × R)} {f : String} {r : R} (h : belv n fs = true) (hr : r.bel n = true) : belv n (EV.putF f r fs) = true := by
  induction fs with
  | nil =>
    show ([(f, r)] : List (String × R)).all (fun q => q.2.bel n) = true
    simp [hr]
  | cons p l ih =>
    obtain ⟨g, x⟩ := p
    unfold belv at h ih ⊢
    rw [List.all_cons] at h
    obtain ⟨h1, h2⟩ := Bool.and_eq_true_iff.mp h
    show (if g = f then (g, r) :: l else (g, x) :: EV.putF f r l).all (fun q => q.2.bel n) = true
    by_cases e : g = f
    · rw [if_pos e, List.all_cons, hr, h2]; rfl
    · rw [if_neg e, List.all_cons, h1, ih h2]; rfl
theorem putF_len {fs : List (String × R)} {fvs : List (Str × V)} {G : Hp} (h : RRv X.K A G am Str.ofString fs fvs) : fs.length = fvs.length := by
  induction h with
  | nil => rfl
  | cons _ _ ih => rw [List.length_cons, List.length_cons, ih]
theorem bels_snoc {n : Nat} {l : List R} {r : R} (h : bels n l = true) (hr : r.bel n = true) : bels n (l ++ [r]) = true := by
  induction l with
  | nil => unfold bels; rw [List.nil_append]; show (r.bel n && bels n []) = true; rw [hr]; rfl
  | cons a l ih =>
    unfold bels at h
    obtain ⟨h1, h2⟩ := Bool.and_eq_true_iff.mp h
    show (a.bel n && bels n (l ++ [r])) = true
    rw [h1, ih h2]; rfl
theorem bels_set {n : Nat} {l : List R} {r : R} (h : bels n l = true) (hr : r.bel n = true) (i : Nat) : bels n (l.set i r) = true := by
  induction l generalizing i with
  | nil => rfl
  | cons a l ih =>
    unfold bels at h
    obtain ⟨h1, h2⟩ := Bool.and_eq_true_iff.mp h
    cases i with
    | zero => show (r.bel n && bels n l) = true; rw [hr, h2]; rfl
    | succ i => show (a.bel n && bels n (l.set i r)) = true; rw [h1, ih h2]; rfl
theorem isP_bel {r : R} (h : isP r = true) (n : Nat) : r.bel n = true := by
  cases r with
  | p x => unfold R.bel; rfl
  | _ => cases h
/-- a write that the evaluator lets through -/
theorem putC_ok {c : Nat} {o : Ob} {new : List R} {r : R} {st' : Store} (e : putC fl c o new st = .ok r st') : r = .p .non ∧ st' = st.set c o ∧ (c < fl → ∀ x, x ∈ new → isP x = true) := by
  unfold putC at e
  by_cases h : (decide (c < fl) && !(new.all isP)) = true
  · rw [if_pos h] at e; cases e
  · rw [if_neg h] at e
    cases e
    refine ⟨rfl, rfl, fun hc x hx => ?_⟩
    have h2 : new.all isP = true := by
      cases z : new.all isP with
      | true => rfl
      | false => exact absurd (by rw [z]; simp [hc]) h
    exact List.all_eq_true.mp h2 x hx
theorem putC_err {c : Nat} {o : Ob} {new : List R} {x : Exc} {st' : Store} (e : putC fl c o new st = .err x st') : False := by
  unfold putC at e
  split at e <;> cases e
end
end EV
end
section
set_option linter.all false
set_option maxRecDepth 100000
/-! EV, part 10: the checker: that an expression of the language stands for an expression of the text. -/
namespace EV
open PySem PySem.Spec PyProof.Rows L2
def notStar : Expr → Bool
  | .Starred _ _ => false
  | _ => true
def notSet : Expr → Bool
  | .Set _ _ _ => false
  | _ => true
def notSl : Expr → Bool
  | .Slice _ _ _ _ => false
  | _ => true
def notSup : Expr → Bool
  | .Call _ [] [] _ => false
  | _ => true
def nmOk (x : Str) : Bool := !(x == ("__debug__" : Str)) && !(x == ("__classdict__" : Str))
def visB (nm : List (Str × NameKind)) (x : Str) : Bool := match nm.lookup x with
  | some .local => true
  | some .cell => true
  | some .free => true
  | _ => false
def locB (nm : List (Str × NameKind)) (x : Str) : Bool := match nm.lookup x with
  | some .local => true
  | _ => false
def glB (nm : List (Str × NameKind)) (x : Str) : Bool := match nm.lookup x with
  | some .globalImplicit => true
  | _ => false
def conC : P → Const → Bool
  | .non, .none => true
  | .bl a, .bool b => a == b
  | .int i, .int j => decide (i = j)
  | .str x, .str y => decide (y = ⟨x.toArray⟩) && decide (x.length ≤ LINE)
  | _, _ => false
def fnI : GV → Option Nat
  | .fn i => some i
  | _ => none
def clI : GV → Option Nat
  | .cl i => some i
  | _ => none
def isBlt : GV → Bool
  | .blt => true
  | _ => false
def glFn (T : Tab) (x : String) : Option Nat := (T.gl.lookup x).bind fnI
def glCl (T : Tab) (x : String) : Option Nat := (T.gl.lookup x).bind clI
def glBlt (T : Tab) (x : String) : Bool := match T.gl.lookup x with
  | some g => isBlt g
  | none => false
def relN (nm names : List (Str × NameKind)) : List (Str × NameKind) := names.map fun (n, k) => if (k == .free && nm.lookup n == some .cell) then (n, .cell) else (n, k)
section
variable (N : List Str)
/-- a target; b: a cell may be stored to -/
def chkTgs (f : Tg → Expr → Bool) : List Tg → List Expr → Bool
  | [], [] => true
  | t :: ts, e :: es => f t e && notStar e && chkTgs f ts es
  | _, _ => false
def chkTg : Nat → Bool → List (Str × NameKind) → Tg → Expr → Bool
  | 0, _, _, _, _ => false
  | n + 1, b, nm, t, e => match t with
    | .v i => (match e with
      | .Name x _ => decide (N[i]? = some x) && (locB nm x || (b && (match nm.lookup x with
        | some .cell => true
        | _ => false)))
      | _ => false)
    | .t l => (match e with
      | .Tuple es _ _ => chkTgs (chkTg n b nm) l es
      | _ => false)
end
def inB (l : List Nat) (i : Nat) : Bool := l.any fun j => decide (j = i)
mutual
def tgIn (own : List Nat) : Tg → Bool
  | .v i => inB own i
  | .t l => tgsIn own l
def tgsIn (own : List Nat) : List Tg → Bool
  | [] => true
  | t :: l => tgIn own t && tgsIn own l
end
def chkL (f : E → Expr → Bool) : List E → List Expr → Bool
  | [], [] => true
  | a :: l, e :: es => f a e && notStar e && chkL f l es
  | _, _ => false
def chkO (f : E → Expr → Bool) : Option E → Option Expr → Bool
  | none, none => true
  | some a, some e => f a e
  | _, _ => false
/-- the list of a block's own names with their places -/
def ownL (N : List Str) (own : List Nat) : List (Str × Nat) := own.filterMap fun i => (N[i]?).map fun x => (x, i)
def oneIf (f : E → Expr → Bool) : Option E → List Expr → Bool
  | none, [] => true
  | some a, [e] => f a e
  | _, _ => false
section
variable (T : Tab) (N : List Str)
def tyE (nm : List (Str × NameKind)) (t : Ty) (e : Expr) : Bool := match e with
  | .Name x _ => glB nm x && nmOk x && (match t with
    | .int => decide (Str.ofString "int" = x) && glBlt T "int"
    | .bool => decide (Str.ofString "bool" = x) && glBlt T "bool"
    | .str => decide (Str.ofString "str" = x) && glBlt T "str"
    | .list => decide (Str.ofString "list" = x) && glBlt T "list"
    | .tuple => decide (Str.ofString "tuple" = x) && glBlt T "tuple"
    | .own c => (match T.cls[c]? with
      | some C => decide (Str.ofString C.name = x) && decide (glCl T C.name = some c) && decide (C.kind = 0)
      | none => false))
  | _ => false
/-- the name of the f-th def, as the tables have it -/
def fnNm (f : Nat) (x : Str) : Bool := T.gl.any fun q => decide (Str.ofString q.1 = x) && decide (fnI q.2 = some f) && decide (glFn T q.1 = some f)
def mtS (m : Mt) : String := match m with
  | .append => "append"
mutual
def chkE : Nat → List (Str × NameKind) → E → Expr → Bool
  | 0, _, _, _ => false
  | n + 1, nm, e', e => match e' with
    | .var i => (match e with
      | .Name x _ => decide (N[i]? = some x) && visB nm x && nmOk x
      | _ => false)
    | .con c => (match e with
      | .Constant k _ _ => conC c k
      | _ => false)
    | .glo x => (match e with
      | .Name y _ => decide (Str.ofString x = y) && glB nm y && nmOk y
      | _ => false)
    | .bin o a b => (match e with
      | .BinOp l op r _ => decide (bopO o = op) && chkE n nm a l && chkE n nm b r
      | _ => false)
    | .neg a => (match e with
      | .UnaryOp op x _ => decide (op = .USub) && chkE n nm a x
      | _ => false)
    | .cmp o a b => (match e with
      | .Compare l [op] [r] _ => decide (copO o = op) && notSet r && chkE n nm a l && chkE n nm b r
      | _ => false)
    | .chn o o' a b c => (match e with
      | .Compare l [op, op'] [m, r] _ => decide (copO o = op) && decide (copO o' = op') && notSet r && chkE n nm a l && chkE n nm b m && chkE n nm c r
      | _ => false)
    | .and a b => (match e with
      | .BoolOp op (x :: y :: r) pos => decide (op = .And) && chkE n nm a x && (match r with
        | [] => chkE n nm b y
        | _ :: _ => chkE n nm b (.BoolOp .And (y :: r) pos))
      | _ => false)
    | .or a b => (match e with
      | .BoolOp op (x :: y :: r) pos => decide (op = .Or) && chkE n nm a x && (match r with
        | [] => chkE n nm b y
        | _ :: _ => chkE n nm b (.BoolOp .Or (y :: r) pos))
      | _ => false)
    | .nt a => (match e with
      | .UnaryOp op x _ => decide (op = .Not) && chkE n nm a x
      | _ => false)
    | .ite c a b => (match e with
      | .IfExp t x y _ => chkE n nm c t && chkE n nm a x && chkE n nm b y
      | _ => false)
    | .tup l => (match e with
      | .Tuple es _ _ => chkL (chkE n nm) l es
      | _ => false)
    | .lst _ l => (match e with
      | .List es _ => chkL (chkE n nm) l es
      | _ => false)
    | .call f l => (match e with
      | .Call (.Name x _) es [] _ => glB nm x && nmOk x && fnNm T f x && chkL (chkE n nm) l es
      | _ => false)
    | .new c l => (match e with
      | .Call (.Name x _) es [] _ => glB nm x && nmOk x && (match T.cls[c]? with
        | some C => decide (Str.ofString C.name = x) && decide (glCl T C.name = some c) && decide (C.kind = 0)
        | none => false) && chkL (chkE n nm) l es
      | _ => false)
    | .bi b l => (match b, e with
      | .lenset, .Call (.Name x _) [.Call (.Name y _) [a] [] _] [] _ => decide (Str.ofString "len" = x) && decide (Str.ofString "set" = y) && glB nm x && glB nm y && glBlt T "len" && glBlt T "set" && notStar a && (match l with
        | [a'] => chkE n nm a' a
        | _ => false)
      | .lenset, _ => false
      | b, .Call (.Name x _) (a :: es) [] _ => decide (Str.ofString (biN b) = x) && glB nm x && glBlt T (biN b) && chkL (chkE n nm) l (a :: es)
      | _, _ => false)
    | .lstm a => (match e with
      | .Call (.Name x _) [y] [] _ => decide (Str.ofString "list" = x) && glB nm x && glBlt T "list" && notStar y && chkE n nm a y
      | _ => false)
    | .isi a t => (match e with
      | .Call (.Name x _) [y, z] [] _ => decide (Str.ofString "isinstance" = x) && glB nm x && glBlt T "isinstance" && notStar y && chkE n nm a y && tyE T nm t z
      | _ => false)
    | .mt m o l => (match e with
      | .Call (.Attribute x f ap) (y :: es) [] p => decide (Str.ofString (mtS m) = f) && notSup x && (ap.endLine == p.line) && decide ((y :: es).length < 20) && chkE n nm o x && chkL (chkE n nm) l (y :: es)
      | _ => false)
    | .om m o l => (match e with
      | .Call (.Attribute x f ap) es [] p => decide (Str.ofString m = f) && notSup x && (ap.endLine == p.line) && decide (es.length < 20) && chkE n nm o x && chkL (chkE n nm) l es
      | _ => false)
    | .idx a i => (match e with
      | .Subscript x y _ => notSl y && chkE n nm a x && chkE n nm i y
      | _ => false)
    | .slc a lo hi => (match e with
      | .Subscript x (.Slice l h none _) _ => chkE n nm a x && chkO (chkE n nm) lo l && chkO (chkE n nm) hi h
      | _ => false)
    | .fld a f => (match e with
      | .Attribute x g _ => decide (Str.ofString f = g) && notSup x && chkE n nm a x
      | _ => false)
    | .lc _ elt tg it c own => (match e with
      | .ListComp x [⟨t, i, fs, isA⟩] sc _ => tgIn own tg && decide (isA = 0) && decide (sc.kind = .function) && notSet i && chkIt n nm it t i && chkTg N n false (relN nm sc.names) tg t && blkC N ⟨.function, nm, false, false, []⟩ sc (ownL N own) && own.all (fun i => decide (i < N.length)) && chkE n (relN nm sc.names) elt x && oneIf (chkE n (relN nm sc.names)) c fs
      | _ => false)
    | .lc2 _ _ _ _ _ _ _ _ => false
def chkIt : Nat → List (Str × NameKind) → It → Expr → Expr → Bool
  | 0, _, _, _, _ => false
  | n + 1, nm, it, t, e => match it with
    | .seq a => notSet e && chkE n nm a e
    | .rng1 a => (match e with
      | .Call (.Name x _) [y] [] _ => decide (Str.ofString "range" = x) && glB nm x && glBlt T "range" && notStar y && chkE n nm a y
      | _ => false)
    | .rng2 a b => (match e with
      | .Call (.Name x _) [y, z] [] _ => decide (Str.ofString "range" = x) && glB nm x && glBlt T "range" && notStar y && notStar z && chkE n nm a y && chkE n nm b z
      | _ => false)
    | .enum _ => false
    | .zip _ _ => false
end
end
end EV
end
section
set_option linter.all false
set_option maxRecDepth 100000
/-! EV, part 11: what soundness says; runs in a row; what each shape of the text is free of. -/
namespace EV
open PySem PySem.Spec PyProof.Rows L2

/-! ### shapes -/
theorem star_cons {e : Expr} (h : notStar e = true) (es : List Expr) (env : PySem.Env) : starEach (e :: es) env = (false, eval e env) :: starEach es env := by
  cases e <;> first | rfl | cases h
theorem star_any {es : List Expr} (h : es.all notStar = true) (pos : Pos) (env : PySem.Env) : (backTo pos (starEach es env)).any (·.1) = false := by
  induction es with
  | nil => rfl
  | cons e es ih =>
    rw [List.all_cons] at h
    obtain ⟨h1, h2⟩ := Bool.and_eq_true_iff.mp h
    rw [star_cons h1]
    show (false || (backTo pos (starEach es env)).any (·.1)) = false
    rw [ih h2]
    rfl
theorem star_all {es : List Expr} (h : es.all notStar = true) (pos : Pos) (env : PySem.Env) : (backTo pos (starEach es env)).all (fun x => !x.1) = true := by
  induction es with
  | nil => rfl
  | cons e es ih =>
    rw [List.all_cons] at h
    obtain ⟨h1, h2⟩ := Bool.and_eq_true_iff.mp h
    rw [star_cons h1]
    show (true && (backTo pos (starEach es env)).all (fun x => !x.1)) = true
    rw [ih h2]
    rfl
theorem chkL_star {f : E → Expr → Bool} : ∀ {l : List E} {es : List Expr}, chkL f l es = true → es.all notStar = true
  | [], [], _ => rfl
  | [], _ :: _, h => nomatch (show false = true from h)
  | _ :: _, [], h => nomatch (show false = true from h)
  | a :: l, e :: es, h => by
    have h : (f a e && notStar e && chkL f l es) = true := h
    obtain ⟨h1, h2⟩ := Bool.and_eq_true_iff.mp h
    rw [List.all_cons, (Bool.and_eq_true_iff.mp h1).2, chkL_star h2]
    rfl
theorem noset_marks {op : CmpOp} {e : Expr} (h : notSet e = true) : behindInMarks op e = false := by
  cases e <;> first | rfl | cases h
theorem noset_fold {e : Expr} (h : notSet e = true) (env : PySem.Env) : ∀ x, foldedSetIterable e env x = pure x := by
  intro x
  cases e <;> first | rfl | cases h
theorem nosup_base {e : Expr} (h : notSup e = true) (f : Str) (env : PySem.Env) (w : Sem Value) : attributeBase e f env w = w := by
  unfold attributeBase
  split
  · cases h
  · rfl
theorem nosl_ix {e : Expr} (h : notSl e = true) : PlainIx e := by
  intro o i
  cases e <;> first | rfl | cases h

/-! ### an exception, as it lies -/
def XR (K : PySem.W.Frag) (A : Ads) (G : Hp) (x : Exc) (cls : Value) (d : Option Addr) : Prop :=
  cls = .ref (A.CA x.c) ∧ ((x.fs = [] ∧ d = none) ∨ (x.fs ≠ [] ∧ ∃ dd fvs, d = some dd ∧ G dd = some (.xd fvs) ∧ RVf K A G x.fs fvs))

/-! ### what a run promises -/
/-- what is said of a value that came -/
abbrev Rep (α β : Type) := Hp → List Addr → α → β → Prop
def Run {α β : Type} (K : PySem.W.Frag) (A : Ads) (hid : List Addr) (fl : Nat) (H : Hp) (am : List Addr) (st : Store) (E : XK) (rep : Rep α β) (r : Res α) (Q : β → Hp → Prop) : Prop := match r with
  | .ok a st' => ∀ b H' am', Post K A hid fl H am st H' am' st' → rep H' am' a b → Q b H'
  | .err x st' => ∀ cls d H' am', Post K A hid fl H am st H' am' st' → XR K A (Gv H' am' hid) x cls d → E cls d H'
  | .bad => False
section
variable {K : PySem.W.Frag} {A : Ads} {hid : List Addr} {fl : Nat} {H H1 : Hp} {am am1 : List Addr} {st st1 : Store} {E E' : XK} {α β γ δ : Type}
theorem Run.post {rep : Rep α β} {r : Res α} {Q : β → Hp → Prop} (h : Run K A hid fl H am st E rep r Q) (p : Post K A hid fl H am st H1 am1 st1) : Run K A hid fl H1 am1 st1 E rep r Q := by
  cases r with
  | ok a s => exact fun b H' am' p' q => h b H' am' (p.trans p') q
  | err x s => exact fun c d H' am' p' q => h c d H' am' (p.trans p') q
  | bad => exact h
theorem Run.bind {rep : Rep α β} {rep' : Rep γ δ} {r : Res α} {f : α → Store → Res γ} {Q : δ → Hp → Prop} {Q' : β → Hp → Prop} (h : Run K A hid fl H am st E rep' (r.bind f) Q)
    (k : ∀ a st' b H' am', Post K A hid fl H am st H' am' st' → rep H' am' a b → Run K A hid fl H' am' st' E rep' (f a st') Q → Q' b H') : Run K A hid fl H am st E rep r Q' := by
  cases r with
  | ok a s => exact fun b H' am' p q => k a s b H' am' p q (Run.post (r := f a s) h p)
  | err x s => exact h
  | bad => exact h
theorem Run.imp {rep : Rep α β} {r : Res α} {Q Q' : β → Hp → Prop} (h : Run K A hid fl H am st E rep r Q) (k : ∀ b H', Q b H' → Q' b H') (ke : ∀ c d H', E c d H' → E' c d H') : Run K A hid fl H am st E' rep r Q' := by
  cases r with
  | ok a s => exact fun b H' am' p q => k _ _ (h b H' am' p q)
  | err x s => exact fun c d H' am' p q => ke _ _ _ (h c d H' am' p q)
  | bad => exact h
theorem Run.ofO {rep' : Rep γ δ} {o : Option α} {f : α → Store → Res γ} {Q : δ → Hp → Prop} {st2 : Store} (h : Run K A hid fl H am st E rep' ((EV.ofO o st2).bind f) Q) : ∃ a, o = some a ∧ Run K A hid fl H am st E rep' (f a st2) Q := by
  cases o with
  | none => exact False.elim h
  | some a => exact ⟨a, rfl, h⟩
theorem Run.ofO1 {rep : Rep α β} {o : Option α} {Q : β → Hp → Prop} {st2 : Store} (h : Run K A hid fl H am st E rep (EV.ofO o st2) Q) : ∃ a, o = some a ∧ Run K A hid fl H am st E rep (.ok a st2) Q := by
  cases o with
  | none => exact False.elim h
  | some a => exact ⟨a, rfl, h⟩
theorem Run.noErr {rep : Rep α β} {r : Res α} {Q : β → Hp → Prop} (h : Run K A hid fl H am st E rep (EV.noErr r) Q) : Run K A hid fl H am st E' rep r Q := by
  cases r with
  | ok a s => exact h
  | err x s => exact False.elim h
  | bad => exact h
theorem Run.if1 {rep : Rep α β} {c : Prop} [Decidable c] {r : Res α} {Q : β → Hp → Prop} (h : Run K A hid fl H am st E rep (if c then r else .bad) Q) : c ∧ Run K A hid fl H am st E rep r Q := by
  by_cases hc : c
  · rw [if_pos hc] at h; exact ⟨hc, h⟩
  · rw [if_neg hc] at h; exact False.elim h
/-- the reading of one value, of several, of a truth value -/
def rr (K : PySem.W.Frag) (A : Ads) (hid : List Addr) : Rep R V := fun H am r v => RR K A (Gv H am hid) am r v
def rrs (K : PySem.W.Frag) (A : Ads) (hid : List Addr) : Rep (List R) (List V) := fun H am r v => RRs K A (Gv H am hid) am r v
def rid {α : Type} : Rep α α := fun _ _ a b => a = b
theorem Post.le (p : Post K A hid fl H am st H1 am1 st1) : Le (Gv H am hid) (Gv H1 am1 hid) := p.ext.le
theorem Post.fl' (p : Post K A hid fl H am st H1 am1 st1) (h : fl ≤ st.length) : fl ≤ st1.length := Nat.le_trans h p.nn.1
theorem Post.lower {fl' : Nat} (p : Post K A hid fl' H am st H1 am1 st1) (h : fl ≤ fl') : Post K A hid fl H am st H1 am1 st1 := ⟨p.ext, p.sr, p.nn.mono h⟩
end

/-! ### the names -/
def ER (K : PySem.W.Frag) (A : Ads) (G : Hp) (am : List Addr) (env : Env) (σ : L2.St) : Prop :=
  env.length = σ.length ∧ ∀ (i : Nat) (r : R), env[i]? = some (some r) → ∃ v, σ[i]? = some (some v) ∧ RR K A G am r v
section
variable {K : PySem.W.Frag} {A : Ads} {hid : List Addr} {fl : Nat} {H H1 : Hp} {am am1 : List Addr} {st st1 : Store} {env : Env} {σ : L2.St}
theorem ER.post (h : ER K A (Gv H am hid) am env σ) (p : Post K A hid fl H am st H1 am1 st1) : ER K A (Gv H1 am1 hid) am1 env σ :=
  ⟨h.1, fun i r e => let ⟨v, e1, q⟩ := h.2 i r e; ⟨v, e1, p.ext.rr q⟩⟩
end

/-! ### the facts of the program's text -/
def spF (K : PySem.W.Frag) (A : Ads) (c : CF) (f : Nat) : Sp := fun vs H Q E =>
  ∃ args am st hid fl, SR K A hid H am st ∧ RRs K A (Gv H am hid) am args vs ∧ fl ≤ st.length ∧ Run K A hid fl H am st E (rr K A hid) (c f args fl st) Q
/-- the defs that c calls are kept by the code, k levels deep -/
def Calls (P : Program) (w : World) (K : PySem.W.Frag) (mg : Str → Option Value) (base : Heap) (A : Ads) (c : CF) (k : Nat) : Prop :=
  ∀ f, (∀ args fl st, c f args fl st = .bad) ∨ ∃ fd ps, FnOk P w K mg base (L2.CX P w) k (A.FA f) fd ps (spF K A c f) ∧ Binds K fd ps []
structure ClsOk (K : PySem.W.Frag) (A : Ads) (c : Nat) (C : Cl) : Prop where
  cls : Cls K (A.CA c)
  is : ClIs K (A.CA c)
  mak : Mk K (A.CA c) (A.FA C.init)
  flds : ∀ f, f ∈ C.flds → NoAttr K (A.CA c) (Str.ofString f)
structure Facts (T : Tab) (A : Ads) (P : Program) (w : World) (K : PySem.W.Frag) (mg : Str → Option Value) : Prop where
  fn : ∀ x f, glFn T x = some f → mg (Str.ofString x) = some (.ref (A.FA f)) ∧ PySem.W.keepIn K (.ref (A.FA f)) = true
  cl : ∀ x c, glCl T x = some c → mg (Str.ofString x) = some (.ref (A.CA c))
  con : ∀ x y, T.gl.lookup x = some (.con y) → ∃ v u, mg (Str.ofString x) = some u ∧ RelV v u ∧ ∀ G, RV K A G y v
  blt : ∀ x, glBlt T x = true → mg (Str.ofString x) = none
  gd : ∀ j t, T.gds[j]? = some t → GdOk P w K A (A.DA j) t
  cls : ∀ c C, T.cls[c]? = some C → C.kind = 0 → ClsOk K A c C
  meth : ∀ c C m f, T.cls[c]? = some C → C.meths.lookup m = some f → Cls K (A.CA c) ∧ Meth K (A.CA c) (Str.ofString m) (A.FA f)
/-- a body's context -/
structure XOk (X : Cx) (T : Tab) (A : Ads) (c0 c1 : CF) (k : Nat) (W : WX) (nm : List (Str × NameKind)) : Prop where
  calm : X.calm = true
  nd : X.N.Nodup
  nm : X.env.scope.names = nm
  tk : Takes X W
  fa : Facts T A X.prog X.w X.K X.mg
  room : Room k X.A
  call : Calls X.prog X.w X.K X.mg X.base A c0 k
  ini : ∃ j, (j + 1 ≤ k ∨ ∀ f args fl st, c1 f args fl st = .bad) ∧ Calls X.prog X.w X.K X.mg X.base A c1 j

/-! ### wishes -/
def Wh (X : Cx) (e : Expr) : TE := fun σ H Q => ∀ pins s, Inv X pins σ H s → wpAny (model X.prog X.w) X.A (eval e X.env) (EP X pins σ Q) X.xe s
theorem pe_wh (X : Cx) (e : Expr) : PE X e (Wh X e) := ⟨fun pins s σ H Q I h => h pins s I⟩
def Wt (X : Cx) (e : Expr) : TT := fun σ H Q => ∀ pins s, Inv X pins σ H s → wpAny (model X.prog X.w) X.A (isTrue e X.env (eval e X.env)) (TP X pins σ Q) X.xe s
theorem pt_wt (X : Cx) (e : Expr) : PT X e (Wt X e) := ⟨fun pins s σ H Q I h => h pins s I⟩
def Wa (X : Cx) (es : List Expr) : TA := fun σ H Q => ∀ pos pins s, Inv X pins σ H s → wpAny (model X.prog X.w) X.A (spliced (backTo pos (starEach es X.env))) (AP X pins σ Q) X.xe s
theorem pa_wa (X : Cx) (es : List Expr) : PA X es (Wa X es) := ⟨fun pos pins s σ H Q I h => h pos pins s I⟩
def Wo (X : Cx) (e : Option Expr) : TO := fun σ H Q => ∀ pins s, Inv X pins σ H s → wpAny (model X.prog X.w) X.A (evalPart e X.env) (fun u s' => ∃ o H', Inv X pins σ H' s' ∧ IsPart u o ∧ Q o H') X.xe s
theorem po_wo (X : Cx) (e : Option Expr) : PO X e (Wo X e) := ⟨fun pins s σ H Q I h => h pins s I⟩
def Wi (X : Cx) (tg e : Expr) : TI := fun σ H R => ∀ pins s, Inv X pins σ H s → wpAny (model X.prog X.w) X.A (eval e X.env) (fun v s1 => wpAny (model X.prog X.w) X.A (pyIter v) (PIE X pins σ tg R) X.xe s1) X.xe s
theorem pi_wi (X : Cx) (tg e : Expr) : PI X tg e (Wi X tg e) := ⟨fun pins s σ H Q I h => h pins s I⟩
def Wg (X : Cx) (e : Expr) : TG := fun v σ H Q => ∀ pins s u, Inv X pins σ H s → RelV v u → wpAny (model X.prog X.w) X.A (assign e X.env u) (fun _ s' => ∃ σ' H', Inv X pins σ' H' s' ∧ Q σ' H') X.xe s
theorem pg_wg (X : Cx) (e : Expr) : PG X e (Wg X e) := ⟨fun pins s σ H v u Q I r h => h pins s u I r⟩
def Wgs (X : Cx) (es : List Expr) : TGs := fun vs σ H Q => ∀ pins s us, Inv X pins σ H s → Vals vs us → wpAny (model X.prog X.w) X.A (assignInOrder ((assignEach es X.env).map (·.2)) us) (fun _ s' => ∃ σ' H', Inv X pins σ' H' s' ∧ Q σ' H') X.xe s
theorem pgs_wgs (X : Cx) (es : List Expr) : PGs X es (Wgs X es) := ⟨fun pins s σ H vs us Q I r h => h pins s us I r⟩
def rCW (X : Cx) (f : Value) : List V → Hp → VK → Prop := fun xs H Q => ∀ us, Vals xs us → OpW X (call f us) H Q
theorem callW (X : Cx) (f : Value) : CallR X f (rCW X f) := fun pins s σ H xs us Q I rx h => h us rx pins s σ I
theorem Wh.mono {X : Cx} {e : Expr} {σ : L2.St} {H : Hp} {Q Q' : VK} (h : Wh X e σ H Q) (k : ∀ v H', Q v H' → Q' v H') : Wh X e σ H Q' :=
  fun pins s I => thn (h pins s I) fun u s' ⟨v, H', I', r, q⟩ => ⟨v, H', I', r, k _ _ q⟩

/-! ### what is to be shown -/
def SndE (T : Tab) (A : Ads) (c0 c1 : CF) (fl k n : Nat) : Prop :=
  ∀ (X : Cx) (W : WX) (nm : List (Str × NameKind)), XOk X T A c0 c1 k W nm → ∀ (m : Nat) (e' : E) (e : Expr) (env : Env) (σ : L2.St) (H : Hp) (am : List Addr) (st : Store) (hid : List Addr) (Q : VK),
    chkE T X.N m nm e' e = true → SR X.K A hid H am st → ER X.K A (Gv H am hid) am env σ → fl ≤ st.length →
    Run X.K A hid fl H am st (fun c d H' => W c d σ H') (rr X.K A hid) (evE T c0 c1 fl n e' env st) Q → Wh X e σ H Q
def SndT (T : Tab) (A : Ads) (c0 c1 : CF) (fl k n : Nat) : Prop :=
  ∀ (X : Cx) (W : WX) (nm : List (Str × NameKind)), XOk X T A c0 c1 k W nm → ∀ (m : Nat) (e' : E) (e : Expr) (env : Env) (σ : L2.St) (H : Hp) (am : List Addr) (st : Store) (hid : List Addr) (Q : Bool → Hp → Prop),
    chkE T X.N m nm e' e = true → SR X.K A hid H am st → ER X.K A (Gv H am hid) am env σ → fl ≤ st.length →
    Run X.K A hid fl H am st (fun c d H' => W c d σ H') rid (evT T c0 c1 fl n e' env st) Q → Wt X e σ H Q
end EV
end
section
set_option linter.all false
set_option maxRecDepth 100000
/-! EV, part 12: soundness of the expressions' forms, first half. -/
namespace EV
open PySem PySem.Spec PyProof.Rows L2
section
variable {T : Tab} {A : Ads} {c0 c1 : CF} {fl k n : Nat} {X : Cx} {W : WX} {nm : List (Str × NameKind)} {m : Nat} {e : Expr} {env : Env} {σ : L2.St} {H : Hp} {am : List Addr} {st : Store} {hid : List Addr} {Q : VK}
theorem gl_of (ok : XOk X T A c0 c1 k W nm) {x : Str} (h : glB nm x = true) : Gl X x := by
  show X.env.scope.names.lookup x = some .globalImplicit
  rw [ok.nm]
  unfold glB at h
  split at h
  · assumption
  · cases h
theorem vis_of (ok : XOk X T A c0 c1 k W nm) {x : Str} (h : visB nm x = true) : Vis X.env.scope x := by
  unfold Vis
  rw [ok.nm]
  unfold visB at h
  split at h
  · exact .inl (by assumption)
  · exact .inr (.inl (by assumption))
  · exact .inr (.inr (by assumption))
  · cases h
theorem nm_of {x : Str} (h : nmOk x = true) : (x == ("__debug__" : Str)) = false ∧ (x == ("__classdict__" : Str)) = false := by
  unfold nmOk at h
  obtain ⟨h1, h2⟩ := Bool.and_eq_true_iff.mp h
  exact ⟨by simpa using h1, by simpa using h2⟩
theorem fn_name (ok : XOk X T A c0 c1 k W nm) {f : Nat} {x : Str} (h : fnNm T f x = true) : X.mg x = some (.ref (A.FA f)) ∧ PySem.W.keepIn X.K (.ref (A.FA f)) = true := by
  obtain ⟨q, hq, h⟩ := List.any_eq_true.mp h
  simp only [Bool.and_eq_true, decide_eq_true_eq] at h
  rw [← h.1.1]
  exact ok.fa.fn _ _ h.2
theorem off {P : Prop} (h : (false : Bool) = true) : P := absurd h Bool.false_ne_true

section
variable (hE : SndE T A c0 c1 fl k n) (ok : XOk X T A c0 c1 k W nm) (h : SR X.K A hid H am st) (er : ER X.K A (Gv H am hid) am env σ) (hf : fl ≤ st.length)
include hE ok h er hf
theorem snd_args : ∀ {l : List E} {es : List Expr} {H : Hp} {am : List Addr} {st : Store} {Q : List V → Hp → Prop}, SR X.K A hid H am st → ER X.K A (Gv H am hid) am env σ → fl ≤ st.length → chkL (chkE T X.N m nm) l es = true →
    Run X.K A hid fl H am st (fun c d H' => W c d σ H') (rrs X.K A hid) (evEs (evE T c0 c1 fl n) l env st) Q → Wa X es σ H Q
  | [], [], H, am, st, Q, h, er, hf, _, r => fun pos pins s I => pa_nil.run pos pins s σ H Q I (r [] H am (Post.refl h) .nil)
  | [], _ :: _, _, _, _, _, _, _, _, c, _ => off c
  | _ :: _, [], _, _, _, _, _, _, _, c, _ => off c
  | a :: l, e :: es, H, am, st, Q, h, er, hf, c, r => by
    have c : (chkE T X.N m nm a e && notStar e && chkL (chkE T X.N m nm) l es) = true := c
    simp only [Bool.and_eq_true] at c
    intro pos pins s I
    refine (pa_cons (pe_wh X e) (pa_wa X es) (star_cons c.1.2 es _)).run pos pins s σ H Q I ?_
    have r : Run X.K A hid fl H am st (fun c d H' => W c d σ H') (rrs X.K A hid) ((evE T c0 c1 fl n a env st).bind fun v st => (evEs (evE T c0 c1 fl n) l env st).bind fun vs st => .ok (v :: vs) st) Q := r
    refine hE X W nm ok m a e env σ H am st hid _ c.1.1 h er hf (r.bind fun x st1 vx H1 am1 p1 q1 r1 => ?_)
    refine snd_args p1.sr (er.post p1) (p1.fl' hf) c.2 (r1.bind fun xs st2 vxs H2 am2 p2 q2 r2 => ?_)
    exact r2 (vx :: vxs) H2 am2 (Post.refl p2.sr) (.cons (p2.ext.rr q1) q2)
theorem c_var {i : Nat} (c : chkE T X.N (m + 1) nm (.var i) e = true) (r : Run X.K A hid fl H am st (fun c d H' => W c d σ H') (rr X.K A hid) (evE T c0 c1 fl (n + 1) (.var i) env st) Q) : Wh X e σ H Q := by
  cases e with
  | Name x pos =>
    have c : (decide (X.N[i]? = some x) && visB nm x && nmOk x) = true := c
    simp only [Bool.and_eq_true, decide_eq_true_eq] at c
    intro pins s I
    refine (pe_var c.1.1 (vis_of ok c.1.2) (nm_of c.2).1 (nm_of c.2).2).run pins s σ H Q I ?_
    rw [ev_var] at r
    cases e1 : env[i]? with
    | none => rw [e1] at r; exact False.elim r
    | some o =>
      cases o with
      | none => rw [e1] at r; exact False.elim r
      | some x =>
        rw [e1] at r
        obtain ⟨v, e2, q⟩ := er.2 i x e1
        exact ⟨v, e2, r v H am (Post.refl h) q⟩
  | _ => exact off c
theorem c_con {x : P} (c : chkE T X.N (m + 1) nm (.con x) e = true) (r : Run X.K A hid fl H am st (fun c d H' => W c d σ H') (rr X.K A hid) (evE T c0 c1 fl (n + 1) (.con x) env st) Q) : Wh X e σ H Q := by
  cases e with
  | Constant z j pos =>
    have c : conC x z = true := c
    intro pins s I
    cases x <;> cases z <;> first | exact off c | skip
    · exact pe_non.run pins s σ H Q I (r _ H am (Post.refl h) (.p .non))
    · rename_i b b' _
      have c : (b == b') = true := c
      rw [beq_iff_eq.mp c] at r
      exact pe_bl.run pins s σ H Q I (r _ H am (Post.refl h) (.p (.bl _)))
    · rename_i b b' _
      have c : decide (b = b') = true := c
      rw [of_decide_eq_true c] at r
      exact pe_int.run pins s σ H Q I (r _ H am (Post.refl h) (.p (.int _)))
    · rename_i b b' _
      have c : (decide (b' = ⟨b.toArray⟩) && decide (b.length ≤ LINE)) = true := c
      simp only [Bool.and_eq_true, decide_eq_true_eq] at c
      rw [c.1]
      exact pe_str.run pins s σ H Q I (r _ H am (Post.refl h) (.p (.str _ c.2)))
  | _ => exact off c
theorem c_glo {x : String} (c : chkE T X.N (m + 1) nm (.glo x) e = true) (r : Run X.K A hid fl H am st (fun c d H' => W c d σ H') (rr X.K A hid) (evE T c0 c1 fl (n + 1) (.glo x) env st) Q) : Wh X e σ H Q := by
  cases e with
  | Name y pos =>
    have c : (decide (Str.ofString x = y) && glB nm y && nmOk y) = true := c
    simp only [Bool.and_eq_true, decide_eq_true_eq] at c
    obtain ⟨⟨c1, c2⟩, c3⟩ := c
    subst c1
    intro pins s I
    rw [ev_glo] at r
    cases e1 : T.gl.lookup x with
    | none => rw [e1] at r; exact False.elim r
    | some g =>
      cases g with
      | con y =>
        rw [e1] at r
        obtain ⟨v, u, e2, rv, q⟩ := ok.fa.con x y e1
        exact (pe_glob (gl_of ok c2) e2 rv (nm_of c3).1).run pins s σ H Q I (r v H am (Post.refl h) (.p (q _)))
      | _ => rw [e1] at r; exact False.elim r
  | _ => exact off c
theorem c_bin {o : Bop} {a b : E} (c : chkE T X.N (m + 1) nm (.bin o a b) e = true) (r : Run X.K A hid fl H am st (fun c d H' => W c d σ H') (rr X.K A hid) (evE T c0 c1 fl (n + 1) (.bin o a b) env st) Q) : Wh X e σ H Q := by
  cases e with
  | BinOp l op z pos =>
    have c : (decide (bopO o = op) && chkE T X.N m nm a l && chkE T X.N m nm b z) = true := c
    simp only [Bool.and_eq_true, decide_eq_true_eq] at c
    obtain ⟨⟨c1, c2⟩, c3⟩ := c
    subst c1
    intro pins s I
    refine (pe_op (opW X _) (pe_wh X l) (pe_wh X z)).run pins s σ H Q I ?_
    rw [ev_bin] at r
    refine hE X W nm ok m a l env σ H am st hid _ c2 h er hf (r.bind fun x st1 vx H1 am1 p1 q1 r1 => ?_)
    refine hE X W nm ok m b z env σ H1 am1 st1 hid _ c3 p1.sr (er.post p1) (p1.fl' hf) (r1.bind fun y st2 vy H2 am2 p2 q2 r2 => ?_)
    intro v u rv ru
    obtain ⟨zz, e1, r3⟩ := r2.ofO1
    have q1' := p2.ext.rr q1
    unfold binR at e1
    cases q1' with
    | p qx =>
      cases q2 with
      | p qy =>
        dsimp only at e1
        split at e1
        · rename_i hh
          cases e1
          exact binP_ok (fl := fl) p2.sr qx qy hh rv ru fun w H' p q => r3 w H' am2 p (.p q)
        · cases e1
      | _ => cases e1
    | _ => cases e1
  | _ => exact off c
theorem c_neg {a : E} (c : chkE T X.N (m + 1) nm (.neg a) e = true) (r : Run X.K A hid fl H am st (fun c d H' => W c d σ H') (rr X.K A hid) (evE T c0 c1 fl (n + 1) (.neg a) env st) Q) : Wh X e σ H Q := by
  cases e with
  | UnaryOp op z pos =>
    have c : (decide (op = .USub) && chkE T X.N m nm a z) = true := c
    simp only [Bool.and_eq_true, decide_eq_true_eq] at c
    obtain ⟨c1, c2⟩ := c
    subst c1
    intro pins s I
    refine (pe_un un_neg (pe_wh X z)).run pins s σ H Q I ?_
    rw [ev_neg] at r
    refine hE X W nm ok m a z env σ H am st hid _ c2 h er hf (r.bind fun x st1 vx H1 am1 p1 q1 r1 => ?_)
    cases q1 with
    | p q1 =>
      cases q1 with
      | int i => exact ⟨i, rfl, r1 _ H1 am1 (Post.refl p1.sr) (.p (.int _))⟩
      | _ => exact False.elim r1
    | _ => exact False.elim r1
  | _ => exact off c
theorem c_cmp {o : Cop} {a b : E} (c : chkE T X.N (m + 1) nm (.cmp o a b) e = true) (r : Run X.K A hid fl H am st (fun c d H' => W c d σ H') (rr X.K A hid) (evE T c0 c1 fl (n + 1) (.cmp o a b) env st) Q) : Wh X e σ H Q := by
  cases e with
  | Compare l ops zs pos =>
    match ops, zs, c with
    | [op], [z], c =>
      have c : (decide (copO o = op) && notSet z && chkE T X.N m nm a l && chkE T X.N m nm b z) = true := c
      simp only [Bool.and_eq_true, decide_eq_true_eq] at c
      obtain ⟨⟨⟨c1, c4⟩, c2⟩, c3⟩ := c
      subst c1
      intro pins s I
      refine (pe_cmpR (opW X _) (pe_wh X l) (pe_wh X z) (noset_marks c4)).run pins s σ H Q I ?_
      rw [ev_cmp] at r
      refine hE X W nm ok m a l env σ H am st hid _ c2 h er hf (r.bind fun x st1 vx H1 am1 p1 q1 r1 => ?_)
      refine hE X W nm ok m b z env σ H1 am1 st1 hid _ c3 p1.sr (er.post p1) (p1.fl' hf) (r1.bind fun y st2 vy H2 am2 p2 q2 r2 => ?_)
      intro v u rv ru
      obtain ⟨zz, e1, r3⟩ := r2.ofO
      exact cmpR_ok ok.room.units p2.sr (p2.ext.rr q1) q2 e1 rv ru (r3 _ H2 am2 (Post.refl p2.sr) (.p (.bl _)))
    | [], _, c => exact off c
    | [_], [], c => exact off c
    | [_], _ :: _ :: _, c => exact off c
    | _ :: _ :: _, _, c => exact off c
  | _ => exact off c
theorem c_chn {o o' : Cop} {a b d : E} (c : chkE T X.N (m + 1) nm (.chn o o' a b d) e = true) (r : Run X.K A hid fl H am st (fun c d H' => W c d σ H') (rr X.K A hid) (evE T c0 c1 fl (n + 1) (.chn o o' a b d) env st) Q) : Wh X e σ H Q := by
  cases e with
  | Compare l ops zs pos =>
    match ops, zs, c with
    | [op, op'], [y', z], c =>
      have c : (decide (copO o = op) && decide (copO o' = op') && notSet z && chkE T X.N m nm a l && chkE T X.N m nm b y' && chkE T X.N m nm d z) = true := c
      simp only [Bool.and_eq_true, decide_eq_true_eq] at c
      obtain ⟨⟨⟨⟨⟨c1, c1'⟩, c4⟩, c2⟩, c3⟩, c5⟩ := c
      subst c1
      subst c1'
      intro pins s I
      refine (pe_chain (opW X _) (opW X _) (pe_wh X l) (pe_wh X y') (pe_wh X z) (show behindInMarks _ z = false from noset_marks c4)).run pins s σ H Q I ?_
      rw [ev_chn] at r
      refine hE X W nm ok m a l env σ H am st hid _ c2 h er hf (r.bind fun x st1 vx H1 am1 p1 q1 r1 => ?_)
      refine hE X W nm ok m b y' env σ H1 am1 st1 hid _ c3 p1.sr (er.post p1) (p1.fl' hf) (r1.bind fun y st2 vy H2 am2 p2 q2 r2 => ?_)
      intro v u rv ru
      obtain ⟨kk, e1, r3⟩ := r2.ofO
      refine cmpR_ok ok.room.units p2.sr (p2.ext.rr q1) q2 e1 rv ru ⟨kk, rfl, ?_⟩
      cases kk with
      | false => exact r3 _ H2 am2 (Post.refl p2.sr) (.p (.bl _))
      | true =>
        refine hE X W nm ok m d z env σ H2 am2 st2 hid _ c5 p2.sr ((er.post p1).post p2) (p2.fl' (p1.fl' hf)) (Run.bind (r := evE T c0 c1 fl n d env st2) r3 fun w st3 vw H3 am3 p3 q3 r4 => ?_)
        intro v u rv ru
        obtain ⟨zz, e2, r5⟩ := r4.ofO
        exact cmpR_ok ok.room.units p3.sr (p3.ext.rr q2) q3 e2 rv ru (r5 _ H3 am3 (Post.refl p3.sr) (.p (.bl _)))
    | [], _, c => exact off c
    | [_], _, c => exact off c
    | _ :: _ :: _ :: _, _, c => exact off c
    | [_, _], [], c => exact off c
    | [_, _], [_], c => exact off c
    | [_, _], _ :: _ :: _ :: _, c => exact off c
  | _ => exact off c
theorem c_and {a b : E} (c : chkE T X.N (m + 1) nm (.and a b) e = true) (r : Run X.K A hid fl H am st (fun c d H' => W c d σ H') (rr X.K A hid) (evE T c0 c1 fl (n + 1) (.and a b) env st) Q) : Wh X e σ H Q := by
  cases e with
  | BoolOp op zs pos =>
    match zs, c with
    | x :: y :: zs, c =>
      have c : (decide (op = .And) && chkE T X.N m nm a x && (match (generalizing := false) zs with
        | [] => chkE T X.N m nm b y
        | _ :: _ => chkE T X.N m nm b (.BoolOp .And (y :: zs) pos))) = true := c
      simp only [Bool.and_eq_true, decide_eq_true_eq] at c
      obtain ⟨⟨c1, c2⟩, c3⟩ := c
      subst c1
      intro pins s I
      refine (pe_andT (pe_wh X x) (pe_wh X (.BoolOp .And (y :: zs) pos))).run pins s σ H Q I ?_
      rw [ev_and] at r
      refine hE X W nm ok m a x env σ H am st hid _ c2 h er hf (r.bind fun vx st1 ux H1 am1 p1 q1 r1 => ?_)
      obtain ⟨kk, e1, r2⟩ := r1.ofO
      refine ⟨kk, truth_ok p1.sr q1 e1, ?_⟩
      cases kk with
      | false => exact r2 _ H1 am1 (Post.refl p1.sr) q1
      | true =>
        cases zs with
        | nil =>
          have := hE X W nm ok m b y env σ H1 am1 st1 hid _ c3 p1.sr (er.post p1) (p1.fl' hf) r2
          exact fun pins s I => (pe_one (pe_wh X y)).run pins s σ H1 Q I this
        | cons z zs => exact hE X W nm ok m b _ env σ H1 am1 st1 hid _ c3 p1.sr (er.post p1) (p1.fl' hf) r2
    | [], c => exact off c
    | [_], c => exact off c
  | _ => exact off c
theorem c_or {a b : E} (c : chkE T X.N (m + 1) nm (.or a b) e = true) (r : Run X.K A hid fl H am st (fun c d H' => W c d σ H') (rr X.K A hid) (evE T c0 c1 fl (n + 1) (.or a b) env st) Q) : Wh X e σ H Q := by
  cases e with
  | BoolOp op zs pos =>
    match zs, c with
    | x :: y :: zs, c =>
      have c : (decide (op = .Or) && chkE T X.N m nm a x && (match (generalizing := false) zs with
        | [] => chkE T X.N m nm b y
        | _ :: _ => chkE T X.N m nm b (.BoolOp .Or (y :: zs) pos))) = true := c
      simp only [Bool.and_eq_true, decide_eq_true_eq] at c
      obtain ⟨⟨c1, c2⟩, c3⟩ := c
      subst c1
      intro pins s I
      refine (pe_orT (pe_wh X x) (pe_wh X (.BoolOp .Or (y :: zs) pos))).run pins s σ H Q I ?_
      rw [ev_or] at r
      refine hE X W nm ok m a x env σ H am st hid _ c2 h er hf (r.bind fun vx st1 ux H1 am1 p1 q1 r1 => ?_)
      obtain ⟨kk, e1, r2⟩ := r1.ofO
      refine ⟨kk, truth_ok p1.sr q1 e1, ?_⟩
      cases kk with
      | true => exact r2 _ H1 am1 (Post.refl p1.sr) q1
      | false =>
        cases zs with
        | nil =>
          have := hE X W nm ok m b y env σ H1 am1 st1 hid _ c3 p1.sr (er.post p1) (p1.fl' hf) r2
          exact fun pins s I => (pe_one (pe_wh X y)).run pins s σ H1 Q I this
        | cons z zs => exact hE X W nm ok m b _ env σ H1 am1 st1 hid _ c3 p1.sr (er.post p1) (p1.fl' hf) r2
    | [], c => exact off c
    | [_], c => exact off c
  | _ => exact off c
theorem c_nt {a : E} (c : chkE T X.N (m + 1) nm (.nt a) e = true) (r : Run X.K A hid fl H am st (fun c d H' => W c d σ H') (rr X.K A hid) (evE T c0 c1 fl (n + 1) (.nt a) env st) Q) : Wh X e σ H Q := by
  cases e with
  | UnaryOp op z pos =>
    have c : (decide (op = .Not) && chkE T X.N m nm a z) = true := c
    simp only [Bool.and_eq_true, decide_eq_true_eq] at c
    obtain ⟨c1, c2⟩ := c
    subst c1
    intro pins s I
    refine (pe_notT (pe_wh X z)).run pins s σ H Q I ?_
    rw [ev_nt] at r
    refine hE X W nm ok m a z env σ H am st hid _ c2 h er hf (r.bind fun x st1 vx H1 am1 p1 q1 r1 => ?_)
    obtain ⟨kk, e1, r2⟩ := r1.ofO
    exact ⟨kk, truth_ok p1.sr q1 e1, r2 _ H1 am1 (Post.refl p1.sr) (.p (.bl _))⟩
  | _ => exact off c
theorem c_ite (hT : SndT T A c0 c1 fl k n) {t a b : E} (c : chkE T X.N (m + 1) nm (.ite t a b) e = true) (r : Run X.K A hid fl H am st (fun c d H' => W c d σ H') (rr X.K A hid) (evE T c0 c1 fl (n + 1) (.ite t a b) env st) Q) : Wh X e σ H Q := by
  cases e with
  | IfExp t' x y pos =>
    have c : (chkE T X.N m nm t t' && chkE T X.N m nm a x && chkE T X.N m nm b y) = true := c
    simp only [Bool.and_eq_true] at c
    obtain ⟨⟨c1, c2⟩, c3⟩ := c
    intro pins s I
    refine (pe_ifExp (pt_wt X t') (pe_wh X x) (pe_wh X y)).run pins s σ H Q I ?_
    rw [ev_ite] at r
    refine hT X W nm ok m t t' env σ H am st hid _ c1 h er hf (r.bind fun kk st1 ck H1 am1 p1 q1 r1 => ?_)
    cases (show kk = ck from q1)
    cases kk with
    | true => exact hE X W nm ok m a x env σ H1 am1 st1 hid _ c2 p1.sr (er.post p1) (p1.fl' hf) r1
    | false => exact hE X W nm ok m b y env σ H1 am1 st1 hid _ c3 p1.sr (er.post p1) (p1.fl' hf) r1
  | _ => exact off c
theorem c_tup {l : List E} (c : chkE T X.N (m + 1) nm (.tup l) e = true) (r : Run X.K A hid fl H am st (fun c d H' => W c d σ H') (rr X.K A hid) (evE T c0 c1 fl (n + 1) (.tup l) env st) Q) : Wh X e σ H Q := by
  cases e with
  | Tuple es j pos =>
    have c : chkL (chkE T X.N m nm) l es = true := c
    intro pins s I
    refine (pe_tup (pa_wa X es)).run pins s σ H Q I ?_
    rw [ev_tup] at r
    refine snd_args hE ok h er hf h er hf c (r.bind fun xs st1 vs H1 am1 p1 q1 r1 => ?_)
    obtain ⟨hl, r2⟩ := r1.if1
    refine ⟨by rw [← line_eq, ← RRs.length q1]; exact hl, fun p np => ?_⟩
    have pp := p1.sr.laidP (fl := fl) np (.tup vs)
    exact r2 _ _ am1 pp (RR.tup (SqT.of (p1.sr.gvn np _)) (pp.ext.rrs q1))
  | _ => exact off c
theorem c_lst {mu : Bool} {l : List E} (c : chkE T X.N (m + 1) nm (.lst mu l) e = true) (r : Run X.K A hid fl H am st (fun c d H' => W c d σ H') (rr X.K A hid) (evE T c0 c1 fl (n + 1) (.lst mu l) env st) Q) : Wh X e σ H Q := by
  cases e with
  | List es pos =>
    have c : chkL (chkE T X.N m nm) l es = true := c
    intro pins s I
    refine (pe_lst (pa_wa X es)).run pins s σ H Q I ?_
    rw [ev_lst] at r
    refine snd_args hE ok h er hf h er hf c (r.bind fun xs st1 vs H1 am1 p1 q1 r1 => ?_)
    obtain ⟨hl, r2⟩ := r1.if1
    refine ⟨by rw [← line_eq, ← RRs.length q1]; exact hl, fun p np => ?_⟩
    cases mu with
    | true =>
      rw [if_pos rfl] at r2
      have pp := p1.sr.cell (fl := fl) np (.lst vs) (.lst xs) trivial ⟨vs, upd_same, RRs.mono (Ext.le (p1.sr.cellE np (.lst vs))) (Ext.at (p1.sr.cellE np (.lst vs))) q1⟩
      exact r2 _ _ _ pp (.cell (by rw [← p1.sr.len]; simp))
    | false =>
      rw [if_neg Bool.false_ne_true] at r2
      obtain ⟨ps, e1, r3⟩ := r2.ofO
      have pp := p1.sr.laidP (fl := fl) np (.lst vs)
      exact r3 _ _ am1 pp (.p (.lst (SqL.of (p1.sr.gvn np _)) ((pp.ext.rrs q1).toPs e1)))
  | _ => exact off c
end
end
end EV
end
section
set_option linter.all false
set_option maxRecDepth 100000
/-! EV, part 13: soundness of the expressions' forms: calls, items, fields. -/
namespace EV
open PySem PySem.Spec PyProof.Rows L2
section
variable {T : Tab} {A : Ads} {c0 c1 : CF} {fl k n : Nat} {X : Cx} {W : WX} {nm : List (Str × NameKind)} {m : Nat} {e : Expr} {env : Env} {σ : L2.St} {H : Hp} {am : List Addr} {st : Store} {hid : List Addr} {Q : VK} {pins : List (Addr × Obj)} {s : Shared}
/-- a def's call, its arguments there -/
theorem run_c {f : Nat} {vs : List V} {us : List Value} (ok : XOk X T A c0 c1 k W nm) (I : Inv X pins σ H s) (rv : Vals vs us) (h : spF X.K A c0 f vs H Q (L2.WE W σ)) : wpAny (model X.prog X.w) X.A (call (.ref (A.FA f)) us) (EP X pins σ Q) X.xe s := by
  rcases ok.call f with hb | ⟨fd, ps, F, hB⟩
  · obtain ⟨args, am, st, hid, fl, _, _, _, r⟩ := h
    rw [hb] at r
    exact False.elim r
  · exact run_fnS F ok.room hB (passAt ok.tk σ) I rv h
theorem run_makeS {C f : Addr} {fd : FuncData} {ps : List Str} {sp : Sp} {us : List Value} {vs : List V} {E : XK} (M : Mk X.K C f) (F : FnOk X.prog X.w X.K X.mg X.base (L2.CX X.prog X.w) k f fd ps sp) (hr : Room (k + 1) X.A) (hb : Binds X.K fd ps [])
    (hx : PassesAt (L2.CX X.prog X.w) X σ E) (I : Inv X pins σ H s) (r : Vals vs us)
    (h : ∀ x dx, H x = none → H dx = none → dx ≠ x → sp (.ref x :: vs) (upd (upd H dx (.own x)) x (.ins C dx [])) (fun v H2 => v = .non ∧ Q (.ref x) H2) E) :
    wpAny (model X.prog X.w) X.A (call (.ref C) us) (EP X pins σ Q) X.xe s := by
  have hq := h (s.heap.objs.size + 1) s.heap.objs.size (I.hok.fresh (Nat.le_succ _)) (I.hok.fresh (Nat.le_refl _)) (Nat.ne_of_lt (Nat.lt_succ_self _))
  have I2 := Inv.made (C := C) I
  have r2 : Vals (V.ref (s.heap.objs.size + 1) :: vs) (Value.ref (s.heap.objs.size + 1) :: us) := .cons rfl r
  have hl : (Value.ref (s.heap.objs.size + 1) :: us).length = ps.length := by
    have e := r2.length
    rw [F.len _ _ _ _ hq] at e
    exact e.symm
  have hb' := hb _ (Value.ref (s.heap.objs.size + 1) :: us) I2.kIn (by rw [List.append_nil]; exact hl)
  rw [List.append_nil] at hb'
  refine wpAny_call (make_map (f := f) I.kIn M.makes M.init (beq_iff_eq.mp M.fn) (codeAny_mono (F.run _ X.stack _ _ ⟨Value.ref (s.heap.objs.size + 1) :: us, []⟩ (Value.ref (s.heap.objs.size + 1) :: us) _ _ E (hr.make C us [])
    (I2.env0.make C us []) hb' r2 hq) fun r s' hq' => ?_))
  cases r with
  | error e => exact hx pins _ _ e s' I2 hq'
  | ok fl =>
    cases fl with
    | ret u =>
      obtain ⟨v, H', I3, rv, ev, q3⟩ := I2.after hq'
      subst ev
      exact ⟨rv, ⟨V.ref (s.heap.objs.size + 1), H', I3, rfl, q3⟩⟩
    | next => exact False.elim hq'
    | brk => exact False.elim hq'
    | cont => exact False.elim hq'
theorem own_meth {env : PySem.Env} {o : Expr} {mm : Str} {apos pos : Pos} {es : List Expr} {Q : Value → Shared → Prop} {M : Model} {AA : Around} {E : Value → Shared → Prop} (hbase : attributeBase o mm env (eval o env) = eval o env) (hst : es.all notStar = true) (hlen : es.length < 20) (hline : (apos.endLine == pos.line) = true)
    (h : wpAny M AA (eval o env) (fun ov s₁ => wpAny M AA (getMethod ov mm (do return (← importBound o env).getD true)) (fun fx s₂ => wpAny M AA (callWith pos fx.1 fx.2 (backTo pos (starEach es env)) []) Q E s₂) E s₁) E s) :
    wpAny M AA (eval (.Call (.Attribute o mm apos) es [] pos) env) Q E s := by
  rw [arm_eval_Call, hbase]
  refine wpAny_bind (wpAny_mono h (fun ov s₁ h₁ => ?_) fun _ _ e => e)
  refine wpAny_bind (wpAny_standAt ?_)
  have hform : methodCallForm (es.length + ([] : List Keyword).length) (backTo pos (starEach es env)) (backToKw pos (keywordEach [] env)) = true := by
    show ((backTo pos (starEach es env)).all (fun x => !x.1) && true && decide (es.length + 0 + 0 < 30)) = true
    rw [star_all hst]
    simp; omega
  have hpos : methodCallPos true o env apos pos = pure pos := by unfold methodCallPos; simp [hline]
  unfold methodCall
  rw [hform]
  refine wpAny_bind (wpAny_holding (wpAny_mono h₁ (fun fx s2 h2 => ?_) fun _ _ e => e))
  exact wpAny_bind (wpAny_of_eq hpos h2)
section
variable (hE : SndE T A c0 c1 fl k n) (ok : XOk X T A c0 c1 k W nm) (h : SR X.K A hid H am st) (er : ER X.K A (Gv H am hid) am env σ) (hf : fl ≤ st.length)
include hE ok h er hf
theorem c_call {f : Nat} {l : List E} (c : chkE T X.N (m + 1) nm (.call f l) e = true) (r : Run X.K A hid fl H am st (fun c d H' => W c d σ H') (rr X.K A hid) (evE T c0 c1 fl (n + 1) (.call f l) env st) Q) : Wh X e σ H Q := by
  cases e with
  | Call fn es kw pos =>
    match fn, kw, c with
    | .Name x p, [], c =>
      have c : (glB nm x && nmOk x && fnNm T f x && chkL (chkE T X.N m nm) l es) = true := c
      simp only [Bool.and_eq_true] at c
      obtain ⟨⟨⟨c1, c2⟩, c3⟩, c4⟩ := c
      obtain ⟨hm, hk⟩ := fn_name ok c3
      intro pins s I
      refine wpAny_Call_Name_kw (ld_glob I (gl_of ok c1) hm ?_ (nm_of c2).1)
      rw [ev_call] at r
      cases es with
      | nil =>
        cases l with
        | nil => exact PySem.W.callWith_K0 I.kIn hk (run_c (us := []) ok I .nil ⟨[], am, st, hid, fl, h, .nil, hf, r⟩)
        | cons a l => exact off c4
      | cons e es =>
        have hst := chkL_star c4
        rw [List.all_cons] at hst
        obtain ⟨s1, s2⟩ := Bool.and_eq_true_iff.mp hst
        have := snd_args hE ok h er hf h er hf c4 (r.bind (Q' := fun vs H1 => spF X.K A c0 f vs H1 Q (L2.WE W σ)) fun xs st1 vs H1 am1 p1 q1 r1 => ⟨xs, am1, st1, hid, fl, p1.sr, q1, p1.fl' hf, r1⟩)
        refine PySem.W.callWith_K (h₀ := X.base) I.ok.mod.kin hk (thn ((pa_wa X (e :: es)).run pos pins s σ H _ I this) fun us s1 ⟨vs, H1, I1, rv, q⟩ => ⟨I1.kIn, ?_⟩) (star_cons s1 es _) (star_any s2 _ _)
        exact run_c ok I1 rv q
    | .Name x p, _ :: _, c => exact off c
  | _ => exact off c
theorem c_new {cc : Nat} {l : List E} (c : chkE T X.N (m + 1) nm (.new cc l) e = true) (r : Run X.K A hid fl H am st (fun c d H' => W c d σ H') (rr X.K A hid) (evE T c0 c1 fl (n + 1) (.new cc l) env st) Q) : Wh X e σ H Q := by
  cases e with
  | Call fn es kw pos =>
    match fn, kw, c with
    | .Name x p, [], c =>
      have c : (glB nm x && nmOk x && (match T.cls[cc]? with
        | some C => decide (Str.ofString C.name = x) && decide (glCl T C.name = some cc) && decide (C.kind = 0)
        | none => false) && chkL (chkE T X.N m nm) l es) = true := c
      rw [ev_new] at r
      cases eC : T.cls[cc]? with
      | none => rw [eC] at c; simp only [Bool.and_eq_true] at c; exact off c.1.2
      | some C =>
        simp only [eC] at c
        have r : Run X.K A hid fl H am st (fun c d H' => W c d σ H') (rr X.K A hid) ((evEs (evE T c0 c1 fl n) l env st).bind fun vs st => (c1 C.init (.cell st.length :: vs) st.length (st ++ [.ins cc []])).bind fun v st' => newR C st v st') Q := by rw [eC] at r; exact r
        simp only [Bool.and_eq_true, decide_eq_true_eq] at c
        obtain ⟨⟨⟨d1, d2⟩, ⟨d3, d3'⟩, d3''⟩, c4⟩ := c
        subst d3
        have hm := ok.fa.cl _ _ d3'
        have co := ok.fa.cls _ _ eC d3''
        intro pins s I
        refine wpAny_Call_Name_kw (ld_glob I (gl_of ok d1) hm ?_ (nm_of d2).1)
        -- the call, the arguments there
        obtain ⟨j, hj, hc⟩ := ok.ini
        have fin : ∀ (xs : List R) (st1 : Store) (vs : List V) (H1 : Hp) (am1 : List Addr), SR X.K A hid H1 am1 st1 → RRs X.K A (Gv H1 am1 hid) am1 xs vs → fl ≤ st1.length →
            Run X.K A hid fl H1 am1 st1 (fun c d H' => W c d σ H') (rr X.K A hid) ((c1 C.init (.cell st1.length :: xs) st1.length (st1 ++ [.ins cc []])).bind fun v st' => newR C st1 v st') Q →
            ∀ (us : List Value) (s1 : Shared), Inv X pins σ H1 s1 → Vals vs us → wpAny (model X.prog X.w) X.A (call (.ref (A.CA cc)) us) (EP X pins σ Q) X.xe s1 := by
          intro xs st1 vs H1 am1 h1 q1 hf1 r1 us s1 I1 rv
          have spp : ∀ x dx, H1 x = none → H1 dx = none → dx ≠ x → spF X.K A c1 C.init (.ref x :: vs) (upd (upd H1 dx (.own x)) x (.ins (A.CA cc) dx [])) (fun v H2 => v = .non ∧ Q (.ref x) H2) (L2.WE W σ) := by
            intro x dx nx nd ne
            have p1 := h1.laidP (fl := st1.length) nd (.own x)
            have nx' : upd H1 dx (.own x) x = none := by rw [upd_ne (Ne.symm ne)]; exact nx
            have p2 := p1.sr.cell (fl := st1.length) nx' (.ins (A.CA cc) dx []) (.ins cc []) trivial ⟨dx, [], upd_same, .nil, fun q hq => nomatch hq⟩
            have p12 := p1.trans p2
            have ea : (am1 ++ [x])[st1.length]? = some x := by rw [← h1.len]; simp
            refine ⟨.cell st1.length :: xs, _, _, hid, st1.length, p12.sr, .cons (.cell ea) (p12.ext.rrs q1), by simp, ?_⟩
            cases ec : c1 C.init (.cell st1.length :: xs) st1.length (st1 ++ [.ins cc []]) with
            | bad => rw [ec] at r1; exact False.elim r1
            | err xx st' =>
              rw [ec] at r1
              exact fun cls d H' am' p q => r1 cls d H' am' ((p12.trans p).lower hf1) q
            | ok v st' =>
              rw [ec] at r1
              intro b H' am' p q
              have pall := p12.trans p
              cases v with
              | p v =>
                cases v with
                | non =>
                  cases q with
                  | p q =>
                    cases q
                    refine ⟨rfl, ?_⟩
                    have r1 : Run X.K A hid fl H1 am1 st1 (fun c d H' => W c d σ H') (rr X.K A hid) (if C.fz then (match frz st1.length st' 6 (.cell st1.length) with
                        | some x => Res.ok (R.p x) (st'.take st1.length)
                        | none => .bad) else .ok (.cell st1.length) st') Q := r1
                    by_cases hz : C.fz = true
                    · rw [if_pos hz] at r1
                      cases ez : frz st1.length st' 6 (.cell st1.length) with
                      | none => rw [ez] at r1; exact False.elim r1
                      | some z =>
                        rw [ez] at r1
                        have qz := frz_ok pall.sr st1.length 6 (.cell st1.length) (.ref x) z (.cell (pre_get p.ext.pre _ _ ea)) ez
                        have tk : am'.take st1.length = am1 := by rw [← h1.len]; exact take_pre pall.ext.pre
                        rw [tk] at qz
                        exact r1 _ H' am1 (Post.trunc h1 pall hf1) (.p qz)
                    · rw [if_neg hz] at r1
                      exact r1 _ H' am' (pall.lower hf1) (.cell (pre_get p.ext.pre _ _ ea))
                | _ => exact False.elim r1
              | _ => exact False.elim r1
          rcases hc C.init with hb | ⟨fd, ps, F, hB⟩
          · exfalso
            rw [hb] at r1
            exact r1
          · rcases hj with hj | hb
            · exact run_makeS co.mak (F.mono (Nat.le_refl j)) (ok.room.mono hj) hB (passAt ok.tk σ) I1 rv spp
            · exfalso
              rw [hb] at r1
              exact r1
        cases es with
        | nil =>
          cases l with
          | nil => exact PySem.W.callWith_K0 I.kIn co.mak.kp (fin [] st [] H am h .nil hf r [] s I .nil)
          | cons a l => exact off c4
        | cons e es =>
          have hst := chkL_star c4
          rw [List.all_cons] at hst
          obtain ⟨s1, s2⟩ := Bool.and_eq_true_iff.mp hst
          have := snd_args hE ok h er hf h er hf c4 (r.bind (Q' := fun vs H1 => ∃ xs st1 am1, SR X.K A hid H1 am1 st1 ∧ RRs X.K A (Gv H1 am1 hid) am1 xs vs ∧ fl ≤ st1.length ∧
            Run X.K A hid fl H1 am1 st1 (fun c d H' => W c d σ H') (rr X.K A hid) ((c1 C.init (.cell st1.length :: xs) st1.length (st1 ++ [.ins cc []])).bind fun v st' => newR C st1 v st') Q) fun xs st1 vs H1 am1 p1 q1 r1 => ⟨xs, st1, am1, p1.sr, q1, p1.fl' hf, r1⟩)
          refine PySem.W.callWith_K (h₀ := X.base) I.ok.mod.kin co.mak.kp (thn ((pa_wa X (e :: es)).run pos pins s σ H _ I this) fun us s1 ⟨vs, H1, I1, rv, xs, st1, am1, g1, g2, g3, g4⟩ => ⟨I1.kIn, ?_⟩) (star_cons s1 es _) (star_any s2 _ _)
          exact fin xs st1 vs H1 am1 g1 g2 g3 g4 us s1 I1 rv
    | .Name x p, _ :: _, c => exact off c
  | _ => exact off c
end
end
end EV
end
section
set_option linter.all false
set_option maxRecDepth 100000
/-! EV, part 14: soundness of the expressions' forms: built-in functions, methods, items, fields. -/
namespace EV
open PySem PySem.Spec PyProof.Rows L2
section
variable {T : Tab} {A : Ads} {c0 c1 : CF} {fl k n : Nat} {X : Cx} {W : WX} {nm : List (Str × NameKind)} {m : Nat} {e : Expr} {env : Env} {σ : L2.St} {H : Hp} {am : List Addr} {st : Store} {hid : List Addr} {Q : VK} {pins : List (Addr × Obj)} {s : Shared}
theorem blt_of (ok : XOk X T A c0 c1 k W nm) {x : String} (h : glBlt T x = true) : X.mg (Str.ofString x) = none := ok.fa.blt x h
/-- T(..) or f(..), built in -/
theorem tyR_ok {x : R} {v : V} {t : String} (h : SR X.K A hid H am st) (q : RR X.K A (Gv H am hid) am x v) (e : tyR x st = some t) : tyV X.K t v H := by
  cases q with
  | p q =>
    cases q with
    | str y hl => cases e; rfl
    | int i => cases e; rfl
    | lst q1 q2 => cases e; exact .inl ⟨rfl, _, sq_gv_L q1⟩
    | _ => cases e
  | @cell c a q =>
    unfold tyR at e
    cases eo : st[c]? with
    | none => simp only [eo] at e; cases e
    | some o =>
      simp only [eo] at e
      have qo := h.ob c a o q eo
      cases o with
      | lst l => cases e; obtain ⟨vs, q1, _⟩ := qo; exact .inl ⟨rfl, _, SqL.of q1⟩
      | dK l => cases e; obtain ⟨vs, q1, _⟩ := qo; exact .inr (.inr (.inl ⟨rfl, .inl ⟨_, q1⟩⟩))
      | dT l => cases e; obtain ⟨vs, q1, _⟩ := qo; exact .inr (.inr (.inl ⟨rfl, .inr ⟨_, q1⟩⟩))
      | ins c l => cases e
  | tupc q z => cases e
theorem pe_callBi {b : Bi} (hb : b ≠ .lenset) {x : Str} {p pos : Pos} {e : Expr} {es : List Expr} {t : TA} (hx : Str.ofString (biN b) = x) (hg : Gl X x) (hm : X.mg x = none) (ha : PA X (e :: es) t) (hst : (e :: es).all notStar = true) :
    PE X (.Call (.Name x p) (e :: es) [] pos) (tCB (rCW X (biF b)) t) := by
  rw [List.all_cons] at hst
  obtain ⟨s1, s2⟩ := Bool.and_eq_true_iff.mp hst
  have hv := biF_boot b hb
  have h1 := (biN_ok b).1
  have h2 := (biN_ok b).2
  rw [hx] at hv h1 h2
  cases b <;> first
    | exact absurd rfl hb
    | exact pe_callB (callW X _) hg hm hv ha h1 h2 (star_cons s1 es _) (star_any s2 _ _)
    | exact pe_callTy (callW X _) hg hm hv ha h1 h2 (star_cons s1 es _) (star_any s2 _ _)
theorem bi_inv {b : Bi} {l : List E} {e : Expr} (c : chkE T X.N (m + 1) nm (.bi b l) e = true) :
    (b = .lenset ∧ ∃ x p y p2 a q pos a', e = .Call (.Name x p) [.Call (.Name y p2) [a] [] q] [] pos ∧ l = [a'] ∧ Str.ofString "len" = x ∧ Str.ofString "set" = y ∧ glB nm x = true ∧ glB nm y = true ∧ glBlt T "len" = true ∧ glBlt T "set" = true ∧ notStar a = true ∧ chkE T X.N m nm a' a = true) ∨
    (b ≠ .lenset ∧ ∃ x p a es pos, e = .Call (.Name x p) (a :: es) [] pos ∧ (decide (Str.ofString (biN b) = x) && glB nm x && glBlt T (biN b) && chkL (chkE T X.N m nm) l (a :: es)) = true) := by
  unfold chkE at c
  dsimp only at c
  split at c
  · left
    simp only [Bool.and_eq_true, decide_eq_true_eq] at c
    obtain ⟨⟨⟨⟨⟨⟨⟨d1, d2⟩, d3⟩, d4⟩, d5⟩, d6⟩, d7⟩, d8⟩ := c
    split at d8
    · exact ⟨rfl, _, _, _, _, _, _, _, _, rfl, rfl, d1, d2, d3, d4, d5, d6, d7, d8⟩
    · cases d8
  · cases c
  · right
    rename_i hb
    exact ⟨fun e => by subst e; exact hb rfl, _, _, _, _, _, rfl, c⟩
  · cases c
section
variable (hE : SndE T A c0 c1 fl k n) (ok : XOk X T A c0 c1 k W nm) (h : SR X.K A hid H am st) (er : ER X.K A (Gv H am hid) am env σ) (hf : fl ≤ st.length)
include hE ok h er hf
theorem c_bi0 {b : Bi} (hb : b ≠ .lenset) {l : List E} {x : Str} {p pos : Pos} {a : Expr} {es : List Expr} (c : (decide (Str.ofString (biN b) = x) && glB nm x && glBlt T (biN b) && chkL (chkE T X.N m nm) l (a :: es)) = true)
    (r : Run X.K A hid fl H am st (fun c d H' => W c d σ H') (rr X.K A hid) (evE T c0 c1 fl (n + 1) (.bi b l) env st) Q) : Wh X (.Call (.Name x p) (a :: es) [] pos) σ H Q := by
  simp only [Bool.and_eq_true, decide_eq_true_eq] at c
  obtain ⟨⟨⟨d1, d2⟩, d3⟩, d4⟩ := c
  intro pins s I
  refine (pe_callBi hb d1 (gl_of ok d2) (by rw [← d1]; exact blt_of ok d3) (pa_wa X (a :: es)) (chkL_star d4)).run pins s σ H Q I ?_
  rw [ev_bi] at r
  refine snd_args hE ok h er hf h er hf d4 (r.bind fun xs st1 vs H1 am1 p1 q1 r1 => ?_)
  intro us rv
  obtain ⟨z, e1, r2⟩ := r1.ofO1
  exact bi_ok (fl := fl) ok.calm p1.sr q1 e1 hb rv fun u H' p q => r2 u H' am1 p q
theorem c_lenset {x : Str} {p : Pos} {y : Str} {p2 : Pos} {a : Expr} {q pos : Pos} {a' : E} (d1 : Str.ofString "len" = x) (d2 : Str.ofString "set" = y) (d3 : glB nm x = true) (d4 : glB nm y = true) (d5 : glBlt T "len" = true) (d6 : glBlt T "set" = true) (d7 : notStar a = true) (d8 : chkE T X.N m nm a' a = true)
    (r : Run X.K A hid fl H am st (fun c d H' => W c d σ H') (rr X.K A hid) (evE T c0 c1 fl (n + 1) (.bi .lenset [a']) env st) Q) : Wh X (.Call (.Name x p) [.Call (.Name y p2) [a] [] q] [] pos) σ H Q := by
  subst d1
  subst d2
  have hm1 := blt_of ok d5
  have hm2 := blt_of ok d6
  intro pins s I
  refine Call_ (ld_blt I (gl_of ok d3) hm1 boot_len ?_)
  refine PyProof.Rows.callWith_builtin1 (PyProof.Rows.args_cons ?_ rfl) rfl rfl
  refine Call_ (ld_blt I (gl_of ok d4) hm2 boot_set ?_)
  rw [ev_bi] at r
  have r : Run X.K A hid fl H am st (fun c d H' => W c d σ H') (rr X.K A hid) ((evE T c0 c1 fl n a' env st).bind fun v st => ofO (biR .lenset [v] st) st) Q := by
    have e0 : ∀ r0 : Res R, ((r0.bind fun v st => Res.bind (.ok [] st) fun vs st => .ok (v :: vs) st).bind fun vs st => ofO (biR .lenset vs st) st) = (r0.bind fun v st => ofO (biR .lenset [v] st) st) := by
      intro r0; cases r0 <;> rfl
    rw [← e0]; exact r
  have := hE X W nm ok m a' a env σ H am st hid _ d8 h er hf (r.bind (Q' := fun vx H1 => ∃ x st1 am1, SR X.K A hid H1 am1 st1 ∧ RR X.K A (Gv H1 am1 hid) am1 x vx ∧ Run X.K A hid fl H1 am1 st1 (fun c d H' => W c d σ H') (rr X.K A hid) (ofO (biR .lenset [x] st1) st1) Q) fun x st1 vx H1 am1 p1 q1 r1 => ⟨x, st1, am1, p1.sr, q1, r1⟩)
  refine PyProof.Rows.callWith_type1 (PyProof.Rows.args_cons (thn (this pins s I) fun v s1 ⟨vx, H1, I1, rv, x, st1, am1, g1, g2, g3⟩ => PyProof.Rows.args_nil ?_) (star_cons d7 [] _)) (star_cons d7 [] _) rfl
  obtain ⟨z, ez, r2⟩ := g3.ofO1
  have ez : (match (lstR x st1).bind strsR with
    | some l => if l.length < 4000 then some (R.p (.int (distinct l).length)) else none
    | none => none) = some z := ez
  cases eb : (lstR x st1).bind strsR with
  | none => rw [eb] at ez; cases ez
  | some l =>
    rw [eb] at ez
    dsimp only at ez
    by_cases hl : l.length < 4000
    · rw [if_pos hl] at ez
      cases ez
      obtain ⟨l', e3, e4⟩ := bind_ex eb
      obtain ⟨la, ws, rfl, hs, qq⟩ := lstR_ok g1 g2 e3
      have ews := strs_ok e4 qq
      cases rv
      obtain ⟨its, rits, pl, hz⟩ := I1.list hs
      rw [ews] at rits
      have rits' : Vals ((l.map fun x => (⟨x.toArray⟩ : Str)).map V.str) its := by rw [List.map_map]; exact rits
      have hlen : (l.map fun x => (⟨x.toArray⟩ : Str)).length = its.length := by have := rits'.length; simpa using this
      refine call_set_tx (I1.ok.hd ok.calm) pl.isList (xs := l.map fun x => (⟨x.toArray⟩ : Str)) (by simpa using strsAre_of rits') (by rw [List.length_map]; unfold scanBound; omega) fun h' tk hS hk => ?_
      refine PyProof.Rows.args_nil ?_
      have hsz : its.toArray.size = (l.map fun x => (⟨x.toArray⟩ : Str)).length := by rw [List.size_toArray, hlen]
      rw [hsz] at hS
      have I2 : Inv X pins σ H1 { s1 with heap := h', toks := tk } := I1.kept fun b o e => hk b o (Heap.lt_size e) e
      have hd : dN (l.map fun x => (⟨x.toArray⟩ : Str)) (l.map fun x => (⟨x.toArray⟩ : Str)).length = (distinct l).length := by
        unfold dN
        rw [List.take_length, distinct_map (fun a b e => toArray_inj e), List.length_map]
      obtain ⟨o, es, ep, t, ho, hex, hdd, _, _, _, hff, hn⟩ := hS
      refine call_len_set ho hex hdd hff (by rw [hn, hd]; have := distinct_le l; omega) ⟨.int (distinct l).length, H1, I2.tok _, ⟨_, by rw [hn, hd]⟩, r2 _ H1 am1 (Post.refl g1) (.p (.int _))⟩
    · rw [if_neg hl] at ez; cases ez
theorem c_bi {b : Bi} {l : List E} (c : chkE T X.N (m + 1) nm (.bi b l) e = true) (r : Run X.K A hid fl H am st (fun c d H' => W c d σ H') (rr X.K A hid) (evE T c0 c1 fl (n + 1) (.bi b l) env st) Q) : Wh X e σ H Q := by
  rcases bi_inv c with ⟨rfl, x, p, y, p2, a, q, pos, a', rfl, rfl, d1, d2, d3, d4, d5, d6, d7, d8⟩ | ⟨hb, x, p, a, es, pos, rfl, d⟩
  · exact c_lenset hE ok h er hf d1 d2 d3 d4 d5 d6 d7 d8 r
  · exact c_bi0 hE ok h er hf hb d r
theorem c_lstm {a : E} (c : chkE T X.N (m + 1) nm (.lstm a) e = true) (r : Run X.K A hid fl H am st (fun c d H' => W c d σ H') (rr X.K A hid) (evE T c0 c1 fl (n + 1) (.lstm a) env st) Q) : Wh X e σ H Q := by
  unfold chkE at c
  dsimp only at c
  split at c
  · rename_i x p y pos
    simp only [Bool.and_eq_true, decide_eq_true_eq] at c
    obtain ⟨⟨⟨⟨d1, d2⟩, d3⟩, d4⟩, d5⟩ := c
    subst d1
    intro pins s I
    refine (pe_callTy call_list_of (gl_of ok d2) (blt_of ok d3) (biF_boot .list (by decide)) (pa_cons (pe_wh X y) pa_nil (star_cons d4 [] _)) (biN_ok .list).1 (biN_ok .list).2 (star_cons d4 [] _) rfl).run pins s σ H Q I ?_
    rw [ev_lstm] at r
    refine hE X W nm ok m a y env σ H am st hid _ d5 h er hf (r.bind fun x st1 vx H1 am1 p1 q1 r1 => ?_)
    unfold thawR at r1
    cases es : seqR x st1 with
    | none => rw [es] at r1; exact False.elim r1
    | some l =>
      rw [es] at r1
      obtain ⟨la, ws, rfl, hs, qq⟩ := seqR_ok p1.sr q1 es
      refine ⟨la, ws, rfl, hs, fun p np => ?_⟩
      have pp := p1.sr.cell (fl := fl) np (.lst ws) (.lst l) trivial ⟨ws, upd_same, RRs.mono (Ext.le (p1.sr.cellE np (.lst ws))) (Ext.at (p1.sr.cellE np (.lst ws))) qq⟩
      exact r1 _ _ _ pp (.cell (by rw [← p1.sr.len]; simp))
  · exact off c
theorem ty_ok {t : Ty} {z : Expr} (c : tyE T nm t z = true) : PE X z (tC (tyVal A t)) ∧ ∀ d, t = .own d → Cls X.K (A.CA d) ∧ ClIs X.K (A.CA d) := by
  cases z with
  | Name x pos =>
    have c : (glB nm x && nmOk x && (match (generalizing := false) t with
    | .int => decide (Str.ofString "int" = x) && glBlt T "int"
    | .bool => decide (Str.ofString "bool" = x) && glBlt T "bool"
    | .str => decide (Str.ofString "str" = x) && glBlt T "str"
    | .list => decide (Str.ofString "list" = x) && glBlt T "list"
    | .tuple => decide (Str.ofString "tuple" = x) && glBlt T "tuple"
    | .own c => (match T.cls[c]? with
      | some C => decide (Str.ofString C.name = x) && decide (glCl T C.name = some c) && decide (C.kind = 0)
      | none => false))) = true := c
    simp only [Bool.and_eq_true] at c
    obtain ⟨⟨d1, d2⟩, d3⟩ := c
    have hd := (nm_of d2).1
    cases t with
    | own cc =>
      dsimp only at d3
      cases eC : T.cls[cc]? with
      | none => rw [eC] at d3; exact off d3
      | some C =>
        rw [eC] at d3
        simp only [Bool.and_eq_true, decide_eq_true_eq] at d3
        obtain ⟨⟨f1, f2⟩, f3⟩ := d3
        subst f1
        have co := ok.fa.cls _ _ eC f3
        exact ⟨pe_glob (gl_of ok d1) (ok.fa.cl _ _ f2) rfl hd, fun d e => by cases e; exact ⟨co.cls, co.is⟩⟩
    | _ =>
      simp only [Bool.and_eq_true, decide_eq_true_eq] at d3
      obtain ⟨f1, f2⟩ := d3
      subst f1
      exact ⟨pe_bltn (gl_of ok d1) (blt_of ok f2) (by decide +kernel) rfl (by decide +kernel) hd, fun d e => by cases e⟩
  | _ => exact off c
theorem c_isi {a : E} {t : Ty} (c : chkE T X.N (m + 1) nm (.isi a t) e = true) (r : Run X.K A hid fl H am st (fun c d H' => W c d σ H') (rr X.K A hid) (evE T c0 c1 fl (n + 1) (.isi a t) env st) Q) : Wh X e σ H Q := by
  unfold chkE at c
  dsimp only at c
  split at c
  · rename_i x p y z pos
    simp only [Bool.and_eq_true, decide_eq_true_eq] at c
    obtain ⟨⟨⟨⟨⟨d1, d2⟩, d3⟩, d4⟩, d5⟩, d6⟩ := c
    subst d1
    obtain ⟨hz, hcl⟩ := ty_ok hE ok h er hf d6
    have hzs : notStar z = true := by cases z <;> first | rfl | exact off d6
    intro pins s I
    refine (pe_callB (callW X (.builtin "isinstance")) (gl_of ok d2) (blt_of ok d3) (by decide +kernel) (pa_cons (pe_wh X y) (pa_cons hz pa_nil (star_cons hzs [] _)) (star_cons d4 _ _)) (by decide +kernel) (by decide +kernel) (star_cons d4 _ _) (star_any (by simp [hzs]) _ _)).run pins s σ H Q I ?_
    rw [ev_isi] at r
    refine hE X W nm ok m a y env σ H am st hid _ d5 h er hf (r.bind fun x st1 vx H1 am1 p1 q1 r1 => ?_)
    intro us rv
    obtain ⟨b, e1, r2⟩ := r1.ofO
    exact isi_ok hcl p1.sr q1 e1 rv (r2 _ H1 am1 (Post.refl p1.sr) (.p (.bl _)))
  · exact off c
theorem c_idx {a i : E} (c : chkE T X.N (m + 1) nm (.idx a i) e = true) (r : Run X.K A hid fl H am st (fun c d H' => W c d σ H') (rr X.K A hid) (evE T c0 c1 fl (n + 1) (.idx a i) env st) Q) : Wh X e σ H Q := by
  cases e with
  | Subscript x y pos =>
    have c : (notSl y && chkE T X.N m nm a x && chkE T X.N m nm i y) = true := c
    simp only [Bool.and_eq_true] at c
    intro pins s I
    refine idx_ok ok.fa.gd (pe_wh X x) (pe_wh X y) (nosl_ix c.1.1) ?_ pins s I
    rw [ev_idx] at r
    refine hE X W nm ok m a x env σ H am st hid _ c.1.2 h er hf (r.bind fun rx st1 vx H1 am1 p1 q1 r1 => ?_)
    refine hE X W nm ok m i y env σ H1 am1 st1 hid _ c.2 p1.sr (er.post p1) (p1.fl' hf) (r1.bind fun ry st2 vy H2 am2 p2 q2 r2 => ?_)
    obtain ⟨z, e1, r3⟩ := r2.ofO1
    exact ⟨rx, ry, z, am2, st2, hid, p2.sr, p2.ext.rr q1, q2, e1, fun u q => r3 u H2 am2 (Post.refl p2.sr) q⟩
  | _ => exact off c
theorem snd_part {o : Option E} {oe : Option Expr} {H : Hp} {am : List Addr} {st : Store} {Q : Option Int → Hp → Prop} (h : SR X.K A hid H am st) (er : ER X.K A (Gv H am hid) am env σ) (hf : fl ≤ st.length) (c : chkO (chkE T X.N m nm) o oe = true)
    (r : Run X.K A hid fl H am st (fun c d H' => W c d σ H') rid (evO (evE T c0 c1 fl n) o env st) Q) : Wo X oe σ H Q := by
  cases o with
  | none =>
    cases oe with
    | none => exact fun pins s I => po_none.run pins s σ H Q I (r none H am (Post.refl h) rfl)
    | some e => exact off c
  | some a =>
    cases oe with
    | none => exact off c
    | some e =>
      have c : chkE T X.N m nm a e = true := c
      refine fun pins s I => (po_some (pe_wh X e)).run pins s σ H Q I ?_
      have r : Run X.K A hid fl H am st (fun c d H' => W c d σ H') rid ((evE T c0 c1 fl n a env st).bind fun v st => match v with
        | .p (.int i) => .ok (some i) st
        | _ => .bad) Q := r
      refine hE X W nm ok m a e env σ H am st hid _ c h er hf (r.bind fun x st1 vx H1 am1 p1 q1 r1 => ?_)
      cases q1 with
      | p q1 =>
        cases q1 with
        | int i => exact ⟨i, rfl, r1 (some i) H1 am1 (Post.refl p1.sr) rfl⟩
        | _ => exact False.elim r1
      | _ => exact False.elim r1
theorem c_slc {a : E} {lo hi : Option E} (c : chkE T X.N (m + 1) nm (.slc a lo hi) e = true) (r : Run X.K A hid fl H am st (fun c d H' => W c d σ H') (rr X.K A hid) (evE T c0 c1 fl (n + 1) (.slc a lo hi) env st) Q) : Wh X e σ H Q := by
  unfold chkE at c
  dsimp only at c
  split at c
  · rename_i x l u p2 pos
    simp only [Bool.and_eq_true] at c
    intro pins s I
    refine (pe_slice (slc_ok (A := A) (fl := fl)) (pe_wh X x) (po_wo X l) (po_wo X u)).run pins s σ H Q I ?_
    rw [ev_slc] at r
    refine hE X W nm ok m a x env σ H am st hid _ c.1.1 h er hf (r.bind fun rx st1 vx H1 am1 p1 q1 r1 => ?_)
    refine snd_part hE ok h er hf p1.sr (er.post p1) (p1.fl' hf) c.1.2 (r1.bind fun i st2 vi H2 am2 p2 q2 r2 => ?_)
    cases (show i = vi from q2)
    refine snd_part hE ok h er hf p2.sr ((er.post p1).post p2) (p2.fl' (p1.fl' hf)) c.2 (r2.bind fun j st3 vj H3 am3 p3 q3 r3 => ?_)
    cases (show j = vj from q3)
    obtain ⟨z, e1, r4⟩ := r3.ofO1
    exact ⟨rx, z, am3, st3, hid, p3.sr, p3.ext.rr (p2.ext.rr q1), e1, fun u H' p q => r4 u H' am3 p q⟩
  · exact off c
theorem c_fld {a : E} {f : String} (c : chkE T X.N (m + 1) nm (.fld a f) e = true) (r : Run X.K A hid fl H am st (fun c d H' => W c d σ H') (rr X.K A hid) (evE T c0 c1 fl (n + 1) (.fld a f) env st) Q) : Wh X e σ H Q := by
  cases e with
  | Attribute x g pos =>
    have c : (decide (Str.ofString f = g) && notSup x && chkE T X.N m nm a x) = true := c
    simp only [Bool.and_eq_true, decide_eq_true_eq] at c
    obtain ⟨⟨d1, d2⟩, d3⟩ := c
    subst d1
    intro pins s I
    refine (pe_fld (pe_wh X x) (nosup_base d2 _ _ _)).run pins s σ H Q I ?_
    rw [ev_fld] at r
    refine hE X W nm ok m a x env σ H am st hid _ d3 h er hf (r.bind fun rx st1 vx H1 am1 p1 q1 r1 => ?_)
    obtain ⟨hk, r2⟩ := r1.if1
    obtain ⟨z, e1, r3⟩ := r2.ofO1
    obtain ⟨b, cc, dx, fvs, u, rfl, q2, na, lk, qz⟩ := fld_ok p1.sr q1 e1
    unfold okCl at hk
    cases ec : clsR rx st1 with
    | none => rw [ec] at hk; exact off hk
    | some c' =>
      rw [ec] at hk
      dsimp only at hk
      cases eC : T.cls[c']? with
      | none => rw [eC] at hk; exact off hk
      | some C =>
        rw [eC] at hk
        have co := ok.fa.cls _ _ eC (of_decide_eq_true hk)
        obtain ⟨b', dx', fvs', e2, q2', _⟩ := inst_of p1.sr q1 ec
        cases e2
        rw [q2] at q2'
        injection q2' with q2'
        injection q2' with e3 e4 e5
        refine ⟨b, A.CA cc, dx, fvs, u, rfl, q2, by rw [e3]; exact co.cls, na, lk, r3 u H1 am1 (Post.refl p1.sr) qz⟩
  | _ => exact off c
theorem c_om {mm : String} {o : E} {l : List E} (c : chkE T X.N (m + 1) nm (.om mm o l) e = true) (r : Run X.K A hid fl H am st (fun c d H' => W c d σ H') (rr X.K A hid) (evE T c0 c1 fl (n + 1) (.om mm o l) env st) Q) : Wh X e σ H Q := by
  unfold chkE at c
  dsimp only at c
  split at c
  · rename_i x f ap es pos
    simp only [Bool.and_eq_true, decide_eq_true_eq] at c
    obtain ⟨⟨⟨⟨⟨d1, d2⟩, d3⟩, d4⟩, d5⟩, d6⟩ := c
    subst d1
    intro pins s I
    refine own_meth (nosup_base d2 _ _ _) (chkL_star d6) d4 d3 ?_
    rw [ev_om] at r
    have w := hE X W nm ok m o x env σ H am st hid _ d5 h er hf (r.bind (Q' := fun vx H1 => ∃ rx st1 am1, Post X.K A hid fl H am st H1 am1 st1 ∧ RR X.K A (Gv H1 am1 hid) am1 rx vx ∧ Run X.K A hid fl H1 am1 st1 (fun c d H' => W c d σ H') (rr X.K A hid) (match (clsR rx st1).bind (T.cls[·]?) with
      | some C => (match C.meths.lookup mm with
        | some f => (evEs (evE T c0 c1 fl n) l env st1).bind fun vs st => c0 f (rx :: vs) fl st
        | none => .bad)
      | none => .bad) Q) fun rx st1 vx H1 am1 p1 q1 r1 => ⟨rx, st1, am1, p1, q1, r1⟩)
    refine thn (w pins s I) fun ov s1 ⟨vx, H1, I1, rv, rx, st1, am1, p1, q1, r1⟩ => ?_
    cases ec : clsR rx st1 with
    | none => rw [ec] at r1; exact False.elim r1
    | some cc =>
      rw [ec] at r1
      have r1 : Run X.K A hid fl H1 am1 st1 (fun c d H' => W c d σ H') (rr X.K A hid) (match T.cls[cc]? with
        | some C => (match C.meths.lookup mm with
          | some f => (evEs (evE T c0 c1 fl n) l env st1).bind fun vs st => c0 f (rx :: vs) fl st
          | none => .bad)
        | none => .bad) Q := r1
      cases eC : T.cls[cc]? with
      | none => rw [eC] at r1; exact False.elim r1
      | some C =>
        rw [eC] at r1
        dsimp only at r1
        cases em : C.meths.lookup mm with
        | none => rw [em] at r1; exact False.elim r1
        | some f =>
          rw [em] at r1
          dsimp only at r1
          obtain ⟨cl, me⟩ := ok.fa.meth cc C mm f eC em
          obtain ⟨b, dx, fvs, rfl, hb, hl⟩ := inst_of p1.sr q1 ec
          cases rv
          have hno : fvs.lookup (Str.ofString mm) = none := hl mm (by rw [me.at_]; intro e; injection e with e; cases e)
          refine getmeth_ok I1 hb cl me hno ?_
          cases es with
          | nil =>
            cases l with
            | nil => exact PySem.W.callWith_K0 (first := [.ref b]) I1.kIn me.kp (run_c (us := [.ref b]) ok I1 (.cons (show L2.RelV (V.ref b) (Value.ref b) from rfl) .nil) ⟨[rx], am1, st1, hid, fl, p1.sr, .cons q1 .nil, p1.fl' hf, r1⟩)
            | cons a l => exact off d6
          | cons e es =>
            have hst := chkL_star d6
            rw [List.all_cons] at hst
            obtain ⟨s1', s2'⟩ := Bool.and_eq_true_iff.mp hst
            have := snd_args hE ok h er hf p1.sr (er.post p1) (p1.fl' hf) d6 (r1.bind (Q' := fun vs H2 => spF X.K A c0 f (.ref b :: vs) H2 Q (L2.WE W σ)) fun xs st2 vs H2 am2 p2 q2 r2 => ⟨rx :: xs, am2, st2, hid, fl, p2.sr, .cons (p2.ext.rr q1) q2, p2.fl' (p1.fl' hf), r2⟩)
            refine PySem.W.callWith_K (first := [.ref b]) (h₀ := X.base) I1.ok.mod.kin me.kp (thn ((pa_wa X (e :: es)).run pos pins s1 σ H1 _ I1 this) fun us s2 ⟨vs, H2, I2, rv, q⟩ => ⟨I2.kIn, ?_⟩) (star_cons s1' es _) (star_any s2' _ _)
            exact run_c (us := .ref b :: us) ok I2 (.cons (show L2.RelV (V.ref b) (Value.ref b) from rfl) rv) q
  · exact off c
/-- append -/
theorem c_mt {mm : Mt} {o : E} {l : List E} (c : chkE T X.N (m + 1) nm (.mt mm o l) e = true) (r : Run X.K A hid fl H am st (fun c d H' => W c d σ H') (rr X.K A hid) (evE T c0 c1 fl (n + 1) (.mt mm o l) env st) Q) : Wh X e σ H Q := by
  unfold chkE at c
  dsimp only at c
  split at c
  · rename_i x f ap y es pos
    simp only [Bool.and_eq_true, decide_eq_true_eq] at c
    obtain ⟨⟨⟨⟨⟨d1, d2⟩, d3⟩, d4⟩, d5⟩, d6⟩ := c
    subst d1
    have hst := chkL_star d6
    rw [List.all_cons] at hst
    obtain ⟨s1', s2'⟩ := Bool.and_eq_true_iff.mp hst
    have hfew : ((backTo pos (starEach (y :: es) X.env)).all (fun x => !x.1) && (backToKw pos (keywordEach [] X.env)).all (fun x => x.1.isSome)
      && decide ((y :: es).length + ([] : List Keyword).length + (if ([] : List Keyword).isEmpty then 0 else 1) < 30)) = true := by
      rw [star_all (chkL_star d6)]
      show decide ((y :: es).length + 0 + 0 < 30) = true
      exact decide_eq_true (by omega)
    intro pins s I
    rw [ev_mt] at r
    cases mm with
    | append =>
      refine (pe_bm PySem.F.plainAttrs_list PySem.F.slot_list_append PySem.F.type_list_append mt_append (pe_wh X x) (pa_wa X (y :: es)) (nosup_base d2 _ _ _) hfew d3 (star_cons s1' es _) (star_any s2' _ _)).run pins s σ H Q I ?_
      refine hE X W nm ok m o x env σ H am st hid _ d5 h er hf (r.bind fun rx st1 vx H1 am1 p1 q1 r1 => ?_)
      obtain ⟨ht, r2⟩ := r1.if1
      refine ⟨?_, snd_args hE ok h er hf p1.sr (er.post p1) (p1.fl' hf) d6 (r2.bind fun xs st2 vs H2 am2 p2 q2 r3 => ?_)⟩
      · exact tyR_ok p1.sr q1 ht
      · have r3 : Run X.K A hid fl H2 am2 st2 (fun c d H' => W c d σ H') (rr X.K A hid) (mtR fl .append rx xs st2) Q := r3
        cases q1 with
        | @cell cc a q1 =>
          match xs, q2, r3 with
          | [z], q2, r3 =>
            obtain ⟨u, rfl, qz⟩ := one_of q2
            have r3 : Run X.K A hid fl H2 am2 st2 (fun c d H' => W c d σ H') (rr X.K A hid) (match st2[cc]? with
              | some (.lst l) => if l.length < LINE then putC fl cc (.lst (l ++ [z])) [z] st2 else .bad
              | _ => .bad) Q := r3
            have q1' := p2.ext.at _ _ q1
            cases eo : st2[cc]? with
            | none => rw [eo] at r3; exact False.elim r3
            | some ob =>
              rw [eo] at r3
              cases ob with
              | lst lx =>
                obtain ⟨hlen, r4⟩ := Run.if1 r3
                obtain ⟨ws, hw, qw⟩ := p2.sr.ob cc a _ q1' eo
                cases ep : putC fl cc (.lst (lx ++ [z])) [z] st2 with
                | bad => rw [ep] at r4; exact False.elim r4
                | err x st' => exact (putC_err ep).elim
                | ok v st' =>
                  rw [ep] at r4
                  obtain ⟨rfl, rfl, hz⟩ := putC_ok ep
                  refine ⟨a, ws, u, rfl, rfl, hw, by rw [← qw.length, ← line_eq]; exact hlen, ?_⟩
                  have qn : RRs X.K A (Gv H2 am2 hid) am2 (lx ++ [z]) (ws ++ [u]) := qw.append (.cons qz .nil)
                  have pp := p2.sr.write (fl := fl) q1' (.lst (ws ++ [u])) (.lst (lx ++ [z])) ⟨_, upd_same, qn⟩ fun hc mm o' e' hb => by
                    rw [eo] at e'
                    cases e'
                    exact bels_snoc hb (isP_bel (hz hc z List.mem_cons_self) mm)
                  exact r4 .non _ am2 pp (.p .non)
              | _ => exact False.elim r3
          | [], q2, r3 => exact False.elim r3
          | _ :: _ :: _, q2, r3 => exact False.elim r3
        | _ => exact False.elim r3
  · exact off c
end
end
end EV
end
section
set_option linter.all false
set_option maxRecDepth 100000
/-! EV, part 15: targets; what is walked; tests. -/
namespace EV
open PySem PySem.Spec PyProof.Rows L2
/-! ### targets -/
theorem asg_cons {e : Expr} (h : notStar e = true) (es : List Expr) (env : PySem.Env) : assignEach (e :: es) env = (false, assign e env) :: assignEach es env := by
  cases e <;> first | rfl | cases h
theorem asg_len {es : List Expr} (h : es.all notStar = true) (env : PySem.Env) : (assignEach es env).length = es.length ∧ (assignEach es env).findIdx? (·.1) = none := by
  induction es with
  | nil => exact ⟨rfl, rfl⟩
  | cons e es ih =>
    rw [List.all_cons] at h
    obtain ⟨h1, h2⟩ := Bool.and_eq_true_iff.mp h
    obtain ⟨i1, i2⟩ := ih h2
    rw [asg_cons h1]
    refine ⟨by rw [List.length_cons, List.length_cons, i1], ?_⟩
    rw [List.findIdx?_cons]
    simp [i2]
theorem chkTgs_star {f : Tg → Expr → Bool} : ∀ {l : List Tg} {es : List Expr}, chkTgs f l es = true → es.all notStar = true ∧ l.length = es.length
  | [], [], _ => ⟨rfl, rfl⟩
  | [], _ :: _, h => nomatch (show false = true from h)
  | _ :: _, [], h => nomatch (show false = true from h)
  | t :: l, e :: es, h => by
    have h : (f t e && notStar e && chkTgs f l es) = true := h
    simp only [Bool.and_eq_true] at h
    obtain ⟨i1, i2⟩ := chkTgs_star h.2
    exact ⟨by rw [List.all_cons, h.1.2, i1]; rfl, by rw [List.length_cons, List.length_cons, i2]⟩
theorem inB_of {l : List Nat} {i : Nat} (h : inB l i = true) : i ∈ l := by
  obtain ⟨j, hj, e⟩ := List.any_eq_true.mp h
  rw [← of_decide_eq_true e]; exact hj
/-- what a store to names leaves -/
structure Kept (t : List Nat → Bool) (σ σ' : L2.St) : Prop where
  len : σ'.length = σ.length
  out : ∀ own, t own = true → ∀ j, j ∉ own → σ'[j]? = σ[j]?
section
variable {T : Tab} {A : Ads} {c0 c1 : CF} {fl k n : Nat} {X : Cx} {W : WX} {nm : List (Str × NameKind)} {m : Nat} {e : Expr} {env : Env} {σ : L2.St} {H : Hp} {am : List Addr} {st : Store} {hid : List Addr} {Q : VK} {pins : List (Addr × Obj)} {s : Shared}
theorem ER.put {G : Hp} {i : Nat} {r : R} {v : V} (er : ER X.K A G am env σ) (hi : i < env.length) (q : RR X.K A G am r v) : ER X.K A G am (env.set i (some r)) (σ.set i (some v)) := by
  refine ⟨by rw [List.length_set, List.length_set]; exact er.1, fun j r' e => ?_⟩
  by_cases hj : i = j
  · subst hj
    rw [List.getElem?_set_self hi] at e
    cases e
    exact ⟨v, List.getElem?_set_self (by rw [← er.1]; exact hi), q⟩
  · rw [List.getElem?_set_ne hj] at e
    obtain ⟨u, e1, q1⟩ := er.2 j r' e
    exact ⟨u, by rw [List.getElem?_set_ne hj]; exact e1, q1⟩
def TgOk (X : Cx) (A : Ads) (b : Bool) (nm : List (Str × NameKind)) (m : Nat) : Prop := ∀ (t : Tg) (e : Expr) (r : R) (env env' : Env) (σ : L2.St) (H : Hp) (am : List Addr) (hid : List Addr) (v : V) (Q : L2.St → Hp → Prop),
  chkTg X.N m b nm t e = true → asgTg t r env = some env' → RR X.K A (Gv H am hid) am r v → ER X.K A (Gv H am hid) am env σ →
  (∀ σ', ER X.K A (Gv H am hid) am env' σ' → Kept (fun own => tgIn own t) σ σ' → Q σ' H) → Wg X e v σ H Q
theorem tgs_ok {b : Bool} (hi : TgOk X A b nm m) : ∀ (l : List Tg) (es : List Expr) (rs : List R) (env env' : Env) (σ : L2.St) (vs : List V) (Q : L2.St → Hp → Prop),
    chkTgs (chkTg X.N m b nm) l es = true → asgTgs l rs env = some env' → RRs X.K A (Gv H am hid) am rs vs → ER X.K A (Gv H am hid) am env σ →
    (∀ σ', ER X.K A (Gv H am hid) am env' σ' → Kept (fun own => tgsIn own l) σ σ' → Q σ' H) → Wgs X es vs σ H Q
  | [], [], [], env, env', σ, vs, Q, _, e, q, er, hQ => by
    cases q
    cases (show some env = some env' from e)
    exact fun pins s us I rv => pgs_nil.run pins s σ H [] us Q I rv ⟨rfl, hQ σ er ⟨rfl, fun _ _ _ _ => rfl⟩⟩
  | [], [], _ :: _, _, _, _, _, _, _, e, _, _, _ => nomatch (show none = some _ from e)
  | [], _ :: _, _, _, _, _, _, _, c, _, _, _, _ => off c
  | _ :: _, [], _, _, _, _, _, _, c, _, _, _, _ => off c
  | _ :: _, _ :: _, [], _, _, _, _, _, _, e, _, _, _ => nomatch (show none = some _ from e)
  | t :: l, e :: es, r :: rs, env, env', σ, vs, Q, c, ea, q, er, hQ => by
    have c : (chkTg X.N m b nm t e && notStar e && chkTgs (chkTg X.N m b nm) l es) = true := c
    simp only [Bool.and_eq_true] at c
    have ea : (match asgTg t r env with
      | some env' => asgTgs l rs env'
      | none => none) = some env' := ea
    cases e1 : asgTg t r env with
    | none => rw [e1] at ea; cases ea
    | some env1 =>
      rw [e1] at ea
      cases q with
      | @cons _ v _ vs q1 q2 =>
        refine fun pins s us I rv => (pgs_cons (pg_wg X e) (pgs_wgs X es) (by rw [asg_cons c.1.2]; rfl)).run pins s σ H (v :: vs) us Q I rv ⟨v, vs, rfl, ?_⟩
        refine hi t e r env env1 σ H am hid v _ c.1.1 e1 q1 er fun σ1 er1 k1 => ?_
        refine tgs_ok hi l es rs env1 env' σ1 vs Q c.2 ea q2 er1 fun σ2 er2 k2 => hQ σ2 er2 ⟨k2.len.trans k1.len, fun own ho j hj => ?_⟩
        have ho : (tgIn own t && tgsIn own l) = true := ho
        obtain ⟨h1, h2⟩ := Bool.and_eq_true_iff.mp ho
        exact (k2.out own h2 j hj).trans (k1.out own h1 j hj)
theorem tg_ok {b : Bool} (hc : X.calm = true) (nd : X.N.Nodup) (hnm : X.env.scope.names = nm) (hb : b = true → ∀ x, X.fn x = true) : ∀ m, TgOk X A b nm m := by
  intro m
  induction m with
  | zero => intro t e r env env' σ H am hid v Q c; exact off c
  | succ m ih =>
    intro t e r env env' σ H am hid v Q c ea q er hQ
    cases t with
    | v i =>
      cases e with
      | Name x pos =>
        have c : (decide (X.N[i]? = some x) && (locB nm x || (b && (match nm.lookup x with
          | some .cell => true
          | _ => false)))) = true := c
        simp only [Bool.and_eq_true, Bool.or_eq_true, decide_eq_true_eq] at c
        obtain ⟨d1, d2⟩ := c
        have ea : (if i < env.length then some (env.set i (some r)) else none) = some env' := ea
        by_cases hi : i < env.length
        · rw [if_pos hi] at ea
          cases ea
          have hl : L2.Loc X.env.scope x ∧ (X.fn x = true ∨ X.env.scope.names.lookup x = some .local) := by
            unfold L2.Loc
            rw [hnm]
            rcases d2 with d | ⟨d, d'⟩
            · unfold locB at d
              split at d
              · rename_i e; exact ⟨.inl e, .inr e⟩
              · cases d
            · split at d'
              · rename_i e; exact ⟨.inr e, .inl (hb d x)⟩
              · cases d'
          refine fun pins s u I rv => (pg_name nd d1 hl.1 hl.2).run pins s σ H v u Q I rv (hQ _ (er.put hi q) ⟨List.length_set, fun own ho j hj => ?_⟩)
          have := inB_of (show inB own i = true from ho)
          exact List.getElem?_set_ne (fun e => hj (by rw [← e]; exact this))
        · rw [if_neg hi] at ea; cases ea
      | _ => exact off c
    | t l =>
      cases e with
      | Tuple es j pos =>
        have c : chkTgs (chkTg X.N m b nm) l es = true := c
        obtain ⟨st, hl⟩ := chkTgs_star c
        obtain ⟨l1, l2⟩ := asg_len st X.env
        have key : ∀ rs : List R, asgTgs l rs env = some env' → l.length = rs.length := by
          intro rs
          clear c hl hQ ea
          induction l generalizing rs env with
          | nil =>
            intro e
            cases rs with
            | nil => rfl
            | cons _ _ => cases (show none = some _ from e)
          | cons t l ihl =>
            intro e
            cases rs with
            | nil => cases (show none = some _ from e)
            | cons r rs =>
              have e : (match asgTg t r env with
                | some env' => asgTgs l rs env'
                | none => none) = some env' := e
              cases e1 : asgTg t r env with
              | none => rw [e1] at e; cases e
              | some env1 =>
                rw [e1] at e
                rw [List.length_cons, List.length_cons]
                congr 1
                revert e
                clear e1
                revert env1
                exact fun env1 e => by
                  have : ∀ (l : List Tg) (rs : List R) (env1 : Env), asgTgs l rs env1 = some env' → l.length = rs.length := by
                    intro l
                    induction l with
                    | nil =>
                      intro rs env1 e
                      cases rs with
                      | nil => rfl
                      | cons _ _ => cases (show none = some _ from e)
                    | cons t l ihl =>
                      intro rs env1 e
                      cases rs with
                      | nil => cases (show none = some _ from e)
                      | cons r rs =>
                        have e : (match asgTg t r env1 with
                          | some env' => asgTgs l rs env'
                          | none => none) = some env' := e
                        cases e1 : asgTg t r env1 with
                        | none => rw [e1] at e; cases e
                        | some env2 =>
                          rw [e1] at e
                          rw [List.length_cons, List.length_cons, ihl rs env2 e]
                  exact this l rs env1 e
        have go : ∀ (rs : List R) (a : Addr) (vs : List V), v = .ref a → SqT X.K H a vs → RRs X.K A (Gv H am hid) am rs vs → asgTgs l rs env = some env' → Wg X (.Tuple es j pos) v σ H Q := by
          intro rs a vs ev hs qs e
          refine fun pins s u I rv => (pg_tup hc (pgs_wgs X es) rfl l2).run pins s σ H v u Q I rv ⟨a, vs, ev, hs, ?_, ?_⟩
          · rw [l1, ← hl, key rs e, qs.length]
          · exact tgs_ok ih l es rs env env' σ vs Q c e qs er fun σ' er' k => hQ σ' er' ⟨k.len, k.out⟩
        cases q with
        | p q =>
          cases q with
          | tup q1 q2 => exact go _ _ _ rfl (sq_gv_T q1) q2.rr ea
          | _ => cases (show none = some _ from ea)
        | tupc q1 q2 => exact go _ _ _ rfl (sq_gv_T q1) q2 ea
        | cell q1 => cases (show none = some _ from ea)
      | _ => exact off c

/-! ### what is walked -/
def WkOk (K : PySem.W.Frag) (A : Ads) (G : Hp) (am : List Addr) (l : List R) (J : L2.It) : Prop :=
  ∀ (H' : Hp) (am' hid' : List Addr) (st' : Store), Le G (Gv H' am' hid') → (∀ (n : Nat) (a : Addr), am[n]? = some a → am'[n]? = some a) → SR K A hid' H' am' st' → ∀ i,
    (i < l.length → J.go i H' ∧ ∀ x H'', J.yld i H' x H'' → (∀ fl, Post K A hid' fl H' am' st' H'' am' st') ∧ ∃ r, l[i]? = some r ∧ RR K A (Gv H'' am' hid') am' r x) ∧ (l.length ≤ i → J.stop i H')
def wkr (K : PySem.W.Frag) (A : Ads) (hid : List Addr) : Rep Wk L2.It := fun H am w J => match w with
  | .vals l => WkOk K A (Gv H am hid) am l J
  | .cel c => ∃ a, am[c]? = some a ∧ J = Itl K a
theorem wk_list {G : Hp} {a : Addr} {vs : List V} {l : List R} (h : SqL X.K G a vs) (q : RRs X.K A G am l vs) : WkOk X.K A G am l (Itl X.K a) := by
  intro H' am' hid' st' le at' sr i
  have hs : SqL X.K H' a vs := sq_gv_L (le.sqL h)
  have qs := q.mono le at'
  refine ⟨fun hi => ⟨?_, fun x H'' y => ?_⟩, fun hi => ⟨vs, hs, by rw [← q.length]; exact hi⟩⟩
  · obtain ⟨u, e, _⟩ := qs.get (List.getElem?_eq_getElem hi)
    exact ⟨vs, u, hs, e⟩
  · obtain ⟨rfl, y⟩ := y
    obtain ⟨r, e, q'⟩ := qs.get' (y vs hs)
    exact ⟨fun fl => Post.refl sr, r, e, q'⟩
theorem wk_tup {G : Hp} {a : Addr} {vs : List V} {l : List R} (h : SqT X.K G a vs) (q : RRs X.K A G am l vs) : WkOk X.K A G am l (Itt X.K a) := by
  intro H' am' hid' st' le at' sr i
  have hs : SqT X.K H' a vs := sq_gv_T (le.sqT h)
  have qs := q.mono le at'
  refine ⟨fun hi => ⟨?_, fun x H'' y => ?_⟩, fun hi => ⟨vs, hs, by rw [← q.length]; exact hi⟩⟩
  · obtain ⟨u, e, _⟩ := qs.get (List.getElem?_eq_getElem hi)
    exact ⟨vs, u, hs, e⟩
  · obtain ⟨rfl, y⟩ := y
    obtain ⟨r, e, q'⟩ := qs.get' (y vs hs)
    exact ⟨fun fl => Post.refl sr, r, e, q'⟩
theorem wk_str {G : Hp} {x : List Nat} : WkOk X.K A G am (x.map fun c => R.p (.str [c])) (Its ⟨x.toArray⟩) := by
  intro H' am' hid' st' le at' sr i
  refine ⟨fun hi => ⟨?_, fun v H'' y => ?_⟩, fun hi => ?_⟩
  · show i < x.toArray.size
    simpa using hi
  · obtain ⟨rfl, c, e, rfl⟩ := y
    have e : x.toArray[i]? = some c := e
    rw [List.getElem?_toArray] at e
    exact ⟨fun fl => Post.refl sr, .p (.str [c]), by rw [List.getElem?_map, e]; rfl, .p (.str [c] (show 1 ≤ LINE by decide))⟩
  · show x.toArray.size ≤ i
    simpa using hi
theorem wk_rng {G : Hp} {lo hi : Int} : WkOk X.K A G am (rngL lo hi) (Itr lo (hi - lo).toNat) := by
  intro H' am' hid' st' le at' sr i
  have hl : (rngL lo hi).length = (hi - lo).toNat := by unfold rngL; rw [List.length_map, List.length_range]
  rw [hl]
  refine ⟨fun h => ⟨h, fun v H'' y => ?_⟩, fun h => h⟩
  obtain ⟨rfl, rfl⟩ := y
  refine ⟨fun fl => Post.refl sr, .p (.int (lo + i)), ?_, .p (.int _)⟩
  unfold rngL
  rw [List.getElem?_map, List.getElem?_range h]
  rfl
theorem it_list {E : Value → Shared → Prop} {tg : Expr} {a : Addr} {xs : List V} {R : L2.It → Hp → Prop} (I1 : Inv X pins σ H s) (hq : SqL X.K H a xs) (q : R (Itl X.K a) H) : wpAny (model X.prog X.w) X.A (pyIter (.ref a)) (PIE X pins σ tg R) E s := by
  obtain ⟨its, rv, p, hz⟩ := I1.list hq
  exact wpAny_pyIter_list p.isList (pi_one (tk := s.toks) I1 _ (turn_list a _) ⟨_, Heap.get?_push_size _ rfl, rfl, rfl⟩ q)
theorem it_tup {E : Value → Shared → Prop} {tg : Expr} {a : Addr} {xs : List V} {R : L2.It → Hp → Prop} (I1 : Inv X pins σ H s) (hq : SqT X.K H a xs) (q : R (Itt X.K a) H) : wpAny (model X.prog X.w) X.A (pyIter (.ref a)) (PIE X pins σ tg R) E s := by
  obtain ⟨its, rv, p, hz⟩ := I1.tuple hq
  exact wpAny_pyIter_tuple (show s.heap.IsTuple a its.toArray from p) (pi_one (tk := s.toks) I1 _ (turn_tuple a _) ⟨_, Heap.get?_push_size _ rfl, rfl, rfl⟩ q)
theorem it_str {E : Value → Shared → Prop} {tg : Expr} {x : Str} {t : Tok} {R : L2.It → Hp → Prop} (I1 : Inv X pins σ H s) (q : R (Its x) H) : wpAny (model X.prog X.w) X.A (pyIter (.str x t)) (PIE X pins σ tg R) E s := by
  cases ha : x.cps.all (· < 128)
  · exact wpAny_pyIter_wide ha (pi_one (tk := s.toks) I1 _ (turn_str _ x t "str_iterator" (.inr rfl)) ⟨_, Heap.get?_push_size _ rfl, rfl, rfl⟩ q)
  · exact wpAny_pyIter_ascii ha (pi_one (tk := s.toks) I1 _ (turn_str _ x t "str_ascii_iterator" (.inl rfl)) ⟨_, Heap.get?_push_size _ rfl, rfl, rfl⟩ q)
section
variable (hE : SndE T A c0 c1 fl k n) (ok : XOk X T A c0 c1 k W nm) (h : SR X.K A hid H am st) (er : ER X.K A (Gv H am hid) am env σ) (hf : fl ≤ st.length)
include hE ok h er hf
theorem snd_it {it : It} {tg : Expr} {R : L2.It → Hp → Prop} (c : chkIt T X.N m nm it tg e = true) (r : Run X.K A hid fl H am st (fun c d H' => W c d σ H') (wkr X.K A hid) (evIt (evE T c0 c1 fl n) it env st) R) : Wi X tg e σ H R := by
  cases m with
  | zero => exact off c
  | succ m =>
  cases it with
  | seq a =>
    have c : (notSet e && chkE T X.N m nm a e) = true := c
    simp only [Bool.and_eq_true] at c
    intro pins s I
    have r : Run X.K A hid fl H am st (fun c d H' => W c d σ H') (wkr X.K A hid) ((evE T c0 c1 fl n a env st).bind fun v st => seqW v st) R := r
    have w := hE X W nm ok m a e env σ H am st hid _ c.2 h er hf (r.bind (Q' := fun vx H1 => ∃ rx st1 am1, SR X.K A hid H1 am1 st1 ∧ RR X.K A (Gv H1 am1 hid) am1 rx vx ∧ Run X.K A hid fl H1 am1 st1 (fun c d H' => W c d σ H') (wkr X.K A hid) (seqW rx st1) R) fun rx st1 vx H1 am1 p1 q1 r1 => ⟨rx, st1, am1, p1.sr, q1, r1⟩)
    refine thn (w pins s I) fun v s1 ⟨vx, H1, I1, rv, rx, st1, am1, h1, q1, r1⟩ => ?_
    cases q1 with
    | p q =>
      cases q with
      | lst q1 q2 =>
        cases rv
        exact it_list I1 (sq_gv_L q1) (r1 _ H1 am1 (Post.refl h1) (wk_list q1 q2.rr))
      | tup q1 q2 =>
        cases rv
        exact it_tup I1 (sq_gv_T q1) (r1 _ H1 am1 (Post.refl h1) (wk_tup q1 q2.rr))
      | str y hl =>
        obtain ⟨t, rfl⟩ := rv
        exact it_str I1 (r1 _ H1 am1 (Post.refl h1) wk_str)
      | _ => exact False.elim r1
    | tupc q1 q2 =>
      cases rv
      exact it_tup I1 (sq_gv_T q1) (r1 _ H1 am1 (Post.refl h1) (wk_tup q1 q2))
    | @cell cc a q1 =>
      cases rv
      unfold seqW at r1
      cases eo : st1[cc]? with
      | none => simp only [eo] at r1; exact False.elim r1
      | some ob =>
        simp only [eo] at r1
        cases ob with
        | lst l =>
          obtain ⟨vs, q2, q3⟩ := h1.ob cc a _ q1 eo
          exact it_list I1 (SqL.of q2) (r1 _ H1 am1 (Post.refl h1) ⟨a, q1, rfl⟩)
        | _ => exact False.elim r1
  | rng1 a =>
    unfold chkIt at c
    dsimp only at c
    split at c
    · rename_i x p y pos
      simp only [Bool.and_eq_true, decide_eq_true_eq] at c
      obtain ⟨⟨⟨⟨d1, d2⟩, d3⟩, d4⟩, d5⟩ := c
      subst d1
      intro pins s I
      have e0 : Str.ofString "range" = ("range" : Str) := rfl
      refine (pi_range1 (gl_of ok d2) (blt_of ok d3) (pa_cons (pe_wh X y) pa_nil (star_cons d4 [] _)) (star_cons d4 [] _)).run pins s σ H R I ?_
      have r : Run X.K A hid fl H am st (fun c d H' => W c d σ H') (wkr X.K A hid) ((evE T c0 c1 fl n a env st).bind fun v st => rngW v st) R := r
      refine hE X W nm ok m a y env σ H am st hid _ d5 h er hf (r.bind fun rx st1 vx H1 am1 p1 q1 r1 => ?_)
      cases q1 with
      | p q1 =>
        cases q1 with
        | int i =>
          have r1 : Run X.K A hid fl H1 am1 st1 (fun c d H' => W c d σ H') (wkr X.K A hid) (if smallI i then Res.ok (.vals (rngL 0 i)) st1 else .bad) R := r1
          obtain ⟨hs, r2⟩ := Run.if1 r1
          unfold smallI at hs
          simp only [Bool.and_eq_true, decide_eq_true_eq] at hs
          refine ⟨i, rfl, hs.1, hs.2, ?_⟩
          have := r2 (Itr 0 (i - 0).toNat) H1 am1 (Post.refl p1.sr) wk_rng
          rw [Int.sub_zero] at this
          exact this
        | _ => exact False.elim r1
      | _ => exact False.elim r1
    · exact off c
  | rng2 a b =>
    unfold chkIt at c
    dsimp only at c
    split at c
    · rename_i x p y z pos
      simp only [Bool.and_eq_true, decide_eq_true_eq] at c
      obtain ⟨⟨⟨⟨⟨⟨d1, d2⟩, d3⟩, d4⟩, d5⟩, d6⟩, d7⟩ := c
      subst d1
      intro pins s I
      refine (pi_range2 (gl_of ok d2) (blt_of ok d3) (pa_cons (pe_wh X y) (pa_cons (pe_wh X z) pa_nil (star_cons d5 [] _)) (star_cons d4 _ _)) ((star_cons d4 [z] _).trans (by rw [star_cons d5]; rfl)) (star_cons d5 [] _)).run pins s σ H R I ?_
      have r : Run X.K A hid fl H am st (fun c d H' => W c d σ H') (wkr X.K A hid) ((evE T c0 c1 fl n a env st).bind fun v st => (evE T c0 c1 fl n b env st).bind fun u st => rngW2 v u st) R := r
      refine hE X W nm ok m a y env σ H am st hid _ d6 h er hf (r.bind fun rx st1 vx H1 am1 p1 q1 r1 => ?_)
      refine hE X W nm ok m b z env σ H1 am1 st1 hid _ d7 p1.sr (er.post p1) (p1.fl' hf) (r1.bind fun ry st2 vy H2 am2 p2 q2 r2 => ?_)
      have q1 := p2.ext.rr q1
      cases q1 with
      | p q1 =>
        cases q1 with
        | int i =>
          cases q2 with
          | p q2 =>
            cases q2 with
            | int j =>
              have r2 : Run X.K A hid fl H2 am2 st2 (fun c d H' => W c d σ H') (wkr X.K A hid) (if smallI i && smallI j then Res.ok (.vals (rngL i j)) st2 else .bad) R := r2
              obtain ⟨hs, r3⟩ := Run.if1 r2
              unfold smallI at hs
              simp only [Bool.and_eq_true, decide_eq_true_eq] at hs
              exact ⟨i, j, rfl, ⟨hs.1.1, hs.1.2, hs.2.1, hs.2.2⟩, r3 (Itr i (j - i).toNat) H2 am2 (Post.refl p2.sr) wk_rng⟩
            | _ => exact False.elim r2
          | _ => exact False.elim r2
        | _ => cases q2 with
          | p q2 => cases q2 <;> exact False.elim r2
          | _ => exact False.elim r2
      | _ => cases q2 with
          | p q2 => cases q2 <;> exact False.elim r2
          | _ => exact False.elim r2
    · exact off c
  | enum a => exact off c
  | zip a b => exact off c
end
end
end EV
end
section
set_option linter.all false
set_option maxRecDepth 100000
/-! EV, part 16: comprehensions. -/
namespace EV
open PySem PySem.Spec PyProof.Rows L2
section
variable {K : PySem.W.Frag} {A : Ads} {hid : List Addr} {fl : Nat} {H H1 H' : Hp} {am am1 am' : List Addr} {st st1 st' : Store} {env : Env} {σ : L2.St} {D : Addr}
theorem ER.mono {G G' : Hp} (h : ER K A G am env σ) (le : Le G G') (at' : ∀ (n : Nat) (a : Addr), am[n]? = some a → am'[n]? = some a) : ER K A G' am' env σ :=
  ⟨h.1, fun i r e => let ⟨v, e1, q⟩ := h.2 i r e; ⟨v, e1, q.mono le at'⟩⟩
theorem wipeE_length : ∀ (own : List Nat), (wipeE env own).length = env.length
  | [] => rfl
  | v :: vs => by unfold wipeE; rw [List.length_set, wipeE_length vs]
theorem wipeE_some {i : Nat} {r : R} : ∀ {own : List Nat}, (wipeE env own)[i]? = some (some r) → env[i]? = some (some r) ∧ i ∉ own
  | [], h => ⟨h, by simp⟩
  | v :: vs, h => by
    unfold wipeE at h
    by_cases hv : v = i
    · subst hv
      by_cases hl : v < (wipeE env vs).length
      · rw [List.getElem?_set_self hl] at h; cases h
      · rw [List.getElem?_eq_none (by rw [List.length_set]; omega)] at h; cases h
    · rw [List.getElem?_set_ne hv] at h
      obtain ⟨h1, h2⟩ := wipeE_some h
      exact ⟨h1, fun z => by rcases List.mem_cons.mp z with z | z; exact hv z.symm; exact h2 z⟩
theorem ER.wipe {G : Hp} (h : ER K A G am env σ) (own : List Nat) : ER K A G am (wipeE env own) (L2.wipe σ own) := by
  refine ⟨by rw [wipeE_length, L2.wipe_length]; exact h.1, fun i r e => ?_⟩
  obtain ⟨e1, e2⟩ := wipeE_some e
  obtain ⟨v, e3, q⟩ := h.2 i r e1
  exact ⟨v, by rw [L2.wipe_out e2]; exact e3, q⟩
theorem le_hide (e : Ext H1 am1 H' am') (n : H1 D = none) : Le (Gv H1 am1 hid) (Gv H' am' (D :: hid)) := Le.of fun b o h => by
  obtain ⟨h1, h2, h3⟩ := gv_of h
  obtain ⟨h4, h5⟩ := e.keep b o h2 h1
  refine gv_mk h4 h5 fun z => ?_
  rcases List.mem_cons.mp z with z | z
  · rw [z, n] at h1; cases h1
  · exact h3 z
theorem le_show : Le (Gv H am (D :: hid)) (Gv H am hid) := Le.of fun b o h => by
  obtain ⟨h1, h2, h3⟩ := gv_of h
  exact gv_mk h1 h2 fun z => h3 (List.mem_cons_of_mem _ z)
theorem SR.hide (h : SR K A hid H am st) (n : H D = none) (o : HO) : SR K A (D :: hid) (upd H D o) am st := by
  obtain ⟨e, s⟩ := h.laid n o
  refine ⟨s.len, s.nd, fun b hb => ?_, fun b hb => ?_, fun c a ob h1 h2 => ?_⟩
  · rcases List.mem_cons.mp hb with z | z
    · rw [z]; exact h.new n
    · exact h.hd b z
  · rcases List.mem_cons.mp hb with z | z
    · rw [z]; exact ⟨o, upd_same⟩
    · exact s.hs b z
  · have q := h.ob c a ob h1 h2
    obtain ⟨u, qu, _⟩ := q.some
    exact q.mono (le_hide e n) e.at (upd_ne (ne_of_none qu n))
theorem SR.unhide (h : SR K A (D :: hid) H am st) : SR K A hid H am st :=
  ⟨h.len, h.nd, fun b hb => h.hd b (List.mem_cons_of_mem _ hb), fun b hb => h.hs b (List.mem_cons_of_mem _ hb), fun c a ob h1 h2 => (h.ob c a ob h1 h2).mono le_show (fun _ _ z => z) rfl⟩
theorem gv_hid {o : HO} (hD : D ∈ hid) : Gv (upd H D o) am hid = Gv H am hid := by
  funext b
  unfold Gv
  by_cases hb : b ∈ am ∨ b ∈ hid
  · rw [if_pos hb, if_pos hb]
  · rw [if_neg hb, if_neg hb, upd_ne]
    rintro rfl
    exact hb (.inr hD)
theorem SR.wrhid (h : SR K A hid H am st) (hD : D ∈ hid) (o : HO) : SR K A hid (upd H D o) am st := by
  refine ⟨h.len, h.nd, h.hd, fun b hb => ?_, fun c a ob h1 h2 => ?_⟩
  · by_cases e : b = D
    · rw [e]; exact ⟨o, upd_same⟩
    · obtain ⟨u, q⟩ := h.hs b hb
      exact ⟨u, (upd_ne e).trans q⟩
  · rw [gv_hid hD]
    refine (h.ob c a ob h1 h2).mono (Le.refl _) (fun _ _ z => z) (upd_ne fun e => ?_)
    exact h.hd D hD (by rw [← e]; exact List.mem_of_getElem? h1)
theorem Ext.old (e : Ext H1 am1 H am) (n : H1 D = none) (o : HO) : Ext H1 am1 (upd H D o) am :=
  ⟨e.pre, fun b u hb q => by
    obtain ⟨q1, q2⟩ := e.keep b u hb q
    exact ⟨(upd_ne (ne_of_none q n)).trans q1, q2⟩⟩
/-- a hidden list becomes a cell -/
theorem SR.adopt {vs : List V} {l : List R} (h : SR K A (D :: hid) H am st) (nd : D ∉ hid) (hH : H D = some (.lst vs)) (q : RRs K A (Gv H am (D :: hid)) am l vs) : SR K A hid H (am ++ [D]) (st ++ [.lst l]) := by
  have na : D ∉ am := h.hd D List.mem_cons_self
  have le : Le (Gv H am (D :: hid)) (Gv H (am ++ [D]) hid) := Le.of fun b o e => by
    obtain ⟨h1, h2, h3⟩ := gv_of e
    refine gv_mk h1 (fun z => ?_) fun z => h3 (List.mem_cons_of_mem _ z)
    rcases List.mem_append.mp z with z | z
    · exact h2 z
    · exact h3 (by rw [List.mem_singleton.mp z]; exact List.mem_cons_self)
  have at' : ∀ (n : Nat) (a : Addr), am[n]? = some a → (am ++ [D])[n]? = some a := pre_get (List.prefix_append _ _)
  refine ⟨by simp [h.len], ?_, fun b hb z => ?_, fun b hb => h.hs b (List.mem_cons_of_mem _ hb), fun c a ob h1 h2 => ?_⟩
  · rw [List.nodup_append]
    refine ⟨h.nd, by simp, fun a ha b hb => ?_⟩
    rw [List.mem_singleton] at hb
    subst hb
    rintro rfl
    exact na ha
  · rcases List.mem_append.mp z with z | z
    · exact h.hd b (List.mem_cons_of_mem _ hb) z
    · rw [List.mem_singleton.mp z] at hb; exact nd hb
  · by_cases hc : c < am.length
    · rw [List.getElem?_append_left hc] at h1
      rw [List.getElem?_append_left (by rw [← h.len]; exact hc)] at h2
      exact (h.ob c a ob h1 h2).mono le at' rfl
    · have hc1 := (List.getElem?_eq_some_iff.mp h1).1
      rw [List.length_append, List.length_singleton] at hc1
      have ec : c = am.length := by omega
      subst ec
      rw [List.getElem?_append_right (Nat.le_refl _), Nat.sub_self] at h1
      rw [h.len, List.getElem?_append_right (Nat.le_refl _), Nat.sub_self] at h2
      cases h1
      cases h2
      exact ⟨vs, hH, q.mono le at'⟩
end
theorem noErr_ne {α : Type} (r : Res α) (x : Exc) (s : Store) : noErr r ≠ .err x s := by cases r <;> intro h <;> cases h
theorem noErr_eq {α : Type} {r : Res α} {a : α} {s : Store} (h : noErr r = .ok a s) : r = .ok a s := by
  cases r with
  | ok b t => exact h
  | err x s => cases h
  | bad => cases h
theorem bind_eq {α β : Type} {r : Res α} {f : α → Store → Res β} {b : β} {s : Store} (h : r.bind f = .ok b s) : ∃ a t, r = .ok a t ∧ f a t = .ok b s := by
  cases r with
  | ok a t => exact ⟨a, t, rfl, h⟩
  | err x s => cases h
  | bad => cases h
theorem bind_ne {α β : Type} {r : Res α} {f : α → Store → Res β} (h : ∀ x s, r ≠ .err x s) (k : ∀ a t x s, f a t ≠ .err x s) : ∀ x s, r.bind f ≠ .err x s := by
  cases r with
  | ok a t => exact k a t
  | err x s => exact absurd rfl (h x s)
  | bad => intro x s e; cases e
theorem lcT_ne (ev : EvE) (et : EvT) (elt : E) (tg : Tg) (c : Option E) (env : Env) (r : R) (st : Store) : ∀ x s, lcT ev et elt tg c env r st ≠ .err x s := by
  unfold lcT
  cases asgTg tg r env with
  | none => intro x s e; cases e
  | some env' =>
    cases c with
    | none => exact bind_ne (noErr_ne _) fun a t x s e => by cases e
    | some c =>
      refine bind_ne (noErr_ne _) fun k t => ?_
      cases k with
      | true => exact bind_ne (noErr_ne _) fun a t x s e => by cases e
      | false => intro x s e; cases e
theorem lcL_ne (ev : EvE) (et : EvT) (elt : E) (tg : Tg) (c : Option E) (env : Env) : ∀ (l : List R) (st : Store), ∀ x s, lcL ev et elt tg c env l st ≠ .err x s
  | [], st => fun x s e => by cases e
  | r :: l, st => bind_ne (lcT_ne ev et elt tg c env r st) fun a t => bind_ne (lcL_ne ev et elt tg c env l t) fun b u x s e => by cases e
def Wts (X : Cx) (fs : List Expr) : TT := fun σ H Q => ∀ pins s, Inv X pins σ H s → wpAny (model X.prog X.w) X.A (forIn fs true fun c r => if r = true then do let ok ← isTrue c X.env (eval c X.env); pure (ForInStep.yield ok) else pure (ForInStep.yield r)) (TP X pins σ Q) X.xe s
theorem pts_wts (X : Cx) (fs : List Expr) : PTs X fs (Wts X fs) := ⟨fun pins s σ H Q I h => h pins s I⟩
theorem ownL_map {N : List Str} : ∀ {own : List Nat}, (own.all fun i => decide (i < N.length)) = true → (ownL N own).map (·.2) = own
  | [], _ => rfl
  | i :: own, h => by
    rw [List.all_cons] at h
    obtain ⟨h1, h2⟩ := Bool.and_eq_true_iff.mp h
    have h1 := of_decide_eq_true h1
    have ih := ownL_map h2
    unfold ownL at ih ⊢
    rw [List.filterMap_cons, List.getElem?_eq_getElem h1]
    exact congrArg (List.cons i) ih
theorem relabel_names {sc : Scope} {env : PySem.Env} {nm : List (Str × NameKind)} (hk : env.scope.kind = .function) (hn : env.scope.names = nm) : (relabel sc env).names = relN nm sc.names := by
  show (sc.names.map fun ((n, k) : Str × NameKind) => if (k == NameKind.free && env.scope.kind == ScopeKind.function && env.kindOf n == some NameKind.cell) then (n, NameKind.cell) else (n, k)) = _
  unfold relN PySem.Env.kindOf
  rw [hk, hn]
  congr 1
  funext y
  obtain ⟨a, b⟩ := y
  simp
section
variable {T : Tab} {A : Ads} {c0 c1 : CF} {fl k n : Nat} {X : Cx} {W : WX} {nm : List (Str × NameKind)} {m : Nat} {e : Expr} {env : Env} {σ : L2.St} {H : Hp} {am : List Addr} {st : Store} {hid : List Addr} {Q : VK} {pins : List (Addr × Obj)} {s : Shared}
theorem wts_nil {Q : Bool → Hp → Prop} (h : Q true H) : Wts X [] σ H Q := fun pins s I => pts_nil.run pins s σ H Q I h
theorem wts_one {f : Expr} {Q : Bool → Hp → Prop} (h : Wt X f σ H Q) : Wts X [f] σ H Q := fun pins s I => (pts_one (pt_wt X f)).run pins s σ H Q I h
theorem tt_pos {a b : Prop} (_ : 0 ≤ 0) (h : a) : if (true : Bool) = true then a else b := by rw [if_pos rfl]; exact h
theorem tt_neg {a b : Prop} (_ : 0 ≤ 0) (h : b) : if (false : Bool) = true then a else b := by rw [if_neg Bool.false_ne_true]; exact h
theorem XOk.blk (ok : XOk X T A c0 c1 k W nm) (hk : X.env.scope.kind = .function) (s : Shared) (H : Hp) (sc : Scope) (C : Addr) (cl : List (Str × Addr)) (fp : List Addr) :
    XOk (X.blk s H sc (compEnvC sc cl C X.env) fp) T A c0 c1 k (fun _ _ _ _ => False) (relN nm sc.names) :=
  ⟨ok.calm, ok.nd, relabel_names hk ok.nm, fun u s' ⟨_, _, _, _, _, _, _, _, _, _, _, _, _, _, _, _, w⟩ => w.elim, ok.fa, ok.room, ok.call, ok.ini⟩
theorem Kept.wipe {t : List Nat → Bool} {own : List Nat} {σ2 : L2.St} (kp : Kept t (L2.wipe σ own) σ2) (ht : t own = true) (hin : ∀ i, i ∈ own → i < σ.length) : L2.wipe σ2 own = L2.wipe σ own := by
  apply List.ext_getElem?
  intro j
  by_cases hj : j ∈ own
  · have hl : j < σ2.length := by rw [kp.len, L2.wipe_length]; exact hin j hj
    have none_at : ∀ (τ : L2.St), j < τ.length → (L2.wipe τ own)[j]? = some none := by
      intro τ hτ
      cases e : (L2.wipe τ own)[j]? with
      | none =>
        have := List.getElem?_eq_none_iff.mp e
        rw [L2.wipe_length] at this
        omega
      | some o =>
        cases o with
        | none => rfl
        | some v => exact absurd hj (L2.wipe_some e).2
    rw [none_at σ2 hl, none_at σ (hin j hj)]
  · rw [L2.wipe_out hj, kp.out own ht j hj]
def Gb (X : Cx) (sc : Scope) (t : Expr) : TG := fun v σ H Q => ∀ s0 H0 C cl fp, Wg (X.blk s0 H0 sc (compEnvC sc cl C X.env) fp) t v σ H Q
def Tb (X : Cx) (sc : Scope) (fs : List Expr) : TT := fun σ H Q => ∀ s0 H0 C cl fp, Wts (X.blk s0 H0 sc (compEnvC sc cl C X.env) fp) fs σ H Q
def Eb (X : Cx) (sc : Scope) (x : Expr) : TE := fun σ H Q => ∀ s0 H0 C cl fp, Wh (X.blk s0 H0 sc (compEnvC sc cl C X.env) fp) x σ H Q
theorem pg_gb (X : Cx) (sc : Scope) (t : Expr) (s0 : Shared) (H0 : Hp) (C : Addr) (cl : List (Str × Addr)) (fp : List Addr) : PG (X.blk s0 H0 sc (compEnvC sc cl C X.env) fp) t (Gb X sc t) := ⟨fun pins s σ H v u Q I r h => h s0 H0 C cl fp pins s u I r⟩
theorem pts_tb (X : Cx) (sc : Scope) (fs : List Expr) (s0 : Shared) (H0 : Hp) (C : Addr) (cl : List (Str × Addr)) (fp : List Addr) : PTs (X.blk s0 H0 sc (compEnvC sc cl C X.env) fp) fs (Tb X sc fs) := ⟨fun pins s σ H Q I h => h s0 H0 C cl fp pins s I⟩
theorem pe_eb (X : Cx) (sc : Scope) (x : Expr) (s0 : Shared) (H0 : Hp) (C : Addr) (cl : List (Str × Addr)) (fp : List Addr) : PE (X.blk s0 H0 sc (compEnvC sc cl C X.env) fp) x (Eb X sc x) := ⟨fun pins s σ H Q I h => h s0 H0 C cl fp pins s I⟩
theorem lcC_ne (ev : EvE) (et : EvT) (elt : E) (tg : Tg) (c : Option E) (env : Env) (cc : Nat) : ∀ (m i : Nat) (st : Store), ∀ x s, lcC ev et elt tg c env cc m i st ≠ .err x s := by
  intro m
  induction m with
  | zero =>
    intro i st x s
    unfold lcC
    split
    · split
      · exact fun z => (by cases z)
      · exact fun z => (by cases z)
    · exact fun z => (by cases z)
  | succ m ih =>
    intro i st
    unfold lcC
    split
    · split
      · exact bind_ne (lcT_ne ev et elt tg c env _ st) fun a t => bind_ne (ih (i + 1) t) fun b u x s e => by cases e
      · exact fun x s z => (by cases z)
    · exact fun x s z => (by cases z)
theorem wk_steps {ev : EvE} {et : EvT} {mu : Bool} {elt : E} {tg : Tg} {cc : Option E} {env' : Env} {w : Wk} {J : L2.It} {E' : XK} (h1 : SR X.K A hid H am st) (qw : wkr X.K A hid H am w J) (r : Run X.K A hid fl H am st E' (rr X.K A hid) (lcW ev et mu elt tg cc env' w st) Q) :
    ∃ (N : Nat) (Rest : Nat → Store → List R → Prop) (vsF : List R) (stF : Store), N ≤ LINE ∧ Rest 0 st vsF ∧
      (∀ (D : Addr) (i : Nat) (H' : Hp) (am' : List Addr) (st' : Store) (vs : List R), H D = none → Ext H am H' am' → SR X.K A (D :: hid) H' am' st' → i ≤ N → Rest i st' vs →
        (J.stop i H' ∧ vs = [] ∧ st' = stF) ∨ (i < N ∧ J.go i H' ∧ ∀ x H'', J.yld i H' x H'' → (∀ fl, Post X.K A (D :: hid) fl H' am' st' H'' am' st') ∧
          ∃ rx vo st2 vs2, RR X.K A (Gv H'' am' (D :: hid)) am' rx x ∧ lcT ev et elt tg cc env' rx st' = .ok vo st2 ∧ Rest (i + 1) st2 vs2 ∧ vs = optC vo vs2)) ∧
      Run X.K A hid fl H am st E' (rr X.K A hid) (if mu then Res.ok (R.cell stF.length) (stF ++ [.lst vsF]) else (ofO (toPs vsF) stF).bind fun ps st => .ok (.p (.lst ps)) st) Q := by
  cases w with
  | vals l =>
    have r1 : Run X.K A hid fl H am st E' (rr X.K A hid) ((lcL ev et elt tg cc env' l st).bind fun vs st => lcR mu l.length vs st) Q := r
    cases el : lcL ev et elt tg cc env' l st with
    | bad => rw [el] at r1; exact False.elim r1
    | err x s => exact absurd el (lcL_ne _ _ _ _ _ _ _ _ x s)
    | ok vsF stF =>
      rw [el] at r1
      obtain ⟨hL, r2⟩ := Run.if1 (show Run X.K A hid fl H am st E' (rr X.K A hid) (if l.length ≤ LINE then (if mu then Res.ok (R.cell stF.length) (stF ++ [.lst vsF]) else (ofO (toPs vsF) stF).bind fun ps st => .ok (.p (.lst ps)) st) else .bad) Q from r1)
      refine ⟨l.length, fun i st' vs => lcL ev et elt tg cc env' (l.drop i) st' = .ok vs stF, vsF, stF, hL, el, fun D i H' am' st' vs hD ex sr hi ev' => ?_, r2⟩
      have ev' : lcL ev et elt tg cc env' (l.drop i) st' = .ok vs stF := ev'
      have wk := qw H' am' (D :: hid) st' (le_hide ex hD) ex.at sr i
      by_cases hil : i < l.length
      · right
        obtain ⟨go, stp⟩ := wk.1 hil
        refine ⟨hil, go, fun xv H2 y => ?_⟩
        obtain ⟨p2', rx, erx, qx⟩ := stp xv H2 y
        rw [List.drop_eq_getElem_cons hil] at ev'
        have erx' : l[i] = rx := by
          rw [List.getElem?_eq_getElem hil] at erx
          exact Option.some.inj erx
        rw [erx'] at ev'
        obtain ⟨vo, st2, ev1, ev2⟩ := bind_eq (show (lcT ev et elt tg cc env' rx st').bind _ = .ok vs stF from ev')
        obtain ⟨vs2, st3, ev3, ev4⟩ := bind_eq ev2
        cases ev4
        exact ⟨p2', rx, vo, st2, vs2, qx, ev1, ev3, rfl⟩
      · left
        have hie : i = l.length := by omega
        subst hie
        rw [List.drop_length] at ev'
        cases ev'
        exact ⟨wk.2 (Nat.le_refl _), rfl, rfl⟩
  | cel c0 =>
    obtain ⟨a, ha, rfl⟩ := (show ∃ a, am[c0]? = some a ∧ J = Itl X.K a from qw)
    have r1 : Run X.K A hid fl H am st E' (rr X.K A hid) ((lcC ev et elt tg cc env' c0 1048576 0 st).bind fun vs st => lcR mu 1048576 vs st) Q := r
    cases el : lcC ev et elt tg cc env' c0 1048576 0 st with
    | bad => rw [el] at r1; exact False.elim r1
    | err x s => exact absurd el (lcC_ne _ _ _ _ _ _ _ _ _ _ x s)
    | ok vsF stF =>
      rw [el] at r1
      obtain ⟨hL, r2⟩ := Run.if1 (show Run X.K A hid fl H am st E' (rr X.K A hid) (if 1048576 ≤ LINE then (if mu then Res.ok (R.cell stF.length) (stF ++ [.lst vsF]) else (ofO (toPs vsF) stF).bind fun ps st => .ok (.p (.lst ps)) st) else .bad) Q from r1)
      refine ⟨1048576, fun i st' vs => lcC ev et elt tg cc env' c0 (1048576 - i) i st' = .ok vs stF, vsF, stF, hL, el, fun D i H' am' st' vs hD ex sr hi ev' => ?_, r2⟩
      have ev' : lcC ev et elt tg cc env' c0 (1048576 - i) i st' = .ok vs stF := ev'
      have ha' := ex.at _ _ ha
      unfold lcC at ev'
      cases eo : st'[c0]? with
      | none => rw [eo] at ev'; cases ev'
      | some ob =>
        rw [eo] at ev'
        cases ob with
        | lst l =>
          obtain ⟨ws, w1, w2⟩ := sr.ob c0 a _ ha' eo
          dsimp only at ev'
          cases ei : l[i]? with
          | none =>
            rw [ei] at ev'
            cases ev'
            exact .inl ⟨⟨ws, SqL.of w1, by rw [← w2.length]; exact List.getElem?_eq_none_iff.mp ei⟩, rfl, rfl⟩
          | some rx =>
            rw [ei] at ev'
            dsimp only at ev'
            obtain ⟨u, eu, qu⟩ := w2.get ei
            right
            by_cases hlt : i < 1048576
            · have e1 : 1048576 - i = (1048576 - (i + 1)) + 1 := by omega
              rw [e1] at ev'
              dsimp only at ev'
              obtain ⟨vo, st2, ev1, ev2⟩ := bind_eq ev'
              obtain ⟨vs2, st3, ev3, ev4⟩ := bind_eq ev2
              cases ev4
              refine ⟨hlt, ⟨ws, u, SqL.of w1, eu⟩, fun xv H2 y => ?_⟩
              obtain ⟨rfl, y⟩ := y
              have ex : u = xv := by
                have := y ws (SqL.of w1)
                rw [eu] at this
                exact Option.some.inj this
              subst ex
              exact ⟨fun fl => Post.refl sr, rx, vo, st2, vs2, qu, ev1, ev3, rfl⟩
            · have e1 : 1048576 - i = 0 := by omega
              rw [e1] at ev'
              cases ev'
        | _ => cases ev'
theorem lc_tlc (hE : SndE T A c0 c1 fl k n) (hT : SndT T A c0 c1 fl k n) (ok : XOk X T A c0 c1 k W nm) (h : SR X.K A hid H am st) (er : ER X.K A (Gv H am hid) am env σ) (hf : fl ≤ st.length)
    {mu : Bool} {elt : E} {tg : Tg} {it : It} {cc : Option E} {own : List Nat} (c : chkE T X.N (m + 1) nm (.lc mu elt tg it cc own) e = true)
    (r : Run X.K A hid fl H am st (fun c d H' => W c d σ H') (rr X.K A hid) (evE T c0 c1 fl (n + 1) (.lc mu elt tg it cc own) env st) Q) :
    ∃ x t i fs sc pos, e = .ListComp x [⟨t, i, fs, 0⟩] sc pos ∧ BlkOk X.N X.env.scope sc (ownL X.N own) ∧ notSet i = true ∧
      (X.env.scope.kind = .function → σ.length = X.N.length → tLc (Wi X t i) (Gb X sc t) (Tb X sc fs) (Eb X sc x) ((ownL X.N own).map (·.2)) σ H Q) := by
  unfold chkE at c
  dsimp only at c
  split at c
  · rename_i x t i fs isA sc pos
    simp only [Bool.and_eq_true, decide_eq_true_eq] at c
    obtain ⟨⟨⟨⟨⟨⟨⟨⟨⟨g0, g1⟩, g2⟩, g3⟩, g4⟩, g5⟩, g6⟩, g7⟩, g8⟩, g9⟩ := c
    subst g1
    have hblk : BlkOk X.N X.env.scope sc (ownL X.N own) := by
      have b := blkOk_by g6
      exact ⟨b.kind, b.uniq, b.ix, fun y hy e => by rw [ok.nm]; exact b.free y hy e, b.own⟩
    refine ⟨x, t, i, fs, sc, pos, rfl, hblk, g3, fun hk hσ => ?_⟩
    rw [ownL_map g7]
    have g7' : ∀ i, i ∈ own → i < σ.length := fun i hi => by rw [hσ]; exact of_decide_eq_true (List.all_eq_true.mp g7 i hi)
    rw [ev_lc] at r
    refine snd_it hE ok h er hf g4 (r.bind fun w st1 J H1 am1 p1 qw r1 => ?_)
    obtain ⟨NN, Rest, vsF, stF, hL, hR0, hW, r2⟩ := wk_steps p1.sr qw r1
    intro D hD
    have er1 := er.post p1
    have nDa : D ∉ am1 := p1.sr.new hD
    have nDh : D ∉ hid := p1.sr.noh hD
    let Inv' : Nat → Hp → Prop := fun i H' => i ≤ NN ∧ ∃ am' st' acc out, Ext H1 am1 H' am' ∧ SR X.K A (D :: hid) H' am' st' ∧ NoNew fl st1 st' ∧ H' D = some (.lst acc) ∧ RRs X.K A (Gv H' am' (D :: hid)) am' out acc ∧
      (∃ vs, Rest i st' vs ∧ out ++ vs = vsF) ∧ out.length ≤ i
    refine ⟨fun i mm H' => mm = NN - i ∧ Inv' i H', ⟨NN, rfl, Nat.zero_le _, am1, st1, [], [], (p1.sr.laid hD _).1, p1.sr.hide hD _, NoNew.refl _ _, upd_same, .nil, ⟨vsF, hR0, rfl⟩, Nat.le_refl _⟩, ?_⟩
    rintro i mm H' ⟨rfl, hi, am', st', acc, out, ex, sr, nn, hHD, qo, ⟨vs, ev, eo⟩, ho⟩
    have le1 : Le (Gv H1 am1 hid) (Gv H' am' (D :: hid)) := le_hide ex hD
    rcases hW D i H' am' st' vs hD ex sr hi ev with ⟨stop, rfl, est⟩ | ⟨hil, go, stp⟩
    case inr =>
      right
      refine ⟨go, Inv' (i + 1), fun H2 z => ⟨NN - (i + 1), by omega, rfl, z⟩, fun xv H2 y s0 H0 C cl fp => ?_⟩
      obtain ⟨p2', rx, vo, st2, vs2, qx, ev1, ev3, evs⟩ := stp xv H2 y
      subst evs
      have p2 := p2' fl
      have ev1 : (match asgTg tg rx (wipeE env own) with
        | some env' => (match cc with
          | none => (noErr (evE T c0 c1 fl n elt env' st')).bind fun v st => .ok (some v) st
          | some c => (noErr (evT T c0 c1 fl n c env' st')).bind fun k st => if k then (noErr (evE T c0 c1 fl n elt env' st)).bind fun v st => .ok (some v) st else .ok none st)
        | none => .bad) = .ok vo st2 := ev1
      cases ea : asgTg tg rx (wipeE env own) with
      | none => rw [ea] at ev1; cases ev1
      | some env2 =>
      rw [ea] at ev1
      dsimp only at ev1
      have e2 := (er1.mono le1 ex.at).wipe own
      have e2' : ER X.K A (Gv H2 am' (D :: hid)) am' (wipeE env own) (L2.wipe σ own) := e2.post p2
      have okB := fun s0 H0 C cl fp => ok.blk hk s0 H0 sc C cl fp
      refine tg_ok (X := X.blk s0 H0 sc (compEnvC sc cl C X.env) fp) ok.calm ok.nd (relabel_names hk ok.nm) (fun z => Bool.noConfusion z) _ tg t rx (wipeE env own) env2 (L2.wipe σ own) H2 am' (D :: hid) xv _ g5 ea qx e2' fun σ2 er2 kp => ?_
      have hD2 : H2 D = some (.lst acc) := (p2.ext.keep D _ (sr.hd D List.mem_cons_self) hHD).1
      have qo2 : RRs X.K A (Gv H2 am' (D :: hid)) am' out acc := p2.ext.rrs qo
      have hf2 : fl ≤ st'.length := Nat.le_trans (p1.fl' hf) nn.1
      refine ⟨kp.wipe g0 g7', fun s0 H0 C cl fp => ?_⟩
      -- an item is kept
      have keep : ∀ (v : R) (st4 st5 : Store) (H4 : Hp) (am4 : List Addr) (y : V), Post X.K A (D :: hid) fl H2 am' st' H4 am4 st4 → ∀ H5 am5, Post X.K A (D :: hid) fl H4 am4 st4 H5 am5 st5 → RR X.K A (Gv H5 am5 (D :: hid)) am5 v y → vo = some v → st2 = st5 →
          ∃ acc, H5 D = some (.lst acc) ∧ acc.length < sizeLine ∧ Inv' (i + 1) (upd H5 D (.lst (acc ++ [y]))) := by
        intro v st4 st5 H4 am4 y p4 H5 am5 p5 qv ev es
        have hD4 := (p4.ext.keep D _ (sr.hd D List.mem_cons_self) hD2)
        have hD5 := (p5.ext.keep D _ hD4.2 hD4.1)
        have p45 := p4.trans p5
        have q5 : RRs X.K A (Gv H5 am5 (D :: hid)) am5 out acc := p45.ext.rrs qo2
        refine ⟨acc, hD5.1, by rw [← q5.length, ← line_eq]; omega, hil, am5, st5, acc ++ [y], out ++ [v], ((ex.trans p2.ext).trans p45.ext).old hD _, p45.sr.wrhid List.mem_cons_self _, (nn.trans p2.nn).trans p45.nn, upd_same, ?_, ⟨vs2, by rw [← es]; exact ev3, ?_⟩, by rw [List.length_append, List.length_singleton]; omega⟩
        · rw [gv_hid List.mem_cons_self]
          exact q5.append (.cons qv .nil)
        · rw [← eo, ev, List.append_assoc]; rfl
      cases cc with
      | none =>
        cases fs with
        | cons _ _ => exact off g9
        | nil =>
          refine wts_nil ?_
          refine tt_pos (Nat.le_refl 0) ?_
          intro s0 H0 C cl fp
          have ev1 : (noErr (evE T c0 c1 fl n elt env2 st')).bind (fun v st => .ok (some v) st) = Res.ok vo st2 := ev1
          obtain ⟨v, st4, e5, e6⟩ := bind_eq ev1
          cases e6
          have e5 := noErr_eq e5
          refine hE _ _ _ (okB s0 H0 C cl fp) _ elt x env2 σ2 H2 am' st' (D :: hid) _ g8 p2.sr er2 hf2 ?_
          rw [e5]
          exact fun y H4 am4 p4 qv => keep v _ _ H4 am4 y p4 H4 am4 (Post.refl p4.sr) qv rfl rfl
      | some cx =>
        cases fs with
        | nil => exact off g9
        | cons fx fs =>
        cases fs with
        | cons _ _ => exact off g9
        | nil =>
          have g9 : chkE T X.N _ (relN nm sc.names) cx fx = true := g9
          have ev1 : (noErr (evT T c0 c1 fl n cx env2 st')).bind (fun k st => if k then (noErr (evE T c0 c1 fl n elt env2 st)).bind fun v st => .ok (some v) st else .ok none st) = Res.ok vo st2 := ev1
          obtain ⟨kk, st4, e5, e6⟩ := bind_eq ev1
          have e5 := noErr_eq e5
          refine wts_one ?_
          refine hT _ _ _ (okB s0 H0 C cl fp) _ cx fx env2 σ2 H2 am' st' (D :: hid) _ g9 p2.sr er2 hf2 ?_
          rw [e5]
          intro b H4 am4 p4 qb
          cases (show kk = b from qb)
          cases kk with
          | false =>
            cases e6
            refine tt_neg (Nat.le_refl 0) ?_
            have hD4 := (p4.ext.keep D _ (sr.hd D List.mem_cons_self) hD2)
            exact ⟨hil, am4, _, acc, out, (ex.trans p2.ext).trans p4.ext, p4.sr, (nn.trans p2.nn).trans p4.nn, hD4.1, p4.ext.rrs qo2, ⟨vs2, ev3, eo⟩, by omega⟩
          | true =>
            refine tt_pos (Nat.le_refl 0) ?_
            intro s0 H0 C cl fp
            have e6 : (noErr (evE T c0 c1 fl n elt env2 st4)).bind (fun v st => .ok (some v) st) = Res.ok vo st2 := e6
            obtain ⟨v, st5, e7, e8⟩ := bind_eq e6
            cases e8
            have e7 := noErr_eq e7
            refine hE _ _ _ (okB s0 H0 C cl fp) _ elt x env2 σ2 H4 am4 st4 (D :: hid) _ g8 p4.sr (er2.post p4) (p4.fl' hf2) ?_
            rw [e7]
            exact fun y H5 am5 p5 qv => keep v _ _ H4 am4 y p4 H5 am5 p5 qv rfl rfl
    case inl =>
      left
      refine ⟨stop, ?_⟩
      have est2 := est.symm
      subst est2
      rw [List.append_nil] at eo
      subst eo
      have pF : Post X.K A hid fl H1 am1 st1 H' am' stF := ⟨ex, sr.unhide, nn⟩
      cases mu with
      | true =>
        rw [if_pos rfl] at r2
        have ex' : Ext H1 am1 H' (am' ++ [D]) := ⟨ex.pre.trans (List.prefix_append _ _), fun b o hb q => by
          obtain ⟨q1, q2⟩ := ex.keep b o hb q
          refine ⟨q1, fun z => ?_⟩
          rcases List.mem_append.mp z with z | z
          · exact q2 z
          · rw [List.mem_singleton.mp z, hD] at q; cases q⟩
        have nn' : NoNew fl stF (stF ++ [.lst out]) := ⟨by simp, fun c hc m o1 o2 h1 h2 => by
          rw [List.getElem?_append_left (List.getElem?_eq_some_iff.mp h1).1, h1] at h2
          cases h2
          exact id⟩
        exact r2 _ H' (am' ++ [D]) ⟨ex', sr.adopt nDh hHD qo, nn.trans nn'⟩ (.cell (by rw [← sr.len]; simp))
      | false =>
        rw [if_neg Bool.false_ne_true] at r2
        obtain ⟨ps, e1, r3⟩ := r2.ofO
        exact r3 _ H' am' pF (.p (.lst (SqL.of (gv_mk hHD (sr.hd D List.mem_cons_self) nDh)) ((qo.mono le_show (fun _ _ z => z)).toPs e1)))
  · exact off c
theorem c_lc (hE : SndE T A c0 c1 fl k n) (hT : SndT T A c0 c1 fl k n) (ok : XOk X T A c0 c1 k W nm) (h : SR X.K A hid H am st) (er : ER X.K A (Gv H am hid) am env σ) (hf : fl ≤ st.length)
    {mu : Bool} {elt : E} {tg : Tg} {it : It} {cc : Option E} {own : List Nat} (c : chkE T X.N (m + 1) nm (.lc mu elt tg it cc own) e = true)
    (r : Run X.K A hid fl H am st (fun c d H' => W c d σ H') (rr X.K A hid) (evE T c0 c1 fl (n + 1) (.lc mu elt tg it cc own) env st) Q) : Wh X e σ H Q := by
  obtain ⟨x, t, i, fs, sc, pos, rfl, hb, g3, w⟩ := lc_tlc hE hT ok h er hf c r
  intro pins s I
  exact (pe_lc ok.calm ok.nd (pi_wi X t i) hb (pg_gb X sc t) (pts_tb X sc fs) (pe_eb X sc x) (noset_fold g3 _)).run pins s σ H Q I (w I.ok.kind I.len)
end
end EV
end
section
set_option linter.all false
set_option maxRecDepth 100000
/-! EV, part 17: tests; soundness of all expressions. -/
namespace EV
open PySem PySem.Spec PyProof.Rows L2
def plT : Expr → Bool
  | .UnaryOp op _ _ => !decide (op = .Not)
  | .BoolOp _ _ _ => false
  | .IfExp _ _ _ _ => false
  | .Compare _ _ _ _ => false
  | _ => true
theorem plT_is {e : Expr} (h : plT e = true) (env : PySem.Env) : ∀ whole, isTrue e env whole = (do let v ← whole; standAt e.pos; holding [v] (truthy v)) := by
  intro whole
  cases e with
  | UnaryOp op x pos => cases op <;> first | rfl | cases h
  | _ => first | rfl | cases h
def E.plain : E → Bool
  | .and _ _ | .or _ _ | .nt _ | .ite _ _ _ | .cmp _ _ _ | .chn _ _ _ _ _ => false
  | _ => true
section
variable {T : Tab} {A : Ads} {c0 c1 : CF} {fl k n : Nat} {X : Cx} {W : WX} {nm : List (Str × NameKind)} {m : Nat} {e : Expr} {env : Env} {σ : L2.St} {H : Hp} {am : List Addr} {st : Store} {hid : List Addr} {Q : Bool → Hp → Prop} {pins : List (Addr × Obj)} {s : Shared}
theorem plain_chk {e' : E} (hp : e'.plain = true) (c : chkE T X.N m nm e' e = true) : plT e = true := by
  cases m with
  | zero => exact off c
  | succ m =>
  cases e' with
  | bi b l =>
    rcases bi_inv c with ⟨_, _, _, _, _, _, _, _, _, rfl, _⟩ | ⟨_, _, _, _, _, _, rfl, _⟩ <;> rfl
  | neg a =>
    cases e with
    | UnaryOp op z pos =>
      have c : (decide (op = .USub) && chkE T X.N m nm a z) = true := c
      simp only [Bool.and_eq_true, decide_eq_true_eq] at c
      rw [c.1]
      rfl
    | _ => exact off c
  | and a b => cases hp
  | or a b => cases hp
  | nt a => cases hp
  | ite a b d => cases hp
  | cmp o a b => cases hp
  | chn o o' a b d => cases hp
  | lc2 => exact off c
  | _ => cases e <;> first | rfl | exact off c
theorem evT_pl {e' : E} (hp : e'.plain = true) : evT T c0 c1 fl (n + 1) e' env st = (evE T c0 c1 fl n e' env st).bind fun x st => ofO (truth x st) st := by
  cases e' <;> first | rfl | cases hp
theorem evE_zero (e' : E) : evE T c0 c1 fl 0 e' env st = .bad := rfl
theorem pw_bool {op : BoolOp} {es : List Expr} {pos : Pos} : PW X (.BoolOp op es pos) (Wt X (.BoolOp op es pos)) := ⟨fun w pins s σ H Q I h => h pins s I⟩
section
variable (ok : XOk X T A c0 c1 k W nm) (h : SR X.K A hid H am st) (er : ER X.K A (Gv H am hid) am env σ) (hf : fl ≤ st.length)
include ok h er hf
theorem t_plain (hE : SndE T A c0 c1 fl k n) {e' : E} (hp : e'.plain = true) (c : chkE T X.N m nm e' e = true) (r : Run X.K A hid fl H am st (fun c d H' => W c d σ H') rid (evT T c0 c1 fl (n + 1) e' env st) Q) : Wt X e σ H Q := by
  intro pins s I
  refine (pt_truth (pe_wh X e) (plT_is (plain_chk hp c) X.env)).run pins s σ H Q I ?_
  rw [evT_pl hp] at r
  refine hE X W nm ok m e' e env σ H am st hid _ c h er hf (r.bind fun x st1 vx H1 am1 p1 q1 r1 => ?_)
  obtain ⟨b, e1, r2⟩ := r1.ofO1
  exact ⟨b, truth_ok p1.sr q1 e1, r2 b H1 am1 (Post.refl p1.sr) rfl⟩
theorem t_cmp (hE : SndE T A c0 c1 fl k n) {o : Cop} {a b : E} (c : chkE T X.N m nm (.cmp o a b) e = true) (r : Run X.K A hid fl H am st (fun c d H' => W c d σ H') rid (evT T c0 c1 fl (n + 2) (.cmp o a b) env st) Q) : Wt X e σ H Q := by
  cases m with
  | zero => exact off c
  | succ m =>
  cases e with
  | Compare l ops zs pos =>
    match ops, zs, c with
    | [op], [z], c =>
      have c : (decide (copO o = op) && notSet z && chkE T X.N m nm a l && chkE T X.N m nm b z) = true := c
      simp only [Bool.and_eq_true, decide_eq_true_eq] at c
      obtain ⟨⟨⟨d1, d4⟩, d2⟩, d3⟩ := c
      subst d1
      intro pins s I
      refine (pt_cmpR (opW X _) (pe_wh X l) (pe_wh X z) (noset_marks d4)).run pins s σ H Q I ?_
      have r : Run X.K A hid fl H am st (fun c d H' => W c d σ H') rid ((evE T c0 c1 fl (n + 1) (.cmp o a b) env st).bind fun x st => ofO (truth x st) st) Q := r
      rw [ev_cmp] at r
      have e0 : ∀ r0 : Res R, (r0.bind fun x st => (evE T c0 c1 fl n b env st).bind fun y st => (ofO (cmpR o x y st) st).bind fun b st => .ok (.p (.bl b)) st).bind (fun x st => ofO (truth x st) st) = r0.bind fun x st => (evE T c0 c1 fl n b env st).bind fun y st => (ofO (cmpR o x y st) st).bind fun b st => .ok b st := by
        intro r0
        cases r0 with
        | ok x st =>
          simp only [Res.bind_ok]
          cases evE T c0 c1 fl n b env st with
          | ok y st =>
            simp only [Res.bind_ok]
            cases cmpR o x y st <;> rfl
          | _ => rfl
        | _ => rfl
      rw [e0] at r
      refine hE X W nm ok m a l env σ H am st hid _ d2 h er hf (r.bind fun x st1 vx H1 am1 p1 q1 r1 => ?_)
      refine hE X W nm ok m b z env σ H1 am1 st1 hid _ d3 p1.sr (er.post p1) (p1.fl' hf) (r1.bind fun y st2 vy H2 am2 p2 q2 r2 => ?_)
      intro v u rv ru
      obtain ⟨zz, e1, r3⟩ := r2.ofO
      exact cmpR_ok ok.room.units p2.sr (p2.ext.rr q1) q2 e1 rv ru ⟨zz, rfl, r3 zz H2 am2 (Post.refl p2.sr) rfl⟩
    | [], _, c => exact off c
    | [_], [], c => exact off c
    | [_], _ :: _ :: _, c => exact off c
    | _ :: _ :: _, _, c => exact off c
  | _ => exact off c
theorem t_chn (hE : SndE T A c0 c1 fl k n) {o o' : Cop} {a b d : E} (c : chkE T X.N m nm (.chn o o' a b d) e = true) (r : Run X.K A hid fl H am st (fun c d H' => W c d σ H') rid (evT T c0 c1 fl (n + 2) (.chn o o' a b d) env st) Q) : Wt X e σ H Q := by
  cases m with
  | zero => exact off c
  | succ m =>
  cases e with
  | Compare l ops zs pos =>
    match ops, zs, c with
    | [op, op'], [y', z], c =>
      have c : (decide (copO o = op) && decide (copO o' = op') && notSet z && chkE T X.N m nm a l && chkE T X.N m nm b y' && chkE T X.N m nm d z) = true := c
      simp only [Bool.and_eq_true, decide_eq_true_eq] at c
      obtain ⟨⟨⟨⟨⟨d1, d1'⟩, d4⟩, d2⟩, d3⟩, d5⟩ := c
      subst d1
      subst d1'
      intro pins s I
      refine (pt_chain (opW X _) (opW X _) (pe_wh X l) (pe_wh X y') (pe_wh X z) (show behindInMarks _ z = false from noset_marks d4)).run pins s σ H Q I ?_
      have r : Run X.K A hid fl H am st (fun c d H' => W c d σ H') rid ((evE T c0 c1 fl (n + 1) (.chn o o' a b d) env st).bind fun x st => ofO (truth x st) st) Q := r
      rw [ev_chn] at r
      have e0 : ∀ r0 : Res R, (r0.bind fun x st => (evE T c0 c1 fl n b env st).bind fun y st => (ofO (cmpR o x y st) st).bind fun k st =>
        if k then (evE T c0 c1 fl n d env st).bind fun z st => (ofO (cmpR o' y z st) st).bind fun b st => .ok (.p (.bl b)) st else .ok (.p (.bl false)) st).bind (fun x st => ofO (truth x st) st) = r0.bind fun x st => (evE T c0 c1 fl n b env st).bind fun y st => (ofO (cmpR o x y st) st).bind fun k st =>
        if k then (evE T c0 c1 fl n d env st).bind fun z st => (ofO (cmpR o' y z st) st).bind fun b st => .ok b st else .ok false st := by
        intro r0
        cases r0 with
        | ok x st =>
          simp only [Res.bind_ok]
          cases evE T c0 c1 fl n b env st with
          | ok y st =>
            simp only [Res.bind_ok]
            cases cmpR o x y st with
            | none => rfl
            | some kk =>
              cases kk with
              | false => rfl
              | true =>
                simp only [ofO_some, Res.bind_ok, if_true]
                cases evE T c0 c1 fl n d env st with
                | ok z st =>
                  simp only [Res.bind_ok]
                  cases cmpR o' y z st <;> rfl
                | _ => rfl
          | _ => rfl
        | _ => rfl
      rw [e0] at r
      refine hE X W nm ok m a l env σ H am st hid _ d2 h er hf (r.bind fun x st1 vx H1 am1 p1 q1 r1 => ?_)
      refine hE X W nm ok m b y' env σ H1 am1 st1 hid _ d3 p1.sr (er.post p1) (p1.fl' hf) (r1.bind fun y st2 vy H2 am2 p2 q2 r2 => ?_)
      intro v u rv ru
      obtain ⟨kk, e1, r3⟩ := r2.ofO
      refine cmpR_ok ok.room.units p2.sr (p2.ext.rr q1) q2 e1 rv ru ⟨kk, rfl, ?_⟩
      cases kk with
      | false => exact ⟨false, rfl, r3 _ H2 am2 (Post.refl p2.sr) rfl⟩
      | true =>
        refine hE X W nm ok m d z env σ H2 am2 st2 hid _ d5 p2.sr ((er.post p1).post p2) (p2.fl' (p1.fl' hf)) (Run.bind (r := evE T c0 c1 fl n d env st2) r3 fun w st3 vw H3 am3 p3 q3 r4 => ?_)
        intro v u rv ru
        obtain ⟨zz, e2, r5⟩ := r4.ofO
        exact cmpR_ok ok.room.units p3.sr (p3.ext.rr q2) q3 e2 rv ru ⟨zz, rfl, r5 zz H3 am3 (Post.refl p3.sr) rfl⟩
    | [], _, c => exact off c
    | [_], _, c => exact off c
    | _ :: _ :: _ :: _, _, c => exact off c
    | [_, _], [], c => exact off c
    | [_, _], [_], c => exact off c
    | [_, _], _ :: _ :: _ :: _, c => exact off c
  | _ => exact off c
theorem t_and (hT : SndT T A c0 c1 fl k n) {a b : E} (c : chkE T X.N (m + 1) nm (.and a b) e = true) (r : Run X.K A hid fl H am st (fun c d H' => W c d σ H') rid (evT T c0 c1 fl (n + 1) (.and a b) env st) Q) : Wt X e σ H Q := by
  cases e with
  | BoolOp op zs pos =>
    match zs, c with
    | x :: y :: zs, c =>
      have c : (decide (op = .And) && chkE T X.N m nm a x && (match (generalizing := false) zs with
        | [] => chkE T X.N m nm b y
        | _ :: _ => chkE T X.N m nm b (.BoolOp .And (y :: zs) pos))) = true := c
      simp only [Bool.and_eq_true, decide_eq_true_eq] at c
      obtain ⟨⟨d1, d2⟩, d3⟩ := c
      subst d1
      intro pins s I
      refine (pw_and (pt_wt X x) (pw_bool (es := y :: zs))).pt.run pins s σ H Q I ?_
      rw [evT_and] at r
      refine hT X W nm ok m a x env σ H am st hid _ d2 h er hf (r.bind fun kk st1 ck H1 am1 p1 q1 r1 => ?_)
      cases (show kk = ck from q1)
      cases kk with
      | false =>
        refine tt_neg (Nat.le_refl 0) ?_
        exact r1 _ H1 am1 (Post.refl p1.sr) rfl
      | true =>
        refine tt_pos (Nat.le_refl 0) ?_
        cases zs with
        | nil =>
          have := hT X W nm ok m b y env σ H1 am1 st1 hid _ d3 p1.sr (er.post p1) (p1.fl' hf) r1
          exact fun pins s I => (pw_and1 (pt_wt X y)).pt.run pins s σ H1 Q I this
        | cons z zs => exact hT X W nm ok m b _ env σ H1 am1 st1 hid _ d3 p1.sr (er.post p1) (p1.fl' hf) r1
    | [], c => exact off c
    | [_], c => exact off c
  | _ => exact off c
theorem t_or (hT : SndT T A c0 c1 fl k n) {a b : E} (c : chkE T X.N (m + 1) nm (.or a b) e = true) (r : Run X.K A hid fl H am st (fun c d H' => W c d σ H') rid (evT T c0 c1 fl (n + 1) (.or a b) env st) Q) : Wt X e σ H Q := by
  cases e with
  | BoolOp op zs pos =>
    match zs, c with
    | x :: y :: zs, c =>
      have c : (decide (op = .Or) && chkE T X.N m nm a x && (match (generalizing := false) zs with
        | [] => chkE T X.N m nm b y
        | _ :: _ => chkE T X.N m nm b (.BoolOp .Or (y :: zs) pos))) = true := c
      simp only [Bool.and_eq_true, decide_eq_true_eq] at c
      obtain ⟨⟨d1, d2⟩, d3⟩ := c
      subst d1
      intro pins s I
      refine (pw_or (pt_wt X x) (pw_bool (es := y :: zs))).pt.run pins s σ H Q I ?_
      rw [evT_or] at r
      refine hT X W nm ok m a x env σ H am st hid _ d2 h er hf (r.bind fun kk st1 ck H1 am1 p1 q1 r1 => ?_)
      cases (show kk = ck from q1)
      cases kk with
      | true =>
        refine tt_pos (Nat.le_refl 0) ?_
        exact r1 _ H1 am1 (Post.refl p1.sr) rfl
      | false =>
        refine tt_neg (Nat.le_refl 0) ?_
        cases zs with
        | nil =>
          have := hT X W nm ok m b y env σ H1 am1 st1 hid _ d3 p1.sr (er.post p1) (p1.fl' hf) r1
          exact fun pins s I => (pw_or1 (pt_wt X y)).pt.run pins s σ H1 Q I this
        | cons z zs => exact hT X W nm ok m b _ env σ H1 am1 st1 hid _ d3 p1.sr (er.post p1) (p1.fl' hf) r1
    | [], c => exact off c
    | [_], c => exact off c
  | _ => exact off c
theorem t_nt (hT : SndT T A c0 c1 fl k n) {a : E} (c : chkE T X.N (m + 1) nm (.nt a) e = true) (r : Run X.K A hid fl H am st (fun c d H' => W c d σ H') rid (evT T c0 c1 fl (n + 1) (.nt a) env st) Q) : Wt X e σ H Q := by
  cases e with
  | UnaryOp op z pos =>
    have c : (decide (op = .Not) && chkE T X.N m nm a z) = true := c
    simp only [Bool.and_eq_true, decide_eq_true_eq] at c
    obtain ⟨d1, d2⟩ := c
    subst d1
    intro pins s I
    refine (pt_not (pt_wt X z)).run pins s σ H Q I ?_
    rw [evT_nt] at r
    refine hT X W nm ok m a z env σ H am st hid _ d2 h er hf (r.bind fun kk st1 ck H1 am1 p1 q1 r1 => ?_)
    cases (show kk = ck from q1)
    exact r1 _ H1 am1 (Post.refl p1.sr) rfl
  | _ => exact off c
end
/-- a if t else b, as a test -/
theorem pt_ifT {t x y : Expr} {pos : Pos} : PT X (.IfExp t x y pos) (tIf (Wt X t) (fun _ _ _ => False) (fun _ _ _ => False) |> fun _ => fun σ H Q => Wt X t σ H fun c H1 => if c = true then Wt X x σ H1 Q else Wt X y σ H1 Q) := by
  refine ⟨fun pins s σ H Q I h => ?_⟩
  show wpAny _ _ (do if ← isTrue t X.env (eval t X.env) then isTrue x X.env (eval x X.env) else isTrue y X.env (eval y X.env)) _ _ _
  refine wpAny_bind (thn (h pins s I) fun d s1 ⟨H1, I1, q1⟩ => ?_)
  cases d with
  | true => exact q1 pins s1 I1
  | false => exact q1 pins s1 I1
theorem all_snd (T : Tab) (A : Ads) (c0 c1 : CF) (fl k : Nat) : ∀ n, ∀ j, j ≤ n → SndE T A c0 c1 fl k j ∧ SndT T A c0 c1 fl k j := by
  intro n
  induction n with
  | zero =>
    intro j hj
    cases Nat.le_zero.mp hj
    exact ⟨fun X W nm ok m e' e env σ H am st hid Q c h er hf r => False.elim r, fun X W nm ok m e' e env σ H am st hid Q c h er hf r => False.elim r⟩
  | succ n ih =>
    intro j hj
    by_cases hjn : j ≤ n
    · exact ih j hjn
    · have ej : j = n + 1 := by omega
      subst ej
      obtain ⟨hE, hT⟩ := ih n (Nat.le_refl n)
      constructor
      · intro X W nm ok m e' e env σ H am st hid Q c h er hf r
        cases m with
        | zero => exact off c
        | succ m =>
        cases e' with
        | var i => exact c_var hE ok h er hf c r
        | con x => exact c_con hE ok h er hf c r
        | glo x => exact c_glo hE ok h er hf c r
        | bin o a b => exact c_bin hE ok h er hf c r
        | neg a => exact c_neg hE ok h er hf c r
        | cmp o a b => exact c_cmp hE ok h er hf c r
        | chn o o' a b d => exact c_chn hE ok h er hf c r
        | and a b => exact c_and hE ok h er hf c r
        | or a b => exact c_or hE ok h er hf c r
        | nt a => exact c_nt hE ok h er hf c r
        | ite t a b => exact c_ite hE ok h er hf hT c r
        | tup l => exact c_tup hE ok h er hf c r
        | lst mu l => exact c_lst hE ok h er hf c r
        | call f l => exact c_call hE ok h er hf c r
        | new cc l => exact c_new hE ok h er hf c r
        | bi b l => exact c_bi hE ok h er hf c r
        | lstm a => exact c_lstm hE ok h er hf c r
        | isi a t => exact c_isi hE ok h er hf c r
        | mt mm o l => exact c_mt hE ok h er hf c r
        | om mm o l => exact c_om hE ok h er hf c r
        | idx a i => exact c_idx hE ok h er hf c r
        | slc a lo hi => exact c_slc hE ok h er hf c r
        | fld a f => exact c_fld hE ok h er hf c r
        | lc mu elt tg it cc own => exact c_lc hE hT ok h er hf c r
        | lc2 => exact off c
      · intro X W nm ok m e' e env σ H am st hid Q c h er hf r
        by_cases hp : e'.plain = true
        · exact t_plain ok h er hf hE hp c r
        cases m with
        | zero => exact off c
        | succ m =>
        cases e' with
        | and a b => exact t_and ok h er hf hT c r
        | or a b => exact t_or ok h er hf hT c r
        | nt a => exact t_nt ok h er hf hT c r
        | cmp o a b =>
          cases n with
          | zero => exact False.elim r
          | succ n => exact t_cmp ok h er hf (ih n (Nat.le_succ n)).1 c r
        | chn o o' a b d =>
          cases n with
          | zero => exact False.elim r
          | succ n => exact t_chn ok h er hf (ih n (Nat.le_succ n)).1 c r
        | ite t a b =>
          cases e with
          | IfExp t' x y pos =>
            have c : (chkE T X.N m nm t t' && chkE T X.N m nm a x && chkE T X.N m nm b y) = true := c
            simp only [Bool.and_eq_true] at c
            obtain ⟨⟨d1, d2⟩, d3⟩ := c
            intro pins s I
            refine pt_ifT.run pins s σ H Q I ?_
            have r : Run X.K A hid fl H am st (fun c d H' => W c d σ H') rid ((evT T c0 c1 fl n t env st).bind fun k st => if k then evT T c0 c1 fl n a env st else evT T c0 c1 fl n b env st) Q := r
            refine hT X W nm ok m t t' env σ H am st hid _ d1 h er hf (r.bind fun kk st1 ck H1 am1 p1 q1 r1 => ?_)
            cases (show kk = ck from q1)
            cases kk with
            | true => exact tt_pos (Nat.le_refl 0) (hT X W nm ok m a x env σ H1 am1 st1 hid _ d2 p1.sr (er.post p1) (p1.fl' hf) r1)
            | false => exact tt_neg (Nat.le_refl 0) (hT X W nm ok m b y env σ H1 am1 st1 hid _ d3 p1.sr (er.post p1) (p1.fl' hf) r1)
          | _ => exact off c
        | _ => exact absurd rfl hp
end
end EV
end
section
set_option linter.all false
set_option maxRecDepth 100000
/-! EV, part 18: the checker for statements; comprehensions stored to a name; what a run of statements promises. -/
namespace EV
open PySem PySem.Spec PyProof.Rows L2
def notCmp : Expr → Bool
  | .ListComp _ _ _ _ => false
  | .SetComp _ _ _ _ => false
  | .DictComp _ _ _ _ _ => false
  | _ => true
def notTup : Expr → Bool
  | .Tuple _ _ _ => false
  | _ => true
/-- a comprehension that is stored before its frame goes -/
def swB (nm : List (Str × NameKind)) (x : Str) (px : Pos) : Expr → Bool
  | .ListComp _ _ sc p => locB nm x && (px.line == p.line) && !(sc.names.any fun (n, k) => n == x && (k == .local || k == .cell))
  | _ => false
def okVal : Expr → Bool
  | .SetComp _ _ _ _ => false
  | .DictComp _ _ _ _ _ => false
  | _ => true
def tgtB (N : List Str) (nm : List (Str × NameKind)) (i : Nat) (x : Str) : Bool := decide (N[i]? = some x) && (locB nm x || (match nm.lookup x with
  | some .cell => true
  | _ => false))
def augO : Bop → Option Operator
  | .add => some .Add
  | .sub => some .Sub
  | _ => none
section
variable (T : Tab) (N : List Str) (nm : List (Str × NameKind))
/-- the class that an except clause names -/
def excNm (c : Nat) (e : Expr) : Bool := match e with
  | .Name x _ => glB nm x && nmOk x && (match T.cls[c]? with
    | some C => decide (Str.ofString C.name = x) && decide (glCl T C.name = some c) && decide (1 ≤ C.kind)
    | none => false)
  | _ => false
def chkX : Nat → Nat → X → Expr → Bool
  | 0, _, _, _ => false
  | n + 1, i, x, e => match x with
    | .con c => (match e with
      | .Constant k _ _ => conC c k
      | _ => false)
    | .isi none => (match e with
      | .Call (.Name f _) [.Name y _, .Name z _] [] _ => decide (Str.ofString "isinstance" = f) && glB nm f && glBlt T "isinstance" && decide (N[i]? = some y) && locB nm y && nmOk y && decide (Str.ofString "ValueError" = z) && glB nm z && glBlt T "ValueError"
      | _ => false)
    | .isi (some c) => (match e with
      | .Call (.Name f _) [.Name y _, z] [] _ => decide (Str.ofString "isinstance" = f) && glB nm f && glBlt T "isinstance" && decide (N[i]? = some y) && locB nm y && nmOk y && excNm T nm c z
      | _ => false)
    | .nt a => (match e with
      | .UnaryOp op z _ => decide (op = .Not) && chkX n i a z
      | _ => false)
    | .or a b => (match e with
      | .BoolOp op (x :: y :: r) pos => decide (op = .Or) && chkX n i a x && (match r with
        | [] => chkX n i b y
        | _ :: _ => chkX n i b (.BoolOp .Or (y :: r) pos))
      | _ => false)
    | _ => false
def chkXS (n i : Nat) (h : XS) (b : List Stmt) : Bool := match h with
  | .ret x => (match b with
    | [.Return (some e) _] => chkX T N nm n i x e
    | _ => false)
  | _ => false
mutual
def chkS : Nat → S → Stmt → Bool
  | 0, _, _ => false
  | n + 1, s, st => match s with
    | .asg i a => (match st with
      | .Assign [.Name x _] e _ => tgtB N nm i x && okVal e && chkE T N n nm a e
      | _ => false)
    | .asgT t a => (match st with
      | .Assign [tg] e _ => (match t with
        | .t _ => true
        | _ => false) && notTup e && chkTg N n true nm t tg && chkE T N n nm a e
      | _ => false)
    | .fset o f a => (match st with
      | .Assign [.Attribute x g _] e _ => decide (Str.ofString f = g) && chkE T N n nm o x && chkE T N n nm a e
      | _ => false)
    | .iset o i a => (match st with
      | .Assign [.Subscript x y _] e _ => notSl y && chkE T N n nm o x && chkE T N n nm i y && chkE T N n nm a e
      | _ => false)
    | .aug i o a => (match st with
      | .AugAssign (.Name x _) op e _ => tgtB N nm i x && decide (augO o = some op) && chkE T N n nm a e
      | _ => false)
    | .faug o f b a => (match st with
      | .AugAssign (.Attribute x g _) op e _ => decide (Str.ofString f = g) && decide (augO b = some op) && chkE T N n nm o x && chkE T N n nm a e
      | _ => false)
    | .ex a => (match st with
      | .Expr e _ => notCmp e && chkE T N n nm a e
      | _ => false)
    | .ret none => (match st with
      | .Return none _ => true
      | _ => false)
    | .ret (some a) => (match st with
      | .Return (some e) _ => chkE T N n nm a e
      | _ => false)
    | .ife c a b => (match st with
      | .If t p q _ => chkE T N n nm c t && chkSs n a p && chkSs n b q
      | _ => false)
    | .whl c b => (match st with
      | .While t p [] _ => chkE T N n nm c t && chkSs n b p
      | _ => false)
    | .for t it b => (match st with
      | .For tg e p [] _ => notSet e && chkTg N n true nm t tg && chkIt T N n nm it tg e && chkSs n b p
      | _ => false)
    | .brk => (match st with
      | .Break _ => true
      | _ => false)
    | .cnt => (match st with
      | .Continue _ => true
      | _ => false)
    | .pas => (match st with
      | .Pass _ => true
      | .Expr (.Constant (.str _) _ _) _ => true
      | _ => false)
    | .rai c l => (match st with
      | .Raise (some (.Call (.Name x _) [.Constant (.str _) _ _] [] _)) none _ => glB nm x && nmOk x && (match T.cls[c]? with
        | some C => decide (Str.ofString C.name = x) && decide (glCl T C.name = some c) && decide (C.kind = 1) && C.flds.isEmpty
        | none => false) && (match l with
        | [] => true
        | _ => false)
      | _ => false)
    | .tryx b c (some i) h => (match st with
      | .Try body [.ExceptHandler (some z) (some y) (b0 :: sb) _] [] [] _ => excNm T nm c z && decide (N[i]? = some y) && locB nm y && chkSs n b body && chkXS T N nm n i h (b0 :: sb)
      | _ => false)
    | _ => false
def chkSs : Nat → List S → List Stmt → Bool
  | 0, _, _ => false
  | n + 1, l, sts => match l, sts with
    | [], [] => true
    | s :: r, st :: rs => chkS n s st && chkSs n r rs
    | _, _ => false
end
end
/-! ### wishes, runs -/
def Ws (X : Cx) (st : Stmt) : TS := fun D σ H => ∀ pins s, Inv X pins σ H s → wpAny (model X.prog X.w) X.A (exec st X.env) (SP X pins D) X.xe s
theorem ps_ws (X : Cx) (st : Stmt) : PS X st (Ws X st) := ⟨fun pins s σ H D I h => h pins s I⟩
def Wss (X : Cx) (st : List Stmt) : TS := fun D σ H => ∀ pins s, Inv X pins σ H s → wpAny (model X.prog X.w) X.A (execs st X.env) (SP X pins D) X.xe s
theorem pss_wss (X : Cx) (st : List Stmt) : PSs X st (Wss X st) := ⟨fun pins s σ H D I h => h pins s I⟩
def RunS (K : PySem.W.Frag) (A : Ads) (hid : List Addr) (fl : Nat) (H : Hp) (am : List Addr) (st : Store) (W : WX) (r : Res Fl) (D : Ends) : Prop := match r with
  | .ok (.nx env') st' => ∀ σ' H' am', Post K A hid fl H am st H' am' st' → ER K A (Gv H' am' hid) am' env' σ' → D.nx σ' H'
  | .ok (.bk env') st' => ∀ σ' H' am', Post K A hid fl H am st H' am' st' → ER K A (Gv H' am' hid) am' env' σ' → D.bk σ' H'
  | .ok (.ct env') st' => ∀ σ' H' am', Post K A hid fl H am st H' am' st' → ER K A (Gv H' am' hid) am' env' σ' → D.ct σ' H'
  | .ok (.rt v) st' => ∀ x H' am', Post K A hid fl H am st H' am' st' → RR K A (Gv H' am' hid) am' v x → D.rt x H'
  | .err x st' => ∀ cls d σ' H' am', Post K A hid fl H am st H' am' st' → XR K A (Gv H' am' hid) x cls d → W cls d σ' H'
  | .bad => False
section
variable {K : PySem.W.Frag} {A : Ads} {hid : List Addr} {fl : Nat} {H H1 : Hp} {am am1 : List Addr} {st st1 : Store} {W W' : WX} {α β : Type} {D D' : Ends}
theorem RunS.post {r : Res Fl} (h : RunS K A hid fl H am st W r D) (p : Post K A hid fl H am st H1 am1 st1) : RunS K A hid fl H1 am1 st1 W r D := by
  cases r with
  | ok f s =>
    cases f with
    | nx env' => exact fun σ' H' am' p' q => h σ' H' am' (p.trans p') q
    | bk env' => exact fun σ' H' am' p' q => h σ' H' am' (p.trans p') q
    | ct env' => exact fun σ' H' am' p' q => h σ' H' am' (p.trans p') q
    | rt v => exact fun σ' H' am' p' q => h σ' H' am' (p.trans p') q
  | err x s => exact fun c d σ' H' am' p' q => h c d σ' H' am' (p.trans p') q
  | bad => exact h
/-- an expression first -/
theorem RunS.bind {rep : Rep α β} {r : Res α} {f : α → Store → Res Fl} {Q' : β → Hp → Prop} (h : RunS K A hid fl H am st W (r.bind f) D) (σ : L2.St)
    (k : ∀ a st' b H' am', Post K A hid fl H am st H' am' st' → rep H' am' a b → RunS K A hid fl H' am' st' W (f a st') D → Q' b H') : Run K A hid fl H am st (fun c d H' => W c d σ H') rep r Q' := by
  cases r with
  | ok a s => exact fun b H' am' p q => k a s b H' am' p q (RunS.post (r := f a s) h p)
  | err x s => exact fun c d H' am' p q => h c d σ H' am' p q
  | bad => exact h
theorem RunS.ofO {o : Option α} {f : α → Store → Res Fl} {st2 : Store} (h : RunS K A hid fl H am st W ((EV.ofO o st2).bind f) D) : ∃ a, o = some a ∧ RunS K A hid fl H am st W (f a st2) D := by
  cases o with
  | none => exact False.elim h
  | some a => exact ⟨a, rfl, h⟩
theorem RunS.if1 {c : Prop} [Decidable c] {r : Res Fl} (h : RunS K A hid fl H am st W (if c then r else .bad) D) : c ∧ RunS K A hid fl H am st W r D := by
  by_cases hc : c
  · rw [if_pos hc] at h; exact ⟨hc, h⟩
  · rw [if_neg hc] at h; exact False.elim h
end
/-- the facts of own exceptions -/
structure ExF (K : PySem.W.Frag) (C : Addr) : Prop where
  ex : PySem.W.excIn K C [.type "ValueError", .type "Exception", .type "BaseException", .type "object"] "ValueError.__new__" = true
  kp : PySem.W.keepIn K (.ref C) = true
  bE : PySem.W.subIn K (.ref C) (.type "BaseException") = some true
  ty : PySem.W.typeIn K (.ref C) = some (.type "type")
structure Facts2 (T : Tab) (A : Ads) (K : PySem.W.Frag) : Prop where
  exc : ∀ c C, T.cls[c]? = some C → C.kind = 1 → ExF K (A.CA c)
  isE : ∀ c C, T.cls[c]? = some C → 1 ≤ C.kind → ExcC K (A.CA c) ∧ PySem.W.kitOne K (.ref (A.CA c)) (.type "ValueError") = some true
  sub : ∀ c C c' C', T.cls[c]? = some C → 1 ≤ C.kind → T.cls[c']? = some C' → 1 ≤ C'.kind → PySem.W.exmOne K (.ref (A.CA c)) (.ref (A.CA c')) = some (T.sub c c') ∧ PySem.W.kitOne K (.ref (A.CA c)) (.ref (A.CA c')) = some (T.sub c c')
/-- a body's context, statements too -/
structure SOk (X : Cx) (T : Tab) (A : Ads) (c0 c1 : CF) (k : Nat) (W : WX) (nm : List (Str × NameKind)) : Prop where
  ok : XOk X T A c0 c1 k W nm
  f2 : Facts2 T A X.K
  fn : ∀ x, X.fn x = true
  own : PassesOwn (model X.prog X.w) X.A X.env X.xe
  stk : X.stack = X.env :: X.outer
  frm : X.env.frame = some X.env.locals
def SndS (T : Tab) (A : Ads) (c0 c1 : CF) (fl k n : Nat) : Prop :=
  ∀ (X : Cx) (W : WX) (nm : List (Str × NameKind)), SOk X T A c0 c1 k W nm → ∀ (m : Nat) (s' : S) (st : Stmt) (env : Env) (σ : L2.St) (H : Hp) (am : List Addr) (sto : Store) (hid : List Addr) (D : Ends),
    chkS T X.N nm m s' st = true → SR X.K A hid H am sto → ER X.K A (Gv H am hid) am env σ → fl ≤ sto.length → RunS X.K A hid fl H am sto W (exS T c0 c1 fl n s' env sto) D → Ws X st D σ H
def SndSs (T : Tab) (A : Ads) (c0 c1 : CF) (fl k n : Nat) : Prop :=
  ∀ (X : Cx) (W : WX) (nm : List (Str × NameKind)), SOk X T A c0 c1 k W nm → ∀ (m : Nat) (s' : List S) (st : List Stmt) (env : Env) (σ : L2.St) (H : Hp) (am : List Addr) (sto : Store) (hid : List Addr) (D : Ends),
    chkSs T X.N nm m s' st = true → SR X.K A hid H am sto → ER X.K A (Gv H am hid) am env σ → fl ≤ sto.length → RunS X.K A hid fl H am sto W (exSs T c0 c1 fl n s' env sto) D → Wss X st D σ H
end EV
end
section
set_option linter.all false
set_option maxRecDepth 100000
/-! EV, part 19: soundness of statements. -/
namespace EV
open PySem PySem.Spec PyProof.Rows L2
theorem sw_not {e : Expr} (h : notCmp e = true) (t : Option Expr) (l : Nat) (env : PySem.Env) : swapsWith e t l env = pure false := by
  cases e <;> first | rfl | cases h
theorem sw_attr (e o : Expr) (f : Str) (p : Pos) (l : Nat) (env : PySem.Env) : swapsWith e (some (.Attribute o f p)) l env = pure false := by
  cases e <;> rfl
theorem sw_sub (e o f : Expr) (p : Pos) (l : Nat) (env : PySem.Env) : swapsWith e (some (.Subscript o f p)) l env = pure false := by
  cases e <;> rfl
theorem sw_tup (e : Expr) (es : List Expr) (k : Nat) (p : Pos) (l : Nat) (env : PySem.Env) : swapsWith e (some (.Tuple es k p)) l env = pure false := by
  cases e <;> rfl
theorem sw_name {nm : List (Str × NameKind)} {x : Str} {px : Pos} {e : Expr} {l : Nat} {env : PySem.Env} (hn : env.scope.names = nm) (hv : okVal e = true) (hs : swB nm x px e = false) : swapsWith e (some (.Name x px)) l env = pure false := by
  cases e with
  | ListComp elt gs sc p =>
    have hs : (locB nm x && (px.line == p.line) && !(sc.names.any fun (n, k) => n == x && (k == .local || k == .cell))) = false := hs
    have hk : (env.kindOf x == some .local) = locB nm x := by
      show (env.scope.names.lookup x == some .local) = locB nm x
      rw [hn]
      unfold locB
      cases nm.lookup x with
      | none => rfl
      | some k => cases k <;> rfl
    show (pure ((env.blockKind == .function) && (env.kindOf x == some .local) && (px.line == p.line) && !(sc.names.any fun (n, k) => n == x && (k == .local || k == .cell))) : Sem Bool) = pure false
    rw [hk, Bool.and_assoc, Bool.and_assoc, ← Bool.and_assoc (locB nm x), hs, Bool.and_false]
  | SetComp _ _ _ _ => cases hv
  | DictComp _ _ _ _ _ => cases hv
  | _ => rfl
theorem mask_length : ∀ (a b : Env), (mask a b).length = b.length
  | [], b => by unfold mask; simp
  | none :: a, [] => rfl
  | some _ :: a, [] => rfl
  | none :: a, _ :: b => by unfold mask; simp [mask_length a b]
  | some _ :: a, _ :: b => by unfold mask; simp [mask_length a b]
theorem mask_get : ∀ {a b : Env} {i : Nat} {r : R}, (mask a b)[i]? = some (some r) → b[i]? = some (some r)
  | [], b, i, r, h => by
    unfold mask at h
    rw [List.getElem?_map] at h
    cases e : b[i]? with
    | none => rw [e] at h; cases h
    | some o => rw [e] at h; cases h
  | none :: a, [], i, r, h => by cases i <;> cases h
  | some _ :: a, [], i, r, h => by cases i <;> cases h
  | none :: a, x :: b, 0, r, h => by cases h
  | none :: a, x :: b, i + 1, r, h => mask_get (a := a) (b := b) (i := i) h
  | some _ :: a, x :: b, 0, r, h => h
  | some _ :: a, x :: b, i + 1, r, h => mask_get (a := a) (b := b) (i := i) h
section
variable {T : Tab} {A : Ads} {c0 c1 : CF} {fl k n : Nat} {X : Cx} {W : WX} {nm : List (Str × NameKind)} {m : Nat} {e : Expr} {stm : Stmt} {env : Env} {σ : L2.St} {H : Hp} {am : List Addr} {st : Store} {hid : List Addr} {D : Ends} {pins : List (Addr × Obj)} {s : Shared}
theorem ER.mask {K : PySem.W.Frag} {G : Hp} {env env' : Env} (er : ER K A G am env' σ) : ER K A G am (mask env env') σ :=
  ⟨by rw [mask_length]; exact er.1, fun i r e => er.2 i r (mask_get e)⟩
theorem tgt_ok (ok : XOk X T A c0 c1 k W nm) {i : Nat} {x : Str} (h : tgtB X.N nm i x = true) : X.N[i]? = some x ∧ L2.Loc X.env.scope x := by
  unfold tgtB at h
  simp only [Bool.and_eq_true, Bool.or_eq_true, decide_eq_true_eq] at h
  refine ⟨h.1, ?_⟩
  unfold L2.Loc
  rw [ok.nm]
  rcases h.2 with d | d
  · unfold locB at d
    split at d
    · exact .inl (by assumption)
    · cases d
  · split at d
    · exact .inr (by assumption)
    · cases d
theorem aug_ok {o : Bop} {op : Operator} (ho : augO o = some op) : PIp X op (fun x y H Q => ∃ rx ry z, RR X.K A (fun _ => none) [] rx x ∧ RR X.K A (fun _ => none) [] ry y ∧ augR o rx ry = some (.p (.int z)) ∧ Q (.int z) H) := by
  intro pins s σ H x y v u Q I rv ru h
  obtain ⟨rx, ry, z, qx, qy, e, q⟩ := h
  cases o <;> (first | cases ho | skip) <;> cases qx with
  | p qx =>
    cases qx with
    | int i =>
      cases qy with
      | p qy =>
        cases qy with
        | int j =>
          cases e
          first
            | exact ip_add pins s σ H _ _ v u Q I rv ru ⟨i, j, rfl, rfl, q⟩
            | exact ip_sub pins s σ H _ _ v u Q I rv ru ⟨i, j, rfl, rfl, q⟩
        | _ => cases e
      | _ => cases e
    | _ => first | cases e | (cases qy with
      | p qy => cases qy <;> cases e
      | _ => cases e)
  | _ => first | cases e | (cases qy with
      | p qy => cases qy <;> cases e
      | _ => cases e)
theorem augR_ints {o : Bop} {x y z : R} (e : augR o x y = some z) : ∃ i j l, x = .p (.int i) ∧ y = .p (.int j) ∧ z = .p (.int l) := by
  unfold augR at e
  split at e
  · cases e; exact ⟨_, _, _, rfl, rfl, rfl⟩
  · cases e; exact ⟨_, _, _, rfl, rfl, rfl⟩
  · cases e
theorem rr_int {K : PySem.W.Frag} {G : Hp} {i : Int} {v : V} (q : RR K A G am (.p (.int i)) v) : v = .int i := by
  cases q with
  | p q => cases q; rfl
theorem setFl_inv {X : Cx} {T : Tab} {A : Ads} {W : WX} {hid : List Addr} {fl mm : Nat} {env : Env} {v : R} {f : String} {H2 : Hp} {am2 : List Addr} {st2 : Store} {D : Ends} (r2 : RunS X.K A hid fl H2 am2 st2 W (setFl T fl env (.cell mm) v f st2) D) :
      ∃ cc fs C, st2[mm]? = some (.ins cc fs) ∧ T.cls[cc]? = some C ∧ f ∈ C.flds ∧ fs.length < 100 ∧ C.kind = 0 ∧ RunS X.K A hid fl H2 am2 st2 W ((putC fl mm (.ins cc (EV.putF f v fs)) [v] st2).bind fun _ st => .ok (.nx env) st) D := by
    unfold setFl at r2
    dsimp only at r2
    cases eo : st2[mm]? with
    | none => rw [eo] at r2; exact False.elim r2
    | some ob =>
      rw [eo] at r2
      cases ob with
      | ins cc fs =>
        dsimp only at r2
        cases eC : T.cls[cc]? with
        | none => rw [eC] at r2; exact False.elim r2
        | some C =>
          rw [eC] at r2
          obtain ⟨hh, r3⟩ := RunS.if1 r2
          simp only [Bool.and_eq_true, decide_eq_true_eq, List.contains_iff_mem] at hh
          exact ⟨cc, fs, C, rfl, eC, hh.1.1, hh.1.2, hh.2, r3⟩
      | _ => exact False.elim r2
section
variable (hE : SndE T A c0 c1 fl k n) (hT : SndT T A c0 c1 fl k n) (so : SOk X T A c0 c1 k W nm) (h : SR X.K A hid H am st) (er : ER X.K A (Gv H am hid) am env σ) (hf : fl ≤ st.length)
include hE so h er hf
theorem s_asg (hE' : SndE T A c0 c1 fl k (n - 1)) (hT' : SndT T A c0 c1 fl k (n - 1)) {i : Nat} {a : E} (c : chkS T X.N nm (m + 1) (.asg i a) stm = true) (r : RunS X.K A hid fl H am st W (exS T c0 c1 fl (n + 1) (.asg i a) env st) D) : Ws X stm D σ H := by
  have ok := so.ok
  cases m with
  | zero =>
    unfold chkS at c
    dsimp only at c
    split at c
    · simp only [Bool.and_eq_true] at c; exact off c.2
    · exact off c
  | succ m =>
  unfold chkS at c
  dsimp only at c
  split at c
  · rename_i x p' e pos
    simp only [Bool.and_eq_true] at c
    obtain ⟨⟨d1, d2⟩, d3⟩ := c
    obtain ⟨hi, hl⟩ := tgt_ok ok d1
    rw [ex_asg] at r
    have store : ∀ (v : R) (st1 : Store) (u : V) (H1 : Hp) (am1 : List Addr), Post X.K A hid fl H am st H1 am1 st1 → RR X.K A (Gv H1 am1 hid) am1 v u → RunS X.K A hid fl H1 am1 st1 W (setV env i v st1) D → D.nx (σ.set i (some u)) H1 := by
      intro v st1 u H1 am1 p1 q1 r1
      obtain ⟨hlt, r2⟩ := RunS.if1 (show RunS X.K A hid fl H1 am1 st1 W (if i < env.length then Res.ok (.nx (env.set i (some v))) st1 else .bad) D from r1)
      exact r2 _ H1 am1 (Post.refl p1.sr) ((er.post p1).put hlt q1)
    cases hsw : swB nm x p' e with
    | false =>
      intro pins s I
      refine (ps_set (pos' := p') ok.nd hi hl (pe_wh X e) (sw_name ok.nm d2 hsw) (.inl (so.fn x))).run pins s σ H D I ?_
      exact hE X W nm ok _ a e env σ H am st hid _ d3 h er hf (r.bind σ fun v st1 u H1 am1 p1 q1 r1 => store v st1 u H1 am1 p1 q1 r1)
    | true =>
      cases e with
      | ListComp elt gs sc p =>
        have rE : Run X.K A hid fl H am st (fun c d H' => W c d σ H') (rr X.K A hid) (evE T c0 c1 fl n a env st) (fun u H1 => D.nx (σ.set i (some u)) H1) := r.bind σ fun v st1 u H1 am1 p1 q1 r1 => store v st1 u H1 am1 p1 q1 r1
        have hsw : (locB nm x && (p'.line == p.line) && !(sc.names.any fun (n, k) => n == x && (k == .local || k == .cell))) = true := hsw
        simp only [Bool.and_eq_true] at hsw
        obtain ⟨⟨f1, f2⟩, f3⟩ := hsw
        have hloc : X.env.scope.names.lookup x = some .local := by
          rw [ok.nm]
          unfold locB at f1
          split at f1
          · assumption
          · cases f1
        cases a with
        | lc mu elt' tg it cc own =>
          cases n with
          | zero => exact False.elim rE
          | succ n =>
            obtain ⟨x', t, i', fs, sc', pos', e0, hb, g3, w⟩ := lc_tlc hE' hT' ok h er hf d3 rE
            cases e0
            intro pins s I
            refine (ps_setLc (py := p') ok.calm ok.nd hi hloc (sw_true I.ok.kind hloc f2 (by simpa using f3)) (pi_wi X t i') hb (pg_gb X _ t) (pts_tb X _ fs) (pe_eb X _ _) (noset_fold g3 _)).run pins s σ H D I ?_
            exact w I.ok.kind I.len
        | bi b l =>
          rcases bi_inv d3 with ⟨_, _, _, _, _, _, _, _, _, e1, _⟩ | ⟨_, _, _, _, _, _, e1, _⟩ <;> cases e1
        | _ => exact off d3
      | _ => cases hsw
  · exact off c
theorem s_asgT {t : Tg} {a : E} (c : chkS T X.N nm (m + 1) (.asgT t a) stm = true) (r : RunS X.K A hid fl H am st W (exS T c0 c1 fl (n + 1) (.asgT t a) env st) D) : Ws X stm D σ H := by
  have ok := so.ok
  unfold chkS at c
  dsimp only at c
  split at c
  · rename_i tg e pos
    simp only [Bool.and_eq_true] at c
    obtain ⟨⟨⟨d1, d2⟩, d3⟩, d4⟩ := c
    cases t with
    | v i => exact off d1
    | t l =>
    cases m with
    | zero => exact off d3
    | succ m =>
    cases tg with
    | Tuple es j tp =>
      intro pins s I
      refine (ps_asg (pe_wh X e) (pg_wg X (.Tuple es j tp)) (show swapsWithSole [.Tuple es j tp] e pos.line X.env = pure false from sw_tup e es j tp pos.line X.env) (by cases e <;> first | rfl | cases d2) rfl).run pins s σ H D I ?_
      rw [ex_asgT] at r
      refine hE X W nm ok _ a e env σ H am st hid _ d4 h er hf (r.bind σ fun v st1 u H1 am1 p1 q1 r1 => ?_)
      have r1 : RunS X.K A hid fl H1 am1 st1 W (match asgTg (.t l) v env with
        | some env' => Res.ok (.nx env') st1
        | none => .bad) D := r1
      cases ea : asgTg (.t l) v env with
      | none => rw [ea] at r1; exact False.elim r1
      | some env' =>
        rw [ea] at r1
        exact tg_ok ok.calm ok.nd ok.nm (fun _ => so.fn) _ (.t l) _ v env env' σ H1 am1 hid u _ d3 ea q1 (er.post p1) fun σ' er' kp => r1 σ' H1 am1 (Post.refl p1.sr) er'
    | _ => exact off d3
  · exact off c
theorem s_fset {o : E} {f : String} {a : E} (c : chkS T X.N nm (m + 1) (.fset o f a) stm = true) (r : RunS X.K A hid fl H am st W (exS T c0 c1 fl (n + 1) (.fset o f a) env st) D) : Ws X stm D σ H := by
  have ok := so.ok
  unfold chkS at c
  dsimp only at c
  split at c
  · rename_i x g ap e pos
    simp only [Bool.and_eq_true, decide_eq_true_eq] at c
    obtain ⟨⟨d1, d2⟩, d3⟩ := c
    subst d1
    intro pins s I
    refine (ps_fld (pe_wh X x) (pe_wh X e) (sw_attr _ _ _ _ _ _)).run pins s σ H D I ?_
    rw [ex_fset] at r
    refine hE X W nm ok m a e env σ H am st hid _ d3 h er hf (r.bind σ fun v st1 u H1 am1 p1 q1 r1 => ?_)
    refine hE X W nm ok m o x env σ H1 am1 st1 hid _ d2 p1.sr (er.post p1) (p1.fl' hf) (r1.bind σ fun xo st2 uo H2 am2 p2 q2 r2 => ?_)
    have er2 := (er.post p1).post p2
    have qv := p2.ext.rr q1
    cases q2 with
    | @cell mm b q2 =>
      obtain ⟨cc, fs, C, e1, e2, h1, h2, h3, r3⟩ := setFl_inv r2
      obtain ⟨dx, fvs, w1, w2, w3⟩ := p2.sr.ob mm b _ q2 e1
      have co := ok.fa.cls cc C e2 h3
      refine ⟨b, A.CA cc, dx, fvs, rfl, w1, co.cls, co.flds f h1, by rw [← putF_len w2]; omega, ?_⟩
      cases ep : putC fl mm (.ins cc (EV.putF f v fs)) [v] st2 with
      | bad => rw [ep] at r3; exact False.elim r3
      | err x st' => exact (putC_err ep).elim
      | ok vv st' =>
        rw [ep] at r3
        obtain ⟨rfl, rfl, hz⟩ := putC_ok ep
        have pp := p2.sr.write (fl := fl) q2 (.ins (A.CA cc) dx (L2.putF (Str.ofString f) u fvs)) (.ins cc (EV.putF f v fs)) ⟨dx, _, upd_same, putF_rr w2 qv, fun q hq => by
            rcases putF_mem hq with z | ⟨q', z1, z2⟩
            · rw [z]; exact co.flds f h1
            · rw [← z2]; exact w3 q' z1⟩ fun hc mm' o' e' hb => by
          rw [e1] at e'
          cases e'
          exact putF_bel hb (isP_bel (hz hc v List.mem_cons_self) mm')
        exact r3 σ _ am2 pp (er2.post pp)
    | _ => exact False.elim r2
  · exact off c
end
end
end EV
end
section
set_option linter.all false
set_option maxRecDepth 100000
/-! EV, part 20: soundness of statements, the rest. -/
namespace EV
open PySem PySem.Spec PyProof.Rows L2
section
variable {T : Tab} {A : Ads} {c0 c1 : CF} {fl k n : Nat} {X : Cx} {W : WX} {nm : List (Str × NameKind)} {m : Nat} {e : Expr} {stm : Stmt} {env : Env} {σ : L2.St} {H : Hp} {am : List Addr} {st : Store} {hid : List Addr} {D : Ends} {pins : List (Addr × Obj)} {s : Shared}
theorem rr_any {i : Int} : RR X.K A (fun _ => none) [] (.p (.int i)) (.int i) := .p (.int i)
section
variable (hE : SndE T A c0 c1 fl k n) (so : SOk X T A c0 c1 k W nm) (h : SR X.K A hid H am st) (er : ER X.K A (Gv H am hid) am env σ) (hf : fl ≤ st.length)
include hE so h er hf
theorem s_iset {o i a : E} (c : chkS T X.N nm (m + 1) (.iset o i a) stm = true) (r : RunS X.K A hid fl H am st W (exS T c0 c1 fl (n + 1) (.iset o i a) env st) D) : Ws X stm D σ H := by
  have ok := so.ok
  unfold chkS at c
  dsimp only at c
  split at c
  · rename_i x y ap e pos
    simp only [Bool.and_eq_true, decide_eq_true_eq] at c
    obtain ⟨⟨⟨d0, d1⟩, d2⟩, d3⟩ := c
    intro pins s I
    refine (ps_asg (pe_wh X e) (pg_sub (pe_wh X x) (pe_wh X y) set_list (fun v => by cases y <;> first | rfl | cases d0)) (show swapsWithSole [.Subscript x y ap] e pos.line X.env = pure false from sw_sub e x y ap pos.line X.env) (by cases e <;> rfl) rfl).run pins s σ H D I ?_
    rw [ex_iset] at r
    refine hE X W nm ok m a e env σ H am st hid _ d3 h er hf (r.bind σ fun v st1 u H1 am1 p1 q1 r1 => ?_)
    refine hE X W nm ok m o x env σ H1 am1 st1 hid _ d1 p1.sr (er.post p1) (p1.fl' hf) (r1.bind σ fun xo st2 uo H2 am2 p2 q2 r2 => ?_)
    refine hE X W nm ok m i y env σ H2 am2 st2 hid _ d2 p2.sr ((er.post p1).post p2) (p2.fl' (p1.fl' hf)) (r2.bind σ fun yo st3 uy H3 am3 p3 q3 r3 => ?_)
    have er3 := ((er.post p1).post p2).post p3
    have qv := p3.ext.rr (p2.ext.rr q1)
    have q2' := p3.ext.rr q2
    cases q2' with
    | @cell mm b q2' =>
      cases q3 with
      | p q3 =>
        cases q3 with
        | int j =>
          unfold setIx at r3
          dsimp only at r3
          cases eo : st3[mm]? with
          | none => rw [eo] at r3; exact False.elim r3
          | some ob =>
            rw [eo] at r3
            cases ob with
            | lst l =>
              dsimp only at r3
              obtain ⟨ws, w1, w2⟩ := p3.sr.ob mm b _ q2' eo
              cases ei : ixN l.length j with
              | none => rw [ei] at r3; exact False.elim r3
              | some jj =>
                rw [ei] at r3
                dsimp only at r3
                cases ep : putC fl mm (.lst (l.set jj v)) [v] st3 with
                | bad => rw [ep] at r3; exact False.elim r3
                | err x st' => exact (putC_err ep).elim
                | ok vv st' =>
                  rw [ep] at r3
                  obtain ⟨rfl, rfl, hz⟩ := putC_ok ep
                  have pp := p3.sr.write (fl := fl) q2' (.lst (ws.set jj u)) (.lst (l.set jj v)) ⟨_, upd_same, w2.set qv jj⟩ fun hc mm' o' e' hb => by
                    rw [eo] at e'
                    cases e'
                    exact bels_set hb (isP_bel (hz hc v List.mem_cons_self) mm') jj
                  exact ⟨b, ws, j, jj, rfl, rfl, w1, by rw [← w2.length]; exact ei, r3 σ _ am3 pp (er3.post pp)⟩
            | _ => exact False.elim r3
        | _ => exact False.elim r3
      | _ => exact False.elim r3
    | _ => exact False.elim r3
  · exact off c
theorem s_aug {i : Nat} {o : Bop} {a : E} (c : chkS T X.N nm (m + 1) (.aug i o a) stm = true) (r : RunS X.K A hid fl H am st W (exS T c0 c1 fl (n + 1) (.aug i o a) env st) D) : Ws X stm D σ H := by
  have ok := so.ok
  unfold chkS at c
  dsimp only at c
  split at c
  · rename_i x p' op e pos
    simp only [Bool.and_eq_true, decide_eq_true_eq] at c
    obtain ⟨⟨d1, d2⟩, d3⟩ := c
    obtain ⟨hi, hl⟩ := tgt_ok ok d1
    intro pins s I
    refine (ps_aug (pos' := p') ok.nd hi hl (pe_wh X e) (aug_ok (A := A) d2) (.inl (so.fn x))).run pins s σ H D I ?_
    rw [ex_aug] at r
    cases e1 : env[i]? with
    | none => rw [e1] at r; exact False.elim r
    | some oo =>
      cases oo with
      | none => rw [e1] at r; exact False.elim r
      | some xr =>
        rw [e1] at r
        dsimp only at r
        obtain ⟨xv, e2, qx⟩ := er.2 i xr e1
        refine ⟨xv, e2, ?_⟩
        refine hE X W nm ok m a e env σ H am st hid _ d3 h er hf (r.bind σ fun v st1 u H1 am1 p1 q1 r1 => ?_)
        obtain ⟨z, ez, r2⟩ := r1.ofO
        obtain ⟨i1, j1, l1, rfl, rfl, rfl⟩ := augR_ints ez
        have ex := rr_int qx
        have eu := rr_int q1
        subst ex
        subst eu
        exact ⟨_, _, l1, rr_any, rr_any, ez, r2 _ H1 am1 (Post.refl p1.sr) ((er.post p1).put (List.getElem?_eq_some_iff.mp e1).1 (.p (.int l1)))⟩
  · exact off c
theorem s_faug {o : E} {f : String} {b : Bop} {a : E} (c : chkS T X.N nm (m + 1) (.faug o f b a) stm = true) (r : RunS X.K A hid fl H am st W (exS T c0 c1 fl (n + 1) (.faug o f b a) env st) D) : Ws X stm D σ H := by
  have ok := so.ok
  unfold chkS at c
  dsimp only at c
  split at c
  · rename_i x g tp op e pos
    simp only [Bool.and_eq_true, decide_eq_true_eq] at c
    obtain ⟨⟨⟨d1, d2⟩, d3⟩, d4⟩ := c
    subst d1
    intro pins s I
    refine (ps_fldaug (pe_wh X x) (pe_wh X e) (aug_ok (A := A) d2)).run pins s σ H D I ?_
    rw [ex_faug] at r
    refine hE X W nm ok m o x env σ H am st hid _ d3 h er hf (r.bind σ fun xo st1 uo H1 am1 p1 q1 r1 => ?_)
    obtain ⟨hk, r2⟩ := r1.if1
    obtain ⟨v, e1, r3⟩ := r2.ofO
    obtain ⟨ba, cc, dx, fvs, u, rfl, q2, na, lk, qz⟩ := fld_ok p1.sr q1 e1
    unfold okCl at hk
    cases ec : clsR xo st1 with
    | none => rw [ec] at hk; exact off hk
    | some c' =>
      rw [ec] at hk
      dsimp only at hk
      cases eC : T.cls[c']? with
      | none => rw [eC] at hk; exact off hk
      | some C =>
        rw [eC] at hk
        have co := ok.fa.cls _ _ eC (of_decide_eq_true hk)
        obtain ⟨b', dx', fvs', e2, q2', _⟩ := inst_of p1.sr q1 ec
        cases e2
        rw [q2] at q2'
        injection q2' with q2'
        injection q2' with e3 e4 e5
        refine ⟨ba, A.CA cc, dx, fvs, u, rfl, q2, by rw [e3]; exact co.cls, na, lk, ?_⟩
        refine hE X W nm ok m a e env σ H1 am1 st1 hid _ d4 p1.sr (er.post p1) (p1.fl' hf) (r3.bind σ fun y st2 uy H2 am2 p2 q4 r4 => ?_)
        obtain ⟨hcl, r5⟩ := r4.if1
        obtain ⟨z, ez, r6⟩ := r5.ofO
        obtain ⟨i1, j1, l1, rfl, rfl, rfl⟩ := augR_ints ez
        have eu := rr_int (p2.ext.rr qz)
        have ey := rr_int q4
        subst eu
        subst ey
        refine ⟨_, _, l1, rr_any, rr_any, ez, ?_⟩
        have q1' := p2.ext.rr q1
        cases q1' with
        | @cell mm bb q1' =>
          obtain ⟨cc2, fs2, C2, f1, f2, h1, h2, h3, r7⟩ := setFl_inv r6
          obtain ⟨dx2, fvs2, w1, w2, w3⟩ := p2.sr.ob mm _ _ q1' f1
          have ecc : cc2 = c' := by
            have : clsR (.cell mm) st2 = some cc2 := by unfold clsR; simp only [f1]
            rw [this, ec] at hcl
            exact Option.some.inj hcl
          subst ecc
          refine ⟨dx2, fvs2, by rw [e3]; exact w1, by rw [← putF_len w2]; omega, ?_⟩
          cases ep : putC fl mm (.ins cc2 (EV.putF f (.p (.int l1)) fs2)) [.p (.int l1)] st2 with
          | bad => rw [ep] at r7; exact False.elim r7
          | err x st' => exact (putC_err ep).elim
          | ok vv st' =>
            rw [ep] at r7
            obtain ⟨rfl, rfl, hz⟩ := putC_ok ep
            have pp := p2.sr.write (fl := fl) q1' (.ins (A.CA cc2) dx2 (L2.putF (Str.ofString f) (.int l1) fvs2)) (.ins cc2 (EV.putF f (.p (.int l1)) fs2)) ⟨dx2, _, upd_same, putF_rr w2 (.p (.int l1)), fun q hq => by
                rcases putF_mem hq with z | ⟨q', z1, z2⟩
                · rw [z]; exact co.flds f (by rw [eC] at f2; cases f2; exact h1)
                · rw [← z2]; exact w3 q' z1⟩ fun hc mm' o' e' hb => by
              rw [f1] at e'
              cases e'
              exact putF_bel hb (isP_bel (hz hc _ List.mem_cons_self) mm')
            have := r7 σ _ am2 pp (((er.post p1).post p2).post pp)
            rw [e3]
            exact this
        | _ => exact False.elim r6
  · exact off c
theorem s_ex {a : E} (c : chkS T X.N nm (m + 1) (.ex a) stm = true) (r : RunS X.K A hid fl H am st W (exS T c0 c1 fl (n + 1) (.ex a) env st) D) : Ws X stm D σ H := by
  unfold chkS at c
  dsimp only at c
  split at c
  · rename_i e pos
    simp only [Bool.and_eq_true] at c
    intro pins s I
    refine (ps_expr (pe_wh X e) (sw_not c.1 _ _ _)).run pins s σ H D I ?_
    rw [ex_ex] at r
    exact hE X W nm so.ok m a e env σ H am st hid _ c.2 h er hf (r.bind σ fun v st1 u H1 am1 p1 q1 r1 => r1 σ H1 am1 (Post.refl p1.sr) (er.post p1))
  · exact off c
theorem s_ret {a : Option E} (c : chkS T X.N nm (m + 1) (.ret a) stm = true) (r : RunS X.K A hid fl H am st W (exS T c0 c1 fl (n + 1) (.ret a) env st) D) : Ws X stm D σ H := by
  cases a with
  | none =>
    unfold chkS at c
    dsimp only at c
    split at c
    · exact fun pins s I => ps_retN.run pins s σ H D I (r .non H am (Post.refl h) (.p .non))
    · exact off c
  | some a =>
    unfold chkS at c
    dsimp only at c
    split at c
    · rename_i e pos
      intro pins s I
      refine (ps_ret (pe_wh X e)).run pins s σ H D I ?_
      rw [ex_ret] at r
      exact hE X W nm so.ok m a e env σ H am st hid _ c h er hf (r.bind σ fun v st1 u H1 am1 p1 q1 r1 => r1 u H1 am1 (Post.refl p1.sr) q1)
    · exact off c
omit hE in
theorem s_rai {cc : Nat} {l : List E} (c : chkS T X.N nm (m + 1) (.rai cc l) stm = true) (r : RunS X.K A hid fl H am st W (exS T c0 c1 fl (n + 1) (.rai cc l) env st) D) : Ws X stm D σ H := by
  have ok := so.ok
  unfold chkS at c
  dsimp only at c
  split at c
  · rename_i x p txt j p2 cp rp
    rw [ex_rai] at r
    cases eC : T.cls[cc]? with
    | none => rw [eC] at c; simp only [Bool.and_eq_true] at c; exact off c.1.2
    | some C =>
      simp only [eC] at c
      simp only [Bool.and_eq_true, decide_eq_true_eq] at c
      obtain ⟨⟨⟨d1, d2⟩, ⟨⟨d3, d4⟩, d5⟩, d6⟩, d7⟩ := c
      subst d3
      cases l with
      | cons _ _ => exact off d7
      | nil =>
        have hfl : C.flds = [] := List.isEmpty_iff.mp d6
        have r : RunS X.K A hid fl H am st W (Res.err ⟨cc, []⟩ st) D := by
          have e0 : ((evEs (evE T c0 c1 fl n) [] env st).bind fun vs st => (match T.cls[cc]?, toPs vs with
            | some C, some ps => Res.err (α := Fl) ⟨cc, C.flds.zip ps⟩ st
            | _, _ => .bad)) = Res.err ⟨cc, []⟩ st := by
            show (match T.cls[cc]?, toPs [] with
              | some C, some ps => Res.err (α := Fl) ⟨cc, C.flds.zip ps⟩ st
              | _, _ => .bad) = _
            rw [eC]
            show Res.err (α := Fl) ⟨cc, C.flds.zip []⟩ st = _
            rw [hfl]; rfl
          rw [← e0]; exact r
        have F := so.f2.exc cc C eC d5
        intro pins s I
        exact (ps_raise ok.calm ok.tk (pmk_own (m := txt) PySem.F.excBase_ValueError F.ex (ok.fa.cl _ _ d4) F.kp (raises_own F.bE F.ty) (gl_of ok d1) (nm_of d2).1)).run pins s σ H D I (r _ none σ H am (Post.refl h) ⟨rfl, .inl ⟨rfl, rfl⟩⟩)
  · exact off c
end
section
variable (hT : SndT T A c0 c1 fl k n) (hE : SndE T A c0 c1 fl k n) (hS : SndSs T A c0 c1 fl k n) (so : SOk X T A c0 c1 k W nm) (h : SR X.K A hid H am st) (er : ER X.K A (Gv H am hid) am env σ) (hf : fl ≤ st.length)
include hT hE hS so h er hf
theorem s_ife {t : E} {a b : List S} (c : chkS T X.N nm (m + 1) (.ife t a b) stm = true) (r : RunS X.K A hid fl H am st W (exS T c0 c1 fl (n + 1) (.ife t a b) env st) D) : Ws X stm D σ H := by
  unfold chkS at c
  dsimp only at c
  split at c
  · rename_i t' p q pos
    simp only [Bool.and_eq_true] at c
    obtain ⟨⟨d1, d2⟩, d3⟩ := c
    intro pins s I
    refine (ps_if (pt_wt X t') (pss_wss X p) (pss_wss X q)).run pins s σ H D I ?_
    rw [ex_ife] at r
    refine hT X W nm so.ok m t t' env σ H am st hid _ d1 h er hf (r.bind σ fun kk st1 ck H1 am1 p1 q1 r1 => ?_)
    cases (show kk = ck from q1)
    cases kk with
    | true => exact tt_pos (Nat.le_refl 0) (hS X W nm so m a p env σ H1 am1 st1 hid D d2 p1.sr (er.post p1) (p1.fl' hf) r1)
    | false => exact tt_neg (Nat.le_refl 0) (hS X W nm so m b q env σ H1 am1 st1 hid D d3 p1.sr (er.post p1) (p1.fl' hf) r1)
  · exact off c
/-- the end of a turn -/
def turnF (env0 : Env) (go : Env → Store → Res Fl) (f : Fl) (st : Store) : Res Fl := match f with
  | .nx env' => go (mask env0 env') st
  | .ct env' => go (mask env0 env') st
  | .bk env' => .ok (.nx (mask env0 env')) st
  | .rt v => .ok (.rt v) st
omit hT hE hS so h er hf in
theorem turn_run {env0 : Env} {go : Env → Store → Res Fl} {r : Res Fl} {N : L2.St → Hp → Prop} (hr : RunS X.K A hid fl H am st W (r.bind (turnF env0 go)) { nx := D.nx, rt := D.rt })
    (hN : ∀ env' st' σ' H' am', Post X.K A hid fl H am st H' am' st' → ER X.K A (Gv H' am' hid) am' env' σ' → RunS X.K A hid fl H' am' st' W (go (EV.mask env0 env') st') { nx := D.nx, rt := D.rt } → N σ' H') :
    RunS X.K A hid fl H am st W r { D with nx := N, ct := N, bk := D.nx } := by
  cases r with
  | bad => exact hr
  | err x s => exact hr
  | ok f s =>
    cases f with
    | nx env' => exact fun σ' H' am' p q => hN env' s σ' H' am' p q (RunS.post (r := go (mask env0 env') s) hr p)
    | ct env' => exact fun σ' H' am' p q => hN env' s σ' H' am' p q (RunS.post (r := go (mask env0 env') s) hr p)
    | bk env' => exact fun σ' H' am' p q => hr σ' H' am' p (ER.mask q)
    | rt v => exact hr
omit hT hE hS so h er hf in
theorem whlL_eq (et : EvT) (ex : ExSs) (c : E) (b : List S) (env0 : Env) (n : Nat) (env : Env) (st : Store) : whlL et ex c b env0 (n + 1) env st = (et c env st).bind fun k st => if k then (ex b env st).bind (turnF env0 (whlL et ex c b env0 n)) else .ok (.nx env) st := rfl
omit hT hE hS so h er hf in
/-- a loop lets only an end or a return out -/
theorem RunS.low {r : Res Fl} (hn : ∀ e s, r ≠ .ok (.bk e) s ∧ r ≠ .ok (.ct e) s) (h : RunS X.K A hid fl H am st W r D) : RunS X.K A hid fl H am st W r { nx := D.nx, rt := D.rt } := by
  cases r with
  | bad => exact h
  | err x s => exact h
  | ok f s =>
    cases f with
    | nx env' => exact h
    | rt v => exact h
    | bk e => exact absurd rfl (hn e s).1
    | ct e => exact absurd rfl (hn e s).2
omit hT hE hS so h er hf in
theorem turn_low {r : Res Fl} {env0 : Env} {go : Env → Store → Res Fl} (hg : ∀ env st e s, go env st ≠ .ok (.bk e) s ∧ go env st ≠ .ok (.ct e) s) : ∀ e s, r.bind (turnF env0 go) ≠ .ok (.bk e) s ∧ r.bind (turnF env0 go) ≠ .ok (.ct e) s := by
  intro e s
  cases r with
  | bad => exact ⟨fun z => (by cases z), fun z => (by cases z)⟩
  | err x t => exact ⟨fun z => (by cases z), fun z => (by cases z)⟩
  | ok f t =>
    cases f with
    | nx env' => exact hg _ t e s
    | ct env' => exact hg _ t e s
    | bk env' => exact ⟨fun z => (by cases z), fun z => (by cases z)⟩
    | rt v => exact ⟨fun z => (by cases z), fun z => (by cases z)⟩
omit hT hE hS so h er hf in
theorem whlL_low (et : EvT) (ex : ExSs) (c : E) (b : List S) (env0 : Env) : ∀ (n : Nat) (env : Env) (st : Store) (e : Env) (s : Store), whlL et ex c b env0 n env st ≠ .ok (.bk e) s ∧ whlL et ex c b env0 n env st ≠ .ok (.ct e) s
  | 0, env, st, e, s => ⟨fun z => (by cases z), fun z => (by cases z)⟩
  | n + 1, env, st, e, s => by
    rw [whlL_eq]
    cases et c env st with
    | bad => exact ⟨fun z => (by cases z), fun z => (by cases z)⟩
    | err x t => exact ⟨fun z => (by cases z), fun z => (by cases z)⟩
    | ok kk t =>
      cases kk with
      | false => exact ⟨fun z => (by cases z), fun z => (by cases z)⟩
      | true => exact turn_low (whlL_low et ex c b env0 n) e s
theorem s_whl {t : E} {b : List S} (c : chkS T X.N nm (m + 1) (.whl t b) stm = true) (r : RunS X.K A hid fl H am st W (exS T c0 c1 fl (n + 1) (.whl t b) env st) D) : Ws X stm D σ H := by
  unfold chkS at c
  dsimp only at c
  split at c
  · rename_i t' p pos
    simp only [Bool.and_eq_true] at c
    obtain ⟨d1, d2⟩ := c
    intro pins s I
    refine (ps_while so.own (pt_wt X t') (pss_wss X p)).run pins s σ H D I ?_
    rw [ex_whl] at r
    have r := RunS.low (whlL_low _ _ _ _ _ _ _ _) r
    refine ⟨fun mm σ' H' => ∃ env' am' st', Post X.K A hid fl H am st H' am' st' ∧ ER X.K A (Gv H' am' hid) am' env' σ' ∧ RunS X.K A hid fl H' am' st' W (whlL (evT T c0 c1 fl n) (exSs T c0 c1 fl n) t b env mm env' st') { nx := D.nx, rt := D.rt }, ⟨1048576, env, am, st, Post.refl h, er, r⟩, ?_⟩
    rintro mm σ' H' ⟨env', am', st', p1, er', r'⟩
    cases mm with
    | zero => exact False.elim r'
    | succ mm =>
      rw [whlL_eq] at r'
      refine hT X W nm so.ok m t t' env' σ' H' am' st' hid _ d1 p1.sr er' (p1.fl' hf) (r'.bind σ' fun kk st2 ck H2 am2 p2 q2 r2 => ?_)
      cases (show kk = ck from q2)
      cases kk with
      | false => exact tt_neg (Nat.le_refl 0) (r2 σ' H2 am2 (Post.refl p2.sr) (er'.post p2))
      | true =>
        refine tt_pos (Nat.le_refl 0) ?_
        refine ⟨fun σ3 H3 => ∃ env3 am3 st3, Post X.K A hid fl H am st H3 am3 st3 ∧ ER X.K A (Gv H3 am3 hid) am3 env3 σ3 ∧ RunS X.K A hid fl H3 am3 st3 W (whlL (evT T c0 c1 fl n) (exSs T c0 c1 fl n) t b env mm env3 st3) { nx := D.nx, rt := D.rt }, fun σ3 H3 z => ⟨mm, Nat.lt_succ_self mm, z⟩, ?_⟩
        refine hS X W nm so m b p env' σ' H2 am2 st2 hid _ d2 p2.sr (er'.post p2) (p2.fl' (p1.fl' hf)) (turn_run r2 fun env3 st3 σ3 H3 am3 p3 q3 r3 => ?_)
        exact ⟨EV.mask env env3, am3, st3, (p1.trans p2).trans p3, ER.mask q3, r3⟩
  · exact off c
omit hT hE hS so h er hf in
theorem forL_eq (ex : ExSs) (t : Tg) (b : List S) (env0 : Env) (x : R) (l : List R) (env : Env) (st : Store) : forL ex t b env0 (x :: l) env st = (forT ex t b x env st).bind (turnF env0 (forL ex t b env0 l)) := rfl
omit hT hE hS so h er hf in
theorem forL_low (ex : ExSs) (t : Tg) (b : List S) (env0 : Env) : ∀ (l : List R) (env : Env) (st : Store) (e : Env) (s : Store), forL ex t b env0 l env st ≠ .ok (.bk e) s ∧ forL ex t b env0 l env st ≠ .ok (.ct e) s
  | [], env, st, e, s => ⟨fun z => (by cases z), fun z => (by cases z)⟩
  | x :: l, env, st, e, s => by
    rw [forL_eq]
    exact turn_low (forL_low ex t b env0 l) e s
omit hT hE hS so h er hf in
theorem forC_low (ex : ExSs) (t : Tg) (b : List S) (env0 : Env) (c : Nat) : ∀ (m i : Nat) (env : Env) (st : Store) (e : Env) (s : Store), forC ex t b env0 c m i env st ≠ .ok (.bk e) s ∧ forC ex t b env0 c m i env st ≠ .ok (.ct e) s := by
  intro m
  induction m with
  | zero =>
    intro i env st e s
    unfold forC
    split
    · split
      · exact ⟨fun z => (by cases z), fun z => (by cases z)⟩
      · exact ⟨fun z => (by cases z), fun z => (by cases z)⟩
    · exact ⟨fun z => (by cases z), fun z => (by cases z)⟩
  | succ m ih =>
    intro i env st e s
    unfold forC
    split
    · split
      · exact turn_low (env0 := env0) (go := fun env st => forC ex t b env0 c m (i + 1) env st) (fun env st => ih (i + 1) env st) e s
      · exact ⟨fun z => (by cases z), fun z => (by cases z)⟩
    · exact ⟨fun z => (by cases z), fun z => (by cases z)⟩
theorem s_for {t : Tg} {it : It} {b : List S} (c : chkS T X.N nm (m + 1) (.for t it b) stm = true) (r : RunS X.K A hid fl H am st W (exS T c0 c1 fl (n + 1) (.for t it b) env st) D) : Ws X stm D σ H := by
  have ok := so.ok
  unfold chkS at c
  dsimp only at c
  split at c
  · rename_i tg e p pos
    simp only [Bool.and_eq_true] at c
    obtain ⟨⟨⟨d1, d2⟩, d3⟩, d4⟩ := c
    intro pins s I
    refine (ps_for so.own ok.calm (pi_wi X tg e) (pg_wg X tg) (pss_wss X p) (noset_fold d1 _)).run pins s σ H D I ?_
    rw [ex_for] at r
    refine snd_it hE ok h er hf d3 (r.bind σ fun w st1 J H1 am1 p1 qw r1 => ?_)
    have er1 := er.post p1
    have body : ∀ (x : R) (env' : Env) (σ' : L2.St) (H2 : Hp) (am2 : List Addr) (st2 : Store) (xv : V) (N : L2.St → Hp → Prop) (go : Env → Store → Res Fl), fl ≤ st2.length → SR X.K A hid H2 am2 st2 → ER X.K A (Gv H2 am2 hid) am2 env' σ' → RR X.K A (Gv H2 am2 hid) am2 x xv →
        RunS X.K A hid fl H2 am2 st2 W ((forT (exSs T c0 c1 fl n) t b x env' st2).bind (turnF env go)) { nx := D.nx, rt := D.rt } →
        (∀ env3 st3 σ3 H3 am3, Post X.K A hid fl H2 am2 st2 H3 am3 st3 → ER X.K A (Gv H3 am3 hid) am3 env3 σ3 → RunS X.K A hid fl H3 am3 st3 W (go (EV.mask env env3) st3) { nx := D.nx, rt := D.rt } → N σ3 H3) →
        Wg X tg xv σ' H2 fun σ2 H2 => Wss X p { D with nx := N, ct := N, bk := D.nx } σ2 H2 := by
      intro x env' σ' H2 am2 st2 xv N go hf2 h2 er2 qx rr hN
      have rr : RunS X.K A hid fl H2 am2 st2 W ((match asgTg t x env' with
        | some env' => exSs T c0 c1 fl n b env' st2
        | none => .bad).bind (turnF env go)) { nx := D.nx, rt := D.rt } := rr
      cases ea : asgTg t x env' with
      | none => rw [ea] at rr; exact False.elim rr
      | some env2 =>
        rw [ea] at rr
        exact tg_ok ok.calm ok.nd ok.nm (fun _ => so.fn) _ t tg x env' env2 σ' H2 am2 hid xv _ d2 ea qx er2 fun σ2 er3 kp => hS X W nm so m b p env2 σ2 H2 am2 st2 hid _ d4 h2 er3 hf2 (turn_run rr hN)
    cases w with
    | vals l =>
      have r1 : RunS X.K A hid fl H1 am1 st1 W (forL (exSs T c0 c1 fl n) t b env l env st1) D := r1
      have r1 := RunS.low (forL_low _ _ _ _ _ _ _) r1
      refine ⟨fun i mm σ' H' => mm = l.length - i ∧ i ≤ l.length ∧ ∃ env' am' st', Post X.K A hid fl H1 am1 st1 H' am' st' ∧ ER X.K A (Gv H' am' hid) am' env' σ' ∧ RunS X.K A hid fl H' am' st' W (forL (exSs T c0 c1 fl n) t b env (l.drop i) env' st') { nx := D.nx, rt := D.rt }, ⟨l.length, rfl, Nat.zero_le _, env, am1, st1, Post.refl p1.sr, er1, r1⟩, ?_⟩
      rintro i mm σ' H' ⟨rfl, hi, env', am', st', p2, er2, r2⟩
      have wk := qw H' am' hid st' p2.le p2.ext.at p2.sr i
      by_cases hil : i < l.length
      · right
        obtain ⟨go, stp⟩ := wk.1 hil
        rw [List.drop_eq_getElem_cons hil, forL_eq] at r2
        refine ⟨go, fun σ3 H3 => i + 1 ≤ l.length ∧ ∃ env' am' st', Post X.K A hid fl H1 am1 st1 H3 am' st' ∧ ER X.K A (Gv H3 am' hid) am' env' σ3 ∧ RunS X.K A hid fl H3 am' st' W (forL (exSs T c0 c1 fl n) t b env (l.drop (i + 1)) env' st') { nx := D.nx, rt := D.rt }, fun σ3 H3 z => ⟨l.length - (i + 1), by omega, rfl, z.1, z.2⟩, fun xv H2 y => ?_⟩
        obtain ⟨p3', rx, erx, qx⟩ := stp xv H2 y
        have p3 := p3' fl
        have erx' : l[i] = rx := by
          rw [List.getElem?_eq_getElem hil] at erx
          exact Option.some.inj erx
        rw [erx'] at r2
        exact body rx env' σ' H2 am' st' xv _ (forL (exSs T c0 c1 fl n) t b env (l.drop (i + 1))) (p2.fl' (p1.fl' hf)) p3.sr (er2.post p3) qx (r2.post p3) fun env3 st3 σ3 H3 am3 p4 q4 r4 => ⟨hil, EV.mask env env3, am3, st3, (p2.trans p3).trans p4, ER.mask q4, r4⟩
      · left
        have hie : i = l.length := by omega
        subst hie
        rw [List.drop_length] at r2
        exact ⟨wk.2 (Nat.le_refl _), r2 σ' H' am' (Post.refl p2.sr) er2⟩
    | cel cc =>
      obtain ⟨a, ha, rfl⟩ := (show ∃ a, am1[cc]? = some a ∧ J = Itl X.K a from qw)
      have r1 : RunS X.K A hid fl H1 am1 st1 W (forC (exSs T c0 c1 fl n) t b env cc 1048576 0 env st1) D := r1
      have r1 := RunS.low (forC_low _ _ _ _ _ _ _ _ _) r1
      refine ⟨fun i mm σ' H' => ∃ env' am' st', Post X.K A hid fl H1 am1 st1 H' am' st' ∧ ER X.K A (Gv H' am' hid) am' env' σ' ∧ RunS X.K A hid fl H' am' st' W (forC (exSs T c0 c1 fl n) t b env cc mm i env' st') { nx := D.nx, rt := D.rt }, ⟨1048576, env, am1, st1, Post.refl p1.sr, er1, r1⟩, ?_⟩
      rintro i mm σ' H' ⟨env', am', st', p2, er2, r2⟩
      have ha' := p2.ext.at _ _ ha
      unfold forC at r2
      cases eo : st'[cc]? with
      | none => rw [eo] at r2; exact False.elim r2
      | some ob =>
        rw [eo] at r2
        cases ob with
        | lst l =>
          obtain ⟨ws, w1, w2⟩ := p2.sr.ob cc a _ ha' eo
          dsimp only at r2
          cases ei : l[i]? with
          | none =>
            rw [ei] at r2
            left
            exact ⟨⟨ws, SqL.of w1, by rw [← w2.length]; exact List.getElem?_eq_none_iff.mp ei⟩, r2 σ' H' am' (Post.refl p2.sr) er2⟩
          | some rx =>
            rw [ei] at r2
            right
            obtain ⟨u, eu, qu⟩ := w2.get ei
            cases mm with
            | zero => exact False.elim r2
            | succ mm =>
              refine ⟨⟨ws, u, SqL.of w1, eu⟩, fun σ3 H3 => ∃ env' am' st', Post X.K A hid fl H1 am1 st1 H3 am' st' ∧ ER X.K A (Gv H3 am' hid) am' env' σ3 ∧ RunS X.K A hid fl H3 am' st' W (forC (exSs T c0 c1 fl n) t b env cc mm (i + 1) env' st') { nx := D.nx, rt := D.rt }, fun σ3 H3 z => ⟨mm, Nat.lt_succ_self mm, z⟩, fun xv H2 y => ?_⟩
              obtain ⟨rfl, y⟩ := y
              have ex : u = xv := by
                have := y ws (SqL.of w1)
                rw [eu] at this
                exact Option.some.inj this
              subst ex
              exact body rx env' σ' H2 am' st' u _ (fun env' st => forC (exSs T c0 c1 fl n) t b env cc mm (i + 1) env' st) (p2.fl' (p1.fl' hf)) p2.sr er2 qu r2 fun env3 st3 σ3 H3 am3 p4 q4 r4 => ⟨EV.mask env env3, am3, st3, p2.trans p4, ER.mask q4, r4⟩
        | _ => exact False.elim r2
  · exact off c
end
end
end EV
end
section
set_option linter.all false
set_option maxRecDepth 100000
/-! EV, part 21: except suites; soundness of all statements; of defs. -/
namespace EV
open PySem PySem.Spec PyProof.Rows L2
section
variable {T : Tab} {A : Ads} {c0 c1 : CF} {fl k n : Nat} {X : Cx} {W : WX} {nm : List (Str × NameKind)} {m : Nat} {e : Expr} {stm : Stmt} {env : Env} {σ : L2.St} {H : Hp} {am : List Addr} {st : Store} {hid : List Addr} {D : Ends} {pins : List (Addr × Obj)} {s : Shared}
theorem isExc_of {x : Nat} (h : isExc T x = true) : ∃ C, T.cls[x]? = some C ∧ 1 ≤ C.kind := by
  unfold isExc at h
  cases e : T.cls[x]? with
  | none => rw [e] at h; exact off h
  | some C => rw [e] at h; exact ⟨C, rfl, of_decide_eq_true h⟩
theorem excNm_of (so : SOk X T A c0 c1 k W nm) {c : Nat} {z : Expr} (h : excNm T nm c z = true) : ∃ x p C, z = .Name x p ∧ Gl X x ∧ (x == ("__debug__" : Str)) = false ∧ X.mg x = some (.ref (A.CA c)) ∧ T.cls[c]? = some C ∧ 1 ≤ C.kind := by
  cases z with
  | Name x p =>
    have h : (glB nm x && nmOk x && (match T.cls[c]? with
      | some C => decide (Str.ofString C.name = x) && decide (glCl T C.name = some c) && decide (1 ≤ C.kind)
      | none => false)) = true := h
    cases e : T.cls[c]? with
    | none => rw [e] at h; simp only [Bool.and_eq_true] at h; exact off h.2
    | some C =>
      rw [e] at h
      simp only [Bool.and_eq_true, decide_eq_true_eq] at h
      obtain ⟨⟨h1, h2⟩, ⟨h3, h4⟩, h5⟩ := h
      subst h3
      exact ⟨_, p, C, rfl, gl_of so.ok h1, (nm_of h2).1, so.ok.fa.cl _ _ h4, rfl, h5⟩
  | _ => exact off h
theorem con_ok {X' : Cx} {G : Hp} {x : P} {z : Const} {j : Nat} {pos : Pos} {Q : VK} (c : conC x z = true) (hQ : ∀ u, RV X.K A G x u → Q u H) : Wh X' (.Constant z j pos) σ H Q := by
  intro pins s I
  cases x <;> cases z <;> first | exact off c | skip
  · exact pe_non.run pins s σ H Q I (hQ _ .non)
  · rename_i b b'
    have c : (b == b') = true := c
    rw [beq_iff_eq.mp c] at hQ
    exact pe_bl.run pins s σ H Q I (hQ _ (.bl _))
  · rename_i b b'
    have c : decide (b = b') = true := c
    rw [of_decide_eq_true c] at hQ
    exact pe_int.run pins s σ H Q I (hQ _ (.int _))
  · rename_i b b'
    have c : (decide (b' = ⟨b.toArray⟩) && decide (b.length ≤ LINE)) = true := c
    simp only [Bool.and_eq_true, decide_eq_true_eq] at c
    rw [c.1]
    exact pe_str.run pins s σ H Q I (hQ _ (.str _ c.2))
/-- the suite's expressions -/
theorem snd_X (so : SOk X T A c0 c1 k W nm) {x : Exc} {cls : Value} {d : Option Addr} {a : Addr} {oe : Obj} {pn : List (Addr × Obj)} {i : Nat} (hx : XR X.K A (Gv H am hid) x cls d) (he : isExc T x.c = true) (hz : Zc cls d oe) (hv : ∃ vs, oe.data = .fields vs) (hi : σ[i]? = some (some (.ref a))) :
    ∀ (n : Nat) (x' : EV.X) (e : Expr) (v : P) (Q : VK), chkX T X.N nm n i x' e = true → evX T x x' = some v → (∀ u, RV X.K A (Gv H am hid) v u → Q u H) → Wh (X.suite a ((a, oe) :: pn)) e σ H Q := by
  intro n
  induction n with
  | zero => intro x' e v Q c; exact off c
  | succ n ih =>
    intro x' e v Q c ev hQ
    have isi : ∀ {f y : Str} {p1 p2 p3 : Pos} {z : Expr} {b : Bool} {cv : V} {cvv : Value}, Str.ofString "isinstance" = f → glB nm f = true → glBlt T "isinstance" = true → X.N[i]? = some y → locB nm y = true → nmOk y = true → notStar z = true → x.fs = [] →
        PE (X.suite a ((a, oe) :: pn)) z (tC cv) → (∀ u, RelV cv u → u = cvv) → PySem.W.kitOne X.K (.ref (A.CA x.c)) cvv = some b → Q (.bl b) H → Wh (X.suite a ((a, oe) :: pn)) (.Call (.Name f p1) [.Name y p2, z] [] p3) σ H Q := by
      intro f y p1 p2 p3 z b cv cvv h1 h2 h3 h4 h5 h6 h7 hfs hz' hcv hk hq
      subst h1
      obtain ⟨C, e1, e2⟩ := isExc_of he
      have hd : cls = .ref (A.CA x.c) ∧ d = none := by
        refine ⟨hx.1, ?_⟩
        rcases hx.2 with z | z
        · exact z.2
        · exact absurd hfs z.1
      rw [hd.1, hd.2] at hz
      have hy : Vis X.env.scope y := .inl (by
        rw [so.ok.nm]
        unfold locB at h5
        split at h5
        · assumption
        · cases h5)
      have pv : PE (X.suite a ((a, oe) :: pn)) (.Name y p2) (tVar i) := pe_var h4 hy (nm_of h6).1 (nm_of h6).2
      exact fun pins s I => (pe_callB (call_isE (so.f2.isE _ C e1 e2).1 hz hv) (gl_of so.ok h2) (blt_of so.ok h3) (by decide +kernel) (pa_cons pv (pa_cons hz' pa_nil (star_cons h7 [] _)) (star_cons rfl _ _)) (by decide +kernel) (by decide +kernel) (star_cons rfl _ _) (star_any (by simp [h7]) _ _)).run pins s σ H Q I ⟨.ref a, hi, cv, cvv, b, rfl, hcv, hk, hq⟩
    cases x' with
    | con y =>
      cases (show some y = some v from ev)
      cases e with
      | Constant z j pos =>
        exact con_ok (show conC v z = true from c) hQ
      | _ => exact off c
    | isi oc =>
      cases oc with
      | none =>
        have ev : (if x.fs.isEmpty then some (P.bl true) else none) = some v := ev
        by_cases hf : x.fs.isEmpty = true
        · rw [if_pos hf] at ev
          cases ev
          unfold chkX at c
          dsimp only at c
          split at c
          · simp only [Bool.and_eq_true, decide_eq_true_eq] at c
            obtain ⟨⟨⟨⟨⟨⟨⟨⟨d1, d2⟩, d3⟩, d4⟩, d5⟩, d6⟩, d7⟩, d8⟩, d9⟩ := c
            subst d7
            obtain ⟨C, e1, e2⟩ := isExc_of he
            exact isi d1 d2 d3 d4 d5 d6 rfl (List.isEmpty_iff.mp hf) (pe_bltn (v := .ty "ValueError") (gl_of so.ok d8) (blt_of so.ok d9) (by decide +kernel) rfl (by decide +kernel) (by decide +kernel)) (fun u r => r) (so.f2.isE _ C e1 e2).2 (hQ _ (.bl _))
          · exact off c
        · rw [if_neg hf] at ev; cases ev
      | some cc =>
        have ev : (if x.fs.isEmpty then some (P.bl (T.sub x.c cc)) else none) = some v := ev
        by_cases hf : x.fs.isEmpty = true
        · rw [if_pos hf] at ev
          cases ev
          unfold chkX at c
          dsimp only at c
          split at c
          · simp only [Bool.and_eq_true, decide_eq_true_eq] at c
            obtain ⟨⟨⟨⟨⟨⟨d1, d2⟩, d3⟩, d4⟩, d5⟩, d6⟩, d7⟩ := c
            obtain ⟨C, e1, e2⟩ := isExc_of he
            obtain ⟨xn, pz, C', rfl, g1, g2, g3, e3, e4⟩ := excNm_of so d7
            exact isi d1 d2 d3 d4 d5 d6 rfl (List.isEmpty_iff.mp hf) (pe_glob (v := .ref (A.CA cc)) g1 g3 rfl g2) (fun u r => r) (so.f2.sub _ C _ C' e1 e2 e3 e4).2 (hQ _ (.bl _))
          · exact off c
        · rw [if_neg hf] at ev; cases ev
    | nt y =>
      have ev : (match evX T x y with
        | some (.bl b) => some (P.bl (!b))
        | _ => none) = some v := ev
      unfold chkX at c
      dsimp only at c
      split at c
      · rename_i op z pz
        simp only [Bool.and_eq_true, decide_eq_true_eq] at c
        obtain ⟨d1, d2⟩ := c
        subst d1
        split at ev
        · rename_i b eb
          cases ev
          refine fun pins s I => (pe_not (pe_wh _ z)).run pins s σ H Q I (ih y z (.bl b) _ d2 eb fun u q => ?_)
          cases q
          exact ⟨b, rfl, hQ _ (.bl _)⟩
        · cases ev
      · exact off c
    | or y y2 =>
      have ev : (match evX T x y with
        | some (.bl true) => some (P.bl true)
        | some (.bl false) => evX T x y2
        | _ => none) = some v := ev
      cases e with
      | BoolOp op zs pos =>
        match zs, c with
        | z :: z2 :: zs, c =>
          have c : (decide (op = .Or) && chkX T X.N nm n i y z && (match (generalizing := false) zs with
            | [] => chkX T X.N nm n i y2 z2
            | _ :: _ => chkX T X.N nm n i y2 (.BoolOp .Or (z2 :: zs) pos))) = true := c
          simp only [Bool.and_eq_true, decide_eq_true_eq] at c
          obtain ⟨⟨d1, d2⟩, d3⟩ := c
          subst d1
          have go : ∀ b, evX T x y = some (.bl b) → (b = true → Q (.bl true) H) → (b = false → Wh (X.suite a ((a, oe) :: pn)) (.BoolOp .Or (z2 :: zs) pos) σ H Q) → Wh (X.suite a ((a, oe) :: pn)) (.BoolOp .Or (z :: z2 :: zs) pos) σ H Q := by
            intro b eb h1 h2
            refine fun pins s I => (pe_or (pe_wh _ z) (pe_wh _ (.BoolOp .Or (z2 :: zs) pos))).run pins s σ H Q I (ih y z (.bl b) _ d2 eb fun u q => ?_)
            cases q
            refine ⟨b, rfl, ?_⟩
            cases b with
            | true => exact tt_pos (Nat.le_refl 0) (h1 rfl)
            | false => exact tt_neg (Nat.le_refl 0) (h2 rfl)
          split at ev
          · rename_i eb
            cases ev
            exact go true eb (fun _ => hQ _ (.bl _)) fun z => Bool.noConfusion z
          · rename_i eb
            refine go false eb (fun z => Bool.noConfusion z) fun _ => ?_
            cases zs with
            | nil =>
              have := ih y2 z2 v Q d3 ev hQ
              exact fun pins s I => (pe_one (pe_wh _ z2)).run pins s σ H Q I this
            | cons z3 zs => exact ih y2 _ v Q d3 ev hQ
          · cases ev
        | [], c => exact off c
        | [_], c => exact off c
      | _ => exact off c
    | fld f => exact off c
    | cmp o y y2 => exact off c
    | sub y y2 => exact off c
def retX (o : Option P) (st : Store) : Res Fl := match o with
  | some v => .ok (.rt (.p v)) st
  | none => .bad
theorem evXS_ret (x : Exc) (a : EV.X) (st : Store) : evXS T x (.ret a) st = retX (evX T x a) st := by
  rw [evXS]
  unfold retX
  cases evX T x a <;> rfl
theorem chkXS_ret {n i : Nat} {a : EV.X} {b : List Stmt} (h : chkXS T X.N nm n i (.ret a) b = true) : ∃ e p, b = [.Return (some e) p] ∧ chkX T X.N nm n i a e = true := by
  unfold chkXS at h
  dsimp only at h
  split at h
  · exact ⟨_, _, rfl, h⟩
  · exact off h
theorem s_hand (so : SOk X T A c0 c1 k W nm) {x : Exc} {cls : Value} {d : Option Addr} {a : Addr} {oe : Obj} {pn : List (Addr × Obj)} {i m : Nat} {H' : Hp} {am' : List Addr} {st' : Store} {hh : XS} {suite : List Stmt} {D' : Ends} {σ' : L2.St}
    (hx : XR X.K A (Gv H' am' hid) x cls d) (he : isExc T x.c = true) (hz : Zc cls d oe) (hv : ∃ vs, oe.data = .fields vs) (hi : σ'[i]? = some (some (.ref a))) (p : Post X.K A hid fl H am st H' am' st') (c : chkXS T X.N nm m i hh suite = true)
    (r : RunS X.K A hid fl H am st W (evXS T x hh st') D) (eD : D'.rt = D.rt) : Wss (X.suite a ((a, oe) :: pn)) suite D' σ' H' := by
  cases hh with
  | ret x' =>
    obtain ⟨ee, rp, rfl, c⟩ := chkXS_ret c
    rw [evXS_ret] at r
    cases ev : evX T x x' with
    | none => rw [ev] at r; exact False.elim r
    | some v =>
      rw [ev] at r
      refine fun pins s I => (pss_one (ps_ret (pe_wh _ ee))).run pins s σ' H' D' I ?_
      show Wh (X.suite a ((a, oe) :: pn)) ee σ' H' D'.rt
      rw [eD]
      exact snd_X so hx he hz hv hi m x' ee v _ c ev fun u q => r u H' am' p (.p q)
  | ifr _ _ _ => exact off c
  | rai _ _ => exact off c
theorem SOk.tr (so : SOk X T A c0 c1 k W nm) {W' : WX} {pn : List (Addr × Obj)} {xe : Value → Shared → Prop} (tk : Takes (X.tr pn xe) W') (po : PassesOwn (model X.prog X.w) X.A X.env xe) : SOk (X.tr pn xe) T A c0 c1 k W' nm :=
  ⟨⟨so.ok.calm, so.ok.nd, so.ok.nm, tk, so.ok.fa, so.ok.room, so.ok.call, so.ok.ini⟩, so.f2, so.fn, po, so.stk, so.frm⟩
theorem s_try (hS : SndSs T A c0 c1 fl k n) (so : SOk X T A c0 c1 k W nm) (h : SR X.K A hid H am st) (er : ER X.K A (Gv H am hid) am env σ) (hf : fl ≤ st.length)
    {b : List S} {cc : Nat} {oi : Option Nat} {hh : XS} (c : chkS T X.N nm (m + 1) (.tryx b cc oi hh) stm = true) (r : RunS X.K A hid fl H am st W (exS T c0 c1 fl (n + 1) (.tryx b cc oi hh) env st) D) : Ws X stm D σ H := by
  have ok := so.ok
  cases oi with
  | none => exact off c
  | some i =>
  unfold chkS at c
  dsimp only at c
  split at c
  · rename_i body z y b0 sb hp pos
    simp only [Bool.and_eq_true, decide_eq_true_eq] at c
    obtain ⟨⟨⟨⟨d1, d2⟩, d3⟩, d4⟩, d5⟩ := c
    obtain ⟨xn, pz, C', rfl, g1, g2, g3, e3, e4⟩ := excNm_of so d1
    have hloc : X.env.kindOf y = some .local := by
      show X.env.scope.names.lookup y = some .local
      rw [ok.nm]
      unfold locB at d3
      split at d3
      · assumption
      · cases d3
    rw [ex_try] at r
    intro pins s I
    have hiσ : i < σ.length := by rw [I.len]; exact (List.getElem?_eq_some_iff.mp d2).1
    refine (ps_try_as (tb := fun W' D σ H => ∀ pn xe, Takes (X.tr pn xe) W' → PassesOwn (model X.prog X.w) X.A X.env xe → σ.length = X.N.length → Wss (X.tr pn xe) body D σ H)
      (ts := fun a cls d D σ H => ∀ oe pn, Zc cls d oe → (∃ vs, oe.data = .fields vs) → σ.length = X.N.length → Wss (X.suite a ((a, oe) :: pn)) (b0 :: sb) D σ H) (Wout := W) so.stk so.frm ok.nd d2 hloc ⟨g1, g2, .inl g3⟩ ok.tk
      (fun W' pn xe tk po => ⟨fun pins s σ H D I h => h pn xe tk po I.len pins s I⟩) (fun a oe cls d pn hz hv => ⟨fun pins s σ H D I h => h oe pn hz hv I.len pins s I⟩)).run pins s σ H D I ?_
    intro pn xe tk po hlen
    refine hS (X.tr pn xe) _ nm (so.tr tk po) m b body env σ H am st hid D d4 h er hf ?_
    cases ex : exSs T c0 c1 fl n b env st with
    | bad => rw [ex] at r; exact False.elim r
    | ok f st' =>
      rw [ex] at r
      cases f with
      | nx env' => exact r
      | bk env' => exact r
      | ct env' => exact r
      | rt v => exact r
    | err x st' =>
      rw [ex] at r
      intro cls d σ' H' am' p hx
      have r : RunS X.K A hid fl H am st W (if isExc T x.c then (if T.sub x.c cc then evXS T x hh st' else .err x st') else .bad) D := r
      obtain ⟨he, r⟩ := RunS.if1 r
      obtain ⟨C, e1, e2⟩ := isExc_of he
      refine ⟨T.sub x.c cc, by rw [hx.1]; exact (so.f2.sub _ C _ C' e1 e2 e3 e4).1, fun hs a na oe pn' hz hv hl => ?_, fun hs => ?_⟩
      · rw [if_pos hs] at r
        exact s_hand so hx he hz hv (List.getElem?_set_self (by rw [List.length_set] at hl; rw [hl]; exact (List.getElem?_eq_some_iff.mp d2).1)) p d5 r rfl
      · rw [hs, if_neg Bool.false_ne_true] at r
        exact r cls d σ' H' am' p hx
  · exact off c
theorem all_stm (T : Tab) (A : Ads) (c0 c1 : CF) (fl k : Nat) : ∀ n, SndS T A c0 c1 fl k n ∧ SndSs T A c0 c1 fl k n := by
  intro n
  induction n with
  | zero => exact ⟨fun X W nm so m s' st env σ H am sto hid D c h er hf r => False.elim r, fun X W nm so m s' st env σ H am sto hid D c h er hf r => False.elim r⟩
  | succ n ih =>
    obtain ⟨hS, hSs⟩ := ih
    obtain ⟨hE, hT⟩ := all_snd T A c0 c1 fl k n n (Nat.le_refl n)
    obtain ⟨hE', hT'⟩ := all_snd T A c0 c1 fl k n (n - 1) (Nat.sub_le n 1)
    constructor
    · intro X W nm so m s' stm env σ H am sto hid D c h er hf r
      cases m with
      | zero => exact off c
      | succ m =>
      cases s' with
      | asg i a => exact s_asg hE so h er hf hE' hT' c r
      | asgT t a => exact s_asgT hE so h er hf c r
      | fset o f a => exact s_fset hE so h er hf c r
      | iset o i a => exact s_iset hE so h er hf c r
      | aug i o a => exact s_aug hE so h er hf c r
      | faug o f b a => exact s_faug hE so h er hf c r
      | ex a => exact s_ex hE so h er hf c r
      | ret a => exact s_ret hE so h er hf c r
      | ife t a b => exact s_ife hT hE hSs so h er hf c r
      | whl t b => exact s_whl hT hE hSs so h er hf c r
      | «for» t it b => exact s_for hT hE hSs so h er hf c r
      | brk =>
        unfold chkS at c
        dsimp only at c
        split at c
        · exact fun pins s I => ps_break.run pins s σ H D I (r σ H am (Post.refl h) er)
        · exact off c
      | cnt =>
        unfold chkS at c
        dsimp only at c
        split at c
        · exact fun pins s I => ps_continue.run pins s σ H D I (r σ H am (Post.refl h) er)
        · exact off c
      | pas =>
        unfold chkS at c
        dsimp only at c
        split at c
        · exact fun pins s I => ps_pass.run pins s σ H D I (r σ H am (Post.refl h) er)
        · exact fun pins s I => ps_doc.run pins s σ H D I (r σ H am (Post.refl h) er)
        · exact off c
      | rai cc l => exact s_rai so h er hf c r
      | tryx b cc i hh => exact s_try hSs so h er hf c r
      | nev => exact off c
    · intro X W nm so m l sts env σ H am sto hid D c h er hf r
      cases m with
      | zero => exact off c
      | succ m =>
      cases l with
      | nil =>
        cases sts with
        | nil => exact fun pins s I => pss_nil.run pins s σ H D I (r σ H am (Post.refl h) er)
        | cons _ _ => exact off c
      | cons s' r' =>
        cases sts with
        | nil => exact off c
        | cons stm rs =>
          have c : (chkS T X.N nm m s' stm && chkSs T X.N nm m r' rs) = true := c
          simp only [Bool.and_eq_true] at c
          refine fun pins s I => (pss_cons (ps_ws X stm) (pss_wss X rs)).run pins s σ H D I ?_
          rw [exs_cons] at r
          refine hS X W nm so m s' stm env σ H am sto hid _ c.1 h er hf ?_
          cases ex : exS T c0 c1 fl n s' env sto with
          | bad => rw [ex] at r; exact False.elim r
          | err x st' => rw [ex] at r; exact r
          | ok f st' =>
            rw [ex] at r
            cases f with
            | nx env' => exact fun σ' H' am' p q => hSs X W nm so m r' rs env' σ' H' am' st' hid D c.2 p.sr q (p.fl' hf) (RunS.post (r := exSs T c0 c1 fl n r' env' st') r p)
            | bk env' => exact r
            | ct env' => exact r
            | rt v => exact r
end
/-! ### defs -/
/-- what is to be known of a def -/
structure FnC (P : Program) (w : World) (K : PySem.W.Frag) (A : Ads) (T : Tab) (f : Nat) (F : Fn) (ps : List Str) (fd : FuncData) : Prop where
  ex : ∃ (name qual : Str) (params : Arguments) (body : List Stmt) (scope : Scope) (N : List Str) (oc : Value) (od : Option Addr) (dV kV doc pm cdv ct : Value) (an : Option Addr) (osl : Array (Option Value)) (mf : Nat),
    fd = PySem.W.fnOf name qual params body scope dV kV doc pm an cdv ct ∧ K.lookup (A.FA f) = some ⟨oc, od, .func (PySem.W.fnOf name qual params body scope dV kV doc pm an cdv ct), osl⟩ ∧ PySem.W.codeIn K cdv qual = true ∧ FnScope N ps scope ∧ (∀ us : List Value, us.length = ps.length → bindArgs (PySem.W.fnOf name qual params body scope dV kV doc pm an cdv ct) ⟨us, []⟩ = pure (ps.zip us)) ∧
    F.ps = ps.length ∧ F.nn = N.length ∧ chkSs T N scope.names mf F.body body = true
theorem fin_run {K : PySem.W.Frag} {A : Ads} {hid : List Addr} {fl : Nat} {H H' : Hp} {am am' : List Addr} {st st' : Store} {E : XK} {Q : VK} {keep : Bool} {v : R} {u : V} (h : SR K A hid H am st) (hf : fl ≤ st.length)
    (r : Run K A hid fl H am st E (rr K A hid) (fin keep st.length v st') Q) (p : Post K A hid (if keep then fl else st.length) H am st H' am' st') (q : RR K A (Gv H' am' hid) am' v u) : Q u H' := by
  unfold fin at r
  cases keep with
  | true => exact r u H' am' p q
  | false =>
    rw [if_neg Bool.false_ne_true] at r p
    cases ez : frz st.length st' 6 v with
    | none => rw [ez] at r; exact False.elim r
    | some z =>
      rw [ez] at r
      have qz := frz_ok p.sr st.length 6 v u z q ez
      have tk : am'.take st.length = am := by rw [← h.len]; exact take_pre p.ext.pre
      rw [tk] at qz
      exact r u H' am (Post.trunc h p hf) (.p qz)
theorem call_if {T : Tab} {fns : List Fn} {k f : Nat} {F : Fn} (h : fns[f]? = some F) (args : List R) (fl : Nat) (st : Store) :
    callF T fns (k + 1) f args fl st = if args.length = F.ps then retR F.keep st.length (exSs T (callF T fns k) (callF T fns (k - 1)) (if F.keep then fl else st.length) 60 F.body (args.map some ++ List.replicate (F.nn - F.ps) none) st) else .bad := by
  by_cases hl : args.length = F.ps
  · rw [if_pos hl, call_def h hl]
  · rw [if_neg hl, callF]
    simp only [h, if_neg hl]
theorem call_none {T : Tab} {fns : List Fn} {k f : Nat} (h : fns[f]? = none) (args : List R) (fl : Nat) (st : Store) : callF T fns (k + 1) f args fl st = .bad := by
  rw [callF]
  simp only [h]
theorem fn_snd {P : Program} {w : World} {K : PySem.W.Frag} {mg : Str → Option Value} {base : Heap} {A : Ads} {T : Tab} {fns : List Fn} {k f : Nat} {F : Fn} {ps : List Str} {fd : FuncData} (hF : fns[f]? = some F) (C : FnC P w K A T f F ps fd) (fa : Facts T A P w K mg) (f2 : Facts2 T A K)
    (hc : Calls P w K mg base A (callF T fns k) k) (hc1 : ∃ j, (j + 1 ≤ k ∨ ∀ f args fl st, callF T fns (k - 1) f args fl st = .bad) ∧ Calls P w K mg base A (callF T fns (k - 1)) j) :
    FnOk P w K mg base (L2.CX P w) (k + 1) (A.FA f) fd ps (spF K A (callF T fns (k + 1)) f) ∧ (∀ us : List Value, us.length = ps.length → bindArgs fd ⟨us, []⟩ = pure (ps.zip us)) ∧ ps.length = F.ps := by
  obtain ⟨name, qual, params, body, scope, N, oc, od, dV, kV, doc, pm, cdv, ct, an, osl, mf, rfl, lk, hcd, S, hB, hps, hnn, hchk⟩ := C.ex
  refine ⟨fn_of (N := N) lk hcd S ?_ ?_, hB, hps.symm⟩
  · intro vs H Q E ⟨args, am, st, hid, fl, h, q, hf, r⟩
    rw [← q.length]
    obtain ⟨h1, _⟩ := Run.if1 (call_if hF args fl st ▸ r)
    rw [h1, hps]
  · intro AA outer s H vs Q E hr ⟨args, am, st, hid, fl, h, q, hf, r⟩
    rw [call_if hF args fl st] at r
    obtain ⟨hl, r⟩ := Run.if1 r
    refine ⟨_, pss_wss _ body, ?_⟩
    have nd : N.Nodup := S.nd
    have so : SOk (cxOf (L2.CX P w) P w K mg base N qual scope (A.FA f) cdv AA outer s H E) T A (callF T fns k) (callF T fns (k - 1)) k (fun cls d _ H' => E cls d H') scope.names :=
      ⟨⟨rfl, nd, rfl, takes_of (E := E) rfl rfl rfl rfl, fa, hr, hc, hc1⟩, f2, fun _ => rfl, passes_of rfl, rfl, rfl⟩
    have hlen : vs.length = F.ps := by rw [← q.length]; exact hl
    have er : ER K A (Gv H am hid) am (args.map some ++ List.replicate (F.nn - F.ps) none) (L2.start N vs) := by
      refine ⟨?_, fun i r0 e => ?_⟩
      · unfold L2.start
        rw [List.length_append, List.length_append, List.length_map, List.length_map, List.length_replicate, List.length_replicate, hl, hlen, hnn]
      · unfold L2.start
        by_cases hi : i < args.length
        · rw [List.getElem?_append_left (by rw [List.length_map]; exact hi), List.getElem?_map] at e
          cases ea : args[i]? with
          | none => rw [ea] at e; cases e
          | some r1 =>
            rw [ea] at e
            cases e
            obtain ⟨u, e1, q1⟩ := q.get ea
            exact ⟨u, by rw [List.getElem?_append_left (by rw [List.length_map, ← q.length]; exact hi), List.getElem?_map, e1]; rfl, q1⟩
        · rw [List.getElem?_append_right (by rw [List.length_map]; omega)] at e
          rw [List.getElem?_replicate] at e
          split at e <;> cases e
    have hfl : (if F.keep then fl else st.length) ≤ st.length := by
      split
      · exact hf
      · exact Nat.le_refl _
    refine (all_stm T A (callF T fns k) (callF T fns (k - 1)) (if F.keep then fl else st.length) k 60).2 _ _ scope.names so mf F.body body _ _ H am st hid _ hchk h er hfl ?_
    cases ex : exSs T (callF T fns k) (callF T fns (k - 1)) (if F.keep then fl else st.length) 60 F.body (args.map some ++ List.replicate (F.nn - F.ps) none) st with
    | bad => rw [ex] at r; exact False.elim r
    | err x st' =>
      rw [ex, retR_err] at r
      intro cls d σ' H' am' p hx
      cases hkp : F.keep with
      | true =>
        rw [hkp] at p r
        exact r cls d H' am' p hx
      | false =>
        rw [hkp] at p r
        have p : Post K A hid st.length H am st H' am' st' := p
        refine r cls d H' am (Post.trunc h p hf) ⟨hx.1, ?_⟩
        have le : Le (Gv H' am' hid) (Gv H' am hid) := le_gv p.ext.pre
        rcases hx.2 with z | ⟨z1, dd, fvs, z2, z3, z4⟩
        · exact .inl z
        · obtain ⟨y1, y2, y3⟩ := gv_of z3
          exact .inr ⟨z1, dd, fvs, z2, gv_mk y1 (fun z => y2 (p.ext.pre.subset z)) y3, z4.mono le⟩
    | ok fo st' =>
      rw [ex] at r
      cases fo with
      | nx env' => exact fun σ' H' am' p q => fin_run h hf r p (.p .non)
      | rt v => exact fun u H' am' p q => fin_run h hf r p q
      | bk env' => exact False.elim r
      | ct env' => exact False.elim r
theorem callF_zero (T : Tab) (fns : List Fn) (f : Nat) (args : List R) (fl : Nat) (st : Store) : callF T fns 0 f args fl st = .bad := by rw [callF]
/-- THE RULE: the evaluator's calls are kept by the code -/
theorem calls_key {P : Program} {w : World} {K : PySem.W.Frag} {mg : Str → Option Value} {base : Heap} {A : Ads} {T : Tab} {fns : List Fn} (C : ∀ f F, fns[f]? = some F → ∃ ps fd, FnC P w K A T f F ps fd) (fa : Facts T A P w K mg) (f2 : Facts2 T A K) :
    ∀ k, (Calls P w K mg base A (callF T fns k) k ∧ Calls P w K mg base A (callF T fns (k - 1)) (k - 1)) ∧ ∀ f F ps fd, fns[f]? = some F → FnC P w K A T f F ps fd → FnOk P w K mg base (L2.CX P w) (k + 1) (A.FA f) fd ps (spF K A (callF T fns (k + 1)) f) ∧ (∀ us : List Value, us.length = ps.length → bindArgs fd ⟨us, []⟩ = pure (ps.zip us)) ∧ ps.length = F.ps := by
  intro k
  induction k with
  | zero =>
    have h0 : Calls P w K mg base A (callF T fns 0) 0 := fun f => .inl fun args fl st => callF_zero _ _ _ _ _ _
    exact ⟨⟨h0, h0⟩, fun f F ps fd hF c => fn_snd hF c fa f2 h0 ⟨0, .inr fun f args fl st => callF_zero _ _ _ _ _ _, h0⟩⟩
  | succ k ih =>
    obtain ⟨⟨i1, i2⟩, i3⟩ := ih
    have h1 : Calls P w K mg base A (callF T fns (k + 1)) (k + 1) := fun f => by
      cases hF : fns[f]? with
      | none => exact .inl fun args fl st => call_none hF args fl st
      | some F =>
        obtain ⟨ps, fd, c⟩ := C f F hF
        obtain ⟨F1, b, _⟩ := i3 f F ps fd hF c
        exact .inr ⟨fd, ps, F1, .all b⟩
    exact ⟨⟨h1, i1⟩, fun f F ps fd hF c => fn_snd hF c fa f2 h1 ⟨k, .inl (Nat.le_refl _), i1⟩⟩
end EV
end
section
set_option linter.all false
set_option maxRecDepth 100000
/-! EV, part 22: the facts of a text's top, decided over what its head left. -/
namespace EV
open PySem PySem.Spec PyProof.Rows L2
/-- where things stand, by names -/
structure Lay where
  cn : List Str
  fl : List (Str × Option Str)
  dn : List Str
def adsOf (K : PySem.W.Frag) (L : Lay) : Ads where
  CA c := He.ga K (L.cn.getD c Str.empty)
  FA f := He.fAd K (L.fl.getD f (Str.empty, none))
  DA j := He.ga K (L.dn.getD j Str.empty)
/-! ### values of the top -/
def conV (K : PySem.W.Frag) : Nat → P → Value → Bool
  | 0, _, _ => false
  | n + 1, y, u => match y with
    | .non => (match u with
      | .none => true
      | _ => false)
    | .bl b => (match u with
      | .bool c => b == c
      | _ => false)
    | .int i => (match u with
      | .int j _ => decide (i = j)
      | _ => false)
    | .str x => (match u with
      | .str s _ => decide (s = ⟨x.toArray⟩) && decide (x.length ≤ LINE)
      | _ => false)
    | .tup ps => (match u with
      | .ref a => (match K.lookup a with
        | some ⟨.type c, _, .seq its _, _⟩ => decide (c = "tuple") && (decide (its.size ≤ sizeLine) && conVs (conV K n) ps its.toList)
        | _ => false)
      | _ => false)
    | _ => false
where conVs (f : P → Value → Bool) : List P → List Value → Bool
  | [], [] => true
  | p :: ps, u :: us => f p u && conVs f ps us
  | _, _ => false
theorem conVs_ok {K : PySem.W.Frag} {A : Ads} {f : P → Value → Bool} (hf : ∀ p u, f p u = true → ∃ v, RelV v u ∧ ∀ G, RV K A G p v) : ∀ {ps : List P} {us : List Value}, conV.conVs f ps us = true → ∃ vs, Vals vs us ∧ ∀ G, RVs K A G ps vs
  | [], [], _ => ⟨[], .nil, fun _ => .nil⟩
  | [], _ :: _, h => off h
  | _ :: _, [], h => off h
  | p :: ps, u :: us, h => by
    have h : (f p u && conV.conVs f ps us) = true := h
    obtain ⟨h1, h2⟩ := Bool.and_eq_true_iff.mp h
    obtain ⟨v, r, q⟩ := hf p u h1
    obtain ⟨vs, rs, qs⟩ := conVs_ok hf h2
    exact ⟨v :: vs, .cons r rs, fun G => .cons (q G) (qs G)⟩
theorem conV_ok {K : PySem.W.Frag} {A : Ads} : ∀ (n : Nat) (y : P) (u : Value), conV K n y u = true → ∃ v, RelV v u ∧ ∀ G, RV K A G y v := by
  intro n
  induction n with
  | zero => intro y u h; exact off h
  | succ n ih =>
    intro y u h
    cases y with
    | non => cases u <;> first | exact off h | exact ⟨.non, rfl, fun G => .non⟩
    | bl b =>
      cases u with
      | bool c =>
        have h : (b == c) = true := h
        rw [← beq_iff_eq.mp h]
        exact ⟨.bl b, rfl, fun G => .bl b⟩
      | _ => exact off h
    | int i =>
      cases u with
      | int j t =>
        have h : decide (i = j) = true := h
        rw [← of_decide_eq_true h]
        exact ⟨.int i, ⟨t, rfl⟩, fun G => .int i⟩
      | _ => exact off h
    | str x =>
      cases u with
      | str s t =>
        have h : (decide (s = ⟨x.toArray⟩) && decide (x.length ≤ LINE)) = true := h
        simp only [Bool.and_eq_true, decide_eq_true_eq] at h
        rw [h.1]
        exact ⟨.str ⟨x.toArray⟩, ⟨t, rfl⟩, fun G => .str x h.2⟩
      | _ => exact off h
    | tup ps =>
      cases u with
      | ref a =>
        have h : (match K.lookup a with
          | some ⟨.type c, _, .seq its _, _⟩ => decide (c = "tuple") && (decide (its.size ≤ sizeLine) && conV.conVs (conV K n) ps its.toList)
          | _ => false) = true := h
        split at h
        · rename_i c od its k sl e
          simp only [Bool.and_eq_true, decide_eq_true_eq] at h
          obtain ⟨h1, h2, h3⟩ := h
          subst h1
          obtain ⟨vs, r, q⟩ := conVs_ok (A := A) (fun p u => ih p u) h3
          exact ⟨.ref a, rfl, fun G => .tup (.inr ⟨_, its, k, e, rfl, rfl, h2, r⟩) (q G)⟩
        · exact off h
      | _ => exact off h
    | _ => exact off h
/-! ### dicts of the top -/
def keyP (e : DictEntry) : Option (Ky × Int) := match e.key with
  | .str x _ => some (.inr x.cps.toList, e.hash)
  | .int i _ => some (.inl i, e.hash)
  | _ => none
def hashV (P : Params) : Ky → Int
  | .inl i => hashInt i
  | .inr x => PyData.keyHash P ⟨x.toArray⟩
def keysV (P : Params) (ks : List Ky) : List (Option (Ky × Int)) := ks.map fun k => some (k, hashV P k)
def dicP (K : PySem.W.Frag) (a : Addr) : Option (List (Option (Ky × Int))) := match K.lookup a with
  | some ⟨.type c, none, .dict es _, sl⟩ => (match decide (c = "dict") && sl.isEmpty with
    | true => some (es.toList.map keyP)
    | false => none)
  | _ => none
def valsV (K : PySem.W.Frag) (a : Addr) (ps : List P) : Bool := match K.lookup a with
  | some ⟨_, _, .dict es _, _⟩ => conV.conVs (conV K 4) ps (es.toList.map (·.val))
  | _ => false
theorem keyHash_eq (w : World) (x : Str) : PyData.keyHash w.params x = hashStr w x := by
  rfl
theorem hashV_eq (w : World) (k : Ky) : hashV w.params k = keyH w (ky k) := by
  cases k with
  | inl i => rfl
  | inr x => exact keyHash_eq w _
theorem keyP_is {e : DictEntry} {k : Ky} {h : Int} (q : keyP e = some (k, h)) : keyIs (ky k) e.key = true ∧ e.hash = h ∧ ∀ k', keyIs (ky k') e.key = decide (k' = k) := by
  unfold keyP at q
  split at q
  · rename_i x t e1
    cases q
    rw [e1]
    have : (⟨x.cps.toList.toArray⟩ : Str) = x := by simp
    refine ⟨by show keyIs (.inr ⟨x.cps.toList.toArray⟩) _ = true; rw [this]; exact keyIs_str x t, rfl, fun k' => ?_⟩
    cases k' with
    | inl i => rfl
    | inr y =>
      show Value.isStrOf ⟨y.toArray⟩ (.str x t) = _
      by_cases hy : y = x.cps.toList
      · subst hy
        rw [decide_eq_true rfl]
        rw [this]
        exact keyIs_str x t
      · rw [decide_eq_false (fun z => hy (Sum.inr.inj z))]
        have : (⟨y.toArray⟩ : Str) ≠ x := fun z => hy (by rw [← z])
        cases hz : Value.isStrOf (⟨y.toArray⟩ : Str) (.str x t) with
        | false => rfl
        | true =>
          obtain ⟨t', e'⟩ := Value.isStrOf_shape hz
          cases e'
          exact absurd rfl this
  · rename_i i t e1
    cases q
    rw [e1]
    refine ⟨keyIs_int i t, rfl, fun k' => ?_⟩
    cases k' with
    | inr y => rfl
    | inl j =>
      show Value.isInt j (.int i t) = _
      by_cases hy : j = i
      · subst hy
        rw [decide_eq_true rfl]
        exact keyIs_int j t
      · rw [decide_eq_false (fun z => hy (Sum.inl.inj z))]
        cases hz : Value.isInt j (.int i t) with
        | false => rfl
        | true =>
          obtain ⟨t', e'⟩ := Value.isInt_shape hz
          cases e'
          exact absurd rfl hy
  · cases q
theorem ky_beq (a b : Ky) : (a == b) = decide (a = b) := by
  cases a with
  | inl i =>
    cases b with
    | inl j =>
      show (i == j) = _
      by_cases h : i = j
      · subst h; simp
      · rw [beq_eq_false_iff_ne.mpr h, decide_eq_false fun z => h (Sum.inl.inj z)]
    | inr y => rfl
  | inr x =>
    cases b with
    | inl j => rfl
    | inr y =>
      show (x == y) = _
      by_cases h : x = y
      · subst h; simp
      · rw [beq_eq_false_iff_ne.mpr h, decide_eq_false fun z => h (Sum.inr.inj z)]
theorem gd_find {K : PySem.W.Frag} {A : Ads} {Pm : Params} : ∀ {es : List DictEntry} {t : List (Ky × EV.P)}, es.map keyP = keysV Pm (t.map (·.1)) → (∃ vs, Vals vs (es.map (·.val)) ∧ ∀ G, RVs K A G (t.map (·.2)) vs) → ∀ k, match t.lookup k with
    | some p => ∃ v u, (es.find? fun e => keyIs (ky k) e.key).map (·.val) = some u ∧ RelV v u ∧ ∀ G, RV K A G p v
    | none => (es.find? fun e => keyIs (ky k) e.key).map (·.val) = none
  | [], [], _, _, _ => rfl
  | [], _ :: _, h, _, _ => by cases h
  | _ :: _, [], h, _, _ => by cases h
  | e :: es, (k0, p0) :: t, h, hv, k => by
    have h : keyP e :: es.map keyP = some (k0, hashV Pm k0) :: keysV Pm (t.map (·.1)) := h
    injection h with h1 h2
    obtain ⟨vs, r, q⟩ := hv
    obtain ⟨_, _, hk⟩ := keyP_is h1
    have r : Vals vs (e.val :: es.map (·.val)) := r
    cases r with
    | @cons v _ vs _ r1 r2 =>
      have q1 : ∀ G, RV K A G p0 v := fun G => by
        have := q G
        cases this with
        | cons a b => exact a
      have q2 : ∀ G, RVs K A G (t.map (·.2)) vs := fun G => by
        have := q G
        cases this with
        | cons a b => exact b
      rw [List.lookup_cons, List.find?_cons, hk k]
      by_cases e0 : k = k0
      · subst e0
        rw [ky_beq, decide_eq_true rfl]
        exact ⟨v, e.val, rfl, r1, q1⟩
      · rw [ky_beq, decide_eq_false e0]
        exact gd_find h2 ⟨vs, r2, q2⟩ k
theorem gd_ok {Pg : Program} {w : World} {K : PySem.W.Frag} {A : Ads} {a : Addr} {t : List (Ky × EV.P)} (h1 : dicP K a = some (keysV w.params (t.map (·.1)))) (h2 : valsV K a (t.map (·.2)) = true) : GdOk Pg w K A a t := by
  unfold dicP at h1
  split at h1
  · rename_i c es n sl e
    split at h1
    · rename_i z
      simp only [Bool.and_eq_true, decide_eq_true_eq] at z
      obtain ⟨z1, z2⟩ := z
      subst z1
      have z3 : sl = #[] := Array.isEmpty_iff.mp z2
      subst z3
      have h1 := Option.some.inj h1
      unfold valsV at h2
      rw [e] at h2
      dsimp only at h2
      have hv := conVs_ok (A := A) (fun p u => conV_ok 4 p u) h2
      refine ⟨fun k => findBy (mixKind Pg w).is es k, fun h KX => ⟨_, es, n, KX _ _ e, ⟨rfl, rfl, rfl⟩, rfl, fun e0 he0 => ?_, fun k => rfl⟩, fun k => ?_⟩
      · have hm : keyP e0 ∈ es.toList.map keyP := List.mem_map_of_mem (by simpa using he0)
        rw [h1] at hm
        unfold keysV at hm
        obtain ⟨kk, _, e1⟩ := List.mem_map.mp hm
        obtain ⟨i1, i2, _⟩ := keyP_is e1.symm
        exact ⟨ky kk, i1, by rw [i2]; exact hashV_eq w kk⟩
      · have := gd_find (A := A) h1 hv k
        have ef : ∀ k, findBy (mixKind Pg w).is es k = (es.toList.find? fun e => keyIs k e.key).map (·.val) := fun k => by
          unfold findBy
          rw [← Array.find?_toList]
          rfl
        show match t.lookup k with
          | some p => ∃ v u, findBy (mixKind Pg w).is es (ky k) = some u ∧ RelV v u ∧ ∀ G, RV K A G p v
          | none => findBy (mixKind Pg w).is es (ky k) = none
        rw [ef]
        exact this
    · cases h1
  · cases h1
/-! ### the facts, decided -/
def glB1 (K : PySem.W.Frag) (A : Ads) (q : String × GV) : Bool := match q.2 with
  | .fn f => He.eqO (PySem.W.nsIn K mainGlobals (Str.ofString q.1)) (some (some (.ref (A.FA f)))) && PySem.W.keepIn K (.ref (A.FA f))
  | .cl c => He.eqO (PySem.W.nsIn K mainGlobals (Str.ofString q.1)) (some (some (.ref (A.CA c))))
  | .con (.gd j) => He.eqO (PySem.W.nsIn K mainGlobals (Str.ofString q.1)) (some (some (.ref (A.DA j))))
  | .con y => (match PySem.W.nsIn K mainGlobals (Str.ofString q.1) with
    | some (some u) => conV K 6 y u
    | _ => false)
  | .blt => He.eqO (PySem.W.nsIn K mainGlobals (Str.ofString q.1)) (some none)
def clsB (K : PySem.W.Frag) (C : Addr) : Bool := PySem.W.plainGet K C Str.empty && (PySem.W.hasDictIn K C && (PySem.W.plainOver K C && He.eqO (PySem.W.findIn K (.ref C) "__setattr__") (some (some (.builtin "object.__setattr__")))))
def isB (K : PySem.W.Frag) (C : Addr) : Bool := He.eqO (PySem.W.findIn K (.ref C) "__class__") (some (some (.builtin "object.__class__"))) && (He.eqO (PySem.W.specialIn K (.builtin "object.__class__") "__get__") (some (some (.builtin "getset_descriptor.__get__"))) &&
  (decide (PySem.W.takesIn K (.builtin "object.__class__") = some true) && (decide (PySem.W.mroIn K C (.type "object") = some true) && decide (PySem.W.kitOne K (.ref C) (.ref C) = some true))))
def mkB (K : PySem.W.Frag) (C f : Addr) : Bool := PySem.W.makesIn K C && (He.eqO (PySem.W.findIn K (.ref C) "__init__") (some (some (.ref f))) && (PySem.W.isFn K (.ref f) && PySem.W.keepIn K (.ref C)))
def methB (K : PySem.W.Frag) (C : Addr) (m : Str) (f : Addr) : Bool := He.eqO (PySem.W.findIn K (.ref C) m) (some (some (.ref f))) && (PySem.W.isFn K (.ref f) && PySem.W.keepIn K (.ref f))
def excB (K : PySem.W.Frag) (C : Addr) : Bool := PySem.W.excIn K C He.veBase "ValueError.__new__" && (PySem.W.keepIn K (.ref C) && (decide (PySem.W.subIn K (.ref C) (.type "BaseException") = some true) && decide (PySem.W.typeIn K (.ref C) = some (.type "type"))))
def isEB (K : PySem.W.Frag) (D : Addr) : Bool := He.eqO (PySem.W.findIn K (.ref D) "__getattribute__") (some (some (.builtin "BaseException.__getattribute__"))) && (He.eqO (PySem.W.findIn K (.ref D) "__getattr__") (some none) &&
  (decide (PySem.W.subIn K (.ref D) (.type "BaseException") = some true) && (PySem.W.hasDictIn K D && (He.eqO (PySem.W.findIn K (.ref D) "__class__") (some (some (.builtin "object.__class__"))) && (He.eqO (PySem.W.specialIn K (.builtin "object.__class__") "__get__") (some (some (.builtin "getset_descriptor.__get__"))) &&
  (decide (PySem.W.takesIn K (.builtin "object.__class__") = some true) && (decide (PySem.W.mroIn K D (.type "object") = some true) && decide (PySem.W.kitOne K (.ref D) (.type "ValueError") = some true))))))))
def clB1 (T : Tab) (K : PySem.W.Frag) (A : Ads) (c : Nat) (C : Cl) : Bool :=
  if C.kind = 0 then clsB K (A.CA c) && (isB K (A.CA c) && (mkB K (A.CA c) (A.FA C.init) && ((C.flds.all fun f => He.eqO (PySem.W.findIn K (.ref (A.CA c)) (Str.ofString f)) (some none)) && C.meths.all fun q => methB K (A.CA c) (Str.ofString q.1) (A.FA q.2))))
  else C.meths.isEmpty && ((if C.kind = 1 then excB K (A.CA c) else true) && (isEB K (A.CA c) && (T.cls.zipIdx.all fun q => if q.1.kind = 0 then true else decide (PySem.W.exmOne K (.ref (A.CA c)) (.ref (A.CA q.2)) = some (T.sub c q.2)) && decide (PySem.W.kitOne K (.ref (A.CA c)) (.ref (A.CA q.2)) = some (T.sub c q.2)))))
def topB (T : Tab) (L : Lay) (K : PySem.W.Frag) : Bool := (T.gl.all (glB1 K (adsOf K L))) && ((T.cls.zipIdx.all fun q => clB1 T K (adsOf K L) q.2 q.1) && T.gds.zipIdx.all fun q => valsV K ((adsOf K L).DA q.2) (q.1.map (·.2)))
def dicsO (T : Tab) (L : Lay) (K : PySem.W.Frag) : List (Option (List (Option (Ky × Int)))) := T.gds.zipIdx.map fun q => dicP K ((adsOf K L).DA q.2)
def dicsV (T : Tab) (Pm : Params) : List (Option (List (Option (Ky × Int)))) := T.gds.map fun t => some (keysV Pm (t.map (·.1)))
theorem gl_mem {gl : List (String × GV)} {x : String} {g : GV} (h : gl.lookup x = some g) : (x, g) ∈ gl := lookup_mem' h
theorem ix_mem {α : Type} {l : List α} {i : Nat} {a : α} (h : l[i]? = some a) : (a, i) ∈ l.zipIdx := by
  obtain ⟨hi, e⟩ := List.getElem?_eq_some_iff.mp h
  rw [List.mem_iff_getElem]
  exact ⟨i, by simpa using hi, by simp [e]⟩
section
variable {T : Tab} {L : Lay} {K : PySem.W.Frag} {P : Program} {w : World} {h : Heap} {mg : Str → Option Value}
theorem ba2 {a b : Bool} (h : (a && b) = true) : a = true ∧ b = true := Bool.and_eq_true_iff.mp h
theorem facts_of (KX : K.In h) (G : h.Ns mainGlobals mg) (b : topB T L K = true) (d : dicsO T L K = dicsV T w.params) : Facts T (adsOf K L) P w K mg ∧ Facts2 T (adsOf K L) K := by
  obtain ⟨b1, b⟩ := ba2 b
  obtain ⟨b2, b3⟩ := ba2 b
  have g1 : ∀ x g, T.gl.lookup x = some g → glB1 K (adsOf K L) (x, g) = true := fun x g e => List.all_eq_true.mp b1 _ (gl_mem e)
  have k1 : ∀ c C, T.cls[c]? = some C → clB1 T K (adsOf K L) c C = true := fun c C e => List.all_eq_true.mp b2 (C, c) (ix_mem e)
  have k0 : ∀ c C, T.cls[c]? = some C → C.kind = 0 → clsB K ((adsOf K L).CA c) = true ∧ isB K ((adsOf K L).CA c) = true ∧ mkB K ((adsOf K L).CA c) ((adsOf K L).FA C.init) = true ∧ (C.flds.all fun f => He.eqO (PySem.W.findIn K (.ref ((adsOf K L).CA c)) (Str.ofString f)) (some none)) = true ∧ (C.meths.all fun q => methB K ((adsOf K L).CA c) (Str.ofString q.1) ((adsOf K L).FA q.2)) = true := by
    intro c C e hk
    have z := k1 c C e
    unfold clB1 at z
    rw [if_pos hk] at z
    obtain ⟨z1, z⟩ := ba2 z
    obtain ⟨z2, z⟩ := ba2 z
    obtain ⟨z3, z⟩ := ba2 z
    obtain ⟨z4, z5⟩ := ba2 z
    exact ⟨z1, z2, z3, z4, z5⟩
  have kE : ∀ c C, T.cls[c]? = some C → 1 ≤ C.kind → C.meths.isEmpty = true ∧ (if C.kind = 1 then excB K ((adsOf K L).CA c) else true) = true ∧ isEB K ((adsOf K L).CA c) = true ∧ (T.cls.zipIdx.all fun q => if q.1.kind = 0 then true else decide (PySem.W.exmOne K (.ref ((adsOf K L).CA c)) (.ref ((adsOf K L).CA q.2)) = some (T.sub c q.2)) && decide (PySem.W.kitOne K (.ref ((adsOf K L).CA c)) (.ref ((adsOf K L).CA q.2)) = some (T.sub c q.2))) = true := by
    intro c C e hk
    have z := k1 c C e
    unfold clB1 at z
    rw [if_neg (by omega)] at z
    obtain ⟨z1, z⟩ := ba2 z
    obtain ⟨z2, z⟩ := ba2 z
    obtain ⟨z3, z4⟩ := ba2 z
    exact ⟨z1, z2, z3, z4⟩
  have cls_ok : ∀ c, clsB K ((adsOf K L).CA c) = true → Cls K ((adsOf K L).CA c) := by
    intro c z
    obtain ⟨c1, z⟩ := ba2 z
    obtain ⟨c2, z⟩ := ba2 z
    obtain ⟨c3, c4⟩ := ba2 z
    exact ⟨c1, c2, c3, He.eqO_ok c4⟩
  refine ⟨⟨fun x f e => ?_, fun x c e => ?_, fun x y e => ?_, fun x e => ?_, fun j t e => ?_, fun c C e hk => ?_, fun c C m f e em => ?_⟩, ⟨fun c C e hk => ?_, fun c C e hk => ?_, fun c C c' C' e hk e' hk' => ?_⟩⟩
  · unfold glFn at e
    obtain ⟨g, e1, e2⟩ := Option.bind_eq_some_iff.mp e
    cases g with
    | fn i =>
      cases (show some i = some f from e2)
      obtain ⟨z1, z2⟩ := ba2 (show (He.eqO _ _ && PySem.W.keepIn K _) = true from g1 _ _ e1)
      exact ⟨PySem.W.mg_of KX G (He.eqO_ok z1), z2⟩
    | _ => cases e2
  · unfold glCl at e
    obtain ⟨g, e1, e2⟩ := Option.bind_eq_some_iff.mp e
    cases g with
    | cl i =>
      cases (show some i = some c from e2)
      exact PySem.W.mg_of KX G (He.eqO_ok (g1 _ _ e1))
    | _ => cases e2
  · have z := g1 _ _ e
    unfold glB1 at z
    dsimp only at z
    split at z
    · rename_i e0
      cases e0
    · rename_i e0
      cases e0
    · rename_i j e0
      cases e0
      exact ⟨.ref _, _, PySem.W.mg_of KX G (He.eqO_ok z), rfl, fun _ => .gd j⟩
    · rename_i y' _ e0
      cases e0
      split at z
      · rename_i u eu
        obtain ⟨v, r, q⟩ := conV_ok (A := adsOf K L) 6 y u z
        exact ⟨v, u, PySem.W.mg_of KX G eu, r, q⟩
      · exact off z
    · rename_i e0
      cases e0
  · unfold glBlt at e
    split at e
    · rename_i g e1
      cases g with
      | blt => exact PySem.W.mg_none_of KX G (He.eqO_ok (g1 _ _ e1))
      | _ => exact off e
    · exact off e
  · have z1 : valsV K ((adsOf K L).DA j) (t.map (·.2)) = true := List.all_eq_true.mp b3 (t, j) (ix_mem e)
    have z2 : dicP K ((adsOf K L).DA j) = some (keysV w.params (t.map (·.1))) := by
      have e2 : (dicsO T L K)[j]? = (dicsV T w.params)[j]? := by rw [d]
      unfold dicsO dicsV at e2
      rw [List.getElem?_map, List.getElem?_map, e, List.getElem?_zipIdx, e] at e2
      simpa using e2
    exact gd_ok z2 z1
  · obtain ⟨z1, z2, z3, z4, z5⟩ := k0 c C e hk
    refine ⟨cls_ok c z1, ?_, ?_, fun f hf => He.eqO_ok (List.all_eq_true.mp z4 f hf)⟩
    · obtain ⟨y1, z⟩ := ba2 z2
      obtain ⟨y2, z⟩ := ba2 z
      obtain ⟨y3, z⟩ := ba2 z
      obtain ⟨y4, y5⟩ := ba2 z
      exact ⟨He.eqO_ok y1, He.eqO_ok y2, of_decide_eq_true y3, of_decide_eq_true y4, of_decide_eq_true y5⟩
    · obtain ⟨y1, z⟩ := ba2 z3
      obtain ⟨y2, z⟩ := ba2 z
      obtain ⟨y3, y4⟩ := ba2 z
      exact ⟨y1, He.eqO_ok y2, y3, y4⟩
  · by_cases hk : C.kind = 0
    · obtain ⟨z1, z2, z3, z4, z5⟩ := k0 c C e hk
      have := List.all_eq_true.mp z5 (m, f) (lookup_mem' em)
      obtain ⟨y1, z⟩ := ba2 this
      obtain ⟨y2, y3⟩ := ba2 z
      exact ⟨cls_ok c z1, ⟨He.eqO_ok y1, y2, y3⟩⟩
    · obtain ⟨z1, _⟩ := kE c C e (by omega)
      rw [List.isEmpty_iff.mp z1] at em
      cases em
  · obtain ⟨z1, z2, z3, z4⟩ := kE c C e (by omega)
    rw [if_pos hk] at z2
    obtain ⟨y1, z⟩ := ba2 z2
    obtain ⟨y2, z⟩ := ba2 z
    obtain ⟨y3, y4⟩ := ba2 z
    exact ⟨y1, y2, of_decide_eq_true y3, of_decide_eq_true y4⟩
  · obtain ⟨z1, z2, z3, z4⟩ := kE c C e hk
    obtain ⟨y1, z⟩ := ba2 z3
    obtain ⟨y2, z⟩ := ba2 z
    obtain ⟨y3, z⟩ := ba2 z
    obtain ⟨y4, z⟩ := ba2 z
    obtain ⟨y5, z⟩ := ba2 z
    obtain ⟨y6, z⟩ := ba2 z
    obtain ⟨y7, z⟩ := ba2 z
    obtain ⟨y8, y9⟩ := ba2 z
    exact ⟨⟨He.eqO_ok y1, He.eqO_ok y2, of_decide_eq_true y3, y4, He.eqO_ok y5, He.eqO_ok y6, of_decide_eq_true y7, of_decide_eq_true y8⟩, of_decide_eq_true y9⟩
  · obtain ⟨z1, z2, z3, z4⟩ := kE c C e hk
    have := List.all_eq_true.mp z4 (C', c') (ix_mem e')
    dsimp only at this
    rw [if_neg (by omega)] at this
    obtain ⟨y1, y2⟩ := ba2 this
    exact ⟨of_decide_eq_true y1, of_decide_eq_true y2⟩
end
/-! ### the hook -/
abbrev AlV : Type := Bool × List He.FnV × List (Option (List (Option (Ky × Int))))
def obsV (T : Tab) (L : Lay) (fn : List He.FnD) (K : PySem.W.Frag) : AlV := (topB T L K && fn.all fun d => (He.Fa.code d.at_ d.qual).ok K, fn.map fun d => He.fnObs K d.at_, dicsO T L K)
def valV (T : Tab) (fn : List He.FnD) (w : World) : AlV := (true, fn.map He.FnD.val, dicsV T w.params)
def hookV (as : (Addr → Option Obj) → List Addr) (T : Tab) (L : Lay) (fn : List He.FnD) : PySem.W.Hook where
  α := AlV
  obs := fun s => obsV T L fn (He.frG s.heap.get? (as s.heap.get?))
  val := fun w => valV T fn w
  says := fun w h => ∃ K : PySem.W.Frag, K.In h ∧ obsV T L fn K = valV T fn w
  of := fun _ _ e => ⟨_, He.frG_in, e⟩
  keeps := fun _ _ _ ⟨K, hK, c⟩ k => ⟨K, PySem.W.Frag.In.keeps hK k, c⟩
theorem obsV_eq {as : (Addr → Option Obj) → List Addr} {T : Tab} {L : Lay} {fn : List He.FnD} {g : Addr → Option Obj} {s : Shared} (h : ∀ a, g a = s.heap.get? a) : obsV T L fn (He.frG g (as g)) = (hookV as T L fn).obs s := by
  have e : g = s.heap.get? := funext h
  rw [e] <;> rfl
def fscB (N ps : List Str) (sc : Scope) : Bool := (match sc.kind with
  | .function => true
  | _ => false) && (!sc.isCoroutine && (!sc.isGenerator && (decide N.Nodup && (decide (N.take ps.length = ps) && ((ps.all fun x => match sc.names.lookup x with
  | some .local => true
  | some .cell => true
  | _ => false) && sc.names.all fun y => match y.2 with
  | .free => false
  | _ => true)))))
theorem fscB_ok {N ps : List Str} {sc : Scope} (h : fscB N ps sc = true) : FnScope N ps sc := by
  obtain ⟨h1, h⟩ := Bool.and_eq_true_iff.mp h
  obtain ⟨h2, h⟩ := Bool.and_eq_true_iff.mp h
  obtain ⟨h3, h⟩ := Bool.and_eq_true_iff.mp h
  obtain ⟨h4, h⟩ := Bool.and_eq_true_iff.mp h
  obtain ⟨h5, h⟩ := Bool.and_eq_true_iff.mp h
  obtain ⟨h6, h7⟩ := Bool.and_eq_true_iff.mp h
  refine ⟨?_, by simpa using h2, by simpa using h3, of_decide_eq_true h4, of_decide_eq_true h5, fun x hx => ?_, fun y hy e => ?_⟩
  · split at h1
    · assumption
    · cases h1
  · have := List.all_eq_true.mp h6 x hx
    split at this
    · exact .inl (by assumption)
    · exact .inr (by assumption)
    · cases this
  · have := List.all_eq_true.mp h7 y hy
    rw [e] at this
    cases this
/-- a def as the text has it, as the evaluator has it -/
structure DefV where
  d : He.FnD
  F : Fn
  N : List Str
  ps : List Str
  mf : Nat
def DefV.chk (T : Tab) (v : DefV) : Bool := fscB v.N v.ps v.d.scope && decide (v.F.ps = v.ps.length) && (decide (v.F.nn = v.N.length) && chkSs T v.N v.d.scope.names v.mf v.F.body v.d.body)
theorem fnC_of {P : Program} {w : World} {K : PySem.W.Frag} {T : Tab} {L : Lay} {fn : List He.FnD} (o : obsV T L fn K = valV T fn w) {f : Nat} {v : DefV} (hd : v.d ∈ fn) (hl : L.fl.getD f (Str.empty, none) = v.d.at_) (hc : v.chk T = true)
    (hb : ∀ (kV doc pm : Value) (an : Option Addr) (cdv ct : Value) (us : List Value), us.length = v.ps.length → bindArgs (PySem.W.fnOf v.d.name v.d.qual v.d.params v.d.body v.d.scope .none kV doc pm an cdv ct) ⟨us, []⟩ = pure (v.ps.zip us)) :
    ∃ fd, FnC P w K (adsOf K L) T f v.F v.ps fd := by
  have c1 : (topB T L K && fn.all fun d => (He.Fa.code d.at_ d.qual).ok K) = true := congrArg (fun z : AlV => z.1) o
  have c2 := List.all_eq_true.mp (ba2 c1).2 v.d hd
  have e : fn.map (fun d => He.fnObs K d.at_) = fn.map He.FnD.val := congrArg (fun z : AlV => z.2.1) o
  obtain ⟨i, hi⟩ := List.mem_iff_getElem?.mp hd
  have e2 : (fn.map fun d => He.fnObs K d.at_)[i]? = (fn.map He.FnD.val)[i]? := by rw [e]
  rw [List.getElem?_map, List.getElem?_map, hi] at e2
  obtain ⟨oc, od, osl, kV, doc, pm, an, cdv, ct, lk, hcd⟩ := He.fn_ok (Option.some.inj e2) c2
  unfold DefV.chk at hc
  simp only [Bool.and_eq_true, decide_eq_true_eq] at hc
  obtain ⟨⟨hS, hp⟩, hc⟩ := hc
  have S := fscB_ok hS
  refine ⟨_, v.d.name, v.d.qual, v.d.params, v.d.body, v.d.scope, v.N, oc, od, .none, kV, doc, pm, cdv, ct, an, osl, v.mf, rfl, ?_, hcd, S, hb kV doc pm an cdv ct, hp, hc.1, hc.2⟩
  show K.lookup (He.fAd K (L.fl.getD f (Str.empty, none))) = _
  rw [hl]
  exact lk
/-- how a def's arguments bind -/
def BindV (v : DefV) : Prop := ∀ (kV doc pm : Value) (an : Option Addr) (cdv ct : Value) (us : List Value), us.length = v.ps.length → bindArgs (PySem.W.fnOf v.d.name v.d.qual v.d.params v.d.body v.d.scope .none kV doc pm an cdv ct) ⟨us, []⟩ = pure (v.ps.zip us)
inductive Binds' : List DefV → Prop where
  | nil : Binds' []
  | cons {v : DefV} {vs : List DefV} : BindV v → Binds' vs → Binds' (v :: vs)
theorem Binds'.all {vs : List DefV} (h : Binds' vs) : ∀ v, v ∈ vs → BindV v := by
  induction h with
  | nil => exact fun v hv => nomatch hv
  | cons a _ ih =>
    intro v hv
    rcases List.mem_cons.mp hv with e | e
    · rw [e]; exact a
    · exact ih v e
theorem allC {vs : List DefV} {P : Program} {w : World} {K : PySem.W.Frag} {T : Tab} {cn dn : List Str} (hb : Binds' vs) (hc : (vs.all fun v => v.chk T) = true) (o : obsV T ⟨cn, vs.map (·.d.at_), dn⟩ (vs.map (·.d)) K = valV T (vs.map (·.d)) w) :
    ∀ (f : Nat) (v : DefV), vs[f]? = some v → ∃ fd, FnC P w K (adsOf K ⟨cn, vs.map (·.d.at_), dn⟩) T f v.F v.ps fd := by
  intro f v e
  have hm := List.mem_of_getElem? e
  exact fnC_of o (List.mem_map_of_mem hm) (by
    show (vs.map (·.d.at_)).getD f _ = v.d.at_
    rw [List.getD_eq_getElem?_getD, List.getElem?_map, e]; rfl) (List.all_eq_true.mp hc v hm) (hb.all v hm)
end EV
end
section
set_option linter.all false
set_option maxRecDepth 100000
/-! EV, part 23: a law's end: the evaluator's answer is the program's. -/
namespace EV
open PySem PySem.Spec PyProof.Rows L2
/-- a def at which nothing may be let out -/
theorem FnOk.quiet {P : Program} {w : World} {K : PySem.W.Frag} {mg : Str → Option Value} {base : Heap} {k : Nat} {f : Addr} {fd : FuncData} {ps : List Str} {sp : Sp} (F : FnOk P w K mg base (L2.CX P w) k f fd ps sp) :
    FnOk P w K mg base CX0 k f fd ps (fun vs H Q _ => sp vs H Q fun _ _ _ => False) := by
  refine ⟨fun vs H Q E h => F.len _ _ _ _ h, fun A outer s H args us vs Q E hr he hb hv hs => ?_⟩
  refine codeAny_mono (F.run A outer s H args us vs Q _ hr he hb hv hs) fun r s' hq => ?_
  cases r with
  | error e =>
    obtain ⟨_, _, _, _, _, _, _, _, _, _, _, _, z⟩ := hq
    exact z.elim
  | ok fl =>
    cases fl with
    | ret u => exact hq
    | next => exact hq
    | brk => exact hq
    | cont => exact hq
theorem gv_nil (H : Hp) : Gv H [] [] = H := by
  funext b
  unfold Gv
  rw [if_neg (by simp)]
theorem sr_nil (K : PySem.W.Frag) (A : Ads) (H : Hp) : SR K A [] H [] [] := ⟨rfl, List.nodup_nil, fun b hb => (nomatch hb), fun b hb => (nomatch hb), fun c a o h => by cases c <;> cases h⟩
theorem ints_rv (K : PySem.W.Frag) (A : Ads) (G : Hp) : ∀ ns : List Int, RVs K A G (ns.map P.int) (ns.map V.int)
  | [] => .nil
  | i :: ns => .cons (.int i) (ints_rv K A G ns)
theorem law_end {l : PySem.W.OpenLaw} {n k : Nat} {q : Program} {loose : List Str} {XP : (Str → Option Value) → Heap → Prop} {d : DefRec} {as : (Addr → Option Obj) → List Addr} {T : Tab} {L : Lay} {fn : List He.FnD} {fns : List Fn} {f : Nat} {F : Fn} {x : Str}
    (hn : l.most = some n) (hn2 : n ≤ sizeLine) (hdf : d.params.defaults = []) (hr : Room (k + 1) callerA) (hname : d.name = Str.ofString "law") (hgl : glFn T "law" = some f) (hF : fns[f]? = some F)
    (hC : ∀ (w : World) (K : PySem.W.Frag), obsV T L fn K = valV T fn w → ∀ f F, fns[f]? = some F → ∃ ps fd, FnC l.prog w K (adsOf K L) T f F ps fd)
    (hL : ∀ (w : World) (K : PySem.W.Frag), obsV T L fn K = valV T fn w → ∃ fd, FnC l.prog w K (adsOf K L) T f F [x] fd)
    (hev : ∀ ns : List Int, ns.length ≤ n → ∃ st, callF T fns (k + 1) f [.p (.lst (ns.map P.int))] 0 [] = .ok (.p (.bl true)) st) :
    PySem.W.WalkO q loose XP (hookV as T L fn).says l.row.toRowW d [] (fun f vs => PySem.call f vs) := by
  refine walk_ofE (x := x) (CX := CX0) hn hn2 hdf hr (fun w mg fa h Y G hmg => ?_) fun H s e s' z => z
  obtain ⟨K, KX, o⟩ := Y
  have tb : topB T L K = true := (ba2 (show (topB T L K && fn.all fun d => (He.Fa.code d.at_ d.qual).ok K) = true from congrArg (fun z : AlV => z.1) o)).1
  have dd : dicsO T L K = dicsV T w.params := congrArg (fun z : AlV => z.2.2) o
  obtain ⟨fac, fac2⟩ := facts_of (P := l.prog) KX G tb dd
  have ef : fa = (adsOf K L).FA f := by
    have := (fac.fn "law" f hgl).1
    rw [← hname, hmg] at this
    injection this with this
    injection this
  subst ef
  obtain ⟨fd0, cl⟩ := hL w K o
  have main := fun base : Heap => (calls_key (base := base) (hC w K o) fac fac2 k).2 f F [x] fd0 hF cl
  have b0 := (main h).2.1
  refine ⟨K, fd0, fun vs H Q _ => spF K (adsOf K L) (callF T fns (k + 1)) f vs H Q fun _ _ _ => False, KX, fun s u => .of_eq (b0 [u] rfl), fun H a ns hl hO hS => ?_, fun base _ _ => FnOk.quiet (main base).1⟩
  obtain ⟨st, e⟩ := hev ns hl
  refine ⟨[.p (.lst (ns.map P.int))], [], [], [], 0, sr_nil _ _ _, .cons (.p (.lst (by rw [gv_nil]; exact hS) (ints_rv _ _ _ ns))) .nil, Nat.le_refl _, ?_⟩
  rw [e]
  intro b H' am' p q
  cases q with
  | p q => cases q; rfl
end EV
end
section
set_option linter.all false
/-! EV, part 24: loops by an invariant; cells read back. -/
namespace EV
open PySem L2
theorem forL_inv {α : Type} {ex : ExSs} {t : Tg} {b : List S} {env0 : Env} {emb : α → R} (I : Nat → Env → Store → Prop) {l : List α} {env : Env} {st : Store} (h0 : I 0 env st)
    (h : ∀ (i : Nat) (a : α) (env : Env) (st : Store), l[i]? = some a → I i env st → ∃ e st', forT ex t b (emb a) env st = .ok (.nx e) st' ∧ I (i + 1) (mask env0 e) st') :
    ∃ env' st', forL ex t b env0 (l.map emb) env st = .ok (.nx env') st' ∧ I l.length env' st' := by
  induction l generalizing env st I with
  | nil => exact ⟨env, st, rfl, h0⟩
  | cons a r ih =>
    obtain ⟨e, st1, h1, h2⟩ := h 0 a env st rfl h0
    obtain ⟨env', st', h3, h4⟩ := ih (fun i => I (i + 1)) h2 fun i x env st hx hi => h (i + 1) x env st (by simpa using hx) hi
    refine ⟨env', st', ?_, h4⟩
    show ((forT ex t b (emb a) env st).bind fun f st => _) = _
    rw [h1]
    exact h3
/-- .. every turn goes on -/
theorem forL_all {α : Type} {ex : ExSs} {t : Tg} {b : List S} {env0 : Env} {emb : α → R} (I : Env → Store → Prop) {l : List α} {env : Env} {st : Store} (h0 : I env st)
    (h : ∀ (a : α) (env : Env) (st : Store), a ∈ l → I env st → ∃ e st', forT ex t b (emb a) env st = .ok (.nx e) st' ∧ I (mask env0 e) st') :
    ∃ env' st', forL ex t b env0 (l.map emb) env st = .ok (.nx env') st' ∧ I env' st' :=
  forL_inv (fun _ => I) h0 fun i a env st hx => h a env st (List.mem_of_getElem? hx)
theorem lcL_inv {α : Type} {ev : EvE} {et : EvT} {elt : E} {tg : Tg} {env : Env} {emb : α → R} (Q : α → R → Prop) {l : List α} {st : Store}
    (h : ∀ a, a ∈ l → ∃ v, lcT ev et elt tg none env (emb a) st = .ok (some v) st ∧ Q a v) : ∃ vs : List R, lcL ev et elt tg none env (l.map emb) st = .ok vs st ∧ vs.length = l.length ∧ ∀ (i : Nat) (a : α) (v : R), l[i]? = some a → vs[i]? = some v → Q a v := by
  induction l with
  | nil => exact ⟨[], rfl, rfl, fun i a v e => by simp at e⟩
  | cons a r ih =>
    obtain ⟨v, h1, h2⟩ := h a List.mem_cons_self
    obtain ⟨vs, h3, h4, h5⟩ := ih fun a ha => h a (List.mem_cons_of_mem _ ha)
    refine ⟨v :: vs, ?_, by simp [h4], fun i x u e1 e2 => ?_⟩
    · show ((lcT ev et elt tg none env (emb a) st).bind fun v st => _) = _
      rw [h1]
      show ((lcL ev et elt tg none env (r.map emb) st).bind fun vs st => _) = _
      rw [h3]
      rfl
    · cases i with
      | zero => simp at e1 e2; subst e1 e2; exact h2
      | succ i => exact h5 i x u (by simpa using e1) (by simpa using e2)
theorem mapM_p (n0 : Nat) (st : Store) (k : Nat) : ∀ l : List P, (l.map R.p).mapM (frz n0 st k) = some l
  | [] => rfl
  | a :: l => by
    rw [List.map_cons, mapM_cons, frz_p, mapM_p n0 st k l]
    rfl
theorem frz_lst {n0 c k : Nat} {st : Store} {l : List P} (h : st[c]? = some (.lst (l.map .p))) (hc : n0 ≤ c) : frz n0 st (k + 1) (.cell c) = some (.lst l) := by
  show (if c < n0 then none else match st[c]? with
    | some (.lst l) => (l.mapM (frz n0 st k)).map P.lst
    | some (.ins c l) => (l.mapM fun q => (frz n0 st k q.2).map fun y => (q.1, y)).map (P.obj c)
    | some (.dK l) => (l.mapM fun q => (frz n0 st k q.2).map fun y => (q.1, y)).map P.dK
    | some (.dT l) => (l.mapM fun q => (frz n0 st k q.2).map fun y => (q.1, y)).map P.dT
    | none => none) = _
  rw [if_neg (by omega), h]
  show (((l.map R.p).mapM (frz n0 st k)).map P.lst) = _
  rw [mapM_p]
  rfl
theorem fin_lst {n0 c : Nat} {st : Store} {l : List P} (h : st[c]? = some (.lst (l.map .p))) (hc : n0 ≤ c) : fin false n0 (.cell c) st = .ok (.p (.lst l)) (st.take n0) := by
  unfold fin
  rw [if_neg (by decide), frz_lst h hc]
theorem mapM_flds (n0 : Nat) (st : Store) (k : Nat) : ∀ l : List (String × P), (l.map fun q => (q.1, R.p q.2)).mapM (fun q => (frz n0 st k q.2).map fun y => (q.1, y)) = some l
  | [] => rfl
  | a :: l => by
    rw [List.map_cons, mapM_cons, mapM_flds n0 st k l, frz_p]
    rfl
theorem frz_ins {n0 c k cl : Nat} {st : Store} {l : List (String × P)} (h : st[c]? = some (.ins cl (l.map fun q => (q.1, .p q.2)))) (hc : n0 ≤ c) : frz n0 st (k + 1) (.cell c) = some (.obj cl l) := by
  show (if c < n0 then none else match st[c]? with
    | some (.lst l) => (l.mapM (frz n0 st k)).map P.lst
    | some (.ins c l) => (l.mapM fun q => (frz n0 st k q.2).map fun y => (q.1, y)).map (P.obj c)
    | some (.dK l) => (l.mapM fun q => (frz n0 st k q.2).map fun y => (q.1, y)).map P.dK
    | some (.dT l) => (l.mapM fun q => (frz n0 st k q.2).map fun y => (q.1, y)).map P.dT
    | none => none) = _
  rw [if_neg (by omega), h]
  show (((l.map fun q => (q.1, R.p q.2)).mapM fun q => (frz n0 st k q.2).map fun y => (q.1, y)).map (P.obj cl)) = _
  rw [mapM_flds]
  rfl
theorem mt_append {fl c : Nat} {st : Store} {l : List R} {y : R} (h : st[c]? = some (.lst l)) (hl : l.length < LINE) (hp : fl ≤ c ∨ isP y = true) : mtR fl .append (.cell c) [y] st = .ok (.p .non) (st.set c (.lst (l ++ [y]))) := by
  unfold mtR putC
  simp only [h, if_pos hl]
  have q : (decide (c < fl) && !([y].all isP)) = false := by
    rcases hp with hp | hp
    · have : ¬ c < fl := by omega
      simp [this]
    · simp [hp]
  rw [q]
  rfl
theorem rngL_eq (lo hi : Int) : rngL lo hi = (List.range (hi - lo).toNat).map fun (i : Nat) => R.p (.int (lo + (i : Int))) := rfl
theorem atI_nat {α : Type} (l : List α) (i : Nat) : atI l (i : Int) = l[i]? := by
  unfold atI ixN
  by_cases h : i < l.length
  · have h1 : (0 : Int) ≤ (i : Int) := Int.natCast_nonneg i
    simp [h]
  · have h2 : l[i]? = none := List.getElem?_eq_none (by omega)
    rw [h2]
    simp [h]
theorem nin_ch (c : Nat) (b : List Nat) (st : Store) : cmpR .nin (.p (.str [c])) (.p (.str b)) st = some (!decide (c ∈ b)) := rfl
theorem inn_ch (c : Nat) (b : List Nat) (st : Store) : cmpR .inn (.p (.str [c])) (.p (.str b)) st = some (decide (c ∈ b)) := rfl
theorem len_str (x : List Nat) (st : Store) : biR .len [.p (.str x)] st = some (.p (.int x.length)) := rfl
theorem len_lst (x : List P) (st : Store) : biR .len [.p (.lst x)] st = some (.p (.int x.length)) := by
  show some (R.p (.int ((x.map R.p).length : Nat))) = _
  rw [List.length_map]
theorem int_int (i : Int) (st : Store) : biR .int [.p (.int i)] st = some (.p (.int i)) := rfl
theorem idx_str0 {g : List (List (Ky × P))} {st : Store} (c : Nat) (l : List Nat) : idxR g (.p (.str (c :: l))) (.p (.int 0)) st = some (.p (.str [c])) := by
  show (match atI (c :: l) 0 with
    | some c => some (R.p (.str [c]))
    | none => none) = _
  simp [atI, ixN]
theorem atI_some {α : Type} {l : List α} {i : Int} (h0 : 0 ≤ i) (h1 : i < l.length) : atI l i = some (l[i.toNat]'(by omega)) := by
  unfold atI ixN
  simp [h0, h1]
theorem idx_lst {g : List (List (Ky × P))} {st : Store} {l : List P} {i : Int} {x : P} (h : atI l i = some x) : idxR g (.p (.lst l)) (.p (.int i)) st = some (.p x) := by
  have : atI (l.map R.p) i = some (.p x) := by
    unfold atI at h ⊢
    rw [List.length_map]
    cases e : ixN l.length i with
    | none => rw [e] at h; cases h
    | some j =>
      rw [e] at h
      have h : l[j]? = some x := h
      show (l.map R.p)[j]? = _
      rw [List.getElem?_map, h]
      rfl
  exact this
theorem idx_str {g : List (List (Ky × P))} {st : Store} {l : List Nat} {i : Int} {x : Nat} (h : atI l i = some x) : idxR g (.p (.str l)) (.p (.int i)) st = some (.p (.str [x])) := by
  show (match atI l i with
    | some c => some (R.p (.str [c]))
    | none => none) = _
  rw [h]
theorem atI_m {α β : Type} {f : α → β} {l : List α} {i : Int} {x : α} (h : atI l i = some x) : atI (l.map f) i = some (f x) := by
  unfold atI at h ⊢
  rw [List.length_map]
  cases e : ixN l.length i with
  | none => rw [e] at h; cases h
  | some j =>
    rw [e] at h
    have h : l[j]? = some x := h
    show (l.map f)[j]? = _
    rw [List.getElem?_map, h]
    rfl
theorem bls_map {α : Type} (f : α → Bool) : ∀ l : List α, blsR (l.map fun a => R.p (.bl (f a))) = some (l.map f)
  | [] => rfl
  | a :: l => by
    show (blsR (l.map fun a => R.p (.bl (f a)))).map (f a :: ·) = _
    rw [bls_map f l]
    rfl
theorem strs_map : ∀ l : List (List Nat), strsR (l.map fun a => R.p (.str a)) = some l
  | [] => rfl
  | a :: l => by
    show (strsR (l.map fun a => R.p (.str a))).map (a :: ·) = _
    rw [strs_map l]
    rfl
theorem ints_map : ∀ l : List Int, intsR (l.map fun a => R.p (.int a)) = some l
  | [] => rfl
  | a :: l => by
    show (intsR (l.map fun a => R.p (.int a))).map (a :: ·) = _
    rw [ints_map l]
    rfl
theorem all_bl {α : Type} {st : Store} (f : α → Bool) (l : List α) : biR .all [.p (.lst (l.map fun a => P.bl (f a)))] st = some (.p (.bl (l.all f))) := by
  show (match (some ((l.map fun a => P.bl (f a)).map R.p)).bind blsR with
    | some l => some (R.p (.bl (l.all id)))
    | none => none) = _
  rw [List.map_map, Option.bind_some]
  rw [show (R.p ∘ fun a => P.bl (f a)) = fun a => R.p (.bl (f a)) from rfl, bls_map]
  simp
theorem toPs_fun {α : Type} (f : α → P) (l : List α) : toPs (l.map fun a => R.p (f a)) = some (l.map f) := by
  have := toPs_map (l.map f)
  rw [List.map_map] at this
  exact this
/-- a comprehension over a walk: each element data, the store as it was -/
theorem lcW_map {α : Type} {ev : EvE} {et : EvT} {elt : E} {tg : Tg} {env : Env} {st : Store} {emb : α → R} (f : α → P) {l : List α} (hl : l.length ≤ LINE)
    (h : ∀ a, a ∈ l → lcT ev et elt tg none env (emb a) st = .ok (some (.p (f a))) st) : lcW ev et false elt tg none env (.vals (l.map emb)) st = .ok (.p (.lst (l.map f))) st := by
  rw [lcW_vals, lcL_map ev et elt tg env emb (fun a => R.p (f a)) l st h]
  show lcR false (l.map emb).length (l.map fun a => R.p (f a)) st = _
  unfold lcR
  rw [List.length_map, if_pos hl, if_neg (by decide), toPs_fun]
  rfl
theorem lcW_ex {α : Type} {ev : EvE} {et : EvT} {elt : E} {tg : Tg} {env : Env} {st : Store} {emb : α → R} (Q : α → P → Prop) {l : List α} (hl : l.length ≤ LINE)
    (h : ∀ a, a ∈ l → ∃ v, lcT ev et elt tg none env (emb a) st = .ok (some (.p v)) st ∧ Q a v) : ∃ vs : List P, lcW ev et false elt tg none env (.vals (l.map emb)) st = .ok (.p (.lst vs)) st ∧ vs.length = l.length ∧ ∀ v ∈ vs, ∃ a ∈ l, Q a v := by
  have : ∃ vs : List P, lcL ev et elt tg none env (l.map emb) st = .ok (vs.map .p) st ∧ vs.length = l.length ∧ ∀ v ∈ vs, ∃ a ∈ l, Q a v := by
    clear hl
    induction l with
    | nil => exact ⟨[], rfl, rfl, fun v hv => nomatch hv⟩
    | cons a r ih =>
      obtain ⟨v, h1, h2⟩ := h a List.mem_cons_self
      obtain ⟨vs, h3, h4, h5⟩ := ih fun a ha => h a (List.mem_cons_of_mem _ ha)
      refine ⟨v :: vs, ?_, by simp [h4], fun u hu => ?_⟩
      · show ((lcT ev et elt tg none env (emb a) st).bind fun v st => _) = _
        rw [h1]
        show ((lcL ev et elt tg none env (r.map emb) st).bind fun vs st => _) = _
        rw [h3]
        rfl
      · rcases List.mem_cons.mp hu with e | e
        · rw [e]; exact ⟨a, List.mem_cons_self, h2⟩
        · obtain ⟨b, hb, q⟩ := h5 u e
          exact ⟨b, List.mem_cons_of_mem _ hb, q⟩
  obtain ⟨vs, h1, h2, h3⟩ := this
  refine ⟨vs, ?_, h2, h3⟩
  rw [lcW_vals, h1]
  show lcR false (l.map emb).length (vs.map .p) st = _
  rw [List.length_map]
  exact lcR_ps st vs hl
/-! equality -/
theorem shaped_int (i : Int) : SeqAt.shaped (.int i) = true := by simp [SeqAt.shaped, PyData.canLay0, PyData.depth]
theorem shaped_bool (i : Bool) : SeqAt.shaped (.bool i) = true := by simp [SeqAt.shaped, PyData.canLay0, PyData.depth]
theorem eqP_int (a b : Int) : eqP (.int a) (.int b) = some (decide (a = b)) := by
  unfold eqP
  simp [P.py, shaped_int]
  simp [PyData.eqv]
  rw [Bool.eq_iff_iff]
  simp
theorem eqP_bl (a b : Bool) : eqP (.bl a) (.bl b) = some (decide (a = b)) := by
  unfold eqP
  simp [P.py, shaped_bool]
  simp [PyData.eqv]
  cases a <;> cases b <;> rfl
theorem eq_int (a b : Int) (st : Store) : cmpR .eq (.p (.int a)) (.p (.int b)) st = some (decide (a = b)) := eqP_int a b
theorem ne_int (a b : Int) (st : Store) : cmpR .ne (.p (.int a)) (.p (.int b)) st = some (!decide (a = b)) := by
  show (match eqP (.int a) (.int b) with
    | some b => some (!b)
    | none => none) = _
  rw [eqP_int]
theorem ne_bl (a b : Bool) (st : Store) : cmpR .ne (.p (.bl a)) (.p (.bl b)) st = some (!decide (a = b)) := by
  show (match eqP (.bl a) (.bl b) with
    | some b => some (!b)
    | none => none) = _
  rw [eqP_bl]
theorem pys_strs : ∀ ws : List (List Nat), pys (ws.map P.str) = some (ws.map fun x => PyData.str ⟨x.toArray⟩)
  | [] => by simp [pys]
  | w :: ws => by
    simp [pys, P.py, pys_strs ws]
theorem depth_strs : ∀ ws : List (List Nat), PyData.depthAll (ws.map fun x => PyData.str ⟨x.toArray⟩) ≤ 1
  | [] => by simp [PyData.depthAll]
  | w :: ws => by
    have := depth_strs ws
    simp [PyData.depthAll, PyData.depth]
    omega
def okS (w : List Nat) : Prop := PyData.strOk (⟨w.toArray⟩ : Str) = true
theorem can_strs : ∀ ws : List (List Nat), (∀ w ∈ ws, okS w) → PyData.canLayAll0 (ws.map fun x => PyData.str ⟨x.toArray⟩) = true
  | [], _ => by simp [PyData.canLayAll0]
  | w :: ws, h => by
    have h1 : PyData.strOk (⟨w.toArray⟩ : Str) = true := h w List.mem_cons_self
    simp [PyData.canLayAll0, PyData.canLay0, can_strs ws fun x hx => h x (List.mem_cons_of_mem _ hx), h1]
theorem eqv_strs : ∀ ws : List (List Nat), PyData.eqvAll (ws.map fun x => PyData.str ⟨x.toArray⟩) (ws.map fun x => PyData.str ⟨x.toArray⟩) = true
  | [] => by simp [PyData.eqvAll]
  | w :: ws => by simp [PyData.eqvAll, PyData.eqv, eqv_strs ws]
theorem eqP_strs (ws : List (List Nat)) (hw : ∀ w ∈ ws, okS w) : eqP (.lst (ws.map .str)) (.lst (ws.map .str)) = some true := by
  have h : SeqAt.shaped (.list (ws.map fun x => PyData.str ⟨x.toArray⟩)) = true := by
    have := depth_strs ws
    simp [SeqAt.shaped, PyData.canLay0, PyData.depth, can_strs ws hw]
    omega
  unfold eqP
  simp only [P.py, pys_strs, Option.map_some, h, Bool.and_self, if_true]
  simp [PyData.eqv, eqv_strs]
theorem lcC_map {α : Type} {ev : EvE} {et : EvT} {elt : E} {tg : Tg} {env : Env} {st : Store} {emb : α → R} {cc : Nat} (f : α → P) {l : List α} (hc : st[cc]? = some (.lst (l.map emb)))
    (h : ∀ a, a ∈ l → lcT ev et elt tg none env (emb a) st = .ok (some (.p (f a))) st) : ∀ (m i : Nat), l.length ≤ m + i → lcC ev et elt tg none env cc m i st = .ok ((l.drop i).map fun a => R.p (f a)) st := by
  intro m
  induction m with
  | zero =>
    intro i hi
    unfold lcC
    simp only [hc]
    have e : (l.map emb)[i]? = none := List.getElem?_eq_none (by rw [List.length_map]; omega)
    simp only [e]
    rw [List.drop_eq_nil_of_le (by omega)]
    rfl
  | succ m ih =>
    intro i hi
    unfold lcC
    simp only [hc]
    by_cases hl : i < l.length
    · have e : (l.map emb)[i]? = some (emb l[i]) := by rw [List.getElem?_map, List.getElem?_eq_getElem hl]; rfl
      simp only [e]
      rw [h _ (List.getElem_mem hl)]
      simp only [Res.bind_ok]
      rw [ih (i + 1) (by omega), List.drop_eq_getElem_cons hl]
      rfl
    · have e : (l.map emb)[i]? = none := List.getElem?_eq_none (by rw [List.length_map]; omega)
      simp only [e]
      rw [List.drop_eq_nil_of_le (by omega)]
      rfl
theorem lcW_cel {α : Type} {ev : EvE} {et : EvT} {elt : E} {tg : Tg} {env : Env} {st : Store} {emb : α → R} {cc : Nat} (f : α → P) {l : List α} (hc : st[cc]? = some (.lst (l.map emb))) (hl : l.length ≤ 1048576)
    (h : ∀ a, a ∈ l → lcT ev et elt tg none env (emb a) st = .ok (some (.p (f a))) st) : lcW ev et false elt tg none env (.cel cc) st = .ok (.p (.lst (l.map f))) st := by
  show ((lcC ev et elt tg none env cc 1048576 0 st).bind fun vs st => lcR false 1048576 vs st) = _
  rw [lcC_map f hc h 1048576 0 (by omega)]
  simp only [List.drop_zero, Res.bind_ok]
  unfold lcR
  rw [if_pos (by unfold LINE; omega), if_neg (by decide), toPs_fun]
  rfl
theorem len_cel {st : Store} {c : Nat} {l : List R} (h : st[c]? = some (.lst l)) : biR .len [.cell c] st = some (.p (.int l.length)) := by
  show (match seqR (.cell c) st with
    | some l => some (R.p (.int l.length))
    | none => none) = _
  unfold seqR
  simp only [h]
theorem lenset_cel {st : Store} {c : Nat} {l : List (List Nat)} (h : st[c]? = some (.lst (l.map fun a => R.p (.str a)))) (hl : l.length < 4000) : biR .lenset [.cell c] st = some (.p (.int (distinct l).length)) := by
  show (match (lstR (.cell c) st).bind strsR with
    | some l => if l.length < 4000 then some (R.p (.int (distinct l).length)) else none
    | none => none) = _
  unfold lstR
  simp only [h]
  rw [Option.bind_some, strs_map]
  simp [hl]
theorem thaw_cel {st : Store} {c : Nat} {l : List R} (h : st[c]? = some (.lst l)) : thawR (.cell c) st = .ok (.cell st.length) (st ++ [.lst l]) := by
  unfold thawR seqR
  simp only [h]
theorem list_cel {st : Store} {c : Nat} {l : List P} (h : st[c]? = some (.lst (l.map .p))) : biR .list [.cell c] st = some (.p (.lst l)) := by
  show (match (seqR (.cell c) st).bind toPs with
    | some l => some (R.p (.lst l))
    | none => none) = _
  unfold seqR
  simp only [h]
  rw [Option.bind_some, toPs_map]
theorem lcW_m {α : Type} {ev : EvE} {et : EvT} {elt : E} {tg : Tg} {env : Env} {st : Store} {emb : α → R} (f : α → R) {l : List α} (hl : l.length ≤ LINE)
    (h : ∀ a, a ∈ l → lcT ev et elt tg none env (emb a) st = .ok (some (f a)) st) : lcW ev et true elt tg none env (.vals (l.map emb)) st = .ok (.cell st.length) (st ++ [.lst (l.map f)]) := by
  rw [lcW_vals, lcL_map ev et elt tg env emb f l st h]
  show lcR true (l.map emb).length (l.map f) st = _
  unfold lcR
  rw [List.length_map, if_pos hl, if_pos rfl]
theorem choose_list {α β : Type} {g : β → α} {Q : β → Prop} : ∀ {vs : List α}, (∀ v ∈ vs, ∃ w, v = g w ∧ Q w) → ∃ ws : List β, vs = ws.map g ∧ ∀ w ∈ ws, Q w
  | [], _ => ⟨[], rfl, fun w hw => nomatch hw⟩
  | v :: vs, h => by
    obtain ⟨w, e, q⟩ := h v List.mem_cons_self
    obtain ⟨ws, e', q'⟩ := choose_list (vs := vs) fun u hu => h u (List.mem_cons_of_mem _ hu)
    refine ⟨w :: ws, by rw [e, e']; rfl, fun x hx => ?_⟩
    rcases List.mem_cons.mp hx with z | z
    · rw [z]; exact q
    · exact q' x z
end EV
end
section
set_option Elab.async false
set_option linter.all false
set_option maxRecDepth 100000
set_option maxHeartbeats 0
namespace EV
namespace k01
open PySem PySem.Spec PyProof.Rows L2
def top (i : Nat) : Stmt := PySem.Challenge.pw_standingpowers_k01_numbers_names_and_spa.main.body.getD i (.Pass ⟨0, 0, 0, 0⟩)
def s0 : List Nat := [118, 101, 114, 121, 108, 111, 110, 103, 110, 97, 109, 101]
def s1 : List Nat := [97, 98, 99, 100, 101, 102, 103, 104, 105, 106, 107, 108, 109, 110, 111, 112, 113, 114, 115, 116, 117, 118, 119, 120, 121, 122]
def s2 : List Nat := [97, 98, 99, 100, 101, 102, 103, 104, 105, 106, 107, 108, 109, 110, 111, 112, 113, 114, 115, 116, 117, 118, 119, 120, 121, 122, 48, 49, 50, 51, 52, 53, 54, 55, 56, 57]
def s3 : List Nat := [65, 90, 95, 32, 45, 46, 123, 47, 58, 64, 91, 94]
def s4 : List Nat := [48, 49, 50, 51, 52, 53, 54, 55, 56, 57]
def b0_f_raised_number : List S := [.asg 3 (.bin .mod (.bin .mul (.var 3) (.var 1)) (.var 0))]
def f_raised_number : List S := [.asg 3 (.con (.int 1)),
  .for (.v 4) (.rng1 (.var 2)) b0_f_raised_number,
  .ret (some (.var 3))]
def f_inverse : List S := [.ret (some (.call 0 [(.var 0), (.var 1), (.bin .sub (.var 0) (.con (.int 2)))]))]
def f_is_name : List S := [.ife (.or (.nt (.chn .le .le (.con (.int 1)) (.bi .len [(.var 0)]) (.glo "LONGEST_NAME"))) (.cmp .nin (.idx (.var 0) (.con (.int 0))) (.glo "LETTERS"))) [.ret (some (.con (.bl false)))] [],
  .ret (some (.bi .all [(.lc false (.or (.cmp .inn (.var 1) (.glo "LETTERS")) (.cmp .inn (.var 1) (.glo "DIGITS"))) (.v 1) (.seq (.var 0)) none [1])]))]
def c_Space___init__ : List S := [.ife (.or (.cmp .nin (.var 1) (.glo "PRIMES")) (.nt (.chn .le .le (.con (.int 1)) (.bi .len [(.var 2)]) (.glo "MOST_NAMES")))) [.rai 1 []] [],
  .ife (.or (.nt (.bi .all [(.lc false (.call 2 [(.var 3)]) (.v 3) (.seq (.var 2)) none [3])])) (.cmp .lt (.bi .lenset [(.var 2)]) (.bi .len [(.var 2)]))) [.rai 1 []] [],
  .ife (.cmp .gt (.bi .len [(.var 2)]) (.idx (.glo "MOST_OF_PRIME") (.var 1))) [.rai 1 []] [],
  .fset (.var 0) "prime" (.var 1),
  .fset (.var 0) "names" (.bi .list [(.var 2)]),
  .fset (.var 0) "count" (.bi .len [(.var 2)])]
def f__law_cell : List S := [.ife (.cmp .lt (.var 1) (.bi .len [(.var 0)])) [.ret (some (.idx (.var 0) (.var 1)))] [],
  .ret (some (.con (.int 0)))]
def b0_f__law_digits : List S := [.ife (.cmp .ge (.var 0) (.bin .pow (.con (.int 10)) (.con (.int 18)))) [.ex (.mt .append (.var 3) [(.bin .mod (.bi .int [(.var 4)]) (.var 1))]), .asg 4 (.bin .fdiv (.var 4) (.var 1))] [.asg 6 (.bin .mod (.bi .int [(.bin .add (.bin .add (.bin .mul (.var 0) (.con (.int 48271))) (.bin .mul (.var 5) (.con (.int 69621)))) (.con (.int 1013)))]) (.con (.int 2147483647))), .asg 6 (.bin .mod (.bi .int [(.bin .add (.bin .add (.bin .mul (.var 6) (.var 6)) (.bin .mul (.con (.int 7)) (.var 6))) (.var 5))]) (.con (.int 2147483629))), .ex (.mt .append (.var 3) [(.bin .mod (.bi .int [(.bin .fdiv (.var 6) (.con (.int 31)))]) (.var 1))])]]
def f__law_digits : List S := [.asg 3 (.lst true []),
  .asg 4 (.var 0),
  .for (.v 5) (.rng1 (.var 2)) b0_f__law_digits,
  .ret (some (.var 3))]
def b0_f__law_word : List S := [.asg 5 (.ite (.and (.cmp .eq (.var 4) (.con (.int 0))) (.cmp .gt (.bin .mod (.bi .int [(.idx (.var 1) (.con (.int 1)))]) (.con (.int 5))) (.con (.int 0)))) (.con (.int 26)) (.con (.int 36))), .asg 3 (.bin .add (.var 3) (.idx (.con (.str s2)) (.bin .mod (.bi .int [(.idx (.var 1) (.bin .add (.con (.int 3)) (.var 4)))]) (.var 5))))]
def f__law_word : List S := [.asg 1 (.call 5 [(.var 0), (.bin .mul (.con (.int 36)) (.con (.int 35))), (.con (.int 18))]),
  .asg 2 (.idx (.lst false [(.con (.int 0)), (.con (.int 1)), (.con (.int 12)), (.con (.int 13)), (.con (.int 3)), (.con (.int 2))]) (.bin .mod (.bi .int [(.idx (.var 1) (.con (.int 0)))]) (.con (.int 6)))),
  .asg 3 (.con (.str [])),
  .for (.v 4) (.rng1 (.var 2)) b0_f__law_word,
  .ife (.cmp .eq (.bin .mod (.bi .int [(.idx (.var 1) (.con (.int 2)))]) (.con (.int 3))) (.con (.int 1))) [.asg 6 (.bin .mod (.bi .int [(.idx (.var 1) (.con (.int 16)))]) (.bin .add (.bi .len [(.var 3)]) (.con (.int 1)))), .asg 3 (.bin .add (.bin .add (.slc (.var 3) none (some (.var 6))) (.idx (.con (.str s3)) (.bin .mod (.bi .int [(.idx (.var 1) (.con (.int 17)))]) (.con (.int 12))))) (.slc (.var 3) (some (.bin .add (.var 6) (.bin .mod (.bi .int [(.bin .fdiv (.idx (.var 1) (.con (.int 2))) (.con (.int 3)))]) (.con (.int 2))))) none))] [],
  .ret (some (.var 3))]
def f__law_is_name : List S := [.ife (.or (.cmp .eq (.bi .len [(.var 0)]) (.con (.int 0))) (.or (.cmp .gt (.bi .len [(.var 0)]) (.con (.int 12))) (.cmp .nin (.idx (.var 0) (.con (.int 0))) (.con (.str s1))))) [.ret (some (.con (.bl false)))] [],
  .ret (some (.bi .all [(.lc false (.cmp .inn (.var 1) (.con (.str s2))) (.v 1) (.seq (.var 0)) none [1])]))]
def f__law_makes : List S := [.ife (.or (.cmp .nin (.var 0) (.lst false [(.con (.int 2)), (.con (.int 3)), (.con (.int 5)), (.con (.int 7))])) (.or (.cmp .eq (.bi .len [(.var 1)]) (.con (.int 0))) (.or (.cmp .gt (.bi .len [(.var 1)]) (.con (.int 8))) (.cmp .lt (.bi .lenset [(.var 1)]) (.bi .len [(.var 1)]))))) [.ret (some (.con (.bl false)))] [],
  .ret (some (.and (.bi .all [(.lc false (.call 7 [(.var 2)]) (.v 2) (.seq (.var 1)) none [2])]) (.cmp .le (.bi .len [(.var 1)]) (.idx (.lst false [(.con (.int 0)), (.con (.int 0)), (.con (.int 8)), (.con (.int 5)), (.con (.int 0)), (.con (.int 3)), (.con (.int 0)), (.con (.int 2))]) (.var 0)))))]
def f__law_told : List S := [.asg 2 (.lstm (.var 1)),
  .tryx [.asg 4 (.new 2 [(.var 0), (.var 2)])] 1 (some 3) (.ret (.or (.nt (.isi (some 0))) (.nt (.isi none)))),
  .ex (.mt .append (.var 2) [(.con (.str [108, 97, 116, 101]))]),
  .ret (some (.and (.cmp .eq (.fld (.var 4) "prime") (.var 0)) (.and (.cmp .eq (.fld (.var 4) "names") (.var 1)) (.cmp .eq (.fld (.var 4) "count") (.bi .len [(.var 1)])))))]
def b0_f_law : List S := [.asg 8 (.call 1 [(.var 1), (.var 2)]), .ife (.or (.nt (.isi (.var 8) .int)) (.or (.nt (.chn .lt .lt (.con (.int 0)) (.var 8) (.var 1))) (.cmp .ne (.bin .mod (.bi .int [(.bin .mul (.var 2) (.var 8))]) (.var 1)) (.con (.int 1))))) [.ret (some (.con (.bl false)))] []]
def b1_f_law : List S := [.asg 9 (.call 2 [(.var 4)]), .ife (.or (.nt (.isi (.var 9) .bool)) (.cmp .ne (.var 9) (.call 7 [(.var 4)]))) [.ret (some (.con (.bl false)))] []]
def b2_f_law : List S := [.ife (.cmp .ne (.call 9 [(.var 2), (.var 11)]) (.call 8 [(.var 2), (.var 11)])) [.ret (some (.con (.bl false)))] []]
def b3_f_law : List S := [.asg 10 (.bin .mod (.bi .int [(.idx (.var 5) (.var 7))]) (.con (.int 9))), .asg 11 (.lc true (.idx (.var 6) (.bin .mod (.bi .int [(.bin .add (.var 10) (.var 12))]) (.con (.int 9)))) (.v 12) (.rng1 (.bin .mod (.bi .int [(.idx (.var 5) (.bin .add (.con (.int 6)) (.var 7)))]) (.con (.int 10)))) none [12]), .ife (.and (.cmp .eq (.bin .mod (.bi .int [(.idx (.var 5) (.con (.int 12)))]) (.con (.int 3))) (.con (.int 1))) (.cmp .gt (.bi .len [(.var 11)]) (.con (.int 0)))) [.iset (.var 11) (.bin .mod (.bi .int [(.idx (.var 5) (.con (.int 13)))]) (.bi .len [(.var 11)])) (.idx (.var 3) (.var 7))] [], .for (.v 2) (.seq (.lst false [(.bin .sub (.con (.int 0)) (.con (.int 1))), (.con (.int 0)), (.con (.int 1)), (.con (.int 2)), (.con (.int 3)), (.con (.int 4)), (.con (.int 5)), (.con (.int 6)), (.con (.int 7)), (.con (.int 9)), (.con (.int 11))])) b2_f_law]
def f_law : List S := [.asg 1 (.idx (.lst false [(.con (.int 2)), (.con (.int 3)), (.con (.int 5)), (.con (.int 7))]) (.bin .mod (.bi .int [(.call 4 [(.var 0), (.con (.int 0))])]) (.con (.int 4)))),
  .for (.v 2) (.rng2 (.con (.int 1)) (.var 1)) b0_f_law,
  .asg 3 (.lc false (.call 6 [(.bin .add (.call 4 [(.var 0), (.bin .add (.con (.int 1)) (.var 7))]) (.var 7))]) (.v 7) (.rng1 (.con (.int 12))) none [7]),
  .for (.v 4) (.seq (.var 3)) b1_f_law,
  .asg 5 (.call 5 [(.call 4 [(.var 0), (.con (.int 13))]), (.con (.int 420)), (.con (.int 14))]),
  .asg 6 (.lst false [(.con (.str [120])), (.con (.str [121])), (.con (.str [122])), (.con (.str [120, 49])), (.con (.str [98])), (.con (.str [119, 111, 114, 100])), (.con (.str [107, 57])), (.con (.str s0)), (.con (.str [113]))]),
  .for (.v 7) (.rng1 (.con (.int 6))) b3_f_law,
  .ret (some (.con (.bl true)))]
def T : Tab := ⟨[⟨"PowersError", 1, 0, true, [], []⟩,
    ⟨"InvalidSpace", 1, 0, true, [], []⟩,
    ⟨"Space", 0, 3, true, [], ["prime", "names", "count"]⟩],
  [[(.inl 2, (.int 8)), (.inl 3, (.int 5)), (.inl 5, (.int 3)), (.inl 7, (.int 2))]],
  [("raised_number", .fn 0),
    ("inverse", .fn 1),
    ("is_name", .fn 2),
    ("_law_cell", .fn 4),
    ("_law_digits", .fn 5),
    ("_law_word", .fn 6),
    ("_law_is_name", .fn 7),
    ("_law_makes", .fn 8),
    ("_law_told", .fn 9),
    ("law", .fn 10),
    ("PowersError", .cl 0),
    ("InvalidSpace", .cl 1),
    ("Space", .cl 2),
    ("PRIMES", .con (.tup [(.int 2), (.int 3), (.int 5), (.int 7)])),
    ("LETTERS", .con (.str s1)),
    ("DIGITS", .con (.str s4)),
    ("LONGEST_NAME", .con (.int 12)),
    ("MOST_NAMES", .con (.int 8)),
    ("MOST_OF_PRIME", .con (.gd 0)),
    ("len", .blt),
    ("int", .blt),
    ("list", .blt),
    ("bool", .blt),
    ("all", .blt),
    ("set", .blt),
    ("isinstance", .blt),
    ("range", .blt),
    ("ValueError", .blt)],
  fun c d => [(0, 0), (1, 1), (1, 0)].contains (c, d)⟩
def v_f_raised_number : DefV := ⟨⟨("raised_number", none), "raised_number", "raised_number", defArgs (top 11), defBody (top 11), defScope (top 11)⟩, ⟨3, 5, false, f_raised_number⟩, ["prime", "number", "exponent", "found", "_"], ["prime", "number", "exponent"], 60⟩
def v_f_inverse : DefV := ⟨⟨("inverse", none), "inverse", "inverse", defArgs (top 13), defBody (top 13), defScope (top 13)⟩, ⟨2, 2, false, f_inverse⟩, ["prime", "number"], ["prime", "number"], 60⟩
def v_f_is_name : DefV := ⟨⟨("is_name", none), "is_name", "is_name", defArgs (top 14), defBody (top 14), defScope (top 14)⟩, ⟨1, 2, false, f_is_name⟩, ["text", "char"], ["text"], 60⟩
def v_c_Space___init__ : DefV := ⟨⟨("Space", some "__init__"), "__init__", "Space.__init__", defArgs (inClass (top 15) 0), defBody (inClass (top 15) 0), defScope (inClass (top 15) 0)⟩, ⟨3, 4, false, c_Space___init__⟩, ["self", "prime", "names", "name"], ["self", "prime", "names"], 60⟩
def v_f__law_cell : DefV := ⟨⟨("_law_cell", none), "_law_cell", "_law_cell", defArgs (top 17), defBody (top 17), defScope (top 17)⟩, ⟨2, 2, false, f__law_cell⟩, ["_law_script", "_law_k"], ["_law_script", "_law_k"], 60⟩
def v_f__law_digits : DefV := ⟨⟨("_law_digits", none), "_law_digits", "_law_digits", defArgs (top 18), defBody (top 18), defScope (top 18)⟩, ⟨3, 7, false, f__law_digits⟩, ["_law_cell_here", "_law_many", "_law_count", "_law_digits_here", "_law_rest", "_law_k", "_law_mixed"], ["_law_cell_here", "_law_many", "_law_count"], 60⟩
def v_f__law_word : DefV := ⟨⟨("_law_word", none), "_law_word", "_law_word", defArgs (top 19), defBody (top 19), defScope (top 19)⟩, ⟨1, 7, false, f__law_word⟩, ["_law_cell_here", "_law_digits_here", "_law_size", "_law_word_here", "_law_k", "_law_many", "_law_at"], ["_law_cell_here"], 60⟩
def v_f__law_is_name : DefV := ⟨⟨("_law_is_name", none), "_law_is_name", "_law_is_name", defArgs (top 20), defBody (top 20), defScope (top 20)⟩, ⟨1, 2, false, f__law_is_name⟩, ["_law_word_here", "_law_char"], ["_law_word_here"], 60⟩
def v_f__law_makes : DefV := ⟨⟨("_law_makes", none), "_law_makes", "_law_makes", defArgs (top 21), defBody (top 21), defScope (top 21)⟩, ⟨2, 3, false, f__law_makes⟩, ["_law_prime", "_law_names", "_law_name"], ["_law_prime", "_law_names"], 60⟩
def v_f__law_told : DefV := ⟨⟨("_law_told", none), "_law_told", "_law_told", defArgs (top 22), defBody (top 22), defScope (top 22)⟩, ⟨2, 5, false, f__law_told⟩, ["_law_prime", "_law_names", "_law_given", "e", "_law_space"], ["_law_prime", "_law_names"], 60⟩
def v_f_law : DefV := ⟨⟨("law", none), "law", "law", defArgs (top 23), defBody (top 23), defScope (top 23)⟩, ⟨1, 13, false, f_law⟩, ["_law_script", "_law_prime", "_law_number", "_law_words", "_law_word_here", "_law_digits_here", "_law_menu", "_law_k", "_law_other", "_law_told_here", "_law_start", "_law_names", "_law_j"], ["_law_script"], 60⟩
def vs : List DefV := [v_f_raised_number, v_f_inverse, v_f_is_name, v_c_Space___init__, v_f__law_cell, v_f__law_digits, v_f__law_word, v_f__law_is_name, v_f__law_makes, v_f__law_told, v_f_law]
theorem vsB : Binds' vs := .cons (fun _ _ _ _ _ _ us hl => match us, hl with | [_, _, _], _ => rfl) (.cons (fun _ _ _ _ _ _ us hl => match us, hl with | [_, _], _ => rfl) (.cons (fun _ _ _ _ _ _ us hl => match us, hl with | [_], _ => rfl) (.cons (fun _ _ _ _ _ _ us hl => match us, hl with | [_, _, _], _ => rfl) (.cons (fun _ _ _ _ _ _ us hl => match us, hl with | [_, _], _ => rfl) (.cons (fun _ _ _ _ _ _ us hl => match us, hl with | [_, _, _], _ => rfl) (.cons (fun _ _ _ _ _ _ us hl => match us, hl with | [_], _ => rfl) (.cons (fun _ _ _ _ _ _ us hl => match us, hl with | [_], _ => rfl) (.cons (fun _ _ _ _ _ _ us hl => match us, hl with | [_, _], _ => rfl) (.cons (fun _ _ _ _ _ _ us hl => match us, hl with | [_, _], _ => rfl) (.cons (fun _ _ _ _ _ _ us hl => match us, hl with | [_], _ => rfl) (.nil)))))))))))
theorem k_f_raised_number : v_f_raised_number.chk T = true := by decide +kernel
theorem k_f_inverse : v_f_inverse.chk T = true := by decide +kernel
theorem k_f_is_name : v_f_is_name.chk T = true := by decide +kernel
theorem k_c_Space___init__ : v_c_Space___init__.chk T = true := by decide +kernel
theorem k_f__law_cell : v_f__law_cell.chk T = true := by decide +kernel
theorem k_f__law_digits : v_f__law_digits.chk T = true := by decide +kernel
theorem k_f__law_word : v_f__law_word.chk T = true := by decide +kernel
theorem k_f__law_is_name : v_f__law_is_name.chk T = true := by decide +kernel
theorem k_f__law_makes : v_f__law_makes.chk T = true := by decide +kernel
theorem k_f__law_told : v_f__law_told.chk T = true := by decide +kernel
theorem k_f_law : v_f_law.chk T = true := by decide +kernel
theorem vsC : (vs.all fun v => v.chk T) = true := by
  simp only [vs, List.all_cons, List.all_nil, Bool.and_self, Bool.and_true, k_f_raised_number, k_f_inverse, k_f_is_name, k_c_Space___init__, k_f__law_cell, k_f__law_digits, k_f__law_word, k_f__law_is_name, k_f__law_makes, k_f__law_told, k_f_law]

def fns : List Fn := vs.map (·.F)
end k01
end EV
end
section
set_option linter.all false
set_option maxHeartbeats 1000000
set_option maxRecDepth 100000
namespace EV
namespace k01
open PySem L2
abbrev exk (k fl n : Nat) := exSs T (callF T fns k) (callF T fns (k - 1)) fl n
theorem raised_ok (k fl : Nat) (st : Store) (p x e : Int) (hp : 0 < p) (hp2 : p < 100) (hx : x.natAbs < 2 ^ 64) (he : smallI e = true) :
    callF T fns (k + 1) 0 [.p (.int p), .p (.int x), .p (.int e)] fl st = .ok (.p (.int ((List.range e.toNat).foldl (fun a _ => a * x % p) 1))) st := by
  rw [call_def (F := v_f_raised_number.F) rfl rfl]
  simp [v_f_raised_number, f_raised_number, setV, rngW_ok _ he]
  unfold rngL
  rw [forL_fold _ _ _ _ _ (fun a => [some (.p (.int p)), some (.p (.int x)), some (.p (.int e)), some (.p (.int a)), none]) (fun a _ => a * x % p)]
  · simp
  · intro a b hb
    simp [b0_f_raised_number, binP_mul, binP_mod, hp, mulOk, hx, setV]
def cellAt (ns : List Int) (k : Int) : Int := if k < ns.length then (atI ns k).getD 0 else 0
theorem cell_ok (k fl : Nat) (st : Store) (ns : List Int) (i : Int) (hi : 0 ≤ i) : callF T fns (k + 1) 4 [.p (.lst (ns.map .int)), .p (.int i)] fl st = .ok (.p (.int (cellAt ns i))) st := by
  rw [call_def (F := v_f__law_cell.F) rfl rfl]
  by_cases h : i < ns.length
  · have h2 : atI ns i = some (ns[i.toNat]'(by omega)) := by
      unfold atI ixN
      simp [hi, h]
    simp [v_f__law_cell, f__law_cell, biR, lenOf, seqR, h, cellAt, idxR, atI_map, h2]
  · simp [v_f__law_cell, f__law_cell, biR, lenOf, seqR, h, cellAt]
theorem digits_ok (k fl : Nat) (st : Store) (c m n : Int) (hm : 0 < m) (hm2 : m < 1073741824) (hn : 0 ≤ n) (hn2 : n < 1000) : ∃ l : List Int, callF T fns (k + 1) 5 [.p (.int c), .p (.int m), .p (.int n)] fl st = .ok (.p (.lst (l.map .int))) st ∧ l.length = n.toNat ∧ ∀ d ∈ l, 0 ≤ d ∧ d < m := by
  rw [call_def (F := v_f__law_digits.F) rfl rfl]
  have hs : smallI n = true := by unfold smallI; simp; omega
  have loop : ∃ env' st', forL (exk k st.length 56) (.v 5) b0_f__law_digits [some (.p (.int c)), some (.p (.int m)), some (.p (.int n)), some (.cell st.length), some (.p (.int c)), none, none] (rngL 0 n) [some (.p (.int c)), some (.p (.int m)), some (.p (.int n)), some (.cell st.length), some (.p (.int c)), none, none] (st ++ [.lst []]) = .ok (.nx env') st' ∧
      ∃ (l : List Int) (r : Int), env' = [some (.p (.int c)), some (.p (.int m)), some (.p (.int n)), some (.cell st.length), some (.p (.int r)), none, none] ∧ st' = st ++ [.lst (l.map fun z => R.p (.int z))] ∧ l.length = n.toNat ∧ ∀ d ∈ l, 0 ≤ d ∧ d < m := by
    have := forL_inv (ex := exk k st.length 56) (t := .v 5) (b := b0_f__law_digits) (env0 := [some (.p (.int c)), some (.p (.int m)), some (.p (.int n)), some (.cell st.length), some (.p (.int c)), none, none]) (emb := fun (i : Nat) => R.p (.int (0 + (i : Int)))) (l := List.range (n - 0).toNat)
      (fun i env s => ∃ (l : List Int) (r : Int), env = [some (.p (.int c)), some (.p (.int m)), some (.p (.int n)), some (.cell st.length), some (.p (.int r)), none, none] ∧ s = st ++ [.lst (l.map fun z => R.p (.int z))] ∧ l.length = i ∧ ∀ d ∈ l, 0 ≤ d ∧ d < m) ⟨[], c, rfl, rfl, rfl, fun d hd => nomatch hd⟩ ?_
    · simpa [rngL_eq] using this
    · rintro i a env s hia ⟨l, r, rfl, rfl, hl, hd⟩
      have hi : i < 1000 := by
        have := (List.getElem?_eq_some_iff.mp hia).1
        rw [List.length_range] at this
        omega
      have app : ∀ (y : Int), mtR st.length .append (.cell st.length) [.p (.int y)] (st ++ [.lst (l.map fun z => R.p (.int z))]) = .ok (.p .non) (st ++ [.lst (l.map (fun z => R.p (.int z)) ++ [.p (.int y)])]) := by
        intro y
        rw [mt_append (l := l.map fun z => R.p (.int z)) (by simp) (by rw [List.length_map]; unfold LINE; omega) (.inl (Nat.le_refl _))]
        simp
      have mem : ∀ y : Int, 0 ≤ y → y < m → ∀ d ∈ l ++ [y], 0 ≤ d ∧ d < m := by
        intro y h1 h2 d hd'
        rcases List.mem_append.mp hd' with z | z
        · exact hd d z
        · rw [List.mem_singleton.mp z]; exact ⟨h1, h2⟩
      have q0 : ∀ z : Int, 0 ≤ z % m := fun z => Int.emod_nonneg _ (by omega)
      have q1 : ∀ z : Int, z % m < m := fun z => Int.emod_lt_of_pos _ hm
      by_cases hc : (1000000000000000000 : Int) ≤ c
      · refine ⟨[some (.p (.int c)), some (.p (.int m)), some (.p (.int n)), some (.cell st.length), some (.p (.int (r / m))), some (.p (.int (0 + (a : Int)))), none], st ++ [.lst ((l ++ [r % m]).map fun z => R.p (.int z))], ?_, l ++ [r % m], r / m, ?_, rfl, by simp [hl], mem _ (q0 _) (q1 _)⟩
        · simp [b0_f__law_digits, binP_pow, hc, biR, intOf, binP_mod, hm, app, tyR, mtT, binP_fdiv, hm2, setV]
        · simp
      · have hz : ∀ z : Int, (z % 2147483647).natAbs < 18446744073709551616 := fun z => by omega
        refine ⟨[some (.p (.int c)), some (.p (.int m)), some (.p (.int n)), some (.cell st.length), some (.p (.int r)), some (.p (.int (0 + (a : Int)))), some (.p (.int (((c * 48271 + a * 69621 + 1013) % 2147483647 * ((c * 48271 + a * 69621 + 1013) % 2147483647) + 7 * ((c * 48271 + a * 69621 + 1013) % 2147483647) + a) % 2147483629)))],
          st ++ [.lst ((l ++ [(((c * 48271 + a * 69621 + 1013) % 2147483647 * ((c * 48271 + a * 69621 + 1013) % 2147483647) + 7 * ((c * 48271 + a * 69621 + 1013) % 2147483647) + a) % 2147483629) / 31 % m]).map fun z => R.p (.int z))], ?_, l ++ [_], r, ?_, rfl, by simp [hl], mem _ (q0 _) (q1 _)⟩
        · simp [b0_f__law_digits, binP_pow, hc, biR, intOf, binP_mod, hm, app, tyR, mtT, binP_fdiv, hm2, setV, binP_mul, mulOk, hz]
        · simp
  obtain ⟨env', st', h1, l, r, rfl, rfl, hl, hd⟩ := loop
  refine ⟨l, ?_, hl, hd⟩
  simp [v_f__law_digits, f__law_digits, setV, rngW_ok _ hs]
  rw [h1]
  simp
  rw [fin_lst (l := l.map .int) (by simp) (Nat.le_refl _)]
  simp
abbrev letters := s1
abbrev digs := s4
def isName (w : List Nat) : Bool := match w with
  | [] => false
  | c :: r => decide (w.length ≤ 12) && decide (c ∈ letters) && w.all fun c => decide (c ∈ letters) || decide (c ∈ digs)
theorem glo_letters (c1 : CF) (k fl n : Nat) (env : Env) (st : Store) : evE T (callF T fns k) c1 fl (n + 1) (.glo "LETTERS") env st = .ok (.p (.str letters)) st := rfl
theorem glo_digits (c1 : CF) (k fl n : Nat) (env : Env) (st : Store) : evE T (callF T fns k) c1 fl (n + 1) (.glo "DIGITS") env st = .ok (.p (.str digs)) st := rfl
theorem glo_longest (c1 : CF) (k fl n : Nat) (env : Env) (st : Store) : evE T (callF T fns k) c1 fl (n + 1) (.glo "LONGEST_NAME") env st = .ok (.p (.int 12)) st := rfl
theorem is_name_ok (k fl : Nat) (st : Store) (w : List Nat) (hw : w.length ≤ 1000) : callF T fns (k + 1) 2 [.p (.str w)] fl st = .ok (.p (.bl (isName w))) st := by
  rw [call_def (F := v_f_is_name.F) rfl rfl]
  cases w with
  | nil => simp [v_f_is_name, f_is_name, glo_longest, len_str, isName]
  | cons c r =>
    have lc : ∀ n env, 2 ≤ List.length env → lcW (evE T (callF T fns k) (callF T fns (k - 1)) st.length (n + 3)) (evT T (callF T fns k) (callF T fns (k - 1)) st.length (n + 3)) false (.or (.cmp .inn (.var 1) (.glo "LETTERS")) (.cmp .inn (.var 1) (.glo "DIGITS"))) (.v 1) none env (.vals ((c :: r).map fun c => .p (.str [c]))) st = .ok (.p (.lst ((c :: r).map fun c => .bl (decide (c ∈ letters) || decide (c ∈ digs))))) st := by
      intro n env he
      refine lcW_map (fun c => .bl (decide (c ∈ letters) || decide (c ∈ digs))) (by unfold LINE; omega) fun a ha => ?_
      have h1 : (env.set 1 (some (R.p (.str [a]))))[1]? = some (some (.p (.str [a]))) := List.getElem?_set_self (by omega)
      rw [lcT_v _ _ _ _ _ _ _ (by omega)]
      by_cases h : a ∈ letters <;> simp [h1, glo_letters, glo_digits, inn_ch, h]
    by_cases h1 : (c :: r).length ≤ 12
    · have h1' : r.length + 1 ≤ 12 := h1
      have h1'' : (r.length : Int) + 1 ≤ 12 := by omega
      have h0 : (1 : Int) ≤ (r.length : Int) + 1 := by omega
      by_cases h2 : c ∈ letters
      · simp [v_f_is_name, f_is_name, glo_longest, len_str, glo_letters, nin_ch, idx_str0, h1', h1'', h0, h2, -lcW_vals, -List.map_cons]
        rw [lc _ _ (by simp [wipeE])]
        simp only [Res.bind_ok]
        rw [all_bl]
        simp [isName, h1', h2]
      · simp [v_f_is_name, f_is_name, glo_longest, len_str, glo_letters, nin_ch, idx_str0, h1', h1'', h0, h2, isName]
    · have h1' : ¬ r.length + 1 ≤ 12 := h1
      have h1'' : ¬ (r.length : Int) + 1 ≤ 12 := by omega
      have h0 : (1 : Int) ≤ (r.length : Int) + 1 := by omega
      simp [v_f_is_name, f_is_name, glo_longest, len_str, glo_letters, nin_ch, idx_str0, h1', h1'', h0, isName]
theorem mem_al (a : Nat) : decide (a ∈ s2) = (decide (a ∈ letters) || decide (a ∈ digs)) := by
  have : s2 = letters ++ digs := rfl
  rw [this, Bool.eq_iff_iff]
  simp only [List.mem_append, Bool.or_eq_true, decide_eq_true_eq]
theorem law_is_name_ok (k fl : Nat) (st : Store) (w : List Nat) (hw : w.length ≤ 1000) : callF T fns (k + 1) 7 [.p (.str w)] fl st = .ok (.p (.bl (isName w))) st := by
  rw [call_def (F := v_f__law_is_name.F) rfl rfl]
  cases w with
  | nil => simp [v_f__law_is_name, f__law_is_name, len_str, isName, eq_int]
  | cons c r =>
    have lc : ∀ n env, 2 ≤ List.length env → lcW (evE T (callF T fns k) (callF T fns (k - 1)) st.length (n + 3)) (evT T (callF T fns k) (callF T fns (k - 1)) st.length (n + 3)) false (.cmp .inn (.var 1) (.con (.str s2))) (.v 1) none env (.vals ((c :: r).map fun c => .p (.str [c]))) st = .ok (.p (.lst ((c :: r).map fun c => .bl (decide (c ∈ letters) || decide (c ∈ digs))))) st := by
      intro n env he
      refine lcW_map (fun c => .bl (decide (c ∈ letters) || decide (c ∈ digs))) (by unfold LINE; omega) fun a ha => ?_
      have h1 : (env.set 1 (some (R.p (.str [a]))))[1]? = some (some (.p (.str [a]))) := List.getElem?_set_self (by omega)
      rw [lcT_v _ _ _ _ _ _ _ (by omega)]
      simp only [ev_cmp, ev_var' _ _ _ _ _ _ _ h1, ev_con, Res.bind_ok, inn_ch, ofO_some, noErr_ok, mem_al]
    by_cases h1 : (c :: r).length ≤ 12
    · have h1' : r.length + 1 ≤ 12 := h1
      have h1'' : ¬ (12 : Int) < (r.length : Int) + 1 := by omega
      have h0 : ¬ (r.length : Int) + 1 = 0 := by omega
      by_cases h2 : c ∈ letters
      · simp [v_f__law_is_name, f__law_is_name, len_str, nin_ch, idx_str0, h1', h1'', h0, h2, eq_int, -lcW_vals, -List.map_cons]
        rw [lc _ _ (by simp [wipeE])]
        simp only [Res.bind_ok]
        rw [all_bl]
        simp [isName, h1', h2]
      · simp [v_f__law_is_name, f__law_is_name, len_str, nin_ch, idx_str0, h1', h1'', h0, h2, eq_int, isName]
    · have h1' : ¬ r.length + 1 ≤ 12 := h1
      have h1'' : (12 : Int) < (r.length : Int) + 1 := by omega
      have h0 : ¬ (r.length : Int) + 1 = 0 := by omega
      simp [v_f__law_is_name, f__law_is_name, len_str, nin_ch, idx_str0, h1', h1'', h0, eq_int, isName]
def okW (w : List Nat) : Prop := w.length ≤ 14 ∧ ∀ c ∈ w, c < 128
theorem okS_of {w : List Nat} (h : ∀ c ∈ w, c < 128) : okS w := by
  unfold okS PyData.strOk
  rw [Array.all_eq_true_iff_forall_mem]
  intro x hx
  have := h x (by simpa using hx)
  simp
  omega
theorem small_str {s : List Nat} (hs : (s.all fun c => decide (c < 128)) = true) {i : Int} {x : Nat} (h : atI s i = some x) : x < 128 := by
  unfold atI at h
  cases e : ixN s.length i with
  | none => rw [e] at h; cases h
  | some j =>
    rw [e] at h
    exact of_decide_eq_true (List.all_eq_true.mp hs x (List.mem_of_getElem? (show s[j]? = some x from h)))
theorem sizes (d : Int) : ∃ z : Nat, z ≤ 13 ∧ atI [(0 : Int), 1, 12, 13, 3, 2] (d % 6) = some (z : Int) := by
  have h0 : 0 ≤ d % 6 := by omega
  have h6 : d % 6 < 6 := by omega
  have : d % 6 = 0 ∨ d % 6 = 1 ∨ d % 6 = 2 ∨ d % 6 = 3 ∨ d % 6 = 4 ∨ d % 6 = 5 := by omega
  rcases this with h | h | h | h | h | h <;> rw [h]
  · exact ⟨0, by omega, rfl⟩
  · exact ⟨1, by omega, rfl⟩
  · exact ⟨12, by omega, rfl⟩
  · exact ⟨13, by omega, rfl⟩
  · exact ⟨3, by omega, rfl⟩
  · exact ⟨2, by omega, rfl⟩
theorem len_s2 : s2.length = 36 := rfl
theorem len_s3 : s3.length = 12 := rfl
theorem idx_ints {g : List (List (Ky × P))} {st : Store} {l : List Int} {i : Int} {x : Int} (h : atI l i = some x) : idxR g (.p (.lst (l.map P.int))) (.p (.int i)) st = some (.p (.int x)) := idx_lst (atI_m h)
theorem word_ok (k fl : Nat) (st : Store) (c : Int) : ∃ w : List Nat, callF T fns (k + 2) 6 [.p (.int c)] fl st = .ok (.p (.str w)) st ∧ okW w := by
  obtain ⟨l, hd, hl, hb⟩ := digits_ok k st.length st c 1260 18 (by omega) (by omega) (by omega) (by omega)
  have hl : l.length = 18 := by simpa using hl
  have at' : ∀ i : Int, 0 ≤ i → i < 18 → ∃ x, atI l i = some x ∧ 0 ≤ x := by
    intro i h0 h1
    exact ⟨_, atI_some h0 (by omega), (hb _ (List.getElem_mem _)).1⟩
  obtain ⟨d0, e0, _⟩ := at' 0 (by omega) (by omega)
  obtain ⟨d1, e1, _⟩ := at' 1 (by omega) (by omega)
  obtain ⟨d2, e2, _⟩ := at' 2 (by omega) (by omega)
  obtain ⟨d16, e16, g16⟩ := at' 16 (by omega) (by omega)
  obtain ⟨d17, e17, g17⟩ := at' 17 (by omega) (by omega)
  obtain ⟨z, hz, ez⟩ := sizes d0
  have hsz : smallI (z : Int) = true := by unfold smallI; simp; omega
  have loop : ∃ env' st', forL (exSs T (callF T fns (k + 1)) (callF T fns k) st.length 55) (.v 4) b0_f__law_word [some (.p (.int c)), some (.p (.lst (l.map .int))), some (.p (.int z)), some (.p (.str [])), none, none, none] (rngL 0 z) [some (.p (.int c)), some (.p (.lst (l.map .int))), some (.p (.int z)), some (.p (.str [])), none, none, none] st = .ok (.nx env') st' ∧
      st' = st ∧ ∃ w : List Nat, env' = [some (.p (.int c)), some (.p (.lst (l.map .int))), some (.p (.int z)), some (.p (.str w)), none, none, none] ∧ w.length = z ∧ ∀ c ∈ w, c < 128 := by
    have := forL_inv (ex := exSs T (callF T fns (k + 1)) (callF T fns k) st.length 55) (t := .v 4) (b := b0_f__law_word) (env0 := [some (.p (.int c)), some (.p (.lst (l.map .int))), some (.p (.int z)), some (.p (.str [])), none, none, none]) (emb := fun (i : Nat) => R.p (.int (0 + (i : Int)))) (l := List.range (z - 0 : Int).toNat)
      (fun i env s => s = st ∧ ∃ w : List Nat, env = [some (.p (.int c)), some (.p (.lst (l.map .int))), some (.p (.int z)), some (.p (.str w)), none, none, none] ∧ w.length = i ∧ ∀ c ∈ w, c < 128) ⟨rfl, [], rfl, rfl, fun d hd => nomatch hd⟩ ?_
    · simpa [rngL_eq] using this
    · rintro i a env s hia ⟨rfl, w, rfl, hw, hc⟩
      have hi : i < z ∧ a = i := by
        have h1 := (List.getElem?_eq_some_iff.mp hia)
        obtain ⟨h2, h3⟩ := h1
        rw [List.length_range] at h2
        rw [List.getElem_range] at h3
        omega
      obtain ⟨x, ex, gx⟩ := at' (3 + (a : Int)) (by omega) (by omega)
      have fin : ∀ m : Int, 0 < m → m ≤ 36 → ∃ ch, idxR T.gds (.p (.str s2)) (.p (.int (x % m))) s = some (.p (.str [ch])) ∧ ch < 128 := by
        intro m h1 h2
        have q1 := Int.emod_nonneg x (by omega : m ≠ 0)
        have q2 := Int.emod_lt_of_pos x h1
        have e := atI_some (l := s2) q1 (by rw [len_s2]; omega)
        exact ⟨_, idx_str e, small_str (by decide) e⟩
      have step : ∀ m : Int, 0 < m → m ≤ 36 → (∀ n, evE T (callF T fns (k + 1)) (callF T fns k) s.length (n + 8) (.ite (.and (.cmp .eq (.var 4) (.con (.int 0))) (.cmp .gt (.bin .mod (.bi .int [(.idx (.var 1) (.con (.int 1)))]) (.con (.int 5))) (.con (.int 0)))) (.con (.int 26)) (.con (.int 36))) [some (.p (.int c)), some (.p (.lst (l.map .int))), some (.p (.int z)), some (.p (.str w)), some (.p (.int (0 + (a : Int)))), none, none] s = .ok (.p (.int m)) s) →
          ∃ e st', forT (exSs T (callF T fns (k + 1)) (callF T fns k) s.length 55) (.v 4) b0_f__law_word (.p (.int (0 + (a : Int)))) [some (.p (.int c)), some (.p (.lst (l.map .int))), some (.p (.int z)), some (.p (.str w)), none, none, none] s = .ok (.nx e) st' ∧ st' = s ∧ ∃ w' : List Nat, mask [some (.p (.int c)), some (.p (.lst (l.map .int))), some (.p (.int z)), some (.p (.str [])), none, none, none] e = [some (.p (.int c)), some (.p (.lst (l.map .int))), some (.p (.int z)), some (.p (.str w')), none, none, none] ∧ w'.length = i + 1 ∧ ∀ c ∈ w', c < 128 := by
        intro m h1 h2 he
        obtain ⟨ch, hch, hlt⟩ := fin m h1 h2
        refine ⟨[some (.p (.int c)), some (.p (.lst (l.map .int))), some (.p (.int z)), some (.p (.str (w ++ [ch]))), some (.p (.int (0 + (a : Int)))), some (.p (.int m)), none], s, ?_, rfl, w ++ [ch], rfl, by simp -implicitDefEqProofs [hw], fun c' hc' => ?_⟩
        · have hne : 0 < m := h1
          have he' := he 45
          have ex' := idx_ints (g := T.gds) (st := s) ex
          rw [forT_v _ _ _ _ _ _ (by simp)]
          simp only [b0_f__law_word, exs_cons, ex_asg, List.set_cons_succ, List.set_cons_zero]
          rw [he']
          have hcat : binP .add (.str w) (.str [ch]) = some (.str (w ++ [ch])) := binP_str (by rw [hw]; show i + 1 ≤ LINE; unfold LINE; omega)
          simp -implicitDefEqProofs [setV, ex', int_int, binP_mod, hne, hch, hcat]
        · rcases List.mem_append.mp hc' with q | q
          · exact hc c' q
          · rw [List.mem_singleton.mp q]; exact hlt
      have e1' := idx_ints (g := T.gds) (st := s) e1
      by_cases ha : a = 0
      · by_cases h5 : 0 < d1 % 5
        · exact step 26 (by omega) (by omega) fun n => by simp -implicitDefEqProofs [eq_int, ha, e1', int_int, binP_mod, h5]
        · exact step 36 (by omega) (by omega) fun n => by simp -implicitDefEqProofs [eq_int, ha, e1', int_int, binP_mod, h5]
      · exact step 36 (by omega) (by omega) fun n => by simp -implicitDefEqProofs [eq_int, ha]
  obtain ⟨env', st', h1, h0, w, rfl, hw, hc⟩ := loop
  subst h0
  have i0 := idx_ints (g := T.gds) (st := st') e0
  have i1 := idx_ints (g := T.gds) (st := st') e1
  have i2 := idx_ints (g := T.gds) (st := st') e2
  have i16 := idx_ints (g := T.gds) (st := st') e16
  have i17 := idx_ints (g := T.gds) (st := st') e17
  have iz := idx_ints (g := T.gds) (st := st') ez
  have iz : idxR T.gds (.p (.lst [.int 0, .int 1, .int 12, .int 13, .int 3, .int 2])) (.p (.int (d0 % 6))) st' = some (.p (.int z)) := iz
  rw [call_def (F := v_f__law_word.F) rfl rfl]
  have m6 : binP .mod (.int d0) (.int 6) = some (.int (d0 % 6)) := rfl
  have hd' : callF T fns (k + 1) 5 [.p (.int c), .p (.int 1260), .p (.int 18)] st'.length st' = .ok (.p (.lst (l.map .int))) st' := hd
  have body : ∀ r, retR false st'.length r = retR false st'.length r := fun _ => rfl
  simp -implicitDefEqProofs [v_f__law_word, f__law_word, binP_mul, mulOk, hd', i0, int_int, m6, iz, setV, toPs, rngW_ok _ hsz, LINE]
  rw [h1]
  have m3 : binP .mod (.int d2) (.int 3) = some (.int (d2 % 3)) := rfl
  by_cases h3 : d2 % 3 = 1
  · have hwl : w.length ≤ 13 := by omega
    have p0 : (0 : Int) < (w.length : Int) + 1 := by omega
    have ma : binP .mod (.int d16) (.int ((w.length : Int) + 1)) = some (.int (d16 % ((w.length : Int) + 1))) := binP_mod p0
    have mb : binP .mod (.int d17) (.int 12) = some (.int (d17 % 12)) := rfl
    have mc : binP .fdiv (.int d2) (.int 3) = some (.int (d2 / 3)) := rfl
    have md : binP .mod (.int (d2 / 3)) (.int 2) = some (.int (d2 / 3 % 2)) := rfl
    have q1 := Int.emod_nonneg d17 (by omega : (12 : Int) ≠ 0)
    have q2 := Int.emod_lt_of_pos d17 (by omega : (0 : Int) < 12)
    have es := atI_some (l := s3) q1 (by rw [len_s3]; omega)
    have is3 := idx_str (g := T.gds) (st := st') es
    have hs3 := small_str (s := s3) (by decide) es
    have sl1 : ∀ lo hi, slcR (.p (.str w)) lo hi st' = some (.p (.str (cutL w lo hi))) := fun _ _ => rfl
    have cl : ∀ lo hi, (cutL w lo hi).length ≤ 13 := fun lo hi => Nat.le_trans (cutL_len w lo hi) hwl
    have cm : ∀ lo hi, ∀ c ∈ cutL w lo hi, c < 128 := fun lo hi c hc' => hc c (List.mem_of_mem_drop (List.mem_of_mem_take hc'))
    have ct : ∀ x y : List Nat, x.length ≤ 20 → y.length ≤ 20 → binP .add (.str x) (.str y) = some (.str (x ++ y)) := fun x y h1 h2 => binP_str (by unfold LINE; omega)
    have two := Int.emod_two_eq (d2 / 3)
    have r0 := Int.emod_nonneg d16 (by omega : (w.length : Int) + 1 ≠ 0)
    have r1 := Int.emod_lt_of_pos d16 p0
    refine ⟨cutL w none (some (d16 % ((w.length : Int) + 1))) ++ [s3[(d17 % 12).toNat]'(by rw [len_s3]; omega)] ++ cutL w (some (d16 % ((w.length : Int) + 1) + d2 / 3 % 2)) none, ?_, ?_, ?_⟩
    · have c1 := ct (cutL w none (some (d16 % ((w.length : Int) + 1)))) [s3[(d17 % 12).toNat]'(by rw [len_s3]; omega)] (by have := cl none (some (d16 % ((w.length : Int) + 1))); omega) (by simp)
      have c2 := ct (cutL w none (some (d16 % ((w.length : Int) + 1))) ++ [s3[(d17 % 12).toNat]'(by rw [len_s3]; omega)]) (cutL w (some (d16 % ((w.length : Int) + 1) + d2 / 3 % 2)) none) (by have := cl none (some (d16 % ((w.length : Int) + 1))); rw [List.length_append, List.length_singleton]; omega) (by have := cl (some (d16 % ((w.length : Int) + 1) + d2 / 3 % 2)) none; omega)
      simp only [List.append_assoc] at c2
      simp -implicitDefEqProofs [i2, i16, i17, int_int, m3, eq_int, h3, len_str, ma, mb, mc, md, sl1, is3, c1, c2, setV]
    · have e1 : (cutL w none (some (d16 % ((w.length : Int) + 1)))).length + (cutL w (some (d16 % ((w.length : Int) + 1) + d2 / 3 % 2)) none).length ≤ w.length := by
        unfold cutL
        simp only [List.length_take, List.length_drop]
        generalize d16 % ((w.length : Int) + 1) = aa at r0 r1
        generalize d2 / 3 % 2 = bb at two
        show min ((if aa < 0 then (aa + (w.length : Int)).toNat else min aa.toNat w.length) - 0) (w.length - 0) + min (w.length - (if aa + bb < 0 then (aa + bb + (w.length : Int)).toNat else min (aa + bb).toNat w.length)) (w.length - (if aa + bb < 0 then (aa + bb + (w.length : Int)).toNat else min (aa + bb).toNat w.length)) ≤ w.length
        rw [if_neg (by omega), if_neg (by omega)]
        omega
      rw [List.length_append, List.length_append, List.length_singleton]
      omega
    · intro c' hc'
      rcases List.mem_append.mp hc' with q | q
      · rcases List.mem_append.mp q with q | q
        · exact cm _ _ c' q
        · rw [List.mem_singleton.mp q]; exact hs3
      · exact cm _ _ c' q
  · refine ⟨w, ?_, by omega, hc⟩
    simp -implicitDefEqProofs [i2, int_int, m3, eq_int, h3]
/-! spaces -/
def mk (p : Int) (ws : List (List Nat)) : Bool := decide (p ∈ [(2 : Int), 3, 5, 7]) && (decide (1 ≤ ws.length) && (decide (ws.length ≤ 8) && (ws.all isName && (decide ((distinct ws).length = ws.length) && decide ((ws.length : Int) ≤ if p = 2 then 8 else if p = 3 then 5 else if p = 5 then 3 else 2)))))
theorem glo_primes (c1 : CF) (k fl n : Nat) (env : Env) (st : Store) : evE T (callF T fns k) c1 fl (n + 1) (.glo "PRIMES") env st = .ok (.p (.tup [.int 2, .int 3, .int 5, .int 7])) st := rfl
theorem glo_most (c1 : CF) (k fl n : Nat) (env : Env) (st : Store) : evE T (callF T fns k) c1 fl (n + 1) (.glo "MOST_NAMES") env st = .ok (.p (.int 8)) st := rfl
theorem glo_gd (c1 : CF) (k fl n : Nat) (env : Env) (st : Store) : evE T (callF T fns k) c1 fl (n + 1) (.glo "MOST_OF_PRIME") env st = .ok (.p (.gd 0)) st := rfl
theorem in_primes (p : Int) (st : Store) : inR (.p (.int p)) (.p (.tup [.int 2, .int 3, .int 5, .int 7])) st = some (decide (p ∈ [(2 : Int), 3, 5, 7])) := by
  show some (((2 : Int) == p) || (((3 : Int) == p) || (((5 : Int) == p) || (((7 : Int) == p) || false)))) = _
  congr 1
  rw [Bool.eq_iff_iff]
  simp only [Bool.or_eq_true, beq_iff_eq, Bool.false_eq_true, or_false, decide_eq_true_eq, List.mem_cons, List.not_mem_nil]
  constructor <;> (intro h; rcases h with h | h | h | h <;> simp [h])
theorem nin_primes (p : Int) (st : Store) : cmpR .nin (.p (.int p)) (.p (.tup [.int 2, .int 3, .int 5, .int 7])) st = some (!decide (p ∈ [(2 : Int), 3, 5, 7])) := by
  show (match inR (.p (.int p)) (.p (.tup [.int 2, .int 3, .int 5, .int 7])) st with
    | some b => some (!b)
    | none => none) = _
  rw [in_primes]
theorem nin_primesL (p : Int) (st : Store) : cmpR .nin (.p (.int p)) (.p (.lst [.int 2, .int 3, .int 5, .int 7])) st = some (!decide (p ∈ [(2 : Int), 3, 5, 7])) := nin_primes p st
theorem gd_at (p : Int) (hp : p ∈ [(2 : Int), 3, 5, 7]) (st : Store) : idxR T.gds (.p (.gd 0)) (.p (.int p)) st = some (.p (.int (if p = 2 then 8 else if p = 3 then 5 else if p = 5 then 3 else 2))) := by
  simp only [List.mem_cons, List.not_mem_nil, or_false] at hp
  rcases hp with rfl | rfl | rfl | rfl <;> rfl
theorem names_lc (k fl n i : Nat) (f : Nat) (hf : ∀ (k fl : Nat) (st : Store) (w : List Nat), w.length ≤ 1000 → callF T fns (k + 1) f [.p (.str w)] fl st = .ok (.p (.bl (isName w))) st) (c1 : CF) (et : EvT) (env : Env) (st : Store) (c : Nat) (ws : List (List Nat)) (hi : i < env.length)
    (hc : st[c]? = some (.lst (ws.map fun w => R.p (.str w)))) (hw : ∀ w ∈ ws, okW w) (hl : ws.length ≤ 1000) :
    lcW (evE T (callF T fns (k + 1)) c1 fl (n + 3)) et false (.call f [(.var i)]) (.v i) none env (.cel c) st = .ok (.p (.lst (ws.map fun w => .bl (isName w)))) st := by
  refine lcW_cel (emb := fun w => R.p (.str w)) (fun w => .bl (isName w)) hc (by omega) fun w hwm => ?_
  have h1 : (env.set i (some (R.p (.str w))))[i]? = some (some (.p (.str w))) := List.getElem?_set_self hi
  rw [lcT_v _ _ _ _ _ _ _ hi]
  have h2 := hf k fl st w (by have := (hw w hwm).1; omega)
  simp only [ev_call, evEs_cons, evEs_nil, ev_var' _ _ _ _ _ _ _ h1, Res.bind_ok, h2, noErr_ok]
theorem init_ok (k fl : Nat) (st : Store) (s c : Nat) (p : Int) (ws : List (List Nat)) (hs : st[s]? = some (.ins 2 [])) (hc : st[c]? = some (.lst (ws.map fun w => R.p (.str w)))) (hw : ∀ w ∈ ws, okW w) (hl : ws.length ≤ 100) :
    callF T fns (k + 2) 3 [.cell s, .p (.int p), .cell c] fl st = if mk p ws then .ok (.p .non) (st.set s (.ins 2 [("prime", .p (.int p)), ("names", .p (.lst (ws.map .str))), ("count", .p (.int ws.length))])) else .err ⟨1, []⟩ st := by
  rw [call_def (F := v_c_Space___init__.F) rfl rfl]
  have hlen : biR .len [.cell c] st = some (.p (.int ws.length)) := by rw [len_cel hc, List.length_map]
  have hC : T.cls[1]? = some ⟨"InvalidSpace", 1, 0, true, [], []⟩ := rfl
  by_cases h1 : p ∈ [(2 : Int), 3, 5, 7]
  · by_cases h2 : 1 ≤ ws.length ∧ ws.length ≤ 8
    · have a1 : (1 : Int) ≤ ws.length := by omega
      have a2 : (ws.length : Int) ≤ 8 := by omega
      have hseq : seqW (.cell c) st = .ok (.cel c) st := seqW_cell st hc
      have hlc : lcW (evE T (callF T fns (k + 1)) (callF T fns k) st.length 52) (evT T (callF T fns (k + 1)) (callF T fns k) st.length 52) false (.call 2 [.var 3]) (.v 3) none (wipeE [some (.cell s), some (.p (.int p)), some (.cell c), none] [3]) (.cel c) st = .ok (.p (.lst (ws.map fun w => .bl (isName w)))) st :=
        names_lc k st.length 49 3 2 is_name_ok _ _ _ st c ws (by simp [wipeE]) hc hw (by omega)
      have hall := all_bl (st := st) isName ws
      have hset : biR .lenset [.cell c] st = some (.p (.int (distinct ws).length)) := lenset_cel hc (by omega)
      by_cases h3 : ws.all isName = true
      · by_cases h4 : (distinct ws).length = ws.length
        · have hg := gd_at p h1 st
          by_cases h5 : (ws.length : Int) ≤ if p = 2 then 8 else if p = 3 then 5 else if p = 5 then 3 else 2
          · have hm : mk p ws = true := by simp [mk, h1, h2.1, h2.2, h3, h4, h5]
            have hcl : T.cls[2]? = some ⟨"Space", 0, 3, true, [], ["prime", "names", "count"]⟩ := rfl
            have hsl : s < st.length := (List.getElem?_eq_some_iff.mp hs).1
            have hcs : c ≠ s := fun e => by rw [e, hs] at hc; cases hc
            have hlist : biR .list [.cell c] st = some (.p (.lst (ws.map .str))) := list_cel (by rw [hc, List.map_map]; rfl)
            have f1 : ∀ env, setFl T st.length env (.cell s) (.p (.int p)) "prime" st = .ok (.nx env) (st.set s (.ins 2 [("prime", .p (.int p))])) := fun env => setFl_ok T st.length env st hs hcl rfl (.inr rfl)
            have hc2 : (st.set s (.ins 2 [("prime", .p (.int p))]))[c]? = some (.lst (ws.map fun w => R.p (.str w))) := by rw [List.getElem?_set_ne (Ne.symm hcs)]; exact hc
            have hs2 : (st.set s (.ins 2 [("prime", .p (.int p))]))[s]? = some (.ins 2 [("prime", .p (.int p))]) := List.getElem?_set_self hsl
            have hlist2 : biR .list [.cell c] (st.set s (.ins 2 [("prime", .p (.int p))])) = some (.p (.lst (ws.map .str))) := list_cel (by rw [hc2, List.map_map]; rfl)
            have f2 : ∀ env, setFl T st.length env (.cell s) (.p (.lst (ws.map .str))) "names" (st.set s (.ins 2 [("prime", .p (.int p))])) = .ok (.nx env) ((st.set s (.ins 2 [("prime", .p (.int p))])).set s (.ins 2 [("prime", .p (.int p)), ("names", .p (.lst (ws.map .str)))])) := fun env => setFl_ok T st.length env _ hs2 hcl rfl (.inr rfl)
            have hc3 : (st.set s (.ins 2 [("prime", .p (.int p)), ("names", .p (.lst (ws.map .str)))]))[c]? = some (.lst (ws.map fun w => R.p (.str w))) := by rw [List.getElem?_set_ne (Ne.symm hcs)]; exact hc
            have hs3 : (st.set s (.ins 2 [("prime", .p (.int p)), ("names", .p (.lst (ws.map .str)))]))[s]? = some (.ins 2 [("prime", .p (.int p)), ("names", .p (.lst (ws.map .str)))]) := List.getElem?_set_self hsl
            have hlen3 : biR .len [.cell c] (st.set s (.ins 2 [("prime", .p (.int p)), ("names", .p (.lst (ws.map .str)))])) = some (.p (.int ws.length)) := by rw [len_cel hc3, List.length_map]
            have f3 : ∀ env, setFl T st.length env (.cell s) (.p (.int ws.length)) "count" (st.set s (.ins 2 [("prime", .p (.int p)), ("names", .p (.lst (ws.map .str)))])) = .ok (.nx env) ((st.set s (.ins 2 [("prime", .p (.int p)), ("names", .p (.lst (ws.map .str)))])).set s (.ins 2 [("prime", .p (.int p)), ("names", .p (.lst (ws.map .str))), ("count", .p (.int ws.length))])) := fun env => setFl_ok T st.length env _ hs3 hcl rfl (.inr rfl)
            have h5' : ¬ (if p = 2 then (8 : Int) else if p = 3 then 5 else if p = 5 then 3 else 2) < ws.length := by omega
            simp -implicitDefEqProofs only [List.set_set] at f2 f3
            simp -implicitDefEqProofs [v_c_Space___init__, c_Space___init__, glo_primes, nin_primes, h1, hC, raiR, toPs, hm, glo_most, hlen, a1, a2, -lcW_vals, hseq, hlc, hall, h3, hset, h4, glo_gd, hg, h5', f1, hlist2, f2, hlen3, f3]
            exact List.take_of_length_le (by simp)
          · have hm : mk p ws = false := by simp [mk, h5]
            have h5' : (if p = 2 then (8 : Int) else if p = 3 then 5 else if p = 5 then 3 else 2) < ws.length := by omega
            simp -implicitDefEqProofs [v_c_Space___init__, c_Space___init__, glo_primes, nin_primes, h1, hC, raiR, toPs, hm, glo_most, hlen, a1, a2, -lcW_vals, hseq, hlc, hall, h3, hset, h4, glo_gd, hg, h5']
        · have hm : mk p ws = false := by simp [mk, h4]
          have h4' : (distinct ws).length < ws.length := by have := distinct_le ws; omega
          simp -implicitDefEqProofs [v_c_Space___init__, c_Space___init__, glo_primes, nin_primes, h1, hC, raiR, toPs, hm, glo_most, hlen, a1, a2, -lcW_vals, hseq, hlc, hall, h3, hset, h4']
      · have hm : mk p ws = false := by simp only [mk, h3]; simp
        simp -implicitDefEqProofs [v_c_Space___init__, c_Space___init__, glo_primes, nin_primes, h1, hC, raiR, toPs, hm, glo_most, hlen, a1, a2, -lcW_vals, hseq, hlc, hall, h3]
    · have hm : mk p ws = false := by
        have : ¬ (1 ≤ ws.length) ∨ ¬ (ws.length ≤ 8) := by omega
        rcases this with h | h <;> simp [mk, h]
      by_cases a1 : (1 : Int) ≤ ws.length
      · have a2 : ¬ (ws.length : Int) ≤ 8 := by omega
        simp -implicitDefEqProofs [v_c_Space___init__, c_Space___init__, glo_primes, nin_primes, h1, hC, raiR, toPs, hm, glo_most, hlen, a1, a2]
      · simp -implicitDefEqProofs [v_c_Space___init__, c_Space___init__, glo_primes, nin_primes, h1, hC, raiR, toPs, hm, glo_most, hlen, a1]
  · have hm : mk p ws = false := by simp [mk, h1]
    simp -implicitDefEqProofs [v_c_Space___init__, c_Space___init__, glo_primes, nin_primes, h1, hC, raiR, toPs, hm]
theorem told_ok (k fl : Nat) (st : Store) (c : Nat) (p : Int) (ws : List (List Nat)) (hc : st[c]? = some (.lst (ws.map fun w => R.p (.str w)))) (hw : ∀ w ∈ ws, okW w) (hl : ws.length ≤ 100) :
    callF T fns (k + 4) 9 [.p (.int p), .cell c] fl st = .ok (.p (.bl (mk p ws))) st := by
  rw [call_def (F := v_f__law_told.F) rfl rfl]
  have hth := thaw_cel hc
  have hc1 : (st ++ [.lst (ws.map fun w => R.p (.str w))] ++ [.ins 2 []])[st.length]? = some (.lst (ws.map fun w => R.p (.str w))) := by simp
  have hs1 : (st ++ [.lst (ws.map fun w => R.p (.str w))] ++ [.ins 2 []])[st.length + 1]? = some (.ins 2 []) := by simp
  have hi := init_ok k (st.length + 1) _ (st.length + 1) st.length p ws hs1 hc1 hw hl
  simp only [List.append_assoc, List.cons_append, List.nil_append] at hi
  have hcl : T.cls[2]? = some ⟨"Space", 0, 3, true, [], ["prime", "names", "count"]⟩ := rfl
  have hap : mtR st.length .append (.cell st.length) [.p (.str [108, 97, 116, 101])] (st ++ [.lst (ws.map fun w => R.p (.str w))]) = .ok (.p .non) (st ++ [.lst ((ws.map fun w => R.p (.str w)) ++ [.p (.str [108, 97, 116, 101])])]) := by
    rw [mt_append (l := ws.map fun w => R.p (.str w)) (by simp) (by rw [List.length_map]; unfold LINE; omega) (.inl (Nat.le_refl _))]
    simp
  have hx : isExc T 1 = true := rfl
  have hs : T.sub 1 1 = true := rfl
  have hev : ∀ s, evXS T ⟨1, []⟩ (.ret (.or (.nt (.isi (some 0))) (.nt (.isi none)))) s = .ok (.rt (.p (.bl false))) s := fun s => by rw [evXS_ret]; rfl
  have hnew : newR ⟨"Space", 0, 3, true, [], ["prime", "names", "count"]⟩ (st ++ [.lst (ws.map fun w => R.p (.str w))]) (.p .non) (st ++ [.lst (ws.map fun w => R.p (.str w)), .ins 2 [("prime", .p (.int p)), ("names", .p (.lst (ws.map .str))), ("count", .p (.int ws.length))]]) = .ok (.p (.obj 2 [("prime", .int p), ("names", .lst (ws.map .str)), ("count", .int ws.length)])) (st ++ [.lst (ws.map fun w => R.p (.str w))]) := by
    unfold newR
    simp only [if_true]
    rw [frz_ins (cl := 2) (l := [("prime", .int p), ("names", .lst (ws.map .str)), ("count", .int ws.length)]) (by simp) (Nat.le_refl _)]
    show Res.ok _ (List.take (st ++ [Ob.lst (ws.map fun w => R.p (.str w))]).length (st ++ [Ob.lst (ws.map fun w => R.p (.str w)), _])) = _
    rw [show ∀ a b : Ob, st ++ [a, b] = (st ++ [a]) ++ [b] from fun a b => by simp, List.take_left' rfl]
  have l1 : ∀ (a b : P) (d : P) s, fldR (.p (.obj 2 [("prime", a), ("names", b), ("count", d)])) "prime" s = some (.p a) := fun _ _ _ _ => rfl
  have l2 : ∀ (a b : P) (d : P) s, fldR (.p (.obj 2 [("prime", a), ("names", b), ("count", d)])) "names" s = some (.p b) := fun _ _ _ _ => rfl
  have l3 : ∀ (a b : P) (d : P) s, fldR (.p (.obj 2 [("prime", a), ("names", b), ("count", d)])) "count" s = some (.p d) := fun _ _ _ _ => rfl
  have l4 : ∀ (f : List (String × P)) s, okCl T.cls (.p (.obj 2 f)) s = true := fun _ _ => rfl
  cases hm : mk p ws with
  | true =>
    rw [hm] at hi
    simp only [if_true] at hi
    have hc4 : (st ++ [.lst ((ws.map fun w => R.p (.str w)) ++ [.p (.str [108, 97, 116, 101])])])[c]? = some (.lst (ws.map fun w => R.p (.str w))) := by
      rw [List.getElem?_append_left (List.getElem?_eq_some_iff.mp hc).1]
      exact hc
    have he : cmpR .eq (.p (.lst (ws.map .str))) (.cell c) (st ++ [.lst ((ws.map fun w => R.p (.str w)) ++ [.p (.str [108, 97, 116, 101])])]) = some true := by
      show (match R.look (.p (.lst (ws.map .str))) _, R.look (.cell c) _ with
        | some a, some b => eqP a b
        | _, _ => none) = some true
      have e1 : R.look (.cell c) (st ++ [.lst ((ws.map fun w => R.p (.str w)) ++ [.p (.str [108, 97, 116, 101])])]) = some (.lst (ws.map .str)) := by
        unfold R.look
        simp only [hc4]
        rw [toPs_fun]
        rfl
      rw [e1]
      exact eqP_strs ws fun w hwm => okS_of (hw w hwm).2
    have hl4 : biR .len [.cell c] (st ++ [.lst ((ws.map fun w => R.p (.str w)) ++ [.p (.str [108, 97, 116, 101])])]) = some (.p (.int ws.length)) := by rw [len_cel hc4, List.length_map]
    have ty : tyR (.cell st.length) (st ++ [.lst (ws.map fun w => R.p (.str w))]) = some (mtT .append) := by
      unfold tyR
      simp [mtT]
    simp -implicitDefEqProofs [v_f__law_told, f__law_told, hth, setV, ev_new' _ _ _ _ _ _ _ _ hcl, hi, hnew, ty, hap, l1, l2, l3, l4, eq_int, he, hl4]
  | false =>
    rw [hm] at hi
    simp only [Bool.false_eq_true, if_false] at hi
    simp -implicitDefEqProofs [v_f__law_told, f__law_told, hth, setV, ev_new' _ _ _ _ _ _ _ _ hcl, hi, hx, hs, hev]
theorem makes_ok (k fl : Nat) (st : Store) (c : Nat) (p : Int) (ws : List (List Nat)) (hc : st[c]? = some (.lst (ws.map fun w => R.p (.str w)))) (hw : ∀ w ∈ ws, okW w) (hl : ws.length ≤ 100) :
    callF T fns (k + 2) 8 [.p (.int p), .cell c] fl st = .ok (.p (.bl (mk p ws))) st := by
  rw [call_def (F := v_f__law_makes.F) rfl rfl]
  have hlen : biR .len [.cell c] st = some (.p (.int ws.length)) := by rw [len_cel hc, List.length_map]
  have hset : biR .lenset [.cell c] st = some (.p (.int (distinct ws).length)) := lenset_cel hc (by omega)
  have hall := all_bl (st := st) isName ws
  have hseq : seqW (.cell c) st = .ok (.cel c) st := seqW_cell st hc
  by_cases h1 : p ∈ [(2 : Int), 3, 5, 7]
  · by_cases h2 : ws.length = 0
    · have hm : mk p ws = false := by simp [mk, h2]
      simp -implicitDefEqProofs [v_f__law_makes, f__law_makes, toPs, nin_primesL, h1, hlen, eq_int, h2, hm, LINE]
    · have h2' : ¬ (ws.length : Int) = 0 := by omega
      have h2'' : 1 ≤ ws.length := by omega
      by_cases h3 : ws.length ≤ 8
      · have h3' : ¬ (8 : Int) < ws.length := by omega
        by_cases h4 : (distinct ws).length = ws.length
        · have hix : idxR T.gds (.p (.lst [.int 0, .int 0, .int 8, .int 5, .int 0, .int 3, .int 0, .int 2])) (.p (.int p)) st = some (.p (.int (if p = 2 then 8 else if p = 3 then 5 else if p = 5 then 3 else 2))) := by
            simp only [List.mem_cons, List.not_mem_nil, or_false] at h1
            rcases h1 with rfl | rfl | rfl | rfl <;> rfl
          have hlc : ∀ env, 3 ≤ List.length env → lcW (evE T (callF T fns (k + 1)) (callF T fns k) st.length 54) (evT T (callF T fns (k + 1)) (callF T fns k) st.length 54) false (.call 7 [.var 2]) (.v 2) none env (.cel c) st = .ok (.p (.lst (ws.map fun w => .bl (isName w)))) st := fun env he =>
            names_lc k st.length 51 2 7 law_is_name_ok _ _ env st c ws (by omega) hc hw (by omega)
          have hws : ¬ ws = [] := fun e => h2 (by rw [e]; rfl)
          have hlc' := hlc (wipeE [some (.p (.int p)), some (.cell c), none] [2]) (by simp [wipeE])
          cases h5 : ws.all isName with
          | false =>
            have hm : mk p ws = false := by simp only [mk, h5]; simp
            rw [h5] at hall
            simp -implicitDefEqProofs [v_f__law_makes, f__law_makes, toPs, nin_primesL, h1, hlen, eq_int, h2', h3', hset, h4, LINE, hseq, -lcW_vals, hws, hlc', hall, hm]
          | true =>
            rw [h5] at hall
            have hm : mk p ws = decide ((ws.length : Int) ≤ if p = 2 then 8 else if p = 3 then 5 else if p = 5 then 3 else 2) := by simp only [mk, h5, h1, h2'', h3, h4]; simp
            simp -implicitDefEqProofs [v_f__law_makes, f__law_makes, toPs, nin_primesL, h1, hlen, eq_int, h2', h3', hset, h4, LINE, hseq, -lcW_vals, hws, hlc', hall, hm, hix]
        · have hm : mk p ws = false := by simp [mk, h4]
          have h4' : (distinct ws).length < ws.length := by have := distinct_le ws; omega
          simp -implicitDefEqProofs [v_f__law_makes, f__law_makes, toPs, nin_primesL, h1, hlen, eq_int, h2', h3', hset, h4', hm, LINE]
      · have hm : mk p ws = false := by simp [mk, h3]
        have h3' : (8 : Int) < ws.length := by omega
        simp -implicitDefEqProofs [v_f__law_makes, f__law_makes, toPs, nin_primesL, h1, hlen, eq_int, h2', h3', hm, LINE]
  · have hm : mk p ws = false := by simp [mk, h1]
    simp -implicitDefEqProofs [v_f__law_makes, f__law_makes, toPs, nin_primesL, h1, hm, LINE]
def inv (p x : Int) : Int := (List.range (p - 2).toNat).foldl (fun a _ => a * x % p) 1
theorem inv_good : ∀ p ∈ [(2 : Int), 3, 5, 7], ∀ a : Nat, a < 6 → (1 : Int) + a < p → 0 < inv p (1 + a) ∧ inv p (1 + a) < p ∧ ((1 + a) * inv p (1 + a)) % p = 1 := by
  intro p hp a ha h
  have ha : a = 0 ∨ a = 1 ∨ a = 2 ∨ a = 3 ∨ a = 4 ∨ a = 5 := by omega
  simp only [List.mem_cons, List.not_mem_nil, or_false] at hp
  rcases hp with rfl | rfl | rfl | rfl <;> rcases ha with rfl | rfl | rfl | rfl | rfl | rfl <;> first | (exfalso; omega) | decide
theorem inverse_ok (k fl : Nat) (st : Store) (p x : Int) (hp : 0 < p) (hp2 : p < 100) (hx : x.natAbs < 2 ^ 64) : callF T fns (k + 2) 1 [.p (.int p), .p (.int x)] fl st = .ok (.p (.int (inv p x))) st := by
  rw [call_def (F := v_f_inverse.F) rfl rfl]
  have := raised_ok k st.length st p x (p - 2) hp hp2 hx (by unfold smallI; simp; omega)
  simp -implicitDefEqProofs [v_f_inverse, f_inverse, this, inv]
def menu : List (List Nat) := [[120], [121], [122], [120, 49], [98], [119, 111, 114, 100], [107, 57], s0, [113]]
theorem menu_ok : ∀ w ∈ menu, okW w := by
  intro w hw
  have : (menu.all fun w => decide (w.length ≤ 14) && w.all fun c => decide (c < 128)) = true := by decide
  have := List.all_eq_true.mp this w hw
  simp only [Bool.and_eq_true, decide_eq_true_eq, List.all_eq_true] at this
  exact this
theorem primes_at (d : Int) : ∃ p, p ∈ [(2 : Int), 3, 5, 7] ∧ ∀ st, idxR T.gds (.p (.lst [.int 2, .int 3, .int 5, .int 7])) (.p (.int (d % 4))) st = some (.p (.int p)) := by
  have : d % 4 = 0 ∨ d % 4 = 1 ∨ d % 4 = 2 ∨ d % 4 = 3 := by omega
  rcases this with h | h | h | h <;> rw [h]
  · exact ⟨2, by decide, fun _ => rfl⟩
  · exact ⟨3, by decide, fun _ => rfl⟩
  · exact ⟨5, by decide, fun _ => rfl⟩
  · exact ⟨7, by decide, fun _ => rfl⟩
abbrev NS (ns : List Int) : Option R := some (.p (.lst (ns.map P.int)))
theorem loop1 (ns : List Int) (p : Int) (hp : p ∈ [(2 : Int), 3, 5, 7]) (E : Env) (hE : E = [NS ns, some (.p (.int p)), none, none, none, none, none, none, none, none, none, none, none]) :
    ∃ env' st', forL (exSs T (callF T fns 7) (callF T fns 6) 0 57) (.v 2) b0_f_law E (rngL 1 p) E [] = .ok (.nx env') st' ∧ env' = E ∧ st' = [] := by
  have hp' : 2 ≤ p ∧ p ≤ 7 := by
    simp only [List.mem_cons, List.not_mem_nil, or_false] at hp
    omega
  rw [rngL_eq]
  refine forL_all (fun env s => env = E ∧ s = []) ⟨rfl, rfl⟩ ?_
  rintro a env s ha ⟨rfl, rfl⟩
  rw [List.mem_range] at ha
  obtain ⟨g1, g2, g3⟩ := inv_good p hp a (by omega) (by omega)
  have hi := inverse_ok 5 0 [] p (1 + a) (by omega) (by omega) (by omega)
  have hmul : binP .mul (.int (1 + (a : Int))) (.int (inv p (1 + a))) = some (.int ((1 + a) * inv p (1 + a))) := binP_mul (by unfold mulOk; simp; omega)
  have hmod : binP .mod (.int ((1 + (a : Int)) * inv p (1 + a))) (.int p) = some (.int 1) := by rw [binP_mod (by omega), g3]
  have his : ∀ z st, isR T.cls .int (.p (.int z)) st = some true := fun _ _ => rfl
  subst hE
  refine ⟨[NS ns, some (.p (.int p)), some (.p (.int (1 + (a : Int)))), none, none, none, none, none, some (.p (.int (inv p (1 + a)))), none, none, none, none], [], ?_, by simp [NS], rfl⟩
  simp -implicitDefEqProofs [b0_f_law, NS, hi, setV, his, g1, g2, hmul, int_int, hmod, ne_int]
theorem words_ok (ns : List Int) (E : Env) (hE : 8 ≤ E.length) (h0 : E[0]? = some (NS ns)) : ∃ ws : List (List Nat), lcW (evE T (callF T fns 7) (callF T fns 6) 0 55) (evT T (callF T fns 7) (callF T fns 6) 0 55) false (.call 6 [.bin .add (.call 4 [.var 0, .bin .add (.con (.int 1)) (.var 7)]) (.var 7)]) (.v 7) none E (.vals (rngL 0 12)) [] = .ok (.p (.lst (ws.map .str))) [] ∧ ws.length = 12 ∧ ∀ w ∈ ws, okW w := by
  rw [rngL_eq]
  have key := lcW_ex (ev := evE T (callF T fns 7) (callF T fns 6) 0 55) (et := evT T (callF T fns 7) (callF T fns 6) 0 55) (elt := .call 6 [.bin .add (.call 4 [.var 0, .bin .add (.con (.int 1)) (.var 7)]) (.var 7)]) (tg := .v 7) (env := E) (st := []) (emb := fun (i : Nat) => R.p (.int (0 + (i : Int)))) (fun (_ : Nat) v => ∃ w, v = P.str w ∧ okW w) (l := List.range (12 - 0 : Int).toNat) (by unfold LINE; simp) ?_
  · obtain ⟨vs, h1, h2, h3⟩ := key
    obtain ⟨ws, rfl, hw⟩ := choose_list (g := P.str) (Q := okW) fun v hv => by
      obtain ⟨_, _, w, e, q⟩ := h3 v hv
      exact ⟨w, e, q⟩
    refine ⟨ws, h1, ?_, hw⟩
    simpa using h2
  · intro a ha
    have hc := cell_ok 6 0 [] ns (1 + (a : Int)) (by omega)
    obtain ⟨w, hw1, hw2⟩ := word_ok 5 0 [] (cellAt ns (1 + (a : Int)) + (a : Int))
    refine ⟨.str w, ?_, w, rfl, hw2⟩
    have e0 : (E.set 7 (some (R.p (.int (a : Int)))))[0]? = some (NS ns) := by rw [List.getElem?_set_ne (by omega)]; exact h0
    have e7 : (E.set 7 (some (R.p (.int (a : Int)))))[7]? = some (some (R.p (.int (a : Int)))) := List.getElem?_set_self (by omega)
    rw [lcT_v _ _ _ _ _ _ _ (by omega)]
    simp -implicitDefEqProofs [ev_var' _ _ _ _ _ _ _ e0, ev_var' _ _ _ _ _ _ _ e7, hc, hw1]
theorem loop2 (ws : List (List Nat)) (hw : ∀ w ∈ ws, okW w) (E : Env) (hE : ∃ a b c, E = [a, b, none, c, none, none, none, none, none, none, none, none, none]) :
    ∃ env' st', forL (exSs T (callF T fns 7) (callF T fns 6) 0 55) (.v 4) b1_f_law E (ws.map fun w => R.p (.str w)) E [] = .ok (.nx env') st' ∧ env' = E ∧ st' = [] := by
  refine forL_all (emb := fun w => R.p (.str w)) (fun env s => env = E ∧ s = []) ⟨rfl, rfl⟩ ?_
  rintro w env s hwm ⟨rfl, rfl⟩
  obtain ⟨a, b, c, rfl⟩ := hE
  have hl : w.length ≤ 1000 := by have := (hw w hwm).1; omega
  have h1 := is_name_ok 6 0 [] w hl
  have h2 := law_is_name_ok 6 0 [] w hl
  have his : ∀ z st, isR T.cls .bool (.p (.bl z)) st = some true := fun _ _ => rfl
  refine ⟨[a, b, none, c, some (.p (.str w)), none, none, none, none, some (.p (.bl (isName w))), none, none, none], [], ?_, by cases a <;> cases b <;> cases c <;> simp, rfl⟩
  simp -implicitDefEqProofs [b1_f_law, h1, h2, setV, his, ne_bl]
def nums : List Int := [-1, 0, 1, 2, 3, 4, 5, 6, 7, 9, 11]
theorem loop_b2 (n : Nat) (st : Store) (cc : Nat) (nm : List (List Nat)) (hc : st[cc]? = some (.lst (nm.map fun w => R.p (.str w)))) (hw : ∀ w ∈ nm, okW w) (hl : nm.length ≤ 100) (E : Env) (hE : ∃ a b c d e f g, E = [a, b, none, c, none, d, e, f, none, none, g, some (.cell cc), none]) :
    ∃ env' st', forL (exSs T (callF T fns 7) (callF T fns 6) 0 (n + 10)) (.v 2) b2_f_law E (nums.map fun z => R.p (.int z)) E st = .ok (.nx env') st' ∧ env' = E ∧ st' = st := by
  refine forL_all (emb := fun z => R.p (.int z)) (fun env s => env = E ∧ s = st) ⟨rfl, rfl⟩ ?_
  rintro z env s hz ⟨rfl, rfl⟩
  obtain ⟨a, b, c, d, e, f, g, rfl⟩ := hE
  have h1 := told_ok 3 0 s cc z nm hc hw hl
  have h2 := makes_ok 5 0 s cc z nm hc hw hl
  refine ⟨[a, b, some (.p (.int z)), c, none, d, e, f, none, none, g, some (.cell cc), none], s, ?_, by cases a <;> cases b <;> cases c <;> cases d <;> cases e <;> cases f <;> cases g <;> simp, rfl⟩
  simp -implicitDefEqProofs [b2_f_law, h1, h2, ne_bl]
theorem loop3 (X0 : Option R) (p : Int) (ws : List (List Nat)) (hw : ∀ w ∈ ws, okW w) (hwl : ws.length = 12) (ds : List Int) (hdl : ds.length = 14) (hdb : ∀ d ∈ ds, 0 ≤ d ∧ d < 420) (E : Env)
    (hE : E = [X0, some (.p (.int p)), none, some (.p (.lst (ws.map .str))), none, some (.p (.lst (ds.map .int))), some (.p (.lst (menu.map .str))), none, none, none, none, none, none]) :
    ∃ env' st', forL (exSs T (callF T fns 7) (callF T fns 6) 0 52) (.v 7) b3_f_law E (rngL 0 6) E [] = .ok (.nx env') st' ∧ env' = E := by
  rw [rngL_eq]
  refine forL_all (fun env s => env = E) rfl ?_
  rintro a env s ha rfl
  rw [List.mem_range] at ha
  have ha : a < 6 := by simpa using ha
  have at' : ∀ i : Int, 0 ≤ i → i < 14 → ∃ x, atI ds i = some x ∧ 0 ≤ x := by
    intro i h0 h1
    exact ⟨_, atI_some h0 (by omega), (hdb _ (List.getElem_mem _)).1⟩
  obtain ⟨da, ea, ga⟩ := at' a (by omega) (by omega)
  obtain ⟨d6, e6, g6⟩ := at' (6 + (a : Int)) (by omega) (by omega)
  obtain ⟨d12, e12, g12⟩ := at' 12 (by omega) (by omega)
  obtain ⟨d13, e13, g13⟩ := at' 13 (by omega) (by omega)
  have ia := fun s => idx_ints (g := T.gds) (st := s) ea
  have i6 := fun s => idx_ints (g := T.gds) (st := s) e6
  have i12 := fun s => idx_ints (g := T.gds) (st := s) e12
  have i13 := fun s => idx_ints (g := T.gds) (st := s) e13
  have m9 : ∀ z : Int, binP .mod (.int z) (.int 9) = some (.int (z % 9)) := fun z => rfl
  have m10 : ∀ z : Int, binP .mod (.int z) (.int 10) = some (.int (z % 10)) := fun z => rfl
  have m3 : ∀ z : Int, binP .mod (.int z) (.int 3) = some (.int (z % 3)) := fun z => rfl
  have hs10 : smallI (d6 % 10) = true := by unfold smallI; simp; omega
  -- the names
  have mn : ∀ j : Nat, ∃ w, w ∈ menu ∧ ∀ s, idxR T.gds (.p (.lst (menu.map .str))) (.p (.int ((da + (j : Int)) % 9))) s = some (.p (.str w)) := by
    intro j
    have h0 := Int.emod_nonneg (da + (j : Int)) (by omega : (9 : Int) ≠ 0)
    have h1 := Int.emod_lt_of_pos (da + (j : Int)) (by omega : (0 : Int) < 9)
    have e := atI_some (l := menu) h0 (by show _ < ((9 : Nat) : Int); omega)
    exact ⟨_, List.getElem_mem _, fun s => idx_lst (atI_m e)⟩
  let f : Nat → List Nat := fun j => (mn j).choose
  have hf : ∀ j, f j ∈ menu ∧ ∀ s, idxR T.gds (.p (.lst (menu.map .str))) (.p (.int ((da + (j : Int)) % 9))) s = some (.p (.str (f j))) := fun j => (mn j).choose_spec
  have lc : lcW (evE T (callF T fns 7) (callF T fns 6) 0 48) (evT T (callF T fns 7) (callF T fns 6) 0 48) true (.idx (.var 6) (.bin .mod (.bi .int [.bin .add (.var 10) (.var 12)]) (.con (.int 9)))) (.v 12) none (wipeE [X0, some (.p (.int p)), none, some (.p (.lst (ws.map .str))), none, some (.p (.lst (ds.map .int))), some (.p (.lst (menu.map .str))), some (.p (.int (a : Int))), none, none, some (.p (.int (da % 9))), none, none] [12]) (.vals (rngL 0 (d6 % 10))) s = .ok (.cell s.length) (s ++ [.lst (((List.range (d6 % 10).toNat).map f).map fun w => R.p (.str w))]) := by
    rw [rngL_eq, List.map_map]
    have := lcW_m (ev := evE T (callF T fns 7) (callF T fns 6) 0 48) (et := evT T (callF T fns 7) (callF T fns 6) 0 48) (elt := .idx (.var 6) (.bin .mod (.bi .int [.bin .add (.var 10) (.var 12)]) (.con (.int 9)))) (tg := .v 12) (env := wipeE [X0, some (.p (.int p)), none, some (.p (.lst (ws.map .str))), none, some (.p (.lst (ds.map .int))), some (.p (.lst (menu.map .str))), some (.p (.int (a : Int))), none, none, some (.p (.int (da % 9))), none, none] [12]) (st := s) (emb := fun (i : Nat) => R.p (.int (0 + (i : Int)))) (fun j => R.p (.str (f j))) (l := List.range (d6 % 10 - 0).toNat) (by rw [List.length_range]; unfold LINE; omega) ?_
    · rw [Int.sub_zero] at this ⊢
      exact this
    · intro j hj
      have := (hf j).2 s
      simp -implicitDefEqProofs [wipeE, int_int, m9, this]
  generalize hnm : (List.range (d6 % 10).toNat).map f = nm at lc
  have hnw : ∀ w ∈ nm, okW w := by
    intro w hw'
    rw [← hnm] at hw'
    obtain ⟨j, _, rfl⟩ := List.mem_map.mp hw'
    exact menu_ok _ (hf j).1
  have hnl : nm.length ≤ 9 := by rw [← hnm, List.length_map, List.length_range]; omega
  have hlen : biR .len [.cell s.length] (s ++ [.lst (nm.map fun w => R.p (.str w))]) = some (.p (.int nm.length)) := by rw [len_cel (l := nm.map fun w => R.p (.str w)) (by simp), List.length_map]
  have hlit : nums.map (fun z => R.p (.int z)) = [R.p (.int (-1)), R.p (.int 0), R.p (.int 1), R.p (.int 2), R.p (.int 3), R.p (.int 4), R.p (.int 5), R.p (.int 6), R.p (.int 7), R.p (.int 9), R.p (.int 11)] := rfl
  have last : ∀ (nm' : List (List Nat)), (∀ w ∈ nm', okW w) → nm'.length ≤ 9 → ∃ st', forL (exSs T (callF T fns 7) (callF T fns 6) 0 47) (.v 2) b2_f_law [X0, some (.p (.int p)), none, some (.p (.lst (ws.map .str))), none, some (.p (.lst (ds.map .int))), some (.p (.lst (menu.map .str))), some (.p (.int (a : Int))), none, none, some (.p (.int (da % 9))), some (.cell s.length), none]
      [R.p (.int (-1)), R.p (.int 0), R.p (.int 1), R.p (.int 2), R.p (.int 3), R.p (.int 4), R.p (.int 5), R.p (.int 6), R.p (.int 7), R.p (.int 9), R.p (.int 11)] [X0, some (.p (.int p)), none, some (.p (.lst (ws.map .str))), none, some (.p (.lst (ds.map .int))), some (.p (.lst (menu.map .str))), some (.p (.int (a : Int))), none, none, some (.p (.int (da % 9))), some (.cell s.length), none] (s ++ [.lst (nm'.map fun w => R.p (.str w))]) =
      .ok (.nx [X0, some (.p (.int p)), none, some (.p (.lst (ws.map .str))), none, some (.p (.lst (ds.map .int))), some (.p (.lst (menu.map .str))), some (.p (.int (a : Int))), none, none, some (.p (.int (da % 9))), some (.cell s.length), none]) st' := by
    intro nm' h1 h2
    obtain ⟨_, st', h3, rfl, _⟩ := loop_b2 37 (s ++ [.lst (nm'.map fun w => R.p (.str w))]) s.length nm' (by simp) h1 (by omega) [X0, some (.p (.int p)), none, some (.p (.lst (ws.map .str))), none, some (.p (.lst (ds.map .int))), some (.p (.lst (menu.map .str))), some (.p (.int (a : Int))), none, none, some (.p (.int (da % 9))), some (.cell s.length), none] ⟨_, _, _, _, _, _, _, rfl⟩
    rw [hlit] at h3
    exact ⟨st', h3⟩
  obtain ⟨st1, g1⟩ := last nm hnw hnl
  subst hE
  by_cases hcond : d12 % 3 = 1 ∧ 0 < nm.length
  · have hw0 : atI ws (a : Int) = some (ws[a]'(by omega)) := by
      have := atI_some (l := ws) (i := (a : Int)) (by omega) (by omega)
      simpa using this
    have iw := fun s => idx_lst (g := T.gds) (st := s) (atI_m (f := P.str) hw0)
    have ml : binP .mod (.int d13) (.int nm.length) = some (.int (d13 % nm.length)) := binP_mod (by omega)
    have h0 := Int.emod_nonneg d13 (by omega : (nm.length : Int) ≠ 0)
    have h1 := Int.emod_lt_of_pos d13 (by omega : (0 : Int) < nm.length)
    have hix : ixN (nm.map fun w => R.p (.str w)).length (d13 % nm.length) = some (d13 % nm.length).toNat := by
      rw [List.length_map]
      unfold ixN
      rw [if_pos h0, if_pos h1]
    have hset := setIx_ok 0 (env := [X0, some (.p (.int p)), none, some (.p (.lst (ws.map .str))), none, some (.p (.lst (ds.map .int))), some (.p (.lst (menu.map .str))), some (.p (.int (a : Int))), none, none, some (.p (.int (da % 9))), some (.cell s.length), none]) (st := s ++ [.lst (nm.map fun w => R.p (.str w))]) (m := s.length) (l := nm.map fun w => R.p (.str w)) (v := .p (.str (ws[a]'(by omega)))) (by simp) hix (.inl (Nat.zero_le _))
    have hst : (s ++ [Ob.lst (nm.map fun w => R.p (.str w))]).set s.length (Ob.lst ((nm.map fun w => R.p (.str w)).set (d13 % nm.length).toNat (.p (.str (ws[a]'(by omega)))))) = s ++ [Ob.lst ((nm.set (d13 % nm.length).toNat (ws[a]'(by omega))).map fun w => R.p (.str w))] := by
      rw [List.map_set]
      simp
    rw [hst] at hset
    obtain ⟨st2, g2⟩ := last (nm.set (d13 % nm.length).toNat (ws[a]'(by omega))) (fun w hw' => by
      rcases List.mem_or_eq_of_mem_set hw' with z | z
      · exact hnw w z
      · rw [z]; exact hw _ (List.getElem_mem _)) (by rw [List.length_set]; exact hnl)
    have hc2 : 0 < nm.length := hcond.2
    rw [List.map_set] at hset g2
    refine ⟨[X0, some (.p (.int p)), none, some (.p (.lst (ws.map .str))), none, some (.p (.lst (ds.map .int))), some (.p (.lst (menu.map .str))), some (.p (.int (a : Int))), none, none, some (.p (.int (da % 9))), some (.cell s.length), none], st2, ?_, by cases X0 <;> simp⟩
    simp -implicitDefEqProofs [b3_f_law, ia, int_int, m9, setV, i6, m10, rngW_ok _ hs10, -lcW_vals, lc, i12, m3, eq_int, hcond.1, hlen, hc2, i13, ml, iw, hset, toPs, LINE, g2]
  · refine ⟨[X0, some (.p (.int p)), none, some (.p (.lst (ws.map .str))), none, some (.p (.lst (ds.map .int))), some (.p (.lst (menu.map .str))), some (.p (.int (a : Int))), none, none, some (.p (.int (da % 9))), some (.cell s.length), none], st1, ?_, by cases X0 <;> simp⟩
    by_cases h12 : d12 % 3 = 1
    · have hc2 : ¬ 0 < nm.length := fun z => hcond ⟨h12, z⟩
      simp -implicitDefEqProofs [b3_f_law, ia, int_int, m9, setV, i6, m10, rngW_ok _ hs10, -lcW_vals, lc, i12, m3, eq_int, h12, hlen, hc2, toPs, LINE, g1]
    · simp -implicitDefEqProofs [b3_f_law, ia, int_int, m9, setV, i6, m10, rngW_ok _ hs10, -lcW_vals, lc, i12, m3, eq_int, h12, hlen, toPs, LINE, g1]
theorem law_ok (ns : List Int) : ∃ st, callF T fns 8 10 [.p (.lst (ns.map .int))] 0 [] = .ok (.p (.bl true)) st := by
  rw [call_def (F := v_f_law.F) rfl rfl]
  obtain ⟨p, hp, hpi⟩ := primes_at (cellAt ns 0)
  have c0 := cell_ok 6 0 [] ns 0 (by omega)
  have m4 : ∀ z : Int, binP .mod (.int z) (.int 4) = some (.int (z % 4)) := fun z => rfl
  have hp' : 2 ≤ p ∧ p ≤ 7 := by
    simp only [List.mem_cons, List.not_mem_nil, or_false] at hp
    omega
  have hs1 : smallI 1 = true := rfl
  have hs12 : smallI 12 = true := rfl
  have hs6 : smallI 6 = true := rfl
  have hsp : smallI p = true := by unfold smallI; simp; omega
  obtain ⟨_, _, l1, rfl, rfl⟩ := loop1 ns p hp _ rfl
  obtain ⟨ws, lw, hwl, hww⟩ := words_ok ns (wipeE [NS ns, some (.p (.int p)), none, none, none, none, none, none, none, none, none, none, none] [7]) (by simp [wipeE]) (by simp [wipeE])
  obtain ⟨_, _, l2, rfl, rfl⟩ := loop2 ws hww [NS ns, some (.p (.int p)), none, some (.p (.lst (ws.map .str))), none, none, none, none, none, none, none, none, none] ⟨_, _, _, rfl⟩
  have c13 := cell_ok 6 0 [] ns 13 (by omega)
  obtain ⟨ds, hds, hdl, hdb⟩ := digits_ok 6 0 [] (cellAt ns 13) 420 14 (by omega) (by omega) (by omega) (by omega)
  have hsq : ∀ st, seqW (.p (.lst (ws.map .str))) st = .ok (.vals (ws.map fun w => R.p (.str w))) st := fun st => by rw [seqW_lst, List.map_map]; rfl
  simp -implicitDefEqProofs [v_f_law, f_law, toPs, LINE, c0, int_int, m4, hpi, setV, rngW2_ok _ hs1 hsp, -seqW_lst, -lcW_vals]
  rw [l1]
  simp -implicitDefEqProofs [setV, rngW_ok _ hs12, rngW_ok _ hs6, -seqW_lst, -lcW_vals]
  rw [lw]
  simp -implicitDefEqProofs [setV, rngW_ok _ hs12, rngW_ok _ hs6, -seqW_lst, -lcW_vals, hsq]
  rw [l2]
  simp -implicitDefEqProofs [setV, rngW_ok _ hs12, rngW_ok _ hs6, -seqW_lst, -lcW_vals, c13, hds, toPs, LINE]
  obtain ⟨_, st3, l3, rfl⟩ := loop3 (NS ns) p ws hww hwl ds (by simpa using hdl) hdb _ rfl
  have hmenu : menu.map P.str = [P.str [120], P.str [121], P.str [122], P.str [120, 49], P.str [98], P.str [119, 111, 114, 100], P.str [107, 57], P.str s0, P.str [113]] := rfl
  rw [hmenu] at l3
  rw [l3]
  exact ⟨_, rfl⟩
end k01
end EV
end
section
set_option Elab.async false
set_option linter.all false
set_option maxRecDepth 100000
set_option maxHeartbeats 0
namespace EV
namespace k01
open PySem PySem.Spec PyProof.Rows L2
abbrev R : PySem.W.OpenRow := PySem.W.OpenLaw.row PySem.Challenge.rw_standingpowers_k01_numbers_names_and_spa
def L : Lay := ⟨["PowersError", "InvalidSpace", "Space"], vs.map (·.d.at_), ["MOST_OF_PRIME"]⟩
def as (g : Addr → Option Obj) : List Addr := He.asD g 6
abbrev hk : PySem.W.Hook := hookV as T L (vs.map (·.d))
def ob (s : PySem.W.SharedT) : AlV := obsV T L (vs.map (·.d)) (He.frG (HandSHeadRun.getT s) (as (HandSHeadRun.getT s)))
theorem ob_eq (s : PySem.W.SharedT) : ob s = hk.obs s.abs := obsV_eq (as := as) (HandSHeadRun.getT_eq s)
def loose : List PySem.Str := (["_wall", "__name__", "PowersError", "InvalidSpace", "PRIMES", "LETTERS", "DIGITS", "LONGEST_NAME", "MOST_NAMES", "MOST_OF_PRIME", "raised_number", "tuples_of", "inverse", "is_name", "Space", "_law_cell", "_law_digits", "_law_word", "_law_is_name", "_law_makes", "_law_told"] : List PySem.Str)
theorem runF (w : World) : HandSHeadRun.RunEq R (PySem.W.view R.prog [23]) hk ob 20000 loose (w.withFollow "special-get-raises" false) := by
  intro os
  kernel_rfl
theorem runT (w : World) : HandSHeadRun.RunEq R (PySem.W.view R.prog [23]) hk ob 20000 loose (w.withFollow "special-get-raises" true) := by
  intro os
  kernel_rfl
theorem run (w : World) : HandSHeadRun.RunEq R (PySem.W.view R.prog [23]) hk ob 20000 loose w := PySem.W.byRow2 "special-get-raises" (P := fun (w : World) => HandSHeadRun.RunEq R (PySem.W.view R.prog [23]) hk ob 20000 loose w) runF runT w
theorem ends {n : Nat} {kk : Nat} (hn : (PySem.Challenge.rw_standingpowers_k01_numbers_names_and_spa).most = some n) (hn2 : n ≤ sizeLine) (hr : Room (kk + 1) callerA) (hev : ∀ ns : List Int, ns.length ≤ n → ∃ st, callF T fns (kk + 1) 10 [.p (.lst (ns.map P.int))] 0 [] = .ok (.p (.bl true)) st) : PySem.Challenge.rw_standingpowers_k01_numbers_names_and_spa.Holds := by
  open PySem.W PySem.Calls in
  w_on; o_law
  refine HandSHeadRun.head_any (r := PySem.W.OpenLaw.row PySem.Challenge.rw_standingpowers_k01_numbers_names_and_spa) (q := PySem.W.view (PySem.W.OpenLaw.row PySem.Challenge.rw_standingpowers_k01_numbers_names_and_spa).prog [23]) (H := hk) (ob := ob) (M := 20000) (loose := loose) (d := HandSHeadRun.topDef (PySem.W.OpenLaw.row PySem.Challenge.rw_standingpowers_k01_numbers_names_and_spa).prog 23) (kwd := []) ob_eq
    (by kernel_rfl) (fun s => by kernel_rfl) run (by kernel_rfl) (by kernel_rfl) (by kernel_rfl) (by rfl) (by first | assumption | decide +kernel) (by decide +kernel) ⟨rfl, rfl, rfl, rfl, rfl, by decide +kernel⟩ ?hw ?hc
  case hw => w_witness2
  case hc =>
    refine law_end (l := PySem.Challenge.rw_standingpowers_k01_numbers_names_and_spa) (n := n) (k := kk) (fns := fns) (f := 10) (F := v_f_law.F) (x := "_law_script") hn hn2 rfl hr rfl (by decide +kernel) rfl (fun w K o f F e => ?_) (fun w K o => ?_) hev
    · have e : (vs.map (·.F))[f]? = some F := e
      rw [List.getElem?_map] at e
      obtain ⟨v, ev, rfl⟩ := Option.map_eq_some_iff.mp e
      exact ⟨_, allC vsB vsC o f v ev⟩
    · exact allC vsB vsC o 10 v_f_law rfl
end k01
end EV
end
theorem PySem.Challenge.cw_standingpowers_k01_numbers_names_and_spa_holds : PySem.Challenge.rw_standingpowers_k01_numbers_names_and_spa.Holds := by
  exact EV.k01.ends (n := 63) (kk := 7) rfl (by rw [PySem.sizeLine_eq]; decide) ⟨rfl, by decide, by decide⟩ fun ns _ => EV.k01.law_ok ns
