import PyProof.Rows.All
import Wide.All
import OpenK.AllK
import Wide.FinOn
import PySem.Challenge.RW_mixaloud_k31_order_of_schemes
import HandS.ForMost
import HandS.Exc
import HandS.Defaults
import HandS.Wide
import HandS.ExcOwn
import HandS.CallSlots
import HandS.Flow
import KE.LtData
import HandS.TupLe
import HandS.IsInst
import HandS.Zip
import HandS.Style
import KE.KOpsOwn
import PyProof.FactsInt2
import HandS.HeadHook2
import HandS.HeadEnd
import HandS.HeadHook1
import KE.KExcSuper
import HandS.ExcInit
import HandS.TryMany
import HandS.ExcField
import HandS.ExcIs
import HandS.Head0
import HandS.Head1
import HandS.Head2
import KE.KStateDown
set_option Elab.async false
set_option linter.all false
section
set_option maxRecDepth 100000
namespace MX
open PySem

/-- a value as data: ptr n is the n-th cell of the store; all else is never changed -/
inductive D where
  | non
  | bl (b : Bool)
  | int (i : Int)
  | str (s : Str)
  | lst (xs : List D)
  | tup (xs : List D)
  | ins (c : String) (fs : List (String × D))
  | ptr (n : Nat)
  | scr (ns : List Int)
  deriving Inhabited

inductive Cell where
  | lst (xs : List D)
  | ins (c : String) (fs : List (String × D))
  | frz (d : D)
  deriving Inhabited

abbrev Store := List Cell
abbrev DSt := List (Option D)

structure Exn where
  cls : String
  fs : List (String × D) := []

inductive Res (α : Type) where
  | ok (a : α) (S : Store)
  | ex (x : Exn) (S : Store)
  | bad

def Res.bind {α β : Type} (r : Res α) (f : α → Store → Res β) : Res β :=
  match r with
  | .ok a S => f a S
  | .ex x S => .ex x S
  | .bad => .bad

/-- what a value is: a cell's content -/
def look (S : Store) : D → D
  | .ptr n => match S[n]? with
    | some (.lst xs) => .lst xs
    | some (.ins c fs) => .ins c fs
    | some (.frz d) => d
    | none => .ptr n
  | d => d

mutual
def D.pf : D → Bool
  | .lst xs => pfL xs
  | .tup xs => pfL xs
  | .ins _ fs => pfF fs
  | .ptr _ => false
  | _ => true
def pfL : List D → Bool
  | [] => true
  | d :: r => d.pf && pfL r
def pfF : List (String × D) → Bool
  | [] => true
  | (_, d) :: r => d.pf && pfF r
end

/-- a target: a name, or a tuple of names -/
inductive Tg where | n (i : Nat) | t (is : List Nat)
  deriving Inhabited, DecidableEq
/-- what a walk goes over: a value, zip(a, b), enumerate(a), reversed(a) -/
inductive ItK where | seq | zip | enum | rev
  deriving Inhabited, DecidableEq
inductive Bop where | add | sub | mul | fdiv | mod | pow
  deriving DecidableEq
inductive Cop where | eq | ne | lt | le | gt | ge | is_ | isn | in_ | nin
  deriving DecidableEq
/-- built-in functions and types called by name -/
inductive Bi where | abs | int | bool | len | sum | list | tuple | max2 | min2 | any | all | listc
  deriving DecidableEq
/-- the types that isinstance is asked of -/
inductive Ty where | int | bool | str | list | tuple | cls (c : String)
  deriving DecidableEq
inductive Mode where | pure | st
  deriving DecidableEq

inductive E where
  | var (i : Nat) | int (i : Int) | bl (b : Bool) | non | str (s : String)
  | gint (x : String) (i : Int)
  | bin (op : Bop) (a b : E) | neg (a : E) | not (a : E)
  | cmp (op : Cop) (a b : E) | chain (o1 o2 : Cop) (a b c : E)
  | and (a b : E) | or (a b : E) | ife (c a b : E)
  | tup (as : E) | lst (as : E)
  | cell (as : E)
  | anil | acons (e r : E)
  | idx (a i : E) | cut (a lo hi : E) | nopart | part (e : E)
  | call (m : Mode) (f : String) (as : E)
  | bi (b : Bi) (as : E)
  | isi (e : E) (cs : List Ty)
  | app (o e : E)
  | comp (nw : Bool) (own : List Nat) (k : ItK) (tg : Tg) (it c elt : E)
  | rev (a : E)
  | irng1 (a : E) | irng2 (a b : E) | cnd (e : E)
  | frz (e : E) | catc (a b : E)
  | stuck
  | fld (x : String) (o : E)
  | mk (c : String) (as : E)
  | meth (x : String) (o as : E)
  deriving Inhabited

/-- an expression of an except suite -/
inductive XE where
  | str (s : String) | int (i : Int) | non | bl (b : Bool)
  | fld (f : String) | isi (c : String)
  | not (a : XE) | and (a b : XE)
  | var (i : Nat)
  | tup (as : XE) | anil | acons (e r : XE)
  deriving Inhabited

inductive Sx where
  | nil | pass | brk | cont | seq (a b : Sx)
  | asg (i : Nat) (e : E)
  | aug (op : Bop) (i : Nat) (e : E)
  | ex (e : E) | ret (e : E) | retN
  | ifs (c : E) (a b : Sx)
  | whl (fuel : Nat) (c : E) (b : Sx)
  | for_ (k : ItK) (tg : Tg) (it : E) (b : Sx)
  | stuck
  | sfld (x : String) (o e : E)
  | sidx (o i e : E)
  | raise (c : String) (as : E)
  | try_ (b h : Sx)
  | hnil | hcons (c : String) (i : Option Nat) (as : List (Nat × XE)) (r : XE) (h : Sx)
  deriving Inhabited

structure Fn where
  np : Nat
  ns : Nat
  body : Sx
/-- an own class: names that it lacks, its methods, its __init__ -/
structure ClsD where
  flds : List String := []
  meths : List (String × (String × Mode)) := []
  init : Option (String × Mode) := none
/-- an own exception class: the fields that its __init__ stores (none: no __init__ of its own), the classes above it, itself among them -/
structure ExD where
  ini : Option (List String) := none
  ups : List String := []
structure Prog where
  fn : String → Option Fn
  ct : String → Option ClsD
  xt : String → Option ExD

/-! ### operators -/
def cdI : D → Option Int
  | .int i => some i
  | _ => none
def intsD : List D → Option (List Int)
  | [] => some []
  | .int i :: r => (intsD r).map (i :: ·)
  | _ :: _ => none
/-- the truths of truth values and whole numbers -/
def blsD : List D → Option (List Bool)
  | [] => some []
  | .bl i :: r => (blsD r).map (i :: ·)
  | .int i :: r => (blsD r).map ((i != 0) :: ·)
  | _ :: _ => none

/-- a great number's bound -/
def wideB : Nat := 2 ^ 600
def wideM (i j : Int) : Bool := decide (i.natAbs < wideB) && decide (j.natAbs < wideB)
def binI : Bop → Int → Int → Option Int
  | .add, i, j => some (i + j)
  | .sub, i, j => some (i - j)
  | .mul, i, j => if ((-(2 ^ 64) < i ∧ i < 2 ^ 64) ∨ (-(2 ^ 64) < j ∧ j < 2 ^ 64)) ∨ wideM i j = true then some (i * j) else none
  | .fdiv, i, j => if (0 < j ∧ j < 1073741824) ∨ (0 < j ∧ wideM i j = true) then some (i / j) else none
  | .mod, i, j => if 0 < j then some (i % j) else none
  | .pow, i, j => if 0 ≤ j ∧ j ≤ 1000000 ∧ i.natAbs < 2 ^ 64 then some (i ^ j.toNat) else none

/-- a op b: a value, ints, lists, tuples, texts -/
def binD (op : Bop) (S : Store) (a b : D) : Res D :=
  match look S a, look S b with
  | .int i, .int j => match binI op i j with
    | some k => .ok (.int k) S
    | none => .bad
  | .str x, .str y => match op with
    | .add => if x.length + y.length ≤ sizeLine then .ok (.str (x ++ y)) S else .bad
    | _ => .bad
  | .lst xs, .lst ys => match op with
    | .add => if xs.length + ys.length ≤ sizeLine then .ok (.lst (xs ++ ys)) S else .bad
    | _ => .bad
  | .tup xs, .tup ys => match op with
    | .add => if xs ≠ [] ∧ ys ≠ [] ∧ xs.length + ys.length ≤ sizeLine then .ok (.tup (xs ++ ys)) S else .bad
    | _ => .bad
  | .lst xs, .int k => match op with
    | .mul => if -(2 ^ 63) ≤ k ∧ k < 2 ^ 63 ∧ xs.length * k.toNat ≤ sizeLine then .ok (.lst (List.replicate k.toNat xs).flatten) S else .bad
    | _ => .bad
  | _, _ => .bad

/-- flat values -/
def flatD : D → Bool
  | .non => true
  | .bl _ => true
  | .int _ => true
  | .str _ => true
  | _ => false
def flatS : D → Bool
  | .str x => PySem.PyData.canLay0 (.str x)
  | d => flatD d
/-- plain data of at most this depth -/
def dpD : Nat → D → Bool
  | 0, d => flatS d
  | n + 1, .lst xs => xs.all (dpD n)
  | n + 1, .tup xs => xs.all (dpD n)
  | _ + 1, d => flatS d
mutual
/-- == at any depth -/
def eqB : D → D → Bool
  | .non, .non => true
  | .bl a, .bl b => a == b
  | .bl a, .int b => (if a then 1 else 0) == b
  | .int a, .bl b => a == (if b then 1 else 0)
  | .int a, .int b => a == b
  | .str a, .str b => a == b
  | .lst xs, .lst ys => eqBL xs ys
  | .tup xs, .tup ys => eqBL xs ys
  | _, _ => false
def eqBL : List D → List D → Bool
  | [], [] => true
  | a :: r, b :: q => eqB a b && eqBL r q
  | _, _ => false
end
/-! the order of whole numbers and of tuples of these, to any depth -/
mutual
def alB : D → D → Bool
  | .int _, .int _ => true
  | .tup xs, .tup ys => alBL xs ys
  | _, _ => false
def alBL : List D → List D → Bool
  | x :: xs, y :: ys => alB x y && alBL xs ys
  | _, _ => true
end
mutual
def ltB : D → D → Bool
  | .int i, .int j => decide (i < j)
  | .tup xs, .tup ys => ltBL xs ys
  | _, _ => false
def ltBL : List D → List D → Bool
  | x :: xs, y :: ys => if eqB x y then ltBL xs ys else ltB x y
  | [], _ :: _ => true
  | _, [] => false
end
mutual
def leB : D → D → Bool
  | .int i, .int j => decide (i ≤ j)
  | .tup xs, .tup ys => leBL xs ys
  | _, _ => false
def leBL : List D → List D → Bool
  | x :: xs, y :: ys => if eqB x y then leBL xs ys else leB x y
  | [], _ => true
  | _ :: _, [] => false
end
/-! the same data -/
mutual
def sameB : D → D → Bool
  | .non, .non => true
  | .bl a, .bl b => a == b
  | .int a, .int b => a == b
  | .str a, .str b => decide (a = b)
  | .lst xs, .lst ys => sameBL xs ys
  | .tup xs, .tup ys => sameBL xs ys
  | .ins c fs, .ins e gs => decide (c = e) && sameBF fs gs
  | .ptr n, .ptr m => n == m
  | .scr a, .scr b => decide (a = b)
  | _, _ => false
def sameBL : List D → List D → Bool
  | [], [] => true
  | a :: r, b :: q => sameB a b && sameBL r q
  | _, _ => false
def sameBF : List (String × D) → List (String × D) → Bool
  | [], [] => true
  | (x, a) :: r, (y, b) :: q => decide (x = y) && (sameB a b && sameBF r q)
  | _, _ => false
end
def eqO (x y : D) : Option Bool := if dpD 8 x && dpD 8 y then some (eqB x y) else none
def inO (x : D) (ys : List D) : Option Bool := if flatD x && ys.all flatD then some (ys.any fun y => eqB y x) else none
def notO : Option Bool → Option Bool
  | some b => some (!b)
  | none => none
def ltO (x y : D) : Option Bool := if dpD 8 x && (dpD 8 y && alB x y) then some (ltB x y) else none
def leO (x y : D) : Option Bool := if dpD 8 x && (dpD 8 y && alB x y) then some (leB x y) else none
def cmpB (op : Cop) (S : Store) (a b : D) : Option Bool :=
  match op with
  | .eq => eqO (look S a) (look S b)
  | .ne => notO (eqO (look S a) (look S b))
  | .lt => ltO (look S a) (look S b)
  | .le => leO (look S a) (look S b)
  | .gt => match look S a, look S b with
    | .int i, .int j => some (decide (j < i))
    | _, _ => none
  | .ge => match look S a, look S b with
    | .int i, .int j => some (decide (j ≤ i))
    | _, _ => none
  | .is_ => match b with
    | .non => match a with
      | .non => some true
      | _ => some false
    | _ => none
  | .isn => match b with
    | .non => match a with
      | .non => some false
      | _ => some true
    | _ => none
  | .in_ => match look S b with
    | .lst ys => inO a ys
    | .tup ys => inO a ys
    | _ => none
  | .nin => match look S b with
    | .lst ys => notO (inO a ys)
    | .tup ys => notO (inO a ys)
    | _ => none
def ofB (S : Store) : Option Bool → Res D
  | some b => .ok (.bl b) S
  | none => .bad
/-- a value's truth -/
def truD : D → Option Bool
  | .non => some false
  | .bl b => some b
  | .int i => some (i != 0)
  | .str s => if s.length ≤ sizeLine then some ((s.length : Int) != 0) else none
  | .lst xs => some (!xs.isEmpty)
  | .tup xs => some (!xs.isEmpty)
  | _ => none
def atD (xs : List D) (i : Int) : Option D := L2.atI xs i
def idxD (S : Store) (a i : D) : Res D :=
  match look S a, i with
  | .lst xs, .int k => match atD xs k with
    | some d => .ok d S
    | none => .bad
  | .tup xs, .int k => match atD xs k with
    | some d => .ok d S
    | none => .bad
  | _, _ => .bad
def partD : D → Option (Option Int)
  | .non => some none
  | .int i => some (some i)
  | _ => none
def cutL (xs : List D) (lo hi : Option Int) : List D := (xs.drop (HT.sIx xs.length 0 lo)).take (HT.sIx xs.length xs.length hi - HT.sIx xs.length 0 lo)
def cutD (S : Store) (a : D) (l h : Option Int) : Res D :=
  match look S a with
  | .lst xs => .ok (.lst (cutL xs l h)) S
  | .tup xs => if HT.sIx xs.length 0 l = 0 ∧ HT.sIx xs.length xs.length h = xs.length then .bad else .ok (.tup (cutL xs l h)) S
  | _ => .bad
def withPart {α : Type} (d : D) (k : Option Int → Res α) : Res α :=
  match partD d with
  | some o => k o
  | none => .bad
/-- the items of what is walked -/
def itemsD (S : Store) (d : D) : Option (List D) :=
  match look S d with
  | .lst xs => some xs
  | .tup xs => some xs
  | .scr ns => some (ns.map .int)
  | _ => none
def rngD : List D → Option (List D)
  | [.int n] => if -(2 ^ 62) ≤ n ∧ n < 2 ^ 62 then some ((List.range n.toNat).map fun (k : Nat) => D.int (0 + (k : Int))) else none
  | [.int a, .int b] => if -(2 ^ 62) ≤ a ∧ a < 2 ^ 62 ∧ -(2 ^ 62) ≤ b ∧ b < 2 ^ 62 then some ((List.range (b - a).toNat).map fun (k : Nat) => D.int (a + (k : Int))) else none
  | _ => none
def lenD (S : Store) (d : D) : Option Nat :=
  match look S d with
  | .lst xs => some xs.length
  | .tup xs => some xs.length
  | .str s => if s.length ≤ sizeLine then some s.length else none
  | .scr ns => some ns.length
  | _ => none
def biD (b : Bi) (S : Store) (ds : List D) : Res D :=
  match b, ds with
  | .abs, [.int i] => .ok (.int (if i < 0 then -i else i)) S
  | .int, [.int i] => .ok (.int i) S
  | .int, [.bl k] => .ok (.int (if k then 1 else 0)) S
  | .bool, [.int i] => .ok (.bl (i != 0)) S
  | .bool, [.bl k] => .ok (.bl k) S
  | .len, [d] => match lenD S d with
    | some n => .ok (.int n) S
    | none => .bad
  | .max2, [.int i, .int j] => .ok (.int (if j > i then j else i)) S
  | .min2, [.int i, .int j] => .ok (.int (if j < i then j else i)) S
  | .sum, [d] => match look S d with
    | .lst xs => match intsD xs with
      | some ns => .ok (.int ns.sum) S
      | none => .bad
    | .tup xs => match intsD xs with
      | some ns => .ok (.int ns.sum) S
      | none => .bad
    | _ => .bad
  | .any, [d] => match look S d with
    | .lst xs => match blsD xs with
      | some ns => .ok (.bl (ns.any id)) S
      | none => .bad
    | _ => .bad
  | .all, [d] => match look S d with
    | .lst xs => match blsD xs with
      | some ns => .ok (.bl (ns.all id)) S
      | none => .bad
    | _ => .bad
  | .list, [d] => match look S d with
    | .lst xs => .ok (.lst xs) S
    | .tup xs => .ok (.lst xs) S
    | _ => .bad
  | .tuple, [d] => match look S d with
    | .lst xs => .ok (.tup xs) S
    | .tup xs => .ok (.tup xs) S
    | _ => .bad
  | .listc, [d] => match look S d with
    | .lst xs => .ok (.ptr S.length) (S ++ [.lst xs])
    | .tup xs => .ok (.ptr S.length) (S ++ [.lst xs])
    | _ => .bad
  | _, _ => .bad
/-- isinstance of plain data -/
def isiD (S : Store) (d : D) (t : Ty) : Option Bool :=
  match look S d, t with
  | .int _, .int => some true | .int _, _ => some false
  | .bl _, .int => some true | .bl _, .bool => some true | .bl _, _ => some false
  | .str _, .str => some true | .str _, _ => some false
  | .non, _ => some false
  | .lst _, .list => some true | .lst _, .cls _ => none | .lst _, _ => some false
  | .tup _, .tuple => some true | .tup _, .cls _ => none | .tup _, _ => some false
  | _, _ => none
def isiAny (S : Store) (d : D) : List Ty → Option Bool
  | [] => some false
  | t :: r => match isiD S d t with
    | some true => some true
    | some false => isiAny S d r
    | none => none
/-- isinstance where own classes may stand -/
def isiX (kn : String → Bool) (S : Store) (d : D) (t : Ty) : Option Bool :=
  match t with
  | .cls c => match look S d with
    | .ins k _ => if kn k && kn c then some (k == c) else none
    | .scr _ => none
    | .ptr _ => none
    | _ => if kn c then some false else none
  | t => match look S d with
    | .ins k _ => if kn k then some false else none
    | _ => isiD S d t
def isiXs (kn : String → Bool) (S : Store) (d : D) : List Ty → Option Bool
  | [] => some false
  | t :: r => match isiX kn S d t with
    | some true => some true
    | some false => isiXs kn S d r
    | none => none
def Prog.kn (pr : Prog) (c : String) : Bool := (pr.ct c).isSome
def wipeD (σ : DSt) : List Nat → DSt
  | [] => σ
  | v :: vs => (wipeD σ vs).set v none
/-! ### freezing -/
def frzL (f : Store → D → Option (D × Store)) : Store → List D → Option (List D × Store)
  | S, [] => some ([], S)
  | S, d :: r => match f S d with
    | some (e, S1) => match frzL f S1 r with
      | some (q, S2) => some (e :: q, S2)
      | none => none
    | none => none
def frzF (f : Store → D → Option (D × Store)) : Store → List (String × D) → Option (List (String × D) × Store)
  | S, [] => some ([], S)
  | S, (x, d) :: r => match f S d with
    | some (e, S1) => match frzF f S1 r with
      | some (q, S2) => some ((x, e) :: q, S2)
      | none => none
    | none => none
def frzD : Nat → Store → D → Option (D × Store)
  | 0, S, d => if d.pf then some (d, S) else none
  | k + 1, S, d => if d.pf then some (d, S) else match d with
    | .ptr n => match S[n]? with
      | some (.frz e) => some (e, S)
      | some (.lst xs) => match frzL (frzD k) S xs with
        | some (ys, S1) => match S1[n]? with
          | some (.lst _) => some (.lst ys, S1.set n (.frz (.lst ys)))
          | _ => none
        | none => none
      | some (.ins c fs) => match frzF (frzD k) S fs with
        | some (gs, S1) => match S1[n]? with
          | some (.ins _ _) => some (.ins c gs, S1.set n (.frz (.ins c gs)))
          | _ => none
        | none => none
      | none => none
    | .tup xs => match frzL (frzD k) S xs with
      | some (ys, S1) => some (.tup ys, S1)
      | none => none
    | .lst xs => match frzL (frzD k) S xs with
      | some (ys, S1) => some (.lst ys, S1)
      | none => none
    | .ins c fs => match frzF (frzD k) S fs with
      | some (gs, S1) => some (.ins c gs, S1)
      | none => none
    | _ => none
/-! ### the evaluator: cb runs a def -/
abbrev Cb := String → List D → Store → Res D
def frzK : Nat := 6
def frzE (S : Store) (d : D) : Res D :=
  match frzD frzK S d with
  | some (e, S1) => .ok e S1
  | none => .bad
/-- a + b of lists, the new list a cell -/
def catD (S : Store) (a b : D) : Res D :=
  match look S a, look S b with
  | .lst xs, .lst ys => if xs.length + ys.length ≤ sizeLine then .ok (.ptr S.length) (S ++ [.lst (xs ++ ys)]) else .bad
  | _, _ => .bad
/-- a run that sees frozen data only: its own store is empty -/
def pureK (k : List D → Store → Res D) (ds : List D) (S : Store) : Res D :=
  match frzL (frzD frzK) S ds with
  | some (es, S1) => match k es [] with
    | .ok d S2 => match frzD frzK S2 d with
      | some (d', _) => .ok d' S1
      | none => .bad
    | .ex x _ => if pfF x.fs then .ex x S1 else .bad
    | .bad => .bad
  | none => .bad
def callP (cb : Cb) (f : String) (ds : List D) (S : Store) : Res D := pureK (cb f) ds S
def callM (cb : Cb) (m : Mode) (f : String) (ds : List D) (S : Store) : Res D :=
  match m with
  | .pure => callP cb f ds S
  | .st => cb f ds S
/-- a new instance, behind its __init__ -/
def mkK (k : List D → Store → Res D) (c : String) (ds : List D) (S : Store) : Res D :=
  match k (.ptr S.length :: ds) (S ++ [.ins c []]) with
  | .ok .non S1 => .ok (.ptr S.length) S1
  | .ok _ _ => .bad
  | .ex x S1 => .ex x S1
  | .bad => .bad
def mkM (cb : Cb) (m : Mode) (c f : String) (ds : List D) (S : Store) : Res D :=
  match m with
  | .pure => pureK (mkK (cb f) c) ds S
  | .st => mkK (cb f) c ds S
/-- an instance's class and fields -/
def insD (S : Store) (d : D) : Option (String × List (String × D)) :=
  match look S d with
  | .ins k fs => some (k, fs)
  | _ => none
def Prog.lacks (pr : Prog) (c x : String) : Bool :=
  match pr.ct c with
  | some k => k.flds.contains x
  | none => false
def Prog.meth (pr : Prog) (c x : String) : Option (String × Mode) :=
  match pr.ct c with
  | some k => k.meths.lookup x
  | none => none
def fldD (pr : Prog) (x : String) (S : Store) (d : D) : Res D :=
  match insD S d with
  | some (c, fs) => if pr.lacks c x then match fs.lookup x with
    | some e => .ok e S
    | none => .bad
    else .bad
  | none => .bad
/-- the method x of what d is -/
def methD (pr : Prog) (x : String) (S : Store) (d : D) : Option (String × Mode) :=
  match insD S d with
  | some (c, fs) => if (fs.lookup x).isNone then pr.meth c x else none
  | none => none
def putD (x : String) (d : D) : List (String × D) → List (String × D)
  | [] => [(x, d)]
  | (y, e) :: r => if y = x then (x, d) :: r else (y, e) :: putD x d r
def sfldD (pr : Prog) (x : String) (S : Store) (o d : D) : Option Store :=
  match o with
  | .ptr n => match S[n]? with
    | some (.ins c fs) => if pr.lacks c x = true ∧ fs.length < 1000 then some (S.set n (.ins c (putD x d fs))) else none
    | _ => none
  | _ => none
/-- o[k] = d, o a list that is a cell -/
def sidxD (S : Store) (o k d : D) : Option Store :=
  match o, k with
  | .ptr n, .int j => match S[n]? with
    | some (.lst xs) => match L2.ixN xs.length j with
      | some m => some (S.set n (.lst (xs.set m d)))
      | none => none
    | _ => none
  | _, _ => none
def isInt : D → Bool
  | .int _ => true
  | _ => false
/-- the operators' method names -/
def Bop.dn : Bop → String
  | .add => "__add__"
  | .sub => "__sub__"
  | .mul => "__mul__"
  | .fdiv => "__floordiv__"
  | .mod => "__mod__"
  | .pow => "__pow__"
def Bop.rn : Bop → String
  | .add => "__radd__"
  | .sub => "__rsub__"
  | .mul => "__rmul__"
  | .fdiv => "__rfloordiv__"
  | .mod => "__rmod__"
  | .pow => "__rpow__"
def Bop.rok : Bop → Bool
  | .add => true
  | .sub => true
  | .mul => true
  | .fdiv => true
  | _ => false
/-- the reflected name is a method of the class, or none -/
def Prog.rok (pr : Prog) (c : String) (op : Bop) : Bool := pr.lacks c op.rn || (op.rok && (pr.meth c op.rn).isSome)
def callO (cb : Cb) (o : Option (String × Mode)) (ds : List D) (S : Store) : Res D :=
  match o with
  | some (f, m) => callM cb m f ds S
  | none => .bad
/-- a op b, the class's own where one side is an instance -/
def binX (pr : Prog) (cb : Cb) (op : Bop) (S : Store) (a b : D) : Res D :=
  match insD S a with
  | some (c, _) => match insD S b with
    | some (c2, _) => if c2 = c then callO cb (pr.meth c op.dn) [a, b] S else .bad
    | none => if isInt b && pr.rok c op then callO cb (pr.meth c op.dn) [a, b] S else .bad
  | none => match insD S b with
    | some (c, _) => if isInt a && (op.rok && (pr.meth c op.dn).isSome) then callO cb (pr.meth c op.rn) [b, a] S else .bad
    | none => binD op S a b
def negX (pr : Prog) (cb : Cb) (S : Store) (a : D) : Res D :=
  match insD S a with
  | some (c, _) => callO cb (pr.meth c "__neg__") [a] S
  | none => match a with
    | .int i => .ok (.int (-i)) S
    | _ => .bad
def asBl (r : Res D) (k : Bool → Bool) : Res D :=
  r.bind fun d S => match d with
    | .bl b => .ok (.bl (k b)) S
    | _ => .bad
def unT : D → List D
  | .tup xs => xs
  | _ => []
def tru (S : Store) (d : D) (k : Bool → Res D) : Res D :=
  match truD (look S d) with
  | some b => k b
  | none => .bad
/-- the turns of a comprehension -/
def compL (f : D → Store → Res (Option D)) : List D → Store → Res (List D)
  | [], S => .ok [] S
  | x :: r, S => (f x S).bind fun o S1 => (compL f r S1).bind fun ys S2 => .ok (o.toList ++ ys) S2
def noEx {α : Type} : Res α → Res α
  | .ex _ _ => .bad
  | r => r
/-- a source that no one changes -/
def still (S : Store) : D → Bool
  | .ptr n => match S[n]? with
    | some (.frz _) => true
    | _ => false
  | _ => true
def sameC (S : Store) (c : String) (b : D) : Bool :=
  match insD S b with
  | some (c2, _) => c2 == c
  | none => false
/-- a < b, a <= b by the class's own; a > b, a >= b by the other side's -/
def ordX (pr : Prog) (cb : Cb) (c : String) (S : Store) (a b : D) : Cop → Res D
  | .lt => asBl (callO cb (pr.meth c "__lt__") [a, b] S) id
  | .le => asBl (callO cb (pr.meth c "__le__") [a, b] S) id
  | .gt => asBl (callO cb (pr.meth c "__lt__") [b, a] S) id
  | .ge => asBl (callO cb (pr.meth c "__le__") [b, a] S) id
  | _ => .bad
/-- a == b, a != b, the class's own where the left side is an instance -/
def cmpX (pr : Prog) (cb : Cb) (op : Cop) (S : Store) (a b : D) : Res D :=
  match insD S a with
  | some (c, _) =>
    if op = .eq ∨ op = .ne then
      if isInt b || (match insD S b with
        | some (c2, _) => c2 == c
        | none => false) then asBl (callO cb (pr.meth c "__eq__") [a, b] S) (fun t => (op == .ne) != t) else .bad
    else if op = .is_ ∨ op = .isn then ofB S (cmpB op S a b)
    else if sameC S c b then ordX pr cb c S a b op else .bad
  | none => ofB S (cmpB op S a b)
/-- a built-in, called; bool(x) asks an instance -/
def biX (pr : Prog) (cb : Cb) (b : Bi) (S : Store) (ds : List D) : Res D :=
  match b, ds with
  | .bool, [d] => match insD S d with
    | some (c, _) => asBl (callO cb (pr.meth c "__bool__") [d] S) id
    | none => biD .bool S [d]
  | b, ds => biD b S ds
def mkX (pr : Prog) (cb : Cb) (c : String) (ds : List D) (S : Store) : Res D :=
  match pr.ct c with
  | some k => match k.init with
    | some (f, m) => mkM cb m c f ds S
    | none => .bad
  | none => .bad
/-- what is walked: the items; does it still stand -/
structure Src where
  xs : List D
  ok : Store → Bool
def sameSrc (S : Store) (d : D) (xs : List D) : Bool :=
  match look S d with
  | .lst ys => sameBL ys xs
  | _ => false
def seqG (st : Bool) (d : D) : Option (List D) → Option Src
  | some xs => some ⟨xs, if st then fun _ => true else fun S => sameSrc S d xs⟩
  | none => none
def seqD (S : Store) (d : D) : Option Src := seqG (still S d) d (itemsD S d)
def alikeS (S : Store) (a b : D) : Bool :=
  match look S a, look S b with
  | .lst _, .lst _ => true
  | .tup _, .tup _ => true
  | _, _ => false
def zipG : Bool → Option Src → Option Src → Option Src
  | true, some s, some t => some ⟨(List.zip s.xs t.xs).map fun p => .tup [p.1, p.2], fun S => s.ok S && t.ok S⟩
  | _, _, _ => none
def enumL : Nat → List D → List D
  | _, [] => []
  | i, x :: r => .tup [.int i, x] :: enumL (i + 1) r
def isLst (S : Store) (d : D) : Bool :=
  match look S d with
  | .lst _ => true
  | _ => false
def enumG : Bool → Option Src → Option Src
  | true, some s => some ⟨enumL 0 s.xs, s.ok⟩
  | _, _ => none
def revG : Bool → Option Src → Option Src
  | true, some s => some ⟨s.xs.reverse, s.ok⟩
  | _, _ => none
def srcD (k : ItK) (S : Store) (d : D) : Option Src :=
  match k, d with
  | .seq, d => seqD S d
  | .zip, .tup [a, b] => zipG (alikeS S a b) (seqD S a) (seqD S b)
  | .enum, .tup [a] => enumG (isLst S a) (seqD S a)
  | .rev, .tup [a] => revG (isLst S a) (seqD S a)
  | _, _ => none
/-- the turns of a comprehension, each with the source as it was -/
def compK (ok : Store → Bool) (f : D → Store → Res (Option D)) : List D → Store → Res (List D)
  | [], S => if ok S then .ok [] S else .bad
  | x :: r, S => if ok S then (f x S).bind fun o S1 => (compK ok f r S1).bind fun ys S2 => .ok (o.toList ++ ys) S2 else .bad
def newL (nw : Bool) (S : Store) (xs : List D) : Res D := if nw then .ok (.ptr S.length) (S ++ [.lst xs]) else .ok (.lst xs) S
def setL : List Nat → List D → DSt → Option DSt
  | [], [], σ => some σ
  | i :: is, x :: xs, σ => setL is xs (σ.set i (some x))
  | _, _, _ => none
def setT : Tg → DSt → D → Option DSt
  | .n i, σ, x => some (σ.set i (some x))
  | .t is, σ, .tup xs => setL is xs σ
  | _, _, _ => none
def evE (pr : Prog) (cb : Cb) : E → DSt → Store → Res D
  | .var i, σ, S => match σ[i]? with
    | some (some d) => .ok d S
    | _ => .bad
  | .int i, _, S => .ok (.int i) S
  | .bl b, _, S => .ok (.bl b) S
  | .non, _, S => .ok .non S
  | .nopart, _, S => .ok .non S
  | .part e, σ, S => (evE pr cb e σ S).bind fun x S1 => match x with
    | .int i => .ok (.int i) S1
    | _ => .bad
  | .str s, _, S => .ok (.str (Str.ofString s)) S
  | .gint _ i, _, S => .ok (.int i) S
  | .bin op a b, σ, S => (evE pr cb a σ S).bind fun x S1 => (evE pr cb b σ S1).bind fun y S2 => binX pr cb op S2 x y
  | .neg a, σ, S => (evE pr cb a σ S).bind fun x S1 => negX pr cb S1 x
  | .not a, σ, S => (evE pr cb a σ S).bind fun x S1 => tru S1 x fun b => .ok (.bl (!b)) S1
  | .cmp op a b, σ, S => (evE pr cb a σ S).bind fun x S1 => (evE pr cb b σ S1).bind fun y S2 => cmpX pr cb op S2 x y
  | .chain o1 o2 a b c, σ, S => (evE pr cb a σ S).bind fun x S1 => (evE pr cb b σ S1).bind fun y S2 => match cmpB o1 S2 x y with
    | some true => (evE pr cb c σ S2).bind fun z S3 => ofB S3 (cmpB o2 S3 y z)
    | some false => .ok (.bl false) S2
    | none => .bad
  | .and a b, σ, S => (evE pr cb a σ S).bind fun x S1 => tru S1 x fun t => if t then evE pr cb b σ S1 else .ok x S1
  | .or a b, σ, S => (evE pr cb a σ S).bind fun x S1 => tru S1 x fun t => if t then .ok x S1 else evE pr cb b σ S1
  | .ife c a b, σ, S => (evE pr cb c σ S).bind fun x S1 => tru S1 x fun t => if t then evE pr cb a σ S1 else evE pr cb b σ S1
  | .tup as, σ, S => (evE pr cb as σ S).bind fun x S1 => if (unT x).length ≤ sizeLine then .ok (.tup (unT x)) S1 else .bad
  | .lst as, σ, S => (evE pr cb as σ S).bind fun x S1 => if (unT x).length ≤ sizeLine then .ok (.lst (unT x)) S1 else .bad
  | .cell as, σ, S => (evE pr cb as σ S).bind fun x S1 => if (unT x).length ≤ sizeLine then .ok (.ptr S1.length) (S1 ++ [.lst (unT x)]) else .bad
  | .anil, _, S => .ok (.tup []) S
  | .acons e r, σ, S => (evE pr cb e σ S).bind fun x S1 => (evE pr cb r σ S1).bind fun y S2 => .ok (.tup (x :: unT y)) S2
  | .idx a i, σ, S => (evE pr cb a σ S).bind fun x S1 => (evE pr cb i σ S1).bind fun y S2 => idxD S2 x y
  | .cut a lo hi, σ, S => (evE pr cb a σ S).bind fun x S1 => (evE pr cb lo σ S1).bind fun y S2 => withPart y fun l => (evE pr cb hi σ S2).bind fun z S3 => withPart z fun h => cutD S3 x l h
  | .call m f as, σ, S => (evE pr cb as σ S).bind fun x S1 => callM cb m f (unT x) S1
  | .bi b as, σ, S => (evE pr cb as σ S).bind fun x S1 => biX pr cb b S1 (unT x)
  | .isi e cs, σ, S => (evE pr cb e σ S).bind fun x S1 => ofB S1 (isiXs pr.kn S1 x cs)
  | .app o e, σ, S => (evE pr cb o σ S).bind fun x S1 => match x with
    | .ptr n => match S1[n]? with
      | some (.lst _) => (evE pr cb e σ S1).bind fun y S2 => match S2[n]? with
        | some (.lst xs) => if xs.length < sizeLine then .ok .non (S2.set n (.lst (xs ++ [y]))) else .bad
        | _ => .bad
      | _ => .bad
    | _ => .bad
  | .cnd e, σ, S => evE pr cb e σ S
  | .frz e, σ, S => (evE pr cb e σ S).bind fun x S1 => frzE S1 x
  | .stuck, _, _ => .bad
  | .fld x o, σ, S => (evE pr cb o σ S).bind fun d S1 => fldD pr x S1 d
  | .mk c as, σ, S => (evE pr cb as σ S).bind fun x S1 => mkX pr cb c (unT x) S1
  | .meth x o as, σ, S => (evE pr cb o σ S).bind fun d S1 => match methD pr x S1 d with
    | some (f, m) => (evE pr cb as σ S1).bind fun y S2 => callM cb m f (d :: unT y) S2
    | none => .bad
  | .catc a b, σ, S => (evE pr cb a σ S).bind fun x S1 => (evE pr cb b σ S1).bind fun y S2 => catD S2 x y
  | .irng1 a, σ, S => (evE pr cb a σ S).bind fun x S1 => match rngD [x] with
    | some xs => .ok (.lst xs) S1
    | none => .bad
  | .irng2 a b, σ, S => (evE pr cb a σ S).bind fun x S1 => (evE pr cb b σ S1).bind fun y S2 => match rngD [x, y] with
    | some xs => .ok (.lst xs) S2
    | none => .bad
  | .comp nw own k tg it c elt, σ, S => (evE pr cb it σ S).bind fun d S1 => match srcD k S1 d with
    | some s => (compK s.ok (fun x S => match setT tg (wipeD σ own) x with
      | some σ1 => noEx ((evE pr cb c σ1 S).bind fun y S2 => match truD (look S2 y) with
        | some true => (evE pr cb elt σ1 S2).bind fun z S3 => .ok (some z) S3
        | some false => .ok none S2
        | none => .bad)
      | none => .bad) s.xs S1).bind fun ys S2 => if ys.length ≤ sizeLine then newL nw S2 ys else .bad
    | none => .bad
  | .rev a, σ, S => (evE pr cb a σ S).bind fun x S1 => match look S1 x with
    | .lst xs => .ok (.lst xs.reverse) S1
    | _ => .bad

def augI (op : Bop) (x y : D) : Option Int :=
  match op, x, y with
  | .add, .int i, .int j => some (i + j)
  | .sub, .int i, .int j => some (i - j)
  | _, _, _ => none
inductive SR where
  | nx (σ : DSt) (S : Store) | rt (d : D) (S : Store) | bk (σ : DSt) (S : Store) | ct (σ : DSt) (S : Store)
  | ex (x : Exn) (σ : DSt) (S : Store) | bad
def Res.sr {α : Type} (r : Res α) (σ : DSt) (f : α → Store → SR) : SR :=
  match r with
  | .ok a S => f a S
  | .ex x S => .ex x σ S
  | .bad => .bad
def forL (f : D → DSt → Store → SR) : List D → DSt → Store → SR
  | [], σ, S => .nx σ S
  | x :: r, σ, S => match f x σ S with
    | .nx σ1 S1 => forL f r σ1 S1
    | .ct σ1 S1 => forL f r σ1 S1
    | .bk σ1 S1 => .nx σ1 S1
    | .rt d S1 => .rt d S1
    | .ex x σ1 S1 => .ex x σ1 S1
    | .bad => .bad
/-- the turns of a for, each with the source as it was -/
def forK (ok : Store → Bool) (f : D → DSt → Store → SR) : List D → DSt → Store → SR
  | [], σ, S => if ok S then .nx σ S else .bad
  | x :: r, σ, S => if ok S then match f x σ S with
    | .nx σ1 S1 => forK ok f r σ1 S1
    | .ct σ1 S1 => forK ok f r σ1 S1
    | .bk σ1 S1 => .nx σ1 S1
    | .rt d S1 => .rt d S1
    | .ex x σ1 S1 => .ex x σ1 S1
    | .bad => .bad
    else .bad
def whlL (c : DSt → Store → Res D) (f : DSt → Store → SR) : Nat → DSt → Store → SR
  | 0, _, _ => .bad
  | n + 1, σ, S => (c σ S).sr σ fun x S1 => match truD (look S1 x) with
    | some true => match f σ S1 with
      | .nx σ1 S2 => whlL c f n σ1 S2
      | .ct σ1 S2 => whlL c f n σ1 S2
      | .bk σ1 S2 => .nx σ1 S2
      | .rt d S2 => .rt d S2
      | .ex x σ1 S2 => .ex x σ1 S2
      | .bad => .bad
    | some false => .nx σ S1
    | none => .bad
/-- a value of an except suite; the caught exception -/
def xeD (pr : Prog) (x : Exn) (σ : DSt) : XE → Option D
  | .str s => some (.str (Str.ofString s))
  | .int i => some (.int i)
  | .non => some .non
  | .bl b => some (.bl b)
  | .fld f => match pr.xt x.cls with
    | some k => match k.ini with
      | some l => if l.contains f then x.fs.lookup f else none
      | none => none
    | none => none
  | .isi c => match pr.xt x.cls with
    | some k => some (.bl (k.ups.contains c))
    | none => none
  | .not a => match xeD pr x σ a with
    | some (.bl b) => some (.bl (!b))
    | _ => none
  | .and a b => match xeD pr x σ a with
    | some (.bl false) => some (.bl false)
    | some (.bl true) => match xeD pr x σ b with
      | some (.bl k) => some (.bl k)
      | _ => none
    | _ => none
  | .var i => match σ[i]? with
    | some (some d) => some d
    | _ => none
  | .tup as => match xeD pr x σ as with
    | some (.tup xs) => if xs.length ≤ sizeLine then some (.tup xs) else none
    | _ => none
  | .anil => some (.tup [])
  | .acons e r => match xeD pr x σ e with
    | some d => match xeD pr x σ r with
      | some (.tup xs) => some (.tup (d :: xs))
      | _ => none
    | none => none
def xeL (pr : Prog) (x : Exn) : List (Nat × XE) → DSt → Option DSt
  | [], σ => some σ
  | (i, e) :: r, σ => match xeD pr x σ e with
    | some d => xeL pr x r (σ.set i (some d))
    | none => none
/-- an exception of an own class, made -/
def exnD (pr : Prog) (c : String) (ds : List D) : Option Exn :=
  match pr.xt c with
  | some k => match k.ini with
    | some l => if l.length = ds.length then some ⟨c, (l.zip ds).reverse⟩ else none
    | none => if ds.isEmpty then some ⟨c, []⟩ else none
  | none => none
/-- a class without fields is called with a text alone -/
def raQ (o : Option (List String)) (as : E) : Bool :=
  match o, as with
  | none, .anil => true
  | some _, .acons _ _ => true
  | _, _ => false
def raB (pr : Prog) (c : String) (as : E) : Bool :=
  match pr.xt c with
  | some k => raQ k.ini as
  | none => false
def unO (o : Option Nat) (σ : DSt) : DSt := match o with
  | some i => σ.set i none
  | none => σ
/-- the except clauses -/
def hdS (pr : Prog) (x : Exn) (σ : DSt) (S : Store) : Sx → SR
  | .hnil => .ex x σ S
  | .hcons c i as r h => match pr.xt x.cls with
    | some k => if k.ups.contains c then
        match xeL pr x as (unO i σ) with
        | some σ1 => match xeD pr x σ1 r with
          | some d => .rt d S
          | none => .bad
        | none => .bad
      else hdS pr x σ S h
    | none => .bad
  | _ => .bad
def exS (pr : Prog) (cb : Cb) : Sx → DSt → Store → SR
  | .nil, σ, S => .nx σ S
  | .pass, σ, S => .nx σ S
  | .brk, σ, S => .bk σ S
  | .cont, σ, S => .ct σ S
  | .seq a b, σ, S => match exS pr cb a σ S with
    | .nx σ1 S1 => exS pr cb b σ1 S1
    | r => r
  | .asg i e, σ, S => (evE pr cb e σ S).sr σ fun d S1 => .nx (σ.set i (some d)) S1
  | .aug op i e, σ, S => match σ[i]? with
    | some (some x) => (evE pr cb e σ S).sr σ fun y S1 => match augI op x y with
      | some k => .nx (σ.set i (some (.int k))) S1
      | none => .bad
    | _ => .bad
  | .stuck, _, _ => .bad
  | .sfld x o e, σ, S => (evE pr cb e σ S).sr σ fun d S1 => (evE pr cb o σ S1).sr σ fun p S2 => match sfldD pr x S2 p d with
    | some S3 => .nx σ S3
    | none => .bad
  | .sidx o i e, σ, S => (evE pr cb e σ S).sr σ fun d S1 => (evE pr cb o σ S1).sr σ fun p S2 => (evE pr cb i σ S2).sr σ fun k S3 => match sidxD S3 p k d with
    | some S4 => .nx σ S4
    | none => .bad
  | .raise c as, σ, S => if raB pr c as then (evE pr cb as σ S).sr σ fun x S1 => match exnD pr c (unT x) with
    | some y => .ex y σ S1
    | none => .bad
    else .bad
  | .try_ b h, σ, S => match exS pr cb b σ S with
    | .ex x σ1 S1 => hdS pr x σ1 S1 h
    | r => r
  | .hnil, _, _ => .bad
  | .hcons _ _ _ _ _, _, _ => .bad
  | .ex e, σ, S => (evE pr cb e σ S).sr σ fun _ S1 => .nx σ S1
  | .ret e, σ, S => (evE pr cb e σ S).sr σ fun d S1 => .rt d S1
  | .retN, _, S => .rt .non S
  | .ifs c a b, σ, S => (evE pr cb c σ S).sr σ fun x S1 => match truD (look S1 x) with
    | some true => exS pr cb a σ S1
    | some false => exS pr cb b σ S1
    | none => .bad
  | .whl n c b, σ, S => whlL (evE pr cb c) (exS pr cb b) n σ S
  | .for_ k tg it b, σ, S => (evE pr cb it σ S).sr σ fun d S1 => match srcD k S1 d with
    | some s => forK s.ok (fun x σ S => match setT tg σ x with
      | some σ1 => exS pr cb b σ1 S
      | none => .bad) s.xs σ S1
    | none => .bad

def startD (n : Nat) (ds : List D) : DSt := ds.map some ++ List.replicate (n - ds.length) none
def endR : SR → Res D
  | .nx _ S => .ok .non S
  | .rt d S => .ok d S
  | .ex x _ S => .ex x S
  | _ => .bad
def run (P : Prog) : Nat → Cb
  | 0 => fun _ _ _ => .bad
  | n + 1 => fun f ds S => match P.fn f with
    | some F => if ds.length = F.np then endR (exS P (run P n) F.body (startD F.ns ds) S) else .bad
    | none => .bad
end MX
end

section
set_option maxRecDepth 100000
namespace MX
open PySem L2

/-- what is known of the heap beside the state: the frozen part, the cells' addresses, their number -/
structure Gh where
  F : Hp
  am : Nat → Addr
  n : Nat
/-- what stays through a def's run: the written part, the classes' addresses, the ground that is kept, the frozen part at the entry -/
structure Fix where
  K : PySem.W.Frag
  ca : String → Addr
  B : Hp
  F0 : Hp

mutual
inductive RelD (K : PySem.W.Frag) (ca : String → Addr) (g : Gh) : V → D → Prop
  | non : RelD K ca g .non .non
  | bl (b : Bool) : RelD K ca g (.bl b) (.bl b)
  | int (i : Int) : RelD K ca g (.int i) (.int i)
  | str (s : Str) : RelD K ca g (.str s) (.str s)
  | lst {a : Addr} {vs : List V} {xs : List D} : g.F a = some (.lst vs) → RelL K ca g vs xs → RelD K ca g (.ref a) (.lst xs)
  | tup {a : Addr} {vs : List V} {xs : List D} : g.F a = some (.tup vs) → RelL K ca g vs xs → RelD K ca g (.ref a) (.tup xs)
  | ins {a dx : Addr} {c : String} {vs : List (Str × V)} {fs : List (String × D)} : g.F a = some (.ins (ca c) dx vs) → RelF K ca g vs fs → RelD K ca g (.ref a) (.ins c fs)
  | ptr {n : Nat} : n < g.n → RelD K ca g (.ref (g.am n)) (.ptr n)
  | scr {a : Addr} {ns : List Int} : SqL K g.F a (ns.map V.int) → RelD K ca g (.ref a) (.scr ns)
inductive RelL (K : PySem.W.Frag) (ca : String → Addr) (g : Gh) : List V → List D → Prop
  | nil : RelL K ca g [] []
  | cons {v : V} {vs : List V} {d : D} {ds : List D} : RelD K ca g v d → RelL K ca g vs ds → RelL K ca g (v :: vs) (d :: ds)
inductive RelF (K : PySem.W.Frag) (ca : String → Addr) (g : Gh) : List (Str × V) → List (String × D) → Prop
  | nil : RelF K ca g [] []
  | cons {x : String} {v : V} {vs : List (Str × V)} {d : D} {ds : List (String × D)} : RelD K ca g v d → RelF K ca g vs ds → RelF K ca g ((Str.ofString x, v) :: vs) ((x, d) :: ds)
end

/-- more is known -/
structure Gh.le (g g' : Gh) : Prop where
  F : ∀ a o, g.F a = some o → g'.F a = some o
  am : ∀ n, n < g.n → g'.am n = g.am n
  n : g.n ≤ g'.n
theorem Gh.le.refl (g : Gh) : g.le g := ⟨fun _ _ h => h, fun _ _ => rfl, Nat.le_refl _⟩
theorem Gh.le.trans {a b c : Gh} (h : a.le b) (k : b.le c) : a.le c :=
  ⟨fun x o e => k.F x o (h.F x o e), fun n hn => (k.am n (Nat.lt_of_lt_of_le hn h.n)).trans (h.am n hn), Nat.le_trans h.n k.n⟩

section
variable {K : PySem.W.Frag} {ca : String → Addr} {g g' : Gh}
mutual
theorem RelD.mono (l : g.le g') : ∀ {v : V} {d : D}, RelD K ca g v d → RelD K ca g' v d
  | _, _, .non => .non
  | _, _, .bl b => .bl b
  | _, _, .int i => .int i
  | _, _, .str s => .str s
  | _, _, .lst e r => .lst (l.F _ _ e) (RelL.mono l r)
  | _, _, .tup e r => .tup (l.F _ _ e) (RelL.mono l r)
  | _, _, .ins e r => .ins (l.F _ _ e) (RelF.mono l r)
  | _, _, .ptr h => by rw [← l.am _ h]; exact .ptr (Nat.lt_of_lt_of_le h l.n)
  | _, _, .scr h => .scr ((show Same g.F g'.F from l.F).seq h)
theorem RelL.mono (l : g.le g') : ∀ {vs : List V} {ds : List D}, RelL K ca g vs ds → RelL K ca g' vs ds
  | _, _, .nil => .nil
  | _, _, .cons a b => .cons (RelD.mono l a) (RelL.mono l b)
theorem RelF.mono (l : g.le g') : ∀ {vs : List (Str × V)} {ds : List (String × D)}, RelF K ca g vs ds → RelF K ca g' vs ds
  | _, _, .nil => .nil
  | _, _, .cons a b => .cons (RelD.mono l a) (RelF.mono l b)
end
theorem RelL.length : ∀ {vs : List V} {ds : List D}, RelL K ca g vs ds → vs.length = ds.length
  | _, _, .nil => rfl
  | _, _, .cons _ b => congrArg (· + 1) (RelL.length b)
theorem RelL.append : ∀ {vs ws : List V} {ds es : List D}, RelL K ca g vs ds → RelL K ca g ws es → RelL K ca g (vs ++ ws) (ds ++ es)
  | _, _, _, _, .nil, h => h
  | _, _, _, _, .cons a b, h => .cons a (RelL.append b h)
theorem RelL.one {v : V} {d : D} (r : RelD K ca g v d) : RelL K ca g [v] [d] := .cons r .nil
theorem RelL.take : ∀ {vs : List V} {ds : List D} (n : Nat), RelL K ca g vs ds → RelL K ca g (vs.take n) (ds.take n)
  | _, _, 0, _ => .nil
  | _, _, _ + 1, .nil => .nil
  | _, _, n + 1, .cons a b => .cons a (RelL.take n b)
theorem RelL.drop : ∀ {vs : List V} {ds : List D} (n : Nat), RelL K ca g vs ds → RelL K ca g (vs.drop n) (ds.drop n)
  | _, _, 0, h => h
  | _, _, _ + 1, .nil => .nil
  | _, _, n + 1, .cons _ b => RelL.drop n b
theorem RelL.rep {vs : List V} {ds : List D} (h : RelL K ca g vs ds) : ∀ k : Nat, RelL K ca g (List.replicate k vs).flatten (List.replicate k ds).flatten
  | 0 => .nil
  | k + 1 => by
    rw [List.replicate_succ, List.replicate_succ, List.flatten_cons, List.flatten_cons]
    exact RelL.append h (RelL.rep h k)
theorem RelL.get : ∀ {vs : List V} {ds : List D} {i : Nat} {d : D}, RelL K ca g vs ds → ds[i]? = some d → ∃ v, vs[i]? = some v ∧ RelD K ca g v d
  | _, _, _, _, .nil, e => by simp at e
  | _, _, 0, _, .cons r _, e => by simp at e; subst e; exact ⟨_, rfl, r⟩
  | _, _, i + 1, x, .cons _ t, e => by
    obtain ⟨u, h1, h2⟩ := RelL.get (i := i) (d := x) t (by simpa using e)
    exact ⟨u, by simpa using h1, h2⟩
theorem RelL.getV : ∀ {vs : List V} {ds : List D} {i : Nat} {v : V}, RelL K ca g vs ds → vs[i]? = some v → ∃ d, ds[i]? = some d ∧ RelD K ca g v d
  | _, _, _, _, .nil, e => by simp at e
  | _, _, 0, _, .cons r _, e => by simp at e; subst e; exact ⟨_, rfl, r⟩
  | _, _, i + 1, x, .cons _ t, e => by
    obtain ⟨u, h1, h2⟩ := RelL.getV (i := i) (v := x) t (by simpa using e)
    exact ⟨u, by simpa using h1, h2⟩
theorem RelL.set {v : V} {d : D} (r : RelD K ca g v d) : ∀ {vs : List V} {ds : List D} (i : Nat), RelL K ca g vs ds → RelL K ca g (vs.set i v) (ds.set i d)
  | _, _, _, .nil => .nil
  | _, _, 0, .cons _ t => .cons r t
  | _, _, i + 1, .cons q t => .cons q (RelL.set r i t)
theorem RelL.at {vs : List V} {ds : List D} {i : Int} {d : D} (r : RelL K ca g vs ds) (e : atI ds i = some d) : ∃ v, atI vs i = some v ∧ RelD K ca g v d := by
  unfold atI at e ⊢
  rw [r.length]
  cases q : ixN ds.length i with
  | none => rw [q] at e; cases e
  | some j =>
    rw [q] at e
    exact r.get e
theorem RelL.cut {vs : List V} {ds : List D} (r : RelL K ca g vs ds) (lo hi : Option Int) : RelL K ca g (cutV vs lo hi) (cutL ds lo hi) := by
  unfold cutV cutL
  rw [r.length]
  exact (r.drop _).take _
theorem RelL.ints : ∀ {vs : List V} {ds : List D} {ns : List Int}, RelL K ca g vs ds → intsD ds = some ns → vs = ns.map V.int
  | _, _, ns, .nil, e => by cases e; rfl
  | _, _, ns, .cons (d := d) r t, e => by
    cases r with
    | int i =>
      unfold intsD at e
      cases q : intsD _ with
      | none => rw [q] at e; cases e
      | some ms =>
        rw [q] at e
        cases e
        rw [List.map_cons, t.ints q]
    | _ => cases e
/-- a truth value, or a whole number's truth -/
def TrV (v : V) (b : Bool) : Prop := v = .bl b ∨ ∃ i : Int, v = .int i ∧ b = (i != 0)
theorem RelL.bls : ∀ {vs : List V} {ds : List D} {ns : List Bool}, RelL K ca g vs ds → blsD ds = some ns → Paired TrV vs ns
  | _, _, ns, .nil, e => by cases e; exact .nil
  | _, _, ns, .cons (d := d) r t, e => by
    cases r with
    | bl i =>
      unfold blsD at e
      cases q : blsD _ with
      | none => rw [q] at e; cases e
      | some ms =>
        rw [q] at e
        cases e
        exact .cons (.inl rfl) (t.bls q)
    | int i =>
      unfold blsD at e
      cases q : blsD _ with
      | none => rw [q] at e; cases e
      | some ms =>
        rw [q] at e
        cases e
        exact .cons (.inr ⟨i, rfl, rfl⟩) (t.bls q)
    | _ => cases e
end


section
variable {K : PySem.W.Frag} {ca : String → Addr} {g : Gh}
theorem RelD.iLst {v : V} {xs : List D} (h : RelD K ca g v (.lst xs)) : ∃ a vs, v = .ref a ∧ g.F a = some (.lst vs) ∧ RelL K ca g vs xs := by
  cases h with
  | lst h1 h2 => exact ⟨_, _, rfl, h1, h2⟩
theorem RelD.iTup {v : V} {xs : List D} (h : RelD K ca g v (.tup xs)) : ∃ a vs, v = .ref a ∧ g.F a = some (.tup vs) ∧ RelL K ca g vs xs := by
  cases h with
  | tup h1 h2 => exact ⟨_, _, rfl, h1, h2⟩
theorem RelD.iIns {v : V} {c : String} {fs : List (String × D)} (h : RelD K ca g v (.ins c fs)) : ∃ a dx vs, v = .ref a ∧ g.F a = some (.ins (ca c) dx vs) ∧ RelF K ca g vs fs := by
  cases h with
  | ins h1 h2 => exact ⟨_, _, _, rfl, h1, h2⟩
theorem RelD.iScr {v : V} {ns : List Int} (h : RelD K ca g v (.scr ns)) : ∃ a, v = .ref a ∧ SqL K g.F a (ns.map V.int) := by
  cases h with
  | scr h1 => exact ⟨_, rfl, h1⟩
theorem RelD.iInt {v : V} {i : Int} (h : RelD K ca g v (.int i)) : v = .int i := by cases h; rfl
theorem RelD.iBl {v : V} {i : Bool} (h : RelD K ca g v (.bl i)) : v = .bl i := by cases h; rfl
theorem RelD.iStr {v : V} {i : Str} (h : RelD K ca g v (.str i)) : v = .str i := by cases h; rfl
theorem RelD.iNon {v : V} (h : RelD K ca g v .non) : v = .non := by cases h; rfl
theorem RelD.iPtr {v : V} {n : Nat} (h : RelD K ca g v (.ptr n)) : v = .ref (g.am n) ∧ n < g.n := by
  cases h with
  | ptr h1 => exact ⟨rfl, h1⟩
end
/-- a live cell's object -/
def CellOk (fx : Fix) (g : Gh) (H : Hp) (a : Addr) : Cell → Prop
  | .lst xs => g.F a = none ∧ fx.B a = none ∧ ∃ vs, H a = some (.lst vs) ∧ RelL fx.K fx.ca g vs xs
  | .ins c fs => g.F a = none ∧ fx.B a = none ∧ ∃ dx vs, H a = some (.ins (fx.ca c) dx vs) ∧ RelF fx.K fx.ca g vs fs
  | .frz d => d.pf = true ∧ RelD fx.K fx.ca g (.ref a) d
def live : Cell → Bool
  | .frz _ => false
  | _ => true

/-- the store and the frozen part, held by the heap -/
structure R (fx : Fix) (g : Gh) (S : Store) (H : Hp) : Prop where
  frame : ∀ a o, fx.B a = some o → H a = some o
  frz : ∀ a o, g.F a = some o → H a = some o
  fresh : ∀ a o, g.F a = some o → fx.F0 a = some o ∨ fx.B a = none
  f0 : ∀ a o, fx.F0 a = some o → g.F a = some o
  n : g.n = S.length
  cells : ∀ n c, S[n]? = some c → CellOk fx g H (g.am n) c
  inj : ∀ n m c d, S[n]? = some c → S[m]? = some d → live c = true → live d = true → g.am n = g.am m → n = m
/-- the slots -/
structure Sl (fx : Fix) (g : Gh) (dσ : DSt) (σ : L2.St) : Prop where
  len : dσ.length = σ.length
  at_ : ∀ (i : Nat) (d : D), dσ[i]? = some (some d) → ∃ v : V, σ[i]? = some (some v) ∧ RelD fx.K fx.ca g v d
theorem Sl.mono {fx : Fix} {g g' : Gh} {dσ : DSt} {σ : L2.St} (s : Sl fx g dσ σ) (l : g.le g') : Sl fx g' dσ σ :=
  ⟨s.len, fun i d e => by obtain ⟨v, h1, h2⟩ := s.at_ i d e; exact ⟨v, h1, h2.mono l⟩⟩
theorem Sl.set {fx : Fix} {g : Gh} {dσ : DSt} {σ : L2.St} (s : Sl fx g dσ σ) (i : Nat) {v : V} {d : D} (r : RelD fx.K fx.ca g v d) : Sl fx g (dσ.set i (some d)) (σ.set i (some v)) := by
  refine ⟨by rw [List.length_set, List.length_set, s.len], fun j e h => ?_⟩
  by_cases hij : i = j
  · subst hij
    by_cases hl : i < dσ.length
    · rw [List.getElem?_set_self hl] at h
      cases h
      exact ⟨v, by rw [List.getElem?_set_self (by rw [← s.len]; exact hl)], r⟩
    · rw [List.getElem?_eq_none (by rw [List.length_set]; omega)] at h
      cases h
  · rw [List.getElem?_set_ne hij] at h
    obtain ⟨u, h1, h2⟩ := s.at_ j e h
    exact ⟨u, by rw [List.getElem?_set_ne hij]; exact h1, h2⟩
theorem Sl.unset {fx : Fix} {g : Gh} {dσ : DSt} {σ : L2.St} (s : Sl fx g dσ σ) (i : Nat) : Sl fx g (dσ.set i none) (σ.set i none) := by
  refine ⟨by rw [List.length_set, List.length_set, s.len], fun j e h => ?_⟩
  by_cases hij : i = j
  · subst hij
    by_cases hl : i < dσ.length
    · rw [List.getElem?_set_self hl] at h
      cases h
    · rw [List.getElem?_eq_none (by rw [List.length_set]; omega)] at h
      cases h
  · rw [List.getElem?_set_ne hij] at h
    obtain ⟨u, h1, h2⟩ := s.at_ j e h
    exact ⟨u, by rw [List.getElem?_set_ne hij]; exact h1, h2⟩
theorem Sl.wipe {fx : Fix} {g : Gh} {dσ : DSt} {σ : L2.St} (s : Sl fx g dσ σ) : ∀ vs : List Nat, Sl fx g (wipeD dσ vs) (L2.wipe σ vs)
  | [] => s
  | v :: vs => (Sl.wipe s vs).unset v

section
variable {fx : Fix} {g : Gh} {S : Store} {H : Hp}
/-- an object just made, frozen at once -/
theorem R.laid (r : R fx g S H) {p : Addr} {o : HO} (hp : H p = none) : R fx { g with F := upd g.F p o } S (upd H p o) ∧ g.le { g with F := upd g.F p o } := by
  have nF : g.F p = none := by
    cases q : g.F p with
    | none => rfl
    | some u => rw [r.frz p u q] at hp; cases hp
  have nB : fx.B p = none := by
    cases q : fx.B p with
    | none => rfl
    | some u => rw [r.frame p u q] at hp; cases hp
  have le : g.le { g with F := upd g.F p o } := ⟨fun a u e => by
    show upd g.F p o a = some u
    rw [upd_ne (ne_of_none e nF)]
    exact e, fun _ _ => rfl, Nat.le_refl _⟩
  refine ⟨⟨fun a u e => ?_, fun a u e => ?_, fun a u e => ?_, fun a u e => ?_, r.n, fun n c e => ?_, r.inj⟩, le⟩
  · rw [upd_ne (ne_of_none e nB)]
    exact r.frame a u e
  · have e : upd g.F p o a = some u := e
    by_cases hq : a = p
    · subst hq
      rw [upd_same] at e ⊢
      exact e
    · rw [upd_ne hq] at e ⊢
      exact r.frz a u e
  · have e : upd g.F p o a = some u := e
    by_cases hq : a = p
    · subst hq
      exact .inr nB
    · rw [upd_ne hq] at e
      exact r.fresh a u e
  · exact le.F a u (r.f0 a u e)
  · have h := r.cells n c e
    have np : ∀ u, H (g.am n) = some u → g.am n ≠ p := fun u z => ne_of_none z hp
    cases c with
    | lst xs =>
      obtain ⟨h1, h2, vs, h3, h4⟩ := h
      have k := np _ h3
      exact ⟨by show upd g.F p o (g.am n) = none; rw [upd_ne k]; exact h1, h2, vs, by show upd H p o (g.am n) = _; rw [upd_ne k]; exact h3, h4.mono le⟩
    | ins c fs =>
      obtain ⟨h1, h2, dx, vs, h3, h4⟩ := h
      have k := np _ h3
      exact ⟨by show upd g.F p o (g.am n) = none; rw [upd_ne k]; exact h1, h2, dx, vs, by show upd H p o (g.am n) = _; rw [upd_ne k]; exact h3, h4.mono le⟩
    | frz d => exact ⟨h.1, h.2.mono le⟩
/-- what the heap grew by does not matter -/
theorem R.same {H' : Hp} (r : R fx g S H) (h : Same H H') : R fx g S H' := by
  refine ⟨fun a o e => h a o (r.frame a o e), fun a o e => h a o (r.frz a o e), r.fresh, r.f0, r.n, fun n c e => ?_, r.inj⟩
  have q := r.cells n c e
  cases c with
  | lst xs =>
    obtain ⟨h1, h2, vs, h3, h4⟩ := q
    exact ⟨h1, h2, vs, h _ _ h3, h4⟩
  | ins c fs =>
    obtain ⟨h1, h2, dx, vs, h3, h4⟩ := q
    exact ⟨h1, h2, dx, vs, h _ _ h3, h4⟩
  | frz d => exact q
/-- a value, looked at: a live list cell, a live instance, or data -/
theorem R.look (r : R fx g S H) {v : V} {d : D} (h : RelD fx.K fx.ca g v d) :
    (∃ n xs, d = .ptr n ∧ v = .ref (g.am n) ∧ S[n]? = some (.lst xs) ∧ MX.look S d = .lst xs) ∨ (∃ n c fs, d = .ptr n ∧ v = .ref (g.am n) ∧ S[n]? = some (.ins c fs) ∧ MX.look S d = .ins c fs) ∨
    RelD fx.K fx.ca g v (MX.look S d) := by
  cases d with
  | ptr n =>
    obtain ⟨rfl, hn⟩ := h.iPtr
    rw [r.n] at hn
    have hc : S[n]? = some S[n] := List.getElem?_eq_getElem hn
    have q := r.cells n _ hc
    cases hd : S[n] with
    | lst xs =>
      rw [hd] at hc
      refine .inl ⟨n, xs, rfl, rfl, hc, ?_⟩
      unfold MX.look
      simp only [hc]
    | ins c fs =>
      rw [hd] at hc
      refine .inr (.inl ⟨n, c, fs, rfl, rfl, hc, ?_⟩)
      unfold MX.look
      simp only [hc]
    | frz d =>
      rw [hd] at hc q
      refine .inr (.inr ?_)
      unfold MX.look
      simp only [hc]
      exact q.2
  | _ => exact .inr (.inr h)
/-- a list to be read -/
theorem R.lst (r : R fx g S H) {v : V} {d : D} {xs : List D} (h : RelD fx.K fx.ca g v d) (e : MX.look S d = .lst xs) : ∃ a vs, v = .ref a ∧ H a = some (.lst vs) ∧ RelL fx.K fx.ca g vs xs := by
  rcases r.look h with ⟨n, ys, rfl, rfl, hc, e'⟩ | ⟨n, c, fs, rfl, rfl, hc, e'⟩ | k
  · rw [e] at e'
    cases e'
    obtain ⟨_, _, vs, h3, h4⟩ := r.cells n _ hc
    exact ⟨_, vs, rfl, h3, h4⟩
  · rw [e] at e'
    cases e'
  · rw [e] at k
    obtain ⟨a, vs, rfl, h1, h2⟩ := k.iLst
    exact ⟨a, vs, rfl, r.frz _ _ h1, h2⟩
/-- what is no list and no instance is data -/
theorem R.dat (r : R fx g S H) {v : V} {d e : D} (h : RelD fx.K fx.ca g v d) (q : MX.look S d = e) (n1 : ∀ xs, e ≠ .lst xs) (n2 : ∀ c fs, e ≠ .ins c fs) : RelD fx.K fx.ca g v e := by
  rcases r.look h with ⟨n, ys, rfl, rfl, hc, e'⟩ | ⟨n, c, fs, rfl, rfl, hc, e'⟩ | k
  · exact absurd (q.symm.trans e') (n1 _)
  · exact absurd (q.symm.trans e') (n2 _ _)
  · rw [q] at k
    exact k
theorem R.tup (r : R fx g S H) {v : V} {d : D} {xs : List D} (h : RelD fx.K fx.ca g v d) (e : MX.look S d = .tup xs) : ∃ a vs, v = .ref a ∧ H a = some (.tup vs) ∧ RelL fx.K fx.ca g vs xs := by
  obtain ⟨a, vs, rfl, h1, h2⟩ := (r.dat h e (fun _ z => by cases z) (fun _ _ z => by cases z)).iTup
  exact ⟨a, vs, rfl, r.frz _ _ h1, h2⟩
theorem R.scr (r : R fx g S H) {v : V} {d : D} {ns : List Int} (h : RelD fx.K fx.ca g v d) (e : MX.look S d = .scr ns) : ∃ a, v = .ref a ∧ SqL fx.K H a (ns.map V.int) := by
  obtain ⟨a, rfl, h1⟩ := (r.dat h e (fun _ z => by cases z) (fun _ _ z => by cases z)).iScr
  exact ⟨a, rfl, (show Same g.F H from r.frz).seq h1⟩
theorem R.int (r : R fx g S H) {v : V} {d : D} {i : Int} (h : RelD fx.K fx.ca g v d) (e : MX.look S d = .int i) : v = .int i := (r.dat h e (fun _ z => by cases z) (fun _ _ z => by cases z)).iInt
theorem R.bl (r : R fx g S H) {v : V} {d : D} {i : Bool} (h : RelD fx.K fx.ca g v d) (e : MX.look S d = .bl i) : v = .bl i := (r.dat h e (fun _ z => by cases z) (fun _ _ z => by cases z)).iBl
theorem R.str (r : R fx g S H) {v : V} {d : D} {i : Str} (h : RelD fx.K fx.ca g v d) (e : MX.look S d = .str i) : v = .str i := (r.dat h e (fun _ z => by cases z) (fun _ _ z => by cases z)).iStr
theorem R.non (r : R fx g S H) {v : V} {d : D} (h : RelD fx.K fx.ca g v d) (e : MX.look S d = .non) : v = .non := (r.dat h e (fun _ z => by cases z) (fun _ _ z => by cases z)).iNon
/-- a live list cell is written -/
theorem R.put (r : R fx g S H) {n : Nat} {ys xs : List D} {vs : List V} (hc : S[n]? = some (.lst ys)) (h : RelL fx.K fx.ca g vs xs) : R fx g (S.set n (.lst xs)) (upd H (g.am n) (.lst vs)) := by
  obtain ⟨nF, nB, ws, hw, _⟩ := r.cells n _ hc
  have hn : n < S.length := (List.getElem?_eq_some_iff.mp hc).1
  refine ⟨fun a o e => ?_, fun a o e => ?_, r.fresh, r.f0, by rw [List.length_set]; exact r.n, fun m c e => ?_, fun m k c d hm hk lc ld e => ?_⟩
  · rw [upd_ne (ne_of_none e nB)]
    exact r.frame a o e
  · rw [upd_ne (ne_of_none e nF)]
    exact r.frz a o e
  · by_cases hm : n = m
    · subst hm
      rw [List.getElem?_set_self hn] at e
      cases e
      exact ⟨nF, nB, vs, upd_same, h⟩
    · rw [List.getElem?_set_ne hm] at e
      have q := r.cells m c e
      cases c with
      | lst zs =>
        obtain ⟨h1, h2, us, h3, h4⟩ := q
        have ne : g.am m ≠ g.am n := fun z => hm (r.inj n m _ _ hc e rfl rfl z.symm)
        exact ⟨h1, h2, us, by rw [upd_ne ne]; exact h3, h4⟩
      | ins c fs =>
        obtain ⟨h1, h2, dx, us, h3, h4⟩ := q
        have ne : g.am m ≠ g.am n := fun z => hm (r.inj n m _ _ hc e rfl rfl z.symm)
        exact ⟨h1, h2, dx, us, by rw [upd_ne ne]; exact h3, h4⟩
      | frz d => exact q
  · have key : ∀ j c, (S.set n (.lst xs))[j]? = some c → live c = true → ∃ c', S[j]? = some c' ∧ live c' = true := fun j c hj lj => by
      by_cases hm : n = j
      · subst hm
        exact ⟨_, hc, rfl⟩
      · rw [List.getElem?_set_ne hm] at hj
        exact ⟨c, hj, lj⟩
    obtain ⟨c', h1, l1⟩ := key m c hm lc
    obtain ⟨d', h2, l2⟩ := key k d hk ld
    exact r.inj m k c' d' h1 h2 l1 l2 e
/-- an instance's fields are changed -/
theorem R.putIns (r : R fx g S H) {n : Nat} {k0 : String} {ys xs : List (String × D)} {vs : List (Str × V)} {dx : Addr} (hc : S[n]? = some (.ins k0 ys)) (h : RelF fx.K fx.ca g vs xs) : R fx g (S.set n (.ins k0 xs)) (upd H (g.am n) (.ins (fx.ca k0) dx vs)) := by
  obtain ⟨nF, nB, dx0, ws, hw, _⟩ := r.cells n _ hc
  have hn : n < S.length := (List.getElem?_eq_some_iff.mp hc).1
  refine ⟨fun a o e => ?_, fun a o e => ?_, r.fresh, r.f0, by rw [List.length_set]; exact r.n, fun m c e => ?_, fun m k c d hm hk lc ld e => ?_⟩
  · rw [upd_ne (ne_of_none e nB)]
    exact r.frame a o e
  · rw [upd_ne (ne_of_none e nF)]
    exact r.frz a o e
  · by_cases hm : n = m
    · subst hm
      rw [List.getElem?_set_self hn] at e
      cases e
      exact ⟨nF, nB, dx, vs, upd_same, h⟩
    · rw [List.getElem?_set_ne hm] at e
      have q := r.cells m c e
      cases c with
      | lst zs =>
        obtain ⟨h1, h2, us, h3, h4⟩ := q
        have ne : g.am m ≠ g.am n := fun z => hm (r.inj n m _ _ hc e rfl rfl z.symm)
        exact ⟨h1, h2, us, by rw [upd_ne ne]; exact h3, h4⟩
      | ins c fs =>
        obtain ⟨h1, h2, dx, us, h3, h4⟩ := q
        have ne : g.am m ≠ g.am n := fun z => hm (r.inj n m _ _ hc e rfl rfl z.symm)
        exact ⟨h1, h2, dx, us, by rw [upd_ne ne]; exact h3, h4⟩
      | frz d => exact q
  · have key : ∀ j c, (S.set n (.ins k0 xs))[j]? = some c → live c = true → ∃ c', S[j]? = some c' ∧ live c' = true := fun j c hj lj => by
      by_cases hm : n = j
      · subst hm
        exact ⟨_, hc, rfl⟩
      · rw [List.getElem?_set_ne hm] at hj
        exact ⟨c, hj, lj⟩
    obtain ⟨c', h1, l1⟩ := key m c hm lc
    obtain ⟨d', h2, l2⟩ := key k d hk ld
    exact r.inj m k c' d' h1 h2 l1 l2 e
/-- a new cell -/
theorem R.cell (r : R fx g S H) {p : Addr} {xs : List D} {vs : List V} (hp : H p = none) (h : RelL fx.K fx.ca g vs xs) :
    ∃ g' : Gh, g.le g' ∧ g'.am S.length = p ∧ g'.n = S.length + 1 ∧ R fx g' (S ++ [.lst xs]) (upd H p (.lst vs)) := by
  have nF : g.F p = none := by
    cases q : g.F p with
    | none => rfl
    | some u => rw [r.frz p u q] at hp; cases hp
  have nB : fx.B p = none := by
    cases q : fx.B p with
    | none => rfl
    | some u => rw [r.frame p u q] at hp; cases hp
  let g' : Gh := { F := g.F, am := fun n => if n = S.length then p else g.am n, n := S.length + 1 }
  have le : g.le g' := ⟨fun _ _ e => e, fun n hn => by
    show (if n = S.length then p else g.am n) = g.am n
    rw [if_neg (by rw [r.n] at hn; omega)], by rw [r.n]; exact Nat.le_succ _⟩
  have amo : ∀ n c, S[n]? = some c → g'.am n = g.am n := fun n c e => le.am n (by rw [r.n]; exact (List.getElem?_eq_some_iff.mp e).1)
  have amn : g'.am S.length = p := if_pos rfl
  have old : ∀ n c, (S ++ [Cell.lst xs])[n]? = some c → (S[n]? = some c) ∨ (n = S.length ∧ c = .lst xs) := fun n c e => by
    by_cases hn : n < S.length
    · rw [List.getElem?_append_left hn] at e
      exact .inl e
    · rw [List.getElem?_append_right (by omega)] at e
      have h2 := (List.getElem?_eq_some_iff.mp e).1
      have h3 : n - S.length = 0 := by
        rw [List.length_singleton] at h2
        omega
      rw [h3] at e
      cases e
      exact .inr ⟨by omega, rfl⟩
  have nep : ∀ n c, S[n]? = some c → live c = true → g.am n ≠ p := fun n c e l => by
    have q := r.cells n c e
    cases c with
    | lst ys =>
      obtain ⟨_, _, us, h3, _⟩ := q
      exact ne_of_none h3 hp
    | ins c fs =>
      obtain ⟨_, _, dx, us, h3, _⟩ := q
      exact ne_of_none h3 hp
    | frz d => cases l
  refine ⟨g', le, amn, rfl, ⟨fun a o e => ?_, fun a o e => ?_, r.fresh, r.f0, by rw [List.length_append]; rfl, fun n c e => ?_, fun m k c d hm hk lc ld e => ?_⟩⟩
  · rw [upd_ne (ne_of_none e nB)]
    exact r.frame a o e
  · rw [upd_ne (ne_of_none (show g.F a = some o from e) nF)]
    exact r.frz a o e
  · rcases old n c e with e1 | ⟨rfl, rfl⟩
    · have q := r.cells n c e1
      rw [amo n c e1]
      cases c with
      | lst ys =>
        obtain ⟨h1, h2, us, h3, h4⟩ := q
        exact ⟨h1, h2, us, by rw [upd_ne (nep n _ e1 rfl)]; exact h3, h4.mono le⟩
      | ins c fs =>
        obtain ⟨h1, h2, dx, us, h3, h4⟩ := q
        exact ⟨h1, h2, dx, us, by rw [upd_ne (nep n _ e1 rfl)]; exact h3, h4.mono le⟩
      | frz d => exact ⟨q.1, q.2.mono le⟩
    · rw [amn]
      exact ⟨nF, nB, vs, upd_same, h.mono le⟩
  · rcases old m c hm with hm | ⟨rfl, rfl⟩
    · rcases old k d hk with hk | ⟨rfl, rfl⟩
      · rw [amo m c hm, amo k d hk] at e
        exact r.inj m k c d hm hk lc ld e
      · rw [amo m c hm, amn] at e
        exact absurd e (nep m c hm lc)
    · rcases old k d hk with hk | ⟨rfl, rfl⟩
      · rw [amo k d hk, amn] at e
        exact absurd e.symm (nep k d hk ld)
      · rfl
/-- a new cell, of any kind -/
theorem R.cellG (r : R fx g S H) {p : Addr} {c0 : Cell} {o0 : HO} (hp : H p = none) (hl : live c0 = true) (h : ∀ (g' : Gh) (H' : Hp), g.le g' → g'.F = g.F → H' p = some o0 → CellOk fx g' H' p c0) :
    ∃ g' : Gh, g.le g' ∧ g'.am S.length = p ∧ g'.n = S.length + 1 ∧ R fx g' (S ++ [c0]) (upd H p o0) := by
  have nF : g.F p = none := by
    cases q : g.F p with
    | none => rfl
    | some u => rw [r.frz p u q] at hp; cases hp
  have nB : fx.B p = none := by
    cases q : fx.B p with
    | none => rfl
    | some u => rw [r.frame p u q] at hp; cases hp
  let g' : Gh := { F := g.F, am := fun n => if n = S.length then p else g.am n, n := S.length + 1 }
  have le : g.le g' := ⟨fun _ _ e => e, fun n hn => by
    show (if n = S.length then p else g.am n) = g.am n
    rw [if_neg (by rw [r.n] at hn; omega)], by rw [r.n]; exact Nat.le_succ _⟩
  have amo : ∀ n c, S[n]? = some c → g'.am n = g.am n := fun n c e => le.am n (by rw [r.n]; exact (List.getElem?_eq_some_iff.mp e).1)
  have amn : g'.am S.length = p := if_pos rfl
  have old : ∀ n c, (S ++ [c0])[n]? = some c → (S[n]? = some c) ∨ (n = S.length ∧ c = c0) := fun n c e => by
    by_cases hn : n < S.length
    · rw [List.getElem?_append_left hn] at e
      exact .inl e
    · rw [List.getElem?_append_right (by omega)] at e
      have h2 := (List.getElem?_eq_some_iff.mp e).1
      have h3 : n - S.length = 0 := by
        rw [List.length_singleton] at h2
        omega
      rw [h3] at e
      cases e
      exact .inr ⟨by omega, rfl⟩
  have nep : ∀ n c, S[n]? = some c → live c = true → g.am n ≠ p := fun n c e l => by
    have q := r.cells n c e
    cases c with
    | lst ys =>
      obtain ⟨_, _, us, h3, _⟩ := q
      exact ne_of_none h3 hp
    | ins c fs =>
      obtain ⟨_, _, dx, us, h3, _⟩ := q
      exact ne_of_none h3 hp
    | frz d => cases l
  refine ⟨g', le, amn, rfl, ⟨fun a o e => ?_, fun a o e => ?_, r.fresh, r.f0, by rw [List.length_append]; rfl, fun n c e => ?_, fun m k c d hm hk lc ld e => ?_⟩⟩
  · rw [upd_ne (ne_of_none e nB)]
    exact r.frame a o e
  · rw [upd_ne (ne_of_none (show g.F a = some o from e) nF)]
    exact r.frz a o e
  · rcases old n c e with e1 | ⟨rfl, rfl⟩
    · have q := r.cells n c e1
      rw [amo n c e1]
      cases c with
      | lst ys =>
        obtain ⟨h1, h2, us, h3, h4⟩ := q
        exact ⟨h1, h2, us, by rw [upd_ne (nep n _ e1 rfl)]; exact h3, h4.mono le⟩
      | ins c fs =>
        obtain ⟨h1, h2, dx, us, h3, h4⟩ := q
        exact ⟨h1, h2, dx, us, by rw [upd_ne (nep n _ e1 rfl)]; exact h3, h4.mono le⟩
      | frz d => exact ⟨q.1, q.2.mono le⟩
    · rw [amn]
      exact h g' _ le rfl upd_same
  · rcases old m c hm with hm1 | ⟨e1, _⟩
    · rcases old k d hk with hk1 | ⟨e2, _⟩
      · rw [amo m c hm1, amo k d hk1] at e
        exact r.inj m k c d hm1 hk1 lc ld e
      · rw [amo m c hm1, e2, amn] at e
        exact absurd e (nep m c hm1 lc)
    · rcases old k d hk with hk1 | ⟨e2, _⟩
      · rw [amo k d hk1, e1, amn] at e
        exact absurd e.symm (nep k d hk1 ld)
      · rw [e1, e2]
/-- a new instance: its dict, itself -/
theorem R.newIns (r : R fx g S H) {x dx : Addr} (c : String) (hx : H x = none) (hd : H dx = none) (ne : dx ≠ x) :
    ∃ g' : Gh, g.le g' ∧ g'.am S.length = x ∧ g'.n = S.length + 1 ∧ R fx g' (S ++ [.ins c []]) (upd (upd H dx (.own x)) x (.ins (fx.ca c) dx [])) := by
  obtain ⟨r1, l1⟩ := r.laid (o := .own x) hd
  have nFx : upd g.F dx (.own x) x = none := by
    rw [upd_ne (fun e => ne e.symm)]
    cases q : g.F x with
    | none => rfl
    | some u => rw [r.frz x u q] at hx; cases hx
  have nBx : fx.B x = none := by
    cases q : fx.B x with
    | none => rfl
    | some u => rw [r.frame x u q] at hx; cases hx
  obtain ⟨g', l, a, n, r2⟩ := r1.cellG (p := x) (c0 := .ins c []) (o0 := .ins (fx.ca c) dx []) (by rw [upd_ne (fun e => ne e.symm)]; exact hx) rfl fun g' H' l eF e => ⟨by rw [eF]; exact nFx, nBx, dx, [], e, .nil⟩
  exact ⟨g', l1.trans l, a, n, r2⟩
end
end MX
end

section
set_option maxRecDepth 100000
set_option maxHeartbeats 1000000
namespace MX
open PySem PySem.Spec PyProof.Rows L2

/-- an exception as the layer has it -/
def RelX (fx : Fix) (g : Gh) (cls : Value) (dx : Option Addr) (x : Exn) : Prop :=
  cls = .ref (fx.ca x.cls) ∧ ((x.fs = [] ∧ dx = none) ∨ ∃ d vs, dx = some d ∧ g.F d = some (.xd vs) ∧ RelF fx.K fx.ca g vs x.fs)

/-- what is wanted of an outcome -/
def ePost {α : Type} (fx : Fix) (W : WX) (g : Gh) (σ : L2.St) (T : Gh → α → Store → Hp → Prop) : Res α → Prop
  | .ok d S => ∀ g' H', g.le g' → R fx g' S H' → T g' d S H'
  | .ex x S => ∀ cls dx g' H', g.le g' → R fx g' S H' → RelX fx g' cls dx x → W cls dx σ H'
  | .bad => False
def tOf (fx : Fix) (Q : VK) : Gh → D → Store → Hp → Prop := fun g d _ H => ∀ v, RelD fx.K fx.ca g v d → Q v H
def tOfA (fx : Fix) (Q : List V → Hp → Prop) : Gh → D → Store → Hp → Prop := fun g d _ H => ∀ vs, RelL fx.K fx.ca g vs (unT d) → Q vs H
def tOfT (Q : Bool → Hp → Prop) : Gh → D → Store → Hp → Prop := fun _ d S H => ∃ b, truD (look S d) = some b ∧ Q b H

/-- the reading of an expression with the evaluation f -/
def tE (fx : Fix) (W : WX) (f : DSt → Store → Res D) : TE := fun σ H Q => ∃ g dσ S, R fx g S H ∧ Sl fx g dσ σ ∧ ePost fx W g σ (tOf fx Q) (f dσ S)
def tA (fx : Fix) (W : WX) (f : DSt → Store → Res D) : TA := fun σ H Q => ∃ g dσ S, R fx g S H ∧ Sl fx g dσ σ ∧ ePost fx W g σ (tOfA fx Q) (f dσ S)
def tT (fx : Fix) (W : WX) (f : DSt → Store → Res D) : TT := fun σ H Q => ∃ g dσ S, R fx g S H ∧ Sl fx g dσ σ ∧ ePost fx W g σ (tOfT Q) (f dσ S)

section
variable {α β : Type} {fx : Fix} {W : WX} {g : Gh} {σ : L2.St} {H : Hp} {dσ : DSt} {S : Store} {T : Gh → β → Store → Hp → Prop}
theorem ePost.up {g1 : Gh} {r : Res β} (h : ePost fx W g σ T r) (l : g.le g1) : ePost fx W g1 σ T r := by
  cases r with
  | ok d S => exact fun g' H' l' => h g' H' (l.trans l')
  | ex x S => exact fun cls dx g' H' l' => h cls dx g' H' (l.trans l')
  | bad => exact h
/-- the first of two steps -/
theorem tE.bind {f : DSt → Store → Res D} {k : D → Store → Res β} (h : ePost fx W g σ T ((f dσ S).bind k)) (r : R fx g S H) (sl : Sl fx g dσ σ) {Q' : VK}
    (hq : ∀ x S' v g' H', f dσ S = .ok x S' → g.le g' → R fx g' S' H' → RelD fx.K fx.ca g' v x → ePost fx W g' σ T (k x S') → Q' v H') : tE fx W f σ H Q' := by
  refine ⟨g, dσ, S, r, sl, ?_⟩
  cases e : f dσ S with
  | ok x S' =>
    rw [e] at h
    intro g' H' l r' v rv
    exact hq x S' v g' H' e l r' rv (ePost.up h l)
  | ex x S' =>
    rw [e] at h
    exact h
  | bad =>
    rw [e] at h
    exact h
theorem tA.bind {f : DSt → Store → Res D} {k : D → Store → Res β} (h : ePost fx W g σ T ((f dσ S).bind k)) (r : R fx g S H) (sl : Sl fx g dσ σ) {Q' : List V → Hp → Prop}
    (hq : ∀ x S' vs g' H', f dσ S = .ok x S' → g.le g' → R fx g' S' H' → RelL fx.K fx.ca g' vs (unT x) → ePost fx W g' σ T (k x S') → Q' vs H') : tA fx W f σ H Q' := by
  refine ⟨g, dσ, S, r, sl, ?_⟩
  cases e : f dσ S with
  | ok x S' =>
    rw [e] at h
    intro g' H' l r' v rv
    exact hq x S' v g' H' e l r' rv (ePost.up h l)
  | ex x S' =>
    rw [e] at h
    exact h
  | bad =>
    rw [e] at h
    exact h
theorem tT.bind {f : DSt → Store → Res D} {k : D → Store → Res β} (h : ePost fx W g σ T ((f dσ S).bind k)) (r : R fx g S H) (sl : Sl fx g dσ σ) {Q' : Bool → Hp → Prop}
    (hq : ∀ x S' g' H', f dσ S = .ok x S' → g.le g' → R fx g' S' H' → ePost fx W g' σ T (k x S') → ∃ b, truD (look S' x) = some b ∧ Q' b H') : tT fx W f σ H Q' := by
  refine ⟨g, dσ, S, r, sl, ?_⟩
  cases e : f dσ S with
  | ok x S' =>
    rw [e] at h
    intro g' H' l r'
    exact hq x S' g' H' e l r' (ePost.up h l)
  | ex x S' =>
    rw [e] at h
    exact h
  | bad =>
    rw [e] at h
    exact h
end
/-- the last step: a value -/
theorem ePost.ret {fx : Fix} {W : WX} {g : Gh} {σ : L2.St} {H : Hp} {S : Store} {Q : VK} {d : D} {v : V} (h : ePost fx W g σ (tOf fx Q) (.ok d S)) (r : R fx g S H) (rv : RelD fx.K fx.ca g v d) : Q v H := h g H (Gh.le.refl g) r v rv
/-- a new object, frozen -/
theorem ePost.new {fx : Fix} {W : WX} {g : Gh} {σ : L2.St} {H : Hp} {S : Store} {Q : VK} {d : D} (h : ePost fx W g σ (tOf fx Q) (.ok d S)) (r : R fx g S H) {o : HO} {p : Addr} (hp : H p = none)
    (rv : ∀ g' : Gh, g.le g' → g'.F p = some o → RelD fx.K fx.ca g' (.ref p) d) : Q (.ref p) (upd H p o) := by
  obtain ⟨r', l⟩ := r.laid (o := o) hp
  exact h _ _ l r' _ (rv _ l (show upd g.F p o p = some o from upd_same))

theorem pe_imp {X : Cx} {e : Expr} {t t' : TE} (h : PE X e t) (i : ∀ σ H Q, t' σ H Q → t σ H Q) : PE X e t' := ⟨fun pins s σ H Q I q => h.run pins s σ H Q I (i σ H Q q)⟩
theorem pa_imp {X : Cx} {e : List Expr} {t t' : TA} (h : PA X e t) (i : ∀ σ H Q, t' σ H Q → t σ H Q) : PA X e t' := ⟨fun pos pins s σ H Q I q => h.run pos pins s σ H Q I (i σ H Q q)⟩
theorem pt_imp {X : Cx} {e : Expr} {t t' : TT} (h : PT X e t) (i : ∀ σ H Q, t' σ H Q → t σ H Q) : PT X e t' := ⟨fun pins s σ H Q I q => h.run pins s σ H Q I (i σ H Q q)⟩
theorem pw_imp {X : Cx} {e : Expr} {t t' : TT} (h : PW X e t) (i : ∀ σ H Q, t' σ H Q → t σ H Q) : PW X e t' := ⟨fun whole pins s σ H Q I q => h.run whole pins s σ H Q I (i σ H Q q)⟩
theorem ps_imp {X : Cx} {e : Stmt} {t t' : TS} (h : PS X e t) (i : ∀ D σ H, t' D σ H → t D σ H) : PS X e t' := ⟨fun pins s σ H Q I q => h.run pins s σ H Q I (i Q σ H q)⟩
theorem pss_imp {X : Cx} {e : List Stmt} {t t' : TS} (h : PSs X e t) (i : ∀ D σ H, t' D σ H → t D σ H) : PSs X e t' := ⟨fun pins s σ H Q I q => h.run pins s σ H Q I (i Q σ H q)⟩
/-- by cases on what is known -/
theorem pe_any {X : Cx} {e : Expr} {t : TE} (h : ∀ σ H Q, t σ H Q → ∃ t', PE X e t' ∧ t' σ H Q) : PE X e t := ⟨fun pins s σ H Q I q => by
  obtain ⟨t', p, q'⟩ := h σ H Q q
  exact p.run pins s σ H Q I q'⟩

/-! ### operators by values -/
/-- an operator's reading -/
def rD (fx : Fix) (W : WX) (f : Store → D → D → Res D) (σ : L2.St) : R2 := fun v w H Q => ∃ g S x y, R fx g S H ∧ RelD fx.K fx.ca g v x ∧ RelD fx.K fx.ca g w y ∧ ePost fx W g σ (tOf fx Q) (f S x y)
def OpD (X : Cx) (fx : Fix) (W : WX) (op : Value → Value → Sem Value) (f : Store → D → D → Res D) : Prop :=
  ∀ (pins : List (Addr × Obj)) (s : Shared) (σ : L2.St) (H : Hp) (x y : V) (v u : Value) (Q : VK), Inv X pins σ H s → RelV x v → RelV y u → rD fx W f σ x y H Q →
    wpAny (model X.prog X.w) X.A (op v u) (EP X pins σ Q) X.xe s
def Bop.op : Bop → Operator
  | .add => .Add
  | .sub => .Sub
  | .mul => .Mult
  | .fdiv => .FloorDiv
  | .mod => .Mod
  | .pow => .Pow
theorem binI_run {X : Cx} {op : Bop} {i j k : Int} (e : binI op i j = some k) : ∀ (pins : List (Addr × Obj)) (s : Shared) (σ : L2.St) (H : Hp) (v u : Value) (Q : VK), Inv X pins σ H s → RelV (.int i) v → RelV (.int j) u → Q (.int k) H →
    wpAny (model X.prog X.w) X.A (binaryOp op.op v u) (EP X pins σ Q) X.xe s := by
  intro pins s σ H v u Q I rx ry q
  cases op with
  | add => cases e; exact op_add pins s σ H _ _ v u Q I rx ry ⟨i, j, rfl, rfl, q⟩
  | sub => cases e; exact op_sub pins s σ H _ _ v u Q I rx ry ⟨i, j, rfl, rfl, q⟩
  | mul =>
    have e : (if ((-(2 ^ 64) < i ∧ i < 2 ^ 64) ∨ (-(2 ^ 64) < j ∧ j < 2 ^ 64)) ∨ wideM i j = true then some (i * j) else none) = some k := e
    by_cases h : ((-(2 ^ 64) < i ∧ i < 2 ^ 64) ∨ (-(2 ^ 64) < j ∧ j < 2 ^ 64)) ∨ wideM i j = true
    · rw [if_pos h] at e
      cases e
      rcases h with h | h
      · exact op_mul pins s σ H _ _ v u Q I rx ry ⟨i, j, rfl, rfl, h, q⟩
      · unfold wideM at h
        rw [Bool.and_eq_true, decide_eq_true_eq, decide_eq_true_eq] at h
        exact op_mulW pins s σ H _ _ v u Q I rx ry ⟨i, j, rfl, rfl, wide_mul h.1 h.2 (by decide) (by decide) (by decide), q⟩
    · rw [if_neg h] at e
      cases e
  | fdiv =>
    have e : (if (0 < j ∧ j < 1073741824) ∨ (0 < j ∧ wideM i j = true) then some (i / j) else none) = some k := e
    by_cases h : (0 < j ∧ j < 1073741824) ∨ (0 < j ∧ wideM i j = true)
    · rw [if_pos h] at e
      cases e
      rcases h with h | ⟨h0, h⟩
      · exact op_fdiv pins s σ H _ _ v u Q I rx ry ⟨i, j, rfl, rfl, h, q⟩
      · unfold wideM at h
        rw [Bool.and_eq_true, decide_eq_true_eq, decide_eq_true_eq] at h
        exact op_fdivW pins s σ H _ _ v u Q I rx ry ⟨i, j, rfl, rfl, wide_div h0 h.2 (by decide) (by decide), q⟩
    · rw [if_neg h] at e
      cases e
  | mod =>
    have e : (if 0 < j then some (i % j) else none) = some k := e
    by_cases h : 0 < j
    · rw [if_pos h] at e
      cases e
      exact op_mod pins s σ H _ _ v u Q I rx ry ⟨i, j, rfl, rfl, h, q⟩
    · rw [if_neg h] at e
      cases e
  | pow =>
    have e : (if 0 ≤ j ∧ j ≤ 1000000 ∧ i.natAbs < 2 ^ 64 then some (i ^ j.toNat) else none) = some k := e
    by_cases h : 0 ≤ j ∧ j ≤ 1000000 ∧ i.natAbs < 2 ^ 64
    · rw [if_pos h] at e
      cases e
      exact op_pow pins s σ H _ _ v u Q I rx ry ⟨i, j, rfl, rfl, h, q⟩
    · rw [if_neg h] at e
      cases e
theorem opD_bin {X : Cx} {fx : Fix} {W : WX} (op : Bop) (hK : fx.K = X.K) : OpD X fx W (binaryOp op.op) (binD op) := by
  intro pins s σ H x y v u Q I rx ry h
  obtain ⟨g, S, d, e, r, rd, re, h⟩ := h
  unfold binD at h
  split at h
  · rename_i i j e1 e2
    have h1 := r.int rd e1
    have h2 := r.int re e2
    subst h1 h2
    cases q : binI op i j with
    | none => rw [q] at h; exact h.elim
    | some k =>
      rw [q] at h
      exact binI_run q pins s σ H v u Q I rx ry (h.ret r (.int k))
  · rename_i a b e1 e2
    have h1 := r.str rd e1
    have h2 := r.str re e2
    subst h1 h2
    cases op with
    | add =>
      have h : ePost fx W g σ (tOf fx Q) (if a.length + b.length ≤ sizeLine then .ok (.str (a ++ b)) S else .bad) := h
      by_cases hz : a.length + b.length ≤ sizeLine
      · rw [if_pos hz] at h
        exact op_add_str pins s σ H _ _ v u Q I rx ry ⟨a, b, rfl, rfl, hz, h.ret r (.str _)⟩
      · rw [if_neg hz] at h
        exact h.elim
    | _ => exact h.elim
  · rename_i xs ys e1 e2
    obtain ⟨a, vs, rfl, ha, ra⟩ := r.lst rd e1
    obtain ⟨b, ws, rfl, hb, rb⟩ := r.lst re e2
    cases op with
    | add =>
      have h : ePost fx W g σ (tOf fx Q) (if xs.length + ys.length ≤ sizeLine then .ok (.lst (xs ++ ys)) S else .bad) := h
      by_cases hz : xs.length + ys.length ≤ sizeLine
      · rw [if_pos hz] at h
        exact op_cat pins s σ H _ _ v u Q I rx ry ⟨a, b, vs, ws, rfl, rfl, ha, hb, by rw [ra.length, rb.length]; exact hz, fun p hp => h.new r hp fun g' l e => .lst e ((ra.append rb).mono l)⟩
      · rw [if_neg hz] at h
        exact h.elim
    | _ => exact h.elim
  · rename_i xs ys e1 e2
    obtain ⟨a, vs, rfl, ha, ra⟩ := r.tup rd e1
    obtain ⟨b, ws, rfl, hb, rb⟩ := r.tup re e2
    cases op with
    | add =>
      have h : ePost fx W g σ (tOf fx Q) (if xs ≠ [] ∧ ys ≠ [] ∧ xs.length + ys.length ≤ sizeLine then .ok (.tup (xs ++ ys)) S else .bad) := h
      by_cases hz : xs ≠ [] ∧ ys ≠ [] ∧ xs.length + ys.length ≤ sizeLine
      · rw [if_pos hz] at h
        have nv : vs ≠ [] := fun z => hz.1 (by
          have := ra.length
          rw [z] at this
          exact List.eq_nil_of_length_eq_zero this.symm)
        have nw : ws ≠ [] := fun z => hz.2.1 (by
          have := rb.length
          rw [z] at this
          exact List.eq_nil_of_length_eq_zero this.symm)
        exact op_catT pins s σ H _ _ v u Q I rx ry ⟨a, b, vs, ws, rfl, rfl, SqT.of ha, SqT.of hb, nv, by rw [ra.length, rb.length]; exact hz.2.2, fun z => absurd z nw, fun _ p hp => h.new r hp fun g' l e => .tup e ((ra.append rb).mono l)⟩
      · rw [if_neg hz] at h
        exact h.elim
    | _ => exact h.elim
  · rename_i xs k e1 e2
    obtain ⟨a, vs, rfl, ha, ra⟩ := r.lst rd e1
    have h2 := r.int re e2
    subst h2
    cases op with
    | mul =>
      have h : ePost fx W g σ (tOf fx Q) (if -(2 ^ 63) ≤ k ∧ k < 2 ^ 63 ∧ xs.length * k.toNat ≤ sizeLine then .ok (.lst (List.replicate k.toNat xs).flatten) S else .bad) := h
      by_cases hz : -(2 ^ 63) ≤ k ∧ k < 2 ^ 63 ∧ xs.length * k.toNat ≤ sizeLine
      · rw [if_pos hz] at h
        exact op_rep pins s σ H _ _ v u Q I rx ry ⟨a, k, vs, rfl, rfl, ha, hz.1, hz.2.1, by rw [ra.length]; exact hz.2.2, fun p hp => h.new r hp fun g' l e => .lst e ((ra.rep k.toNat).mono l)⟩
      · rw [if_neg hz] at h
        exact h.elim
    | _ => exact h.elim
  · exact h.elim
/-! ### == -/
mutual
def toP : D → PyData
  | .bl b => .bool b
  | .int i => .int i
  | .str s => .str s
  | .lst xs => .list (toPL xs)
  | .tup xs => .tuple (toPL xs)
  | _ => .none
def toPL : List D → List PyData
  | [] => []
  | d :: r => toP d :: toPL r
end
theorem dpD_flat {n : Nat} {d : D} (h : flatS d = true) : dpD n d = true := by
  cases n with
  | zero => exact h
  | succ n =>
    cases d with
    | lst xs => cases h
    | tup xs => cases h
    | _ => exact h
section
variable {K : PySem.W.Frag} {ca : String → Addr} {g : Gh} {H : Hp}
mutual
theorem rel_dp (frz : ∀ a o, g.F a = some o → H a = some o) : ∀ (n : Nat) {v : V} {d : D}, RelD K ca g v d → dpD n d = true → Dp K H v (toP d)
  | n, _, _, .non, _ => by unfold toP; exact .non
  | n, _, _, .bl b, _ => by unfold toP; exact .bl b
  | n, _, _, .int i, _ => by unfold toP; exact .int i
  | n, _, _, .str s, _ => by unfold toP; exact .str s
  | 0, _, _, .lst e r, h => by cases h
  | n + 1, _, _, .lst e r, h => by
    unfold toP
    exact .lst (SqL.of (frz _ _ e)) (rel_dpL frz n r (List.all_eq_true.mp h))
  | 0, _, _, .tup e r, h => by cases h
  | n + 1, _, _, .tup e r, h => by
    unfold toP
    exact .tup (SqT.of (frz _ _ e)) (rel_dpL frz n r (List.all_eq_true.mp h))
  | 0, _, _, .ins e r, h => by cases h
  | _ + 1, _, _, .ins e r, h => by cases h
  | 0, _, _, .ptr e, h => by cases h
  | _ + 1, _, _, .ptr e, h => by cases h
  | 0, _, _, .scr e, h => by cases h
  | _ + 1, _, _, .scr e, h => by cases h
theorem rel_dpL (frz : ∀ a o, g.F a = some o → H a = some o) : ∀ (n : Nat) {vs : List V} {ds : List D}, RelL K ca g vs ds → (∀ d ∈ ds, dpD n d = true) → DpAll K H vs (toPL ds)
  | n, _, _, .nil, _ => by unfold toPL; exact .nil
  | n, _, _, .cons a b, h => by
    unfold toPL
    exact .cons (rel_dp frz n a (h _ List.mem_cons_self)) (rel_dpL frz n b fun d hd => h d (List.mem_cons_of_mem _ hd))
end
end
mutual
theorem dp_lay : ∀ (n : Nat) (d : D), dpD n d = true → (toP d).canLay0 = true ∧ (toP d).depth ≤ n
  | n, .non, _ => by unfold toP; exact ⟨rfl, by simp [PyData.depth]⟩
  | n, .bl b, _ => by unfold toP; exact ⟨rfl, by simp [PyData.depth]⟩
  | n, .int i, _ => by unfold toP; exact ⟨rfl, by simp [PyData.depth]⟩
  | 0, .str s, h => by unfold toP; exact ⟨h, by simp [PyData.depth]⟩
  | n + 1, .str s, h => by unfold toP; exact ⟨h, by simp [PyData.depth]⟩
  | 0, .lst xs, h => by cases h
  | n + 1, .lst xs, h => by
    obtain ⟨h1, h2⟩ := dp_layL n xs (List.all_eq_true.mp h)
    unfold toP
    refine ⟨by unfold PyData.canLay0; exact h1, ?_⟩
    simp only [PyData.depth]
    omega
  | 0, .tup xs, h => by cases h
  | n + 1, .tup xs, h => by
    obtain ⟨h1, h2⟩ := dp_layL n xs (List.all_eq_true.mp h)
    unfold toP
    refine ⟨by unfold PyData.canLay0; exact h1, ?_⟩
    simp only [PyData.depth]
    omega
  | 0, .ins c fs, h => by cases h
  | _ + 1, .ins c fs, h => by cases h
  | 0, .ptr c, h => by cases h
  | _ + 1, .ptr c, h => by cases h
  | 0, .scr c, h => by cases h
  | _ + 1, .scr c, h => by cases h
theorem dp_layL : ∀ (n : Nat) (ds : List D), (∀ d ∈ ds, dpD n d = true) → PyData.canLayAll0 (toPL ds) = true ∧ PyData.depthAll (toPL ds) ≤ n
  | n, [], _ => by unfold toPL; exact ⟨rfl, by simp [PyData.depthAll]⟩
  | n, d :: r, h => by
    obtain ⟨h1, h2⟩ := dp_lay n d (h d List.mem_cons_self)
    obtain ⟨h3, h4⟩ := dp_layL n r fun e he => h e (List.mem_cons_of_mem _ he)
    unfold toPL
    refine ⟨by unfold PyData.canLayAll0; rw [h1, h3]; rfl, ?_⟩
    simp only [PyData.depthAll]
    omega
end
end MX
end

section
set_option maxRecDepth 100000
set_option maxHeartbeats 1000000
namespace MX
open PySem PySem.Spec PyProof.Rows L2

mutual
theorem eqB_eqv : ∀ (n m : Nat) (a b : D), dpD n a = true → dpD m b = true → PyData.eqv (toP a) (toP b) = eqB a b
  | n, m, .non, b, _, h => by cases b <;> first | (cases m <;> cases h; done) | (simp [toP, PyData.eqv, eqB])
  | n, m, .bl _, b, _, h => by cases b <;> first | (cases m <;> cases h; done) | (simp [toP, PyData.eqv, eqB])
  | n, m, .int _, b, _, h => by cases b <;> first | (cases m <;> cases h; done) | (simp [toP, PyData.eqv, eqB])
  | n, m, .str _, b, _, h => by cases b <;> first | (cases m <;> cases h; done) | (simp [toP, PyData.eqv, eqB])
  | 0, m, .lst xs, b, h, _ => by cases h
  | 0, m, .tup xs, b, h, _ => by cases h
  | n + 1, m, .lst xs, b, h1, h2 => by
    cases b with
    | lst ys =>
      cases m with
      | zero => cases h2
      | succ m =>
        have := eqB_eqvL n m xs ys (List.all_eq_true.mp h1) (List.all_eq_true.mp h2)
        simp only [toP, PyData.eqv, eqB]
        exact this
    | ins c fs => cases m <;> cases h2
    | ptr c => cases m <;> cases h2
    | scr c => cases m <;> cases h2
    | _ => simp [toP, PyData.eqv, eqB]
  | n + 1, m, .tup xs, b, h1, h2 => by
    cases b with
    | tup ys =>
      cases m with
      | zero => cases h2
      | succ m =>
        have := eqB_eqvL n m xs ys (List.all_eq_true.mp h1) (List.all_eq_true.mp h2)
        simp only [toP, PyData.eqv, eqB]
        exact this
    | ins c fs => cases m <;> cases h2
    | ptr c => cases m <;> cases h2
    | scr c => cases m <;> cases h2
    | _ => simp [toP, PyData.eqv, eqB]
  | 0, m, .ins c fs, b, h, _ => by cases h
  | _ + 1, m, .ins c fs, b, h, _ => by cases h
  | 0, m, .ptr c, b, h, _ => by cases h
  | _ + 1, m, .ptr c, b, h, _ => by cases h
  | 0, m, .scr c, b, h, _ => by cases h
  | _ + 1, m, .scr c, b, h, _ => by cases h
theorem eqB_eqvL : ∀ (n m : Nat) (xs ys : List D), (∀ d ∈ xs, dpD n d = true) → (∀ d ∈ ys, dpD m d = true) → PyData.eqvAll (toPL xs) (toPL ys) = eqBL xs ys
  | n, m, [], [], _, _ => by simp [toPL, PyData.eqvAll, eqBL]
  | n, m, [], _ :: _, _, _ => by simp [toPL, PyData.eqvAll, eqBL]
  | n, m, _ :: _, [], _, _ => by simp [toPL, PyData.eqvAll, eqBL]
  | n, m, x :: xs, y :: ys, h1, h2 => by
    have e1 := eqB_eqv n m x y (h1 x List.mem_cons_self) (h2 y List.mem_cons_self)
    have e2 := eqB_eqvL n m xs ys (fun d hd => h1 d (List.mem_cons_of_mem _ hd)) fun d hd => h2 d (List.mem_cons_of_mem _ hd)
    simp only [toPL, PyData.eqvAll, eqBL, e1, e2]
end

section
variable {fx : Fix} {g : Gh} {S : Store} {H : Hp}
theorem R.dp (r : R fx g S H) {v : V} {d : D} {n : Nat} (h : RelD fx.K fx.ca g v d) (q : dpD n (MX.look S d) = true) : Dp fx.K H v (toP (MX.look S d)) := by
  rcases r.look h with ⟨k, ys, rfl, rfl, hc, e'⟩ | ⟨k, c, fs, rfl, rfl, hc, e'⟩ | k
  · rw [e'] at q ⊢
    obtain ⟨_, _, vs, h3, h4⟩ := r.cells k _ hc
    cases n with
    | zero => cases q
    | succ n =>
      unfold toP
      exact .lst (SqL.of h3) (rel_dpL r.frz n h4 (List.all_eq_true.mp q))
  · rw [e'] at q
    cases n <;> cases q
  · exact rel_dp r.frz n k q
theorem shaped_of {d : D} (h : dpD 8 d = true) : SeqAt.shaped (toP d) = true := by
  obtain ⟨h1, h2⟩ := dp_lay 8 d h
  unfold SeqAt.shaped
  rw [h1, decide_eq_true (show (toP d).depth ≤ 64 by omega)]
  rfl
theorem rel_flatV {K : PySem.W.Frag} {ca : String → Addr} {g : Gh} {v : V} {d : D} (h : RelD K ca g v d) (f : flatD d = true) : flatV v = true := by
  cases h <;> first | rfl | cases f
theorem rel_eqV {K : PySem.W.Frag} {ca : String → Addr} {g : Gh} {v w : V} {d e : D} (h : RelD K ca g v d) (k : RelD K ca g w e) (f : flatD d = true) (f' : flatD e = true) : eqV v w = eqB d e := by
  cases h <;> first | (cases f; done) | (cases k <;> first | (cases f'; done) | (simp [eqV, eqB]))
theorem rel_inV {K : PySem.W.Frag} {ca : String → Addr} {g : Gh} {v : V} {d : D} (h : RelD K ca g v d) (f : flatD d = true) : ∀ {ws : List V} {es : List D}, RelL K ca g ws es → es.all flatD = true → ws.all flatV = true ∧ inV v ws = es.any fun y => eqB y d
  | _, _, .nil, _ => ⟨rfl, rfl⟩
  | _, _, .cons a b, q => by
    rw [List.all_cons, Bool.and_eq_true] at q
    obtain ⟨h1, h2⟩ := rel_inV h f b q.2
    refine ⟨by rw [List.all_cons, rel_flatV a q.1, h1]; rfl, ?_⟩
    unfold inV at h2 ⊢
    rw [List.any_cons, List.any_cons, rel_eqV a h q.1 f, h2]
end
def Cop.op : Cop → CmpOp
  | .eq => .Eq
  | .ne => .NotEq
  | .lt => .Lt
  | .le => .LtE
  | .gt => .Gt
  | .ge => .GtE
  | .is_ => .Is
  | .isn => .IsNot
  | .in_ => .In
  | .nin => .NotIn
theorem eqO_some {x y : D} {b : Bool} (h : eqO x y = some b) : dpD 8 x = true ∧ dpD 8 y = true ∧ b = eqB x y := by
  unfold eqO at h
  split at h
  · rename_i q
    rw [Bool.and_eq_true] at q
    exact ⟨q.1, q.2, (Option.some.inj h).symm⟩
  · cases h
theorem inO_some {x : D} {ys : List D} {b : Bool} (h : inO x ys = some b) : flatD x = true ∧ ys.all flatD = true ∧ b = ys.any fun y => eqB y x := by
  unfold inO at h
  split at h
  · rename_i q
    rw [Bool.and_eq_true] at q
    exact ⟨q.1, q.2, (Option.some.inj h).symm⟩
  · cases h
theorem notO_some {o : Option Bool} {b : Bool} (h : notO o = some b) : ∃ c, o = some c ∧ b = !c := by
  cases o with
  | none => cases h
  | some c => exact ⟨c, rfl, (Option.some.inj h).symm⟩
mutual
theorem al_alike : ∀ (a b : D), alB a b = true → PySem.W.alike (toP a) (toP b) = true
  | .int i, b, h => by
    cases b <;> first | (unfold alB at h; cases h; done) | (simp [toP, PySem.W.alike])
  | .tup xs, b, h => by
    cases b with
    | tup ys =>
      unfold alB at h
      simp only [toP, PySem.W.alike]
      exact al_alikeL xs ys h
    | _ => unfold alB at h; cases h
  | .non, b, h => by cases b <;> (unfold alB at h; cases h)
  | .bl _, b, h => by cases b <;> (unfold alB at h; cases h)
  | .str _, b, h => by cases b <;> (unfold alB at h; cases h)
  | .lst _, b, h => by cases b <;> (unfold alB at h; cases h)
  | .ins _ _, b, h => by cases b <;> (unfold alB at h; cases h)
  | .ptr _, b, h => by cases b <;> (unfold alB at h; cases h)
  | .scr _, b, h => by cases b <;> (unfold alB at h; cases h)
theorem al_alikeL : ∀ (xs ys : List D), alBL xs ys = true → PySem.W.alikeAll (toPL xs) (toPL ys) = true
  | [], [], _ => by simp [toPL, PySem.W.alikeAll]
  | [], _ :: _, _ => by simp [toPL, PySem.W.alikeAll]
  | _ :: _, [], _ => by simp [toPL, PySem.W.alikeAll]
  | x :: xs, y :: ys, h => by
    unfold alBL at h
    rw [Bool.and_eq_true] at h
    simp only [toPL, PySem.W.alikeAll, al_alike x y h.1, al_alikeL xs ys h.2, Bool.and_self]
end
mutual
theorem lt_data : ∀ (n m : Nat) (a b : D), dpD n a = true → dpD m b = true → alB a b = true → PySem.W.dataLt (toP a) (toP b) = ltB a b
  | n, m, .int i, b, h1, h2, h => by
    cases b <;> first | (unfold alB at h; cases h; done) | (simp only [toP, PySem.W.dataLt_int]; unfold ltB; rfl)
  | n + 1, m, .tup xs, b, h1, h2, h => by
    cases b with
    | tup ys =>
      cases m with
      | zero => cases h2
      | succ m =>
        unfold alB at h
        simp only [toP, PySem.W.dataLt_tuple]
        rw [lt_dataL n m xs ys (List.all_eq_true.mp h1) (List.all_eq_true.mp h2) h]
        unfold ltB
        rfl
    | _ => unfold alB at h; cases h
  | 0, m, .tup xs, b, h1, h2, h => by cases h1
  | _, _, .non, b, _, _, h => by cases b <;> (unfold alB at h; cases h)
  | _, _, .bl _, b, _, _, h => by cases b <;> (unfold alB at h; cases h)
  | _, _, .str _, b, _, _, h => by cases b <;> (unfold alB at h; cases h)
  | _, _, .lst _, b, _, _, h => by cases b <;> (unfold alB at h; cases h)
  | _, _, .ins _ _, b, _, _, h => by cases b <;> (unfold alB at h; cases h)
  | _, _, .ptr _, b, _, _, h => by cases b <;> (unfold alB at h; cases h)
  | _, _, .scr _, b, _, _, h => by cases b <;> (unfold alB at h; cases h)
theorem lt_dataL : ∀ (n m : Nat) (xs ys : List D), (∀ d ∈ xs, dpD n d = true) → (∀ d ∈ ys, dpD m d = true) → alBL xs ys = true → PyProof.Rows.lexLt PyProof.Rows.itemOrd (PySem.W.keyToksAll (toPL xs)) (PySem.W.keyToksAll (toPL ys)) = ltBL xs ys
  | n, m, [], [], _, _, _ => by
    unfold ltBL
    simp only [toPL]
    decide +kernel
  | n, m, [], y :: ys, _, _, _ => by
    unfold ltBL
    simp only [toPL, PySem.W.keyToksAll]
    rw [PySem.W.lex_atom (by simp), PySem.W.lex_one]
    decide +kernel
  | n, m, x :: xs, [], _, _, _ => by
    unfold ltBL
    simp only [toPL, PySem.W.keyToksAll]
    rw [PySem.W.lex_atom (by simp), PySem.W.lex_one]
    decide +kernel
  | n, m, x :: xs, y :: ys, h1, h2, h => by
    unfold alBL at h
    rw [Bool.and_eq_true] at h
    have ax := al_alike x y h.1
    have ex := eqB_eqv n m x y (h1 x List.mem_cons_self) (h2 y List.mem_cons_self)
    unfold ltBL
    simp only [toPL]
    cases q : eqB x y with
    | true =>
      rw [PySem.W.dataLt_all_yes ax (ex.trans q), if_pos rfl]
      exact lt_dataL n m xs ys (fun d hd => h1 d (List.mem_cons_of_mem _ hd)) (fun d hd => h2 d (List.mem_cons_of_mem _ hd)) h.2
    | false =>
      rw [PySem.W.dataLt_all_no ax (ex.trans q), if_neg (by decide)]
      exact lt_data n m x y (h1 x List.mem_cons_self) (h2 y List.mem_cons_self) h.1
end
theorem al_ne {a b : D} (h : alB a b = true) : toP a ≠ .none := fun e => by
  cases a <;> first | (unfold alB at h; cases b <;> cases h; done) | (simp [toP] at e)
/-- a < b of data that are alike -/
theorem lt_ok {X : Cx} {fx : Fix} {g : Gh} {S : Store} {H : Hp} {pins : List (Addr × Obj)} {s : Shared} {σ : L2.St} {x y : V} {v u : Value} {d e : D} {Q : VK} (hK : fx.K = X.K) (hu : X.A.units + 64 < cLine) (I : Inv X pins σ H s) (rx : RelV x v) (ry : RelV y u) (r : R fx g S H) (rd : RelD fx.K fx.ca g x d) (re : RelD fx.K fx.ca g y e)
    (h1 : dpD 8 (MX.look S d) = true) (h2 : dpD 8 (MX.look S e) = true) (h : alB (MX.look S d) (MX.look S e) = true) (q : Q (.bl (ltB (MX.look S d) (MX.look S e))) H) : wpAny (model X.prog X.w) X.A (compareOp .Lt v u) (EP X pins σ Q) X.xe s := by
  have p1 := r.dp rd h1
  have p2 := r.dp re h2
  rw [hK] at p1 p2
  obtain ⟨as, r1⟩ := Dp.reads I _ x v p1 rx
  obtain ⟨bs, r2⟩ := Dp.reads I _ y u p2 ry
  have dep := (dp_lay 8 _ h1).2
  have z := PySem.W.rcLt_alike (toP (MX.look S d)) (toP (MX.look S e)) X.A s v u as bs r1 r2 (al_alike _ _ h) (al_ne h) (by omega)
  rw [lt_data 8 8 _ _ h1 h2 h] at z
  exact z X.prog X.w X.xe (EP X pins σ Q) ⟨.bl _, H, I, rfl, q⟩
theorem lexAt_shift (e r : Nat → Bool) (z : Bool) : ∀ (k i : Nat), Ob.lexAt (fun j => e (j + 1)) (fun j => r (j + 1)) z i k = Ob.lexAt e r z (i + 1) k
  | 0, _ => rfl
  | k + 1, i => by
    rw [Ob.lexAt_succ, Ob.lexAt_succ, lexAt_shift e r z k (i + 1)]
theorem lexAt_le : ∀ (n m : Nat) (xs ys : List D) (r : Nat → Bool), (∀ d ∈ xs, dpD n d = true) → (∀ d ∈ ys, dpD m d = true) → (∀ j x y, xs[j]? = some x → ys[j]? = some y → r j = leB x y) →
    Ob.lexAt (PySem.SeqAt.pairEq (toPL xs) (toPL ys)) r (decide (xs.length ≤ ys.length)) 0 (min xs.length ys.length) = leBL xs ys
  | n, m, [], ys, r, _, _, _ => by
    rw [show min ([] : List D).length ys.length = 0 by simp, Ob.lexAt_zero]
    unfold leBL
    simp
  | n, m, x :: xs, [], r, _, _, _ => by
    rw [show min (x :: xs).length ([] : List D).length = 0 by simp, Ob.lexAt_zero]
    unfold leBL
    simp
  | n, m, x :: xs, y :: ys, r, h1, h2, h => by
    have ex := eqB_eqv n m x y (h1 x List.mem_cons_self) (h2 y List.mem_cons_self)
    have ih := lexAt_le n m xs ys (fun j => r (j + 1)) (fun d hd => h1 d (List.mem_cons_of_mem _ hd)) (fun d hd => h2 d (List.mem_cons_of_mem _ hd)) fun j a b ha hb => h (j + 1) a b (by simpa using ha) (by simpa using hb)
    rw [show min (x :: xs).length (y :: ys).length = min xs.length ys.length + 1 by simp only [List.length_cons]; omega, Ob.lexAt_succ]
    have e0 : PySem.SeqAt.pairEq (toPL (x :: xs)) (toPL (y :: ys)) 0 = eqB x y := by
      rw [← ex]
      rfl
    have es : (fun j => PySem.SeqAt.pairEq (toPL (x :: xs)) (toPL (y :: ys)) (j + 1)) = PySem.SeqAt.pairEq (toPL xs) (toPL ys) := by
      funext j
      rfl
    have el : decide ((x :: xs).length ≤ (y :: ys).length) = decide (xs.length ≤ ys.length) := decide_eq_decide.mpr (by simp only [List.length_cons]; omega)
    rw [e0, el, ← lexAt_shift, es, ih, h 0 x y rfl rfl]
    conv => rhs; unfold leBL
theorem toPL_length : ∀ xs : List D, (toPL xs).length = xs.length
  | [] => by simp [toPL]
  | x :: xs => by simp only [toPL, List.length_cons, toPL_length xs]
theorem toPL_get : ∀ (xs : List D) (j : Nat) (x : D), xs[j]? = some x → (toPL xs)[j]? = some (toP x)
  | [], j, x, h => by simp at h
  | y :: ys, 0, x, h => by
    simp at h
    subst h
    simp [toPL]
  | y :: ys, j + 1, x, h => by
    have h : ys[j]? = some x := by simpa using h
    simp only [toPL, List.getElem?_cons_succ]
    exact toPL_get ys j x h
mutual
/-- a <= b of data that are alike -/
theorem rcLe : ∀ (n m : Nat) (a b : D), dpD n a = true → dpD m b = true → alB a b = true → ∀ (A : Around) (s : Shared) (v u : Value) (as bs : List Addr), Reads s.heap v (toP a) as → Reads s.heap u (toP b) bs → A.units + min (toP a).depth (toP b).depth < cLine → Ob.RcOp .LtE A s v u (leB a b)
  | n, m, .int i, b, h1, h2, h => by
    cases b <;> first | (unfold alB at h; cases h; done) | skip
    intro A s v u as bs ra rb hu
    simp only [toP] at ra rb
    cases ra
    cases rb
    unfold leB
    exact Ob.RcOp.le_int _ _ _ _
  | n + 1, m, .tup xs, b, h1, h2, h => by
    cases b with
    | tup ys =>
      cases m with
      | zero => cases h2
      | succ m =>
        intro A s v u as bs ra rb hu
        unfold alB at h
        have h1 := List.all_eq_true.mp h1
        have h2 := List.all_eq_true.mp h2
        have hal := al_alikeL xs ys h
        simp only [toP] at ra rb hu
        cases ra with
        | @tuple l o vs n' _ as₁ p1 p2 p3 p4 =>
          cases rb with
          | @tuple l' o' vs' n'' _ bs₁ k1 k2 k3 k4 =>
            have n1 : vs.size = (toPL xs).length := by simpa using SeqAt.ReadsAll.length _ _ _ p4
            have n2 : vs'.size = (toPL ys).length := by simpa using SeqAt.ReadsAll.length _ _ _ k4
            rw [toPL_length] at n1 n2
            have e := lexAt_le n m xs ys (fun j => match xs[j]?, ys[j]? with
              | some x, some y => leB x y
              | _, _ => false) h1 h2 (fun j x y hx hy => by simp only [hx, hy])
            unfold leB
            rw [← e, ← n1, ← n2]
            refine Ob.RcOp.tuples_le ⟨_, p1, p2, _, p3⟩ ⟨_, k1, k2, _, k3⟩ (SeqAt.room_here hu) (fun j j1 j2 => ?_) fun j j1 j2 hj => ?_
            · have := PySem.W.eqAt_alikeAll (toPL xs) (toPL ys) A.in1 s vs.toList vs'.toList _ _ p4 k4 hal (SeqAt.room_in hu) j (by simpa using j1) (by simpa using j2)
              simpa using this
            · have := rcLeL n m xs ys h1 h2 h A.in1 s vs.toList vs'.toList _ _ p4 k4 (SeqAt.room_in hu) j (by simpa using j1) (by simpa using j2)
              simpa using this
    | _ => unfold alB at h; cases h
  | 0, m, .tup xs, b, h1, h2, h => by cases h1
  | _, _, .non, b, _, _, h => by cases b <;> (unfold alB at h; cases h)
  | _, _, .bl _, b, _, _, h => by cases b <;> (unfold alB at h; cases h)
  | _, _, .str _, b, _, _, h => by cases b <;> (unfold alB at h; cases h)
  | _, _, .lst _, b, _, _, h => by cases b <;> (unfold alB at h; cases h)
  | _, _, .ins _ _, b, _, _, h => by cases b <;> (unfold alB at h; cases h)
  | _, _, .ptr _, b, _, _, h => by cases b <;> (unfold alB at h; cases h)
  | _, _, .scr _, b, _, _, h => by cases b <;> (unfold alB at h; cases h)
theorem rcLeL : ∀ (n m : Nat) (xs ys : List D), (∀ d ∈ xs, dpD n d = true) → (∀ d ∈ ys, dpD m d = true) → alBL xs ys = true → ∀ (A : Around) (s : Shared) (vs us : List Value) (as bs : List Addr), ReadsAll s.heap vs (toPL xs) as → ReadsAll s.heap us (toPL ys) bs → A.units + min (PyData.depthAll (toPL xs)) (PyData.depthAll (toPL ys)) < cLine →
    ∀ j (h1 : j < vs.length) (h2 : j < us.length), Ob.RcOp .LtE A s vs[j] us[j] (match xs[j]?, ys[j]? with
      | some x, some y => leB x y
      | _, _ => false)
  | n, m, [], ys, _, _, _ => by
    intro A s vs us as bs ra rb hu j h1 h2
    simp only [toPL] at ra
    cases ra
    exact absurd h1 (Nat.not_lt_zero _)
  | n, m, x :: xs, [], _, _, _ => by
    intro A s vs us as bs ra rb hu j h1 h2
    simp only [toPL] at rb
    cases rb
    exact absurd h2 (Nat.not_lt_zero _)
  | n, m, x :: xs, y :: ys, h1, h2, h => by
    intro A s vs us as bs ra rb hu j j1 j2
    unfold alBL at h
    rw [Bool.and_eq_true] at h
    simp only [toPL] at ra rb hu
    cases ra with
    | cons r rs =>
      cases rb with
      | cons r' rs' =>
        cases j with
        | zero => exact rcLe n m x y (h1 x List.mem_cons_self) (h2 y List.mem_cons_self) h.1 A s _ _ _ _ r r' (SeqAt.room_head hu)
        | succ j => exact rcLeL n m xs ys (fun d hd => h1 d (List.mem_cons_of_mem _ hd)) (fun d hd => h2 d (List.mem_cons_of_mem _ hd)) h.2 A s _ _ _ _ rs rs' (SeqAt.room_tail hu) j (Nat.lt_of_succ_lt_succ j1) (Nat.lt_of_succ_lt_succ j2)
end
theorem le_ok {X : Cx} {fx : Fix} {g : Gh} {S : Store} {H : Hp} {pins : List (Addr × Obj)} {s : Shared} {σ : L2.St} {x y : V} {v u : Value} {d e : D} {Q : VK} (hK : fx.K = X.K) (hu : X.A.units + 64 < cLine) (I : Inv X pins σ H s) (rx : RelV x v) (ry : RelV y u) (r : R fx g S H) (rd : RelD fx.K fx.ca g x d) (re : RelD fx.K fx.ca g y e)
    (h1 : dpD 8 (MX.look S d) = true) (h2 : dpD 8 (MX.look S e) = true) (h : alB (MX.look S d) (MX.look S e) = true) (q : Q (.bl (leB (MX.look S d) (MX.look S e))) H) : wpAny (model X.prog X.w) X.A (compareOp .LtE v u) (EP X pins σ Q) X.xe s := by
  have p1 := r.dp rd h1
  have p2 := r.dp re h2
  rw [hK] at p1 p2
  obtain ⟨as, r1⟩ := Dp.reads I _ x v p1 rx
  obtain ⟨bs, r2⟩ := Dp.reads I _ y u p2 ry
  have dep := (dp_lay 8 _ h1).2
  have z := rcLe 8 8 _ _ h1 h2 h X.A s v u as bs r1 r2 (by omega)
  exact z X.prog X.w X.xe (EP X pins σ Q) ⟨.bl _, H, I, rfl, q⟩
/-- comparisons -/
theorem opD_cmp {X : Cx} {fx : Fix} {W : WX} (op : Cop) (hK : fx.K = X.K) (hu : X.A.units + 64 < cLine) : OpD X fx W (compareOp op.op) (fun S x y => ofB S (cmpB op S x y)) := by
  intro pins s σ H x y v u Q I rx ry h
  obtain ⟨g, S, d, e, r, rd, re, h⟩ := h
  have h : ePost fx W g σ (tOf fx Q) (ofB S (cmpB op S d e)) := h
  cases q : cmpB op S d e with
  | none => rw [q] at h; exact h.elim
  | some b =>
    rw [q] at h
    have hq : Q (.bl b) H := h.ret (d := .bl b) r (.bl b)

    have hints : ∀ {f : Int → Int → Bool}, (match MX.look S d, MX.look S e with
      | .int i, .int j => some (f i j)
      | _, _ => none) = some b → ∃ i j, x = .int i ∧ y = .int j ∧ b = f i j := fun {f} z => by
      split at z
      · rename_i i j e1 e2
        exact ⟨i, j, r.int rd e1, r.int re e2, (Option.some.inj z).symm⟩
      · cases z
    cases op with
    | eq =>
      obtain ⟨h1, h2, rfl⟩ := eqO_some q
      refine op_eqD hu pins s σ H x y v u Q I rx ry ⟨_, _, by rw [← hK]; exact r.dp rd h1, by rw [← hK]; exact r.dp re h2, shaped_of h1, shaped_of h2, ?_⟩
      rw [eqB_eqv 8 8 _ _ h1 h2]
      exact hq
    | ne =>
      obtain ⟨c, q1, rfl⟩ := notO_some q
      obtain ⟨h1, h2, rfl⟩ := eqO_some q1
      refine op_neD hu pins s σ H x y v u Q I rx ry ⟨_, _, by rw [← hK]; exact r.dp rd h1, by rw [← hK]; exact r.dp re h2, shaped_of h1, shaped_of h2, ?_⟩
      rw [eqB_eqv 8 8 _ _ h1 h2]
      exact hq
    | lt =>
      have q : ltO (MX.look S d) (MX.look S e) = some b := q
      unfold ltO at q
      split at q
      · rename_i c
        simp only [Bool.and_eq_true] at c
        cases q
        exact lt_ok hK hu I rx ry r rd re c.1 c.2.1 c.2.2 hq
      · cases q
    | le =>
      have q : leO (MX.look S d) (MX.look S e) = some b := q
      unfold leO at q
      split at q
      · rename_i c
        simp only [Bool.and_eq_true] at c
        cases q
        exact le_ok hK hu I rx ry r rd re c.1 c.2.1 c.2.2 hq
      · cases q
    | gt =>
      obtain ⟨i, j, rfl, rfl, rfl⟩ := hints q
      exact op_gt pins s σ H _ _ v u Q I rx ry ⟨i, j, rfl, rfl, hq⟩
    | ge =>
      obtain ⟨i, j, rfl, rfl, rfl⟩ := hints q
      exact op_ge pins s σ H _ _ v u Q I rx ry ⟨i, j, rfl, rfl, hq⟩
    | is_ =>
      cases e with
      | non =>
        have hy := re.iNon
        subst hy
        refine op_isN pins s σ H _ _ v u Q I rx ry ⟨rfl, ?_⟩
        have : decide (x = V.non) = b := by
          cases d with
          | non =>
            cases q
            rw [rd.iNon]
            exact decide_eq_true rfl
          | _ =>
            cases q
            refine decide_eq_false fun z => ?_
            subst z
            cases rd
        rw [this]
        exact hq
      | _ => cases q
    | isn =>
      cases e with
      | non =>
        have hy := re.iNon
        subst hy
        refine op_notN pins s σ H _ _ v u Q I rx ry ⟨rfl, ?_⟩
        have : (!decide (x = V.non)) = b := by
          cases d with
          | non =>
            cases q
            rw [rd.iNon, decide_eq_true rfl]
            rfl
          | _ =>
            cases q
            rw [decide_eq_false (fun z => by subst z; cases rd)]
            rfl
        rw [this]
        exact hq
      | _ => cases q
    | in_ =>
      have q : (match MX.look S e with
        | .lst ys => inO d ys
        | .tup ys => inO d ys
        | _ => none) = some b := q
      split at q
      · rename_i ys e1
        obtain ⟨h1, h2, rfl⟩ := inO_some q
        obtain ⟨a, ws, rfl, ha, ra⟩ := r.lst re e1
        obtain ⟨f1, f2⟩ := rel_inV rd h1 ra h2
        refine op_in_seq pins s σ H _ _ v u Q I rx ry ⟨a, ws, rfl, .inl (SqL.of ha), rel_flatV rd h1, f1, ?_⟩
        rw [if_neg (by decide), f2]
        exact hq
      · rename_i ys e1
        obtain ⟨h1, h2, rfl⟩ := inO_some q
        obtain ⟨a, ws, rfl, ha, ra⟩ := r.tup re e1
        obtain ⟨f1, f2⟩ := rel_inV rd h1 ra h2
        refine op_in_seq pins s σ H _ _ v u Q I rx ry ⟨a, ws, rfl, .inr (SqT.of ha), rel_flatV rd h1, f1, ?_⟩
        rw [if_neg (by decide), f2]
        exact hq
      · cases q
    | nin =>
      have q : (match MX.look S e with
        | .lst ys => notO (inO d ys)
        | .tup ys => notO (inO d ys)
        | _ => none) = some b := q
      split at q
      · rename_i ys e1
        obtain ⟨c, q2, rfl⟩ := notO_some q
        obtain ⟨h1, h2, rfl⟩ := inO_some q2
        obtain ⟨a, ws, rfl, ha, ra⟩ := r.lst re e1
        obtain ⟨f1, f2⟩ := rel_inV rd h1 ra h2
        refine op_notIn_seq pins s σ H _ _ v u Q I rx ry ⟨a, ws, rfl, .inl (SqL.of ha), rel_flatV rd h1, f1, ?_⟩
        rw [if_pos rfl, f2]
        exact hq
      · rename_i ys e1
        obtain ⟨c, q2, rfl⟩ := notO_some q
        obtain ⟨h1, h2, rfl⟩ := inO_some q2
        obtain ⟨a, ws, rfl, ha, ra⟩ := r.tup re e1
        obtain ⟨f1, f2⟩ := rel_inV rd h1 ra h2
        refine op_notIn_seq pins s σ H _ _ v u Q I rx ry ⟨a, ws, rfl, .inr (SqT.of ha), rel_flatV rd h1, f1, ?_⟩
        rw [if_pos rfl, f2]
        exact hq
      · cases q
/-- truth -/
theorem R.tru {fx : Fix} {g : Gh} {S : Store} {H : Hp} (r : R fx g S H) {v : V} {d : D} {b : Bool} (h : RelD fx.K fx.ca g v d) (e : truD (MX.look S d) = some b) : TruV fx.K v H b := by
  cases q : MX.look S d with
  | non => rw [q] at e; cases e; rw [r.non h q]; exact rfl
  | bl c => rw [q] at e; cases e; rw [r.bl h q]; exact rfl
  | int i => rw [q] at e; cases e; rw [r.int h q]; exact rfl
  | str z =>
    rw [q] at e
    have e : (if z.length ≤ sizeLine then some ((z.length : Int) != 0) else none) = some b := e
    by_cases hz : z.length ≤ sizeLine
    · rw [if_pos hz] at e
      cases e
      rw [r.str h q]
      exact ⟨hz, rfl⟩
    · rw [if_neg hz] at e
      cases e
  | lst xs =>
    rw [q] at e
    cases e
    obtain ⟨a, vs, rfl, ha, ra⟩ := r.lst h q
    refine .inl ⟨vs, SqL.of ha, ?_⟩
    cases ra <;> rfl
  | tup xs =>
    rw [q] at e
    cases e
    obtain ⟨a, vs, rfl, ha, ra⟩ := r.tup h q
    refine .inr (.inl ⟨vs, SqT.of ha, ?_⟩)
    cases ra <;> rfl
  | ins c fs => rw [q] at e; cases e
  | ptr c => rw [q] at e; cases e
  | scr c => rw [q] at e; cases e
end MX
end

section
set_option maxRecDepth 100000
set_option maxHeartbeats 1000000
namespace MX
open PySem PySem.Spec PyProof.Rows L2

section
variable {K : PySem.W.Frag} {ca : String → Addr} {g g' : Gh}
mutual
/-- data leans on the frozen part alone -/
theorem RelD.pfF (l : ∀ a o, g.F a = some o → g'.F a = some o) : ∀ {v : V} {d : D}, RelD K ca g v d → d.pf = true → RelD K ca g' v d
  | _, _, .non, _ => .non
  | _, _, .bl b, _ => .bl b
  | _, _, .int i, _ => .int i
  | _, _, .str s, _ => .str s
  | _, _, .lst e r, h => .lst (l _ _ e) (RelL.pfF l r (by unfold D.pf at h; exact h))
  | _, _, .tup e r, h => .tup (l _ _ e) (RelL.pfF l r (by unfold D.pf at h; exact h))
  | _, _, .ins e r, h => .ins (l _ _ e) (RelF.pfF l r (by unfold D.pf at h; exact h))
  | _, _, .ptr e, h => by unfold D.pf at h; cases h
  | _, _, .scr h, _ => .scr ((show Same g.F g'.F from l).seq h)
theorem RelL.pfF (l : ∀ a o, g.F a = some o → g'.F a = some o) : ∀ {vs : List V} {ds : List D}, RelL K ca g vs ds → pfL ds = true → RelL K ca g' vs ds
  | _, _, .nil, _ => .nil
  | _, _, .cons a b, h => by
    unfold pfL at h
    rw [Bool.and_eq_true] at h
    exact .cons (RelD.pfF l a h.1) (RelL.pfF l b h.2)
theorem RelF.pfF (l : ∀ a o, g.F a = some o → g'.F a = some o) : ∀ {vs : List (Str × V)} {ds : List (String × D)}, RelF K ca g vs ds → MX.pfF ds = true → RelF K ca g' vs ds
  | _, _, .nil, _ => .nil
  | _, _, .cons a b, h => by
    unfold MX.pfF at h
    rw [Bool.and_eq_true] at h
    exact .cons (RelD.pfF l a h.1) (RelF.pfF l b h.2)
end
end
section
variable {fx : Fix} {g : Gh} {S : Store} {H : Hp}
/-- a live cell becomes data: the heap stands -/
theorem R.freeze (r : R fx g S H) {n : Nat} {c : Cell} {o : HO} {d : D} (hc : S[n]? = some c) (lc : live c = true) (ho : H (g.am n) = some o) (pd : d.pf = true)
    (hd : ∀ g' : Gh, g.le g' → g'.F (g.am n) = some o → RelD fx.K fx.ca g' (.ref (g.am n)) d) : ∃ g', g.le g' ∧ g'.am = g.am ∧ g'.n = g.n ∧ R fx g' (S.set n (.frz d)) H ∧ RelD fx.K fx.ca g' (.ref (g.am n)) d := by
  have q := r.cells n c hc
  have nF : g.F (g.am n) = none := by cases c <;> first | exact q.1 | cases lc
  have nB : fx.B (g.am n) = none := by cases c <;> first | exact q.2.1 | cases lc
  have hn : n < S.length := (List.getElem?_eq_some_iff.mp hc).1
  let g' : Gh := { g with F := upd g.F (g.am n) o }
  have le : g.le g' := ⟨fun a u e => by
    show upd g.F (g.am n) o a = some u
    rw [upd_ne (ne_of_none e nF)]
    exact e, fun _ _ => rfl, Nat.le_refl _⟩
  have rel := hd g' le (show upd g.F (g.am n) o (g.am n) = some o from upd_same)
  refine ⟨g', le, rfl, rfl, ⟨r.frame, fun a u e => ?_, fun a u e => ?_, fun a u e => le.F a u (r.f0 a u e), by rw [List.length_set]; exact r.n, fun m c' e => ?_, fun m k c1 d1 hm hk l1 l2 e => ?_⟩, rel⟩
  · have e : upd g.F (g.am n) o a = some u := e
    by_cases ha : a = g.am n
    · subst ha
      rw [upd_same] at e
      cases e
      exact ho
    · rw [upd_ne ha] at e
      exact r.frz a u e
  · have e : upd g.F (g.am n) o a = some u := e
    by_cases ha : a = g.am n
    · subst ha
      exact .inr nB
    · rw [upd_ne ha] at e
      exact r.fresh a u e
  · by_cases hm : n = m
    · subst hm
      rw [List.getElem?_set_self hn] at e
      cases e
      exact ⟨pd, rel⟩
    · rw [List.getElem?_set_ne hm] at e
      have z := r.cells m c' e
      have ne : live c' = true → g.am m ≠ g.am n := fun l z => hm (r.inj n m _ _ hc e lc l z.symm)
      cases c' with
      | lst xs =>
        obtain ⟨h1, h2, vs, h3, h4⟩ := z
        exact ⟨by show upd g.F (g.am n) o (g.am m) = none; rw [upd_ne (ne rfl)]; exact h1, h2, vs, h3, h4.mono le⟩
      | ins c fs =>
        obtain ⟨h1, h2, dx, vs, h3, h4⟩ := z
        exact ⟨by show upd g.F (g.am n) o (g.am m) = none; rw [upd_ne (ne rfl)]; exact h1, h2, dx, vs, h3, h4.mono le⟩
      | frz d => exact ⟨z.1, z.2.mono le⟩
  · have key : ∀ j c, (S.set n (.frz d))[j]? = some c → live c = true → S[j]? = some c := fun j c hj lj => by
      by_cases hm : n = j
      · subst hm
        rw [List.getElem?_set_self hn] at hj
        cases hj
        cases lj
      · rw [List.getElem?_set_ne hm] at hj
        exact hj
    exact r.inj m k c1 d1 (key m c1 hm l1) (key k d1 hk l2) l1 l2 e
end

/-- what freezing a value does -/
def FrzOk (f : Store → D → Option (D × Store)) : Prop := ∀ (fx : Fix) (g : Gh) (S : Store) (H : Hp) (v : V) (d d' : D) (S' : Store), f S d = some (d', S') → R fx g S H → RelD fx.K fx.ca g v d →
  ∃ g', g.le g' ∧ g'.n = g.n ∧ R fx g' S' H ∧ RelD fx.K fx.ca g' v d' ∧ d'.pf = true
theorem frzL_ok {f : Store → D → Option (D × Store)} (hf : FrzOk f) : ∀ {fx : Fix} {g : Gh} {S : Store} {H : Hp} {vs : List V} {ds : List D} {ds' : List D} {S' : Store}, frzL f S ds = some (ds', S') → R fx g S H → RelL fx.K fx.ca g vs ds →
    ∃ g', g.le g' ∧ g'.n = g.n ∧ R fx g' S' H ∧ RelL fx.K fx.ca g' vs ds' ∧ pfL ds' = true
  | fx, g, S, H, [], [], ds', S', e, r, .nil => by
    cases e
    exact ⟨g, Gh.le.refl g, rfl, r, .nil, by unfold pfL; rfl⟩
  | fx, g, S, H, v :: vs, d :: ds, ds', S', e, r, .cons a b => by
    unfold frzL at e
    cases q : f S d with
    | none => rw [q] at e; cases e
    | some p =>
      obtain ⟨e1, S1⟩ := p
      rw [q] at e
      have e : (match frzL f S1 ds with
        | some (q, S2) => some (e1 :: q, S2)
        | none => none) = some (ds', S') := e
      cases q2 : frzL f S1 ds with
      | none => rw [q2] at e; cases e
      | some p2 =>
        obtain ⟨e2, S2⟩ := p2
        rw [q2] at e
        cases e
        obtain ⟨g1, l1, n1, r1, a1, p1⟩ := hf fx g S H _ d e1 S1 q r a
        obtain ⟨g2, l2, n2, r2, b2, p2⟩ := frzL_ok hf q2 r1 (b.mono l1)
        exact ⟨g2, l1.trans l2, n2.trans n1, r2, .cons (a1.mono l2) b2, by unfold pfL; rw [p1, p2]; rfl⟩
theorem frzF_ok {f : Store → D → Option (D × Store)} (hf : FrzOk f) : ∀ {fx : Fix} {g : Gh} {S : Store} {H : Hp} {vs : List (Str × V)} {ds ds' : List (String × D)} {S' : Store}, frzF f S ds = some (ds', S') → R fx g S H → RelF fx.K fx.ca g vs ds →
    ∃ g', g.le g' ∧ g'.n = g.n ∧ R fx g' S' H ∧ RelF fx.K fx.ca g' vs ds' ∧ pfF ds' = true
  | fx, g, S, H, [], [], ds', S', e, r, .nil => by
    cases e
    exact ⟨g, Gh.le.refl g, rfl, r, .nil, by unfold pfF; rfl⟩
  | fx, g, S, H, _ :: vs, (x, d) :: ds, ds', S', e, r, .cons a b => by
    unfold frzF at e
    cases q : f S d with
    | none => rw [q] at e; cases e
    | some p =>
      obtain ⟨e1, S1⟩ := p
      rw [q] at e
      have e : (match frzF f S1 ds with
        | some (q, S2) => some ((x, e1) :: q, S2)
        | none => none) = some (ds', S') := e
      cases q2 : frzF f S1 ds with
      | none => rw [q2] at e; cases e
      | some p2 =>
        obtain ⟨e2, S2⟩ := p2
        rw [q2] at e
        cases e
        obtain ⟨g1, l1, n1, r1, a1, p1⟩ := hf fx g S H _ d e1 S1 q r a
        obtain ⟨g2, l2, n2, r2, b2, p2⟩ := frzF_ok hf q2 r1 (b.mono l1)
        exact ⟨g2, l1.trans l2, n2.trans n1, r2, .cons (a1.mono l2) b2, by unfold pfF; rw [p1, p2]; rfl⟩
theorem frzD_ok : ∀ k : Nat, FrzOk (frzD k)
  | 0 => fun fx g S H v d d' S' e r rd => by
    unfold frzD at e
    split at e
    · rename_i h
      cases e
      exact ⟨g, Gh.le.refl g, rfl, r, rd, h⟩
    · cases e
  | k + 1 => fun fx g S H v d d' S' e r rd => by
    unfold frzD at e
    split at e
    · rename_i h
      cases e
      exact ⟨g, Gh.le.refl g, rfl, r, rd, h⟩
    · rename_i hpf
      cases d with
      | ptr n =>
        obtain ⟨rfl, hn⟩ := rd.iPtr
        have e : (match S[n]? with
          | some (.frz e) => some (e, S)
          | some (.lst xs) => match frzL (frzD k) S xs with
            | some (ys, S1) => match S1[n]? with
              | some (.lst _) => some (.lst ys, S1.set n (.frz (.lst ys)))
              | _ => none
            | none => none
          | some (.ins c fs) => match frzF (frzD k) S fs with
            | some (gs, S1) => match S1[n]? with
              | some (.ins _ _) => some (.ins c gs, S1.set n (.frz (.ins c gs)))
              | _ => none
            | none => none
          | none => none) = some (d', S') := e
        cases hc : S[n]? with
        | none => rw [hc] at e; cases e
        | some c =>
          rw [hc] at e
          have q := r.cells n c hc
          cases c with
          | frz y =>
            cases e
            exact ⟨g, Gh.le.refl g, rfl, r, q.2, q.1⟩
          | lst xs =>
            obtain ⟨_, _, vs, h3, h4⟩ := q
            have e : (match frzL (frzD k) S xs with
              | some (ys, S1) => match S1[n]? with
                | some (.lst _) => some (.lst ys, S1.set n (.frz (.lst ys)))
                | _ => none
              | none => none) = some (d', S') := e
            cases q2 : frzL (frzD k) S xs with
            | none => rw [q2] at e; cases e
            | some p =>
              obtain ⟨ys, S1⟩ := p
              rw [q2] at e
              obtain ⟨g1, l1, n1, r1, a1, p1⟩ := frzL_ok (frzD_ok k) q2 r h4
              have e : (match S1[n]? with
                | some (.lst _) => some (.lst ys, S1.set n (.frz (.lst ys)))
                | _ => none) = some (d', S') := e
              cases hc1 : S1[n]? with
              | none => rw [hc1] at e; cases e
              | some c1 =>
                rw [hc1] at e
                cases c1 with
                | lst zs =>
                  cases e
                  have am1 : g1.am n = g.am n := l1.am n hn
                  obtain ⟨g2, l2, _, n2, r2, d2⟩ := r1.freeze (o := .lst vs) (d := .lst ys) hc1 rfl (by rw [am1]; exact h3) (by unfold D.pf; exact p1) fun g' l e => .lst e (a1.mono l)
                  rw [am1] at d2
                  exact ⟨g2, l1.trans l2, n2.trans n1, r2, d2, by unfold D.pf; exact p1⟩
                | ins c fs => cases e
                | frz z => cases e
          | ins cc fs =>
            obtain ⟨_, _, dx, vs, h3, h4⟩ := q
            have e : (match frzF (frzD k) S fs with
              | some (ys, S1) => match S1[n]? with
                | some (.ins _ _) => some (.ins cc ys, S1.set n (.frz (.ins cc ys)))
                | _ => none
              | none => none) = some (d', S') := e
            cases q2 : frzF (frzD k) S fs with
            | none => rw [q2] at e; cases e
            | some p =>
              obtain ⟨ys, S1⟩ := p
              rw [q2] at e
              obtain ⟨g1, l1, n1, r1, a1, p1⟩ := frzF_ok (frzD_ok k) q2 r h4
              have e : (match S1[n]? with
                | some (.ins _ _) => some (.ins cc ys, S1.set n (.frz (.ins cc ys)))
                | _ => none) = some (d', S') := e
              cases hc1 : S1[n]? with
              | none => rw [hc1] at e; cases e
              | some c1 =>
                rw [hc1] at e
                cases c1 with
                | ins c2 zs =>
                  cases e
                  have am1 : g1.am n = g.am n := l1.am n hn
                  obtain ⟨g2, l2, _, n2, r2, d2⟩ := r1.freeze (o := .ins (fx.ca cc) dx vs) (d := .ins cc ys) hc1 rfl (by rw [am1]; exact h3) (by unfold D.pf; exact p1) fun g' l e => .ins e (a1.mono l)
                  rw [am1] at d2
                  exact ⟨g2, l1.trans l2, n2.trans n1, r2, d2, by unfold D.pf; exact p1⟩
                | lst c => cases e
                | frz z => cases e
      | lst xs =>
        obtain ⟨a, vs, rfl, h1, h2⟩ := rd.iLst
        have e : (match frzL (frzD k) S xs with
          | some (ys, S1) => some (D.lst ys, S1)
          | none => none) = some (d', S') := e
        cases q2 : frzL (frzD k) S xs with
        | none => rw [q2] at e; cases e
        | some p =>
          obtain ⟨ys, S1⟩ := p
          rw [q2] at e
          cases e
          obtain ⟨g1, l1, n1, r1, a1, p1⟩ := frzL_ok (frzD_ok k) q2 r h2
          exact ⟨g1, l1, n1, r1, .lst (l1.F _ _ h1) a1, by unfold D.pf; exact p1⟩
      | tup xs =>
        obtain ⟨a, vs, rfl, h1, h2⟩ := rd.iTup
        have e : (match frzL (frzD k) S xs with
          | some (ys, S1) => some (D.tup ys, S1)
          | none => none) = some (d', S') := e
        cases q2 : frzL (frzD k) S xs with
        | none => rw [q2] at e; cases e
        | some p =>
          obtain ⟨ys, S1⟩ := p
          rw [q2] at e
          cases e
          obtain ⟨g1, l1, n1, r1, a1, p1⟩ := frzL_ok (frzD_ok k) q2 r h2
          exact ⟨g1, l1, n1, r1, .tup (l1.F _ _ h1) a1, by unfold D.pf; exact p1⟩
      | ins c xs =>
        obtain ⟨a, dx, vs, rfl, h1, h2⟩ := rd.iIns
        have e : (match frzF (frzD k) S xs with
          | some (ys, S1) => some (D.ins c ys, S1)
          | none => none) = some (d', S') := e
        cases q2 : frzF (frzD k) S xs with
        | none => rw [q2] at e; cases e
        | some p =>
          obtain ⟨ys, S1⟩ := p
          rw [q2] at e
          cases e
          obtain ⟨g1, l1, n1, r1, a1, p1⟩ := frzF_ok (frzD_ok k) q2 r h2
          exact ⟨g1, l1, n1, r1, .ins (l1.F _ _ h1) a1, by unfold D.pf; exact p1⟩
      | _ => cases e

/-- a def's promise by its run -/
def spI (P : Prog) (n : Nat) (K : PySem.W.Frag) (ca : String → Addr) (f : String) : Sp := fun vs H Q E =>
  (∃ F, P.fn f = some F ∧ vs.length = F.np) ∧ ∃ (fx : Fix) (g : Gh) (ds : List D) (S : Store), fx.K = K ∧ fx.ca = ca ∧ R fx g S H ∧ RelL K ca g vs ds ∧ ePost fx (fun c d _ H => E c d H) g [] (tOf fx Q) (run P n f ds S)

/-- a call with the store -/
theorem call_st {P : Prog} {n : Nat} {fx : Fix} {W : WX} {g : Gh} {σ : L2.St} {f : String} {ds : List D} {vs : List V} {S : Store} {H : Hp} {Q : VK} (hf : ∃ F, P.fn f = some F ∧ vs.length = F.np) (h : ePost fx W g σ (tOf fx Q) (run P n f ds S)) (r : R fx g S H) (rv : RelL fx.K fx.ca g vs ds) :
    spI P n fx.K fx.ca f vs H Q (fun c d H => W c d σ H) := by
  refine ⟨hf, fx, g, ds, S, rfl, rfl, r, rv, ?_⟩
  cases e : run P n f ds S with
  | ok d S' => rw [e] at h; exact h
  | ex x S' => rw [e] at h; exact h
  | bad => rw [e] at h; exact h
/-- a call that sees data only -/
def StOk (K : PySem.W.Frag) (ca : String → Addr) (k : List D → Store → Res D) (vs : List V) (Sp : L2.Sp) : Prop := ∀ (fx : Fix) (W : WX) (g : Gh) (S : Store) (H : Hp) (ds : List D) (σ : L2.St) (Q : VK), fx.K = K → fx.ca = ca → R fx g S H → RelL fx.K fx.ca g vs ds →
  ePost fx W g σ (tOf fx Q) (k ds S) → Sp vs H Q (fun c d H => W c d σ H)
theorem pure_of {fx : Fix} {W : WX} {g : Gh} {σ : L2.St} {k : List D → Store → Res D} {ds : List D} {vs : List V} {S : Store} {H : Hp} {Q : VK} {Sp : L2.Sp} (hk : StOk fx.K fx.ca k vs Sp) (h : ePost fx W g σ (tOf fx Q) (pureK k ds S)) (r : R fx g S H) (rv : RelL fx.K fx.ca g vs ds) :
    Sp vs H Q (fun c d H => W c d σ H) := by
  unfold pureK at h
  cases q : frzL (frzD frzK) S ds with
  | none => rw [q] at h; exact h.elim
  | some p =>
    obtain ⟨es, S1⟩ := p
    rw [q] at h
    obtain ⟨g1, l1, _, r1, a1, p1⟩ := frzL_ok (frzD_ok frzK) q r rv
    let fx' : Fix := { fx with B := H, F0 := g1.F }
    let g0 : Gh := { F := g1.F, am := g1.am, n := 0 }
    have r0 : R fx' g0 [] H := ⟨fun _ _ e => e, r1.frz, fun _ _ e => .inl e, fun _ _ e => e, rfl, fun _ _ e => by simp at e, fun _ _ _ _ e => by simp at e⟩
    -- back to the caller
    have back : ∀ (g3 : Gh) (S3 : Store) (H2 : Hp), R fx' g3 S3 H2 → ∃ g' : Gh, g1.le g' ∧ g'.F = g3.F ∧ R fx g' S1 H2 := fun g3 S3 H2 r3 => by
      have same : Same H H2 := r3.frame
      let g' : Gh := { F := g3.F, am := g1.am, n := g1.n }
      have le : g1.le g' := ⟨fun a o e => r3.f0 a o e, fun _ _ => rfl, Nat.le_refl _⟩
      have nf : ∀ a u, g1.F a = none → H a = some u → g3.F a = none := fun a u h1 h2 => by
        cases z : g3.F a with
        | none => rfl
        | some o =>
          rcases r3.fresh a o z with y | y
          · rw [show g1.F a = some o from y] at h1
            cases h1
          · rw [show H a = none from y] at h2
            cases h2
      refine ⟨g', le, rfl, ⟨fun a o e => same _ _ (r1.frame a o e), r3.frz, fun a o e => ?_, fun a o e => le.F _ _ (r1.f0 a o e), r1.n, fun m c e => ?_, r1.inj⟩⟩
      · rcases r3.fresh a o e with y | y
        · exact r1.fresh a o y
        · refine .inr ?_
          cases z : fx.B a with
          | none => rfl
          | some u =>
            have k := r1.frame a u z
            rw [show H a = none from y] at k
            cases k
      · have w := r1.cells m c e
        cases c with
        | lst xs =>
          obtain ⟨h1, h2, us, h3, h4⟩ := w
          exact ⟨nf _ _ h1 h3, h2, us, same _ _ h3, h4.mono le⟩
        | ins c fs =>
          obtain ⟨h1, h2, dx, us, h3, h4⟩ := w
          exact ⟨nf _ _ h1 h3, h2, dx, us, same _ _ h3, h4.mono le⟩
        | frz d => exact ⟨w.1, w.2.mono le⟩
    refine hk fx' (fun c d _ H => W c d σ H) g0 [] H es [] Q rfl rfl r0 (RelL.pfF (g := g1) (g' := g0) (fun _ _ e => e) a1 p1) ?_
    have h : ePost fx W g σ (tOf fx Q) (match k es [] with
      | .ok d S2 => match frzD frzK S2 d with
        | some (d', _) => .ok d' S1
        | none => .bad
      | .ex x _ => if pfF x.fs then .ex x S1 else .bad
      | .bad => .bad) := h
    cases e : k es [] with
    | bad => rw [e] at h; exact h
    | ok d S2 =>
      rw [e] at h
      have h : ePost fx W g σ (tOf fx Q) (match frzD frzK S2 d with
        | some (d', _) => .ok d' S1
        | none => .bad) := h
      intro g2 H2 l2 r2 v rv2
      cases q2 : frzD frzK S2 d with
      | none => rw [q2] at h; exact h.elim
      | some p2 =>
        obtain ⟨d', S3⟩ := p2
        rw [q2] at h
        obtain ⟨g3, l3, _, r3, d3, p3⟩ := frzD_ok frzK fx' g2 S2 H2 v d d' S3 q2 r2 rv2
        obtain ⟨g', le, eF, r'⟩ := back g3 S3 H2 r3
        exact h g' H2 (l1.trans le) r' v (RelD.pfF (fun a o z => by rw [eF]; exact z) d3 p3)
    | ex x S2 =>
      rw [e] at h
      have h : ePost fx W g σ (tOf fx Q) (if pfF x.fs then .ex x S1 else .bad) := h
      by_cases hp : pfF x.fs = true
      · rw [if_pos hp] at h
        intro cls dx g2 H2 l2 r2 rx
        obtain ⟨g', le, eF, r'⟩ := back g2 S2 H2 r2
        refine h cls dx g' H2 (l1.trans le) r' ⟨rx.1, ?_⟩
        rcases rx.2 with e | ⟨d, us, h1, h2, h3⟩
        · exact .inl e
        · exact .inr ⟨d, us, h1, by rw [eF]; exact h2, RelF.pfF (fun a o q => by rw [eF]; exact q) h3 hp⟩
      · rw [if_neg hp] at h
        exact h.elim
theorem st_run {P : Prog} {n : Nat} {K : PySem.W.Frag} {ca : String → Addr} {f : String} {vs : List V} (hf : ∃ F, P.fn f = some F ∧ vs.length = F.np) : StOk K ca (run P n f) vs (spI P n K ca f) := fun fx W g S H ds σ Q k1 k2 r rv h => by
  subst k1 k2
  exact call_st hf h r rv
theorem call_pure {P : Prog} {n : Nat} {fx : Fix} {W : WX} {g : Gh} {σ : L2.St} {f : String} {ds : List D} {vs : List V} {S : Store} {H : Hp} {Q : VK} (hf : ∃ F, P.fn f = some F ∧ vs.length = F.np) (h : ePost fx W g σ (tOf fx Q) (callP (run P n) f ds S)) (r : R fx g S H) (rv : RelL fx.K fx.ca g vs ds) :
    spI P n fx.K fx.ca f vs H Q (fun c d H => W c d σ H) := pure_of (st_run hf) h r rv
theorem call_m {P : Prog} {n : Nat} {fx : Fix} {W : WX} {g : Gh} {σ : L2.St} {m : Mode} {f : String} {ds : List D} {vs : List V} {S : Store} {H : Hp} {Q : VK} (hf : ∃ F, P.fn f = some F ∧ vs.length = F.np) (h : ePost fx W g σ (tOf fx Q) (callM (run P n) m f ds S)) (r : R fx g S H) (rv : RelL fx.K fx.ca g vs ds) :
    spI P n fx.K fx.ca f vs H Q (fun c d H => W c d σ H) := by
  cases m with
  | pure => exact call_pure hf h r rv
  | st => exact call_st hf h r rv
/-- what making an instance promises -/
def spMk (sp : L2.Sp) (C : Addr) : L2.Sp := fun vs H Q E => ∀ x dx : Addr, H x = none → H dx = none → dx ≠ x → sp (.ref x :: vs) (upd (upd H dx (.own x)) x (.ins C dx [])) (fun v H2 => v = .non ∧ Q (.ref x) H2) E
theorem st_mk {P : Prog} {n : Nat} {K : PySem.W.Frag} {ca : String → Addr} {c f : String} {vs : List V} (hf : ∃ F, P.fn f = some F ∧ vs.length + 1 = F.np) : StOk K ca (mkK (run P n f) c) vs (spMk (spI P n K ca f) (ca c)) := fun fx W g S H ds σ Q k1 k2 r rv h x dx hx hd ne => by
  subst k1 k2
  obtain ⟨g', l, am, gn, r'⟩ := r.newIns c hx hd ne
  unfold mkK at h
  have rp : RelD fx.K fx.ca g' (.ref x) (.ptr S.length) := by
    rw [← am]
    exact .ptr (by rw [gn]; exact Nat.lt_succ_self _)
  refine call_st (W := W) (σ := σ) (S := S ++ [.ins c []]) (ds := .ptr S.length :: ds) (by rw [List.length_cons]; exact hf) ?_ r' (.cons rp (rv.mono l))
  cases e : run P n f (.ptr S.length :: ds) (S ++ [.ins c []]) with
  | bad => rw [e] at h; exact h
  | ex y S1 => rw [e] at h; exact ePost.up (r := Res.ex y S1) h l
  | ok d S1 =>
    rw [e] at h
    cases d with
    | non =>
      intro g2 H2 l2 r2 v rv2
      refine ⟨rv2.iNon, ?_⟩
      exact h g2 H2 (l.trans l2) r2 (.ref x) (rp.mono l2)
    | _ => exact h.elim
theorem mk_m {P : Prog} {n : Nat} {fx : Fix} {W : WX} {g : Gh} {σ : L2.St} {m : Mode} {c f : String} {ds : List D} {vs : List V} {S : Store} {H : Hp} {Q : VK} (hf : ∃ F, P.fn f = some F ∧ vs.length + 1 = F.np) (h : ePost fx W g σ (tOf fx Q) (mkM (run P n) m c f ds S)) (r : R fx g S H) (rv : RelL fx.K fx.ca g vs ds) :
    spMk (spI P n fx.K fx.ca f) (fx.ca c) vs H Q (fun c d H => W c d σ H) := by
  cases m with
  | pure => exact pure_of (st_mk hf) h r rv
  | st => exact st_mk hf fx W g S H ds σ Q rfl rfl r rv h
end MX
end

section
set_option maxRecDepth 100000
set_option maxHeartbeats 1000000
namespace MX
open PySem PySem.Spec PyProof.Rows L2

section
variable {X : Cx} {fx : Fix} {W : WX} {f h k : DSt → Store → Res D} {a b c : Expr} {pos : Pos}

theorem s_const {v : V} {d : D} {e : Expr} (p : PE X e (tC v)) (hr : ∀ g, RelD fx.K fx.ca g v d) : PE X e (tE fx W fun _ S => .ok d S) :=
  pe_imp p fun σ H Q ⟨g, dσ, S, r, sl, q⟩ => q.ret r (hr g)
theorem s_var {i : Nat} (p : PE X a (tVar i)) : PE X a (tE fx W fun σ S => match σ[i]? with
    | some (some d) => .ok d S
    | _ => .bad) := by
  refine pe_imp p fun σ H Q ⟨g, dσ, S, r, sl, q⟩ => ?_
  cases e : dσ[i]? with
  | none => simp only [e] at q; exact q.elim
  | some o =>
    cases o with
    | none => simp only [e] at q; exact q.elim
    | some d =>
      simp only [e] at q
      obtain ⟨v, h1, h2⟩ := sl.at_ i d e
      exact ⟨v, h1, q.ret r h2⟩

theorem s_two {op : Value → Value → Sem Value} {o : Store → D → D → Res D} (ha : PE X a (tE fx W f)) (hb : PE X b (tE fx W h)) (ho : OpD X fx W op o) {pins : List (Addr × Obj)} {s : Shared} {σ : L2.St} {H : Hp} {Q : VK} (I : Inv X pins σ H s)
    (q : tE fx W (fun σ S => (f σ S).bind fun x S1 => (h σ S1).bind fun y S2 => o S2 x y) σ H Q) :
    wpAny (model X.prog X.w) X.A (eval a X.env) (fun v s₁ => wpAny (model X.prog X.w) X.A (eval b X.env) (fun u s₂ => wpAny (model X.prog X.w) X.A (op v u) (EP X pins σ Q) X.xe s₂) X.xe s₁) X.xe s := by
  obtain ⟨g, dσ, S, r, sl, q⟩ := q
  refine binT (R := fun x y H2 => rD fx W o σ x y H2 Q) ha hb I (tE.bind q r sl fun x S1 v g1 H1 _ l1 r1 x1 q1 => tE.bind q1 r1 (sl.mono l1) fun y S2 w g2 H2 _ l2 r2 y2 q2 => ?_) fun v u s2 x y H2 I2 rx ry z => ho pins s2 σ H2 x y v u Q I2 rx ry z
  exact ⟨g2, S2, x, y, r2, x1.mono l2, y2, q2⟩
theorem s_bin {op : Operator} {o : Store → D → D → Res D} (ho : OpD X fx W (binaryOp op) o) (ha : PE X a (tE fx W f)) (hb : PE X b (tE fx W h)) :
    PE X (.BinOp a op b pos) (tE fx W fun σ S => (f σ S).bind fun x S1 => (h σ S1).bind fun y S2 => o S2 x y) :=
  ⟨fun pins s σ H Q I q => wpAny_BinOp (s_two ha hb ho I q)⟩
theorem s_cmp {op : CmpOp} {o : Store → D → D → Res D} (ho : OpD X fx W (compareOp op) o) (ha : PE X a (tE fx W f)) (hb : PE X b (tE fx W h)) (hm : behindInMarks op b = false) :
    PE X (.Compare a [op] [b] pos) (tE fx W fun σ S => (f σ S).bind fun x S1 => (h σ S1).bind fun y S2 => o S2 x y) :=
  ⟨fun pins s σ H Q I q => wpAny_Compare1 (s_two ha hb ho I q) hm⟩
/-- a value whose truth is asked, when the value is a bool -/
def tV (fx : Fix) (W : WX) (f : DSt → Store → Res D) : TT := fun σ H Q => tE fx W f σ H fun v H' => ∃ b, v = .bl b ∧ Q b H'
theorem ofB_ret {g : Gh} {σ : L2.St} {S : Store} {H : Hp} {o : Option Bool} {T : Gh → D → Store → Hp → Prop} (q : ePost fx W g σ T (ofB S o)) : ∃ b, o = some b ∧ ePost fx W g σ T (.ok (.bl b) S) := by
  cases o with
  | none => exact q.elim
  | some b => exact ⟨b, rfl, q⟩
theorem s_cmpT {op : CmpOp} {o : Store → D → D → Option Bool} (ho : OpD X fx W (compareOp op) (fun S x y => ofB S (o S x y))) (ha : PE X a (tE fx W f)) (hb : PE X b (tE fx W h)) (hm : behindInMarks op b = false) :
    PT X (.Compare a [op] [b] pos) (tT fx W fun σ S => (f σ S).bind fun x S1 => (h σ S1).bind fun y S2 => ofB S2 (o S2 x y)) := by
  refine ⟨fun pins s σ H Q I q => ?_⟩
  obtain ⟨g, dσ, S, r, sl, q⟩ := q
  have q1 : tE fx W f σ H (fun v H1 => tE fx W h σ H1 fun w H2 => rD fx W (fun S x y => ofB S (o S x y)) σ v w H2 fun z H3 => ∃ b, z = .bl b ∧ Q b H3) :=
    tE.bind q r sl fun x S1 v g1 H1 _ l1 r1 x1 q1 => tE.bind q1 r1 (sl.mono l1) fun y S2 w g2 H2 _ l2 r2 y2 q2 => by
      obtain ⟨b, e, q3⟩ := ofB_ret (H := H2) q2
      refine ⟨g2, S2, x, y, r2, x1.mono l2, y2, ?_⟩
      show ePost fx W g2 σ _ (ofB S2 (o S2 x y))
      rw [e]
      intro g3 H3 l3 r3 v3 rv3
      obtain ⟨b', e', q4⟩ := q3 g3 H3 l3 r3
      cases e'
      exact ⟨b, rv3.iBl, q4⟩
  refine wpAny_isTrue_Compare1 (thn (ha.run pins s σ H _ I q1) fun v s1 ⟨x, H1, I1, r1, q1⟩ => thn (hb.run pins s1 σ H1 _ I1 q1) fun u s2 ⟨y, H2, I2, r2, q2⟩ =>
    thn (ho pins s2 σ H2 x y v u _ I2 r1 r2 q2) fun c s3 ⟨z, H3, I3, r3, k, e, q3⟩ => ?_) hm
  subst e
  cases r3
  exact wpAny_truthy_bool ⟨H3, I3, q3⟩
theorem s_neg (ha : PE X a (tE fx W f)) : PE X (.UnaryOp .USub a pos) (tE fx W fun σ S => (f σ S).bind fun x S1 => match x with
    | .int i => .ok (.int (-i)) S1
    | _ => .bad) := by
  refine pe_imp (pe_un un_neg ha) fun σ H Q ⟨g, dσ, S, r, sl, q⟩ => tE.bind q r sl fun x S1 v g1 H1 _ l1 r1 x1 q1 => ?_
  cases x with
  | int i => exact ⟨i, x1.iInt, q1.ret r1 (.int _)⟩
  | _ => exact q1.elim
/-- the truth of a value -/
theorem tru_of {g : Gh} {σ : L2.St} {S : Store} {d : D} {T : Gh → D → Store → Hp → Prop} {kk : Bool → Res D} (q : ePost fx W g σ T (tru S d kk)) : ∃ b, truD (look S d) = some b ∧ ePost fx W g σ T (kk b) := by
  unfold tru at q
  cases e : truD (look S d) with
  | none => rw [e] at q; exact q.elim
  | some b => rw [e] at q; exact ⟨b, rfl, q⟩
theorem s_not (hK : fx.K = X.K) (ha : PE X a (tE fx W f)) : PE X (.UnaryOp .Not a pos) (tE fx W fun σ S => (f σ S).bind fun x S1 => tru S1 x fun b => .ok (.bl (!b)) S1) := by
  refine pe_imp (pe_notT ha) fun σ H Q ⟨g, dσ, S, r, sl, q⟩ => tE.bind q r sl fun x S1 v g1 H1 _ l1 r1 x1 q1 => ?_
  obtain ⟨b, e, q2⟩ := tru_of q1
  exact ⟨b, by rw [← hK]; exact r1.tru x1 e, q2.ret r1 (.bl _)⟩
theorem s_and {rest : List Expr} (hK : fx.K = X.K) (ha : PE X a (tE fx W f)) (hb : PE X (.BoolOp .And (b :: rest) pos) (tE fx W h)) :
    PE X (.BoolOp .And (a :: b :: rest) pos) (tE fx W fun σ S => (f σ S).bind fun x S1 => tru S1 x fun t => if t then h σ S1 else .ok x S1) := by
  refine pe_imp (pe_andT ha hb) fun σ H Q ⟨g, dσ, S, r, sl, q⟩ => tE.bind q r sl fun x S1 v g1 H1 _ l1 r1 x1 q1 => ?_
  obtain ⟨t, e, q2⟩ := tru_of q1
  refine ⟨t, by rw [← hK]; exact r1.tru x1 e, ?_⟩
  cases t with
  | true => exact iteT ⟨g1, dσ, S1, r1, sl.mono l1, q2⟩
  | false => exact iteF (ePost.ret q2 r1 x1)
theorem s_or {rest : List Expr} (hK : fx.K = X.K) (ha : PE X a (tE fx W f)) (hb : PE X (.BoolOp .Or (b :: rest) pos) (tE fx W h)) :
    PE X (.BoolOp .Or (a :: b :: rest) pos) (tE fx W fun σ S => (f σ S).bind fun x S1 => tru S1 x fun t => if t then .ok x S1 else h σ S1) := by
  refine pe_imp (pe_orT ha hb) fun σ H Q ⟨g, dσ, S, r, sl, q⟩ => tE.bind q r sl fun x S1 v g1 H1 _ l1 r1 x1 q1 => ?_
  obtain ⟨t, e, q2⟩ := tru_of q1
  refine ⟨t, by rw [← hK]; exact r1.tru x1 e, ?_⟩
  cases t with
  | false => exact iteF ⟨g1, dσ, S1, r1, sl.mono l1, q2⟩
  | true => exact iteT (ePost.ret q2 r1 x1)
theorem s_ife (hc : PT X c (tT fx W k)) (ha : PE X a (tE fx W f)) (hb : PE X b (tE fx W h)) :
    PE X (.IfExp c a b pos) (tE fx W fun σ S => (k σ S).bind fun x S1 => tru S1 x fun t => if t then f σ S1 else h σ S1) := by
  refine pe_imp (pe_ifExp hc ha hb) fun σ H Q ⟨g, dσ, S, r, sl, q⟩ => tT.bind q r sl fun x S1 g1 H1 _ l1 r1 q1 => ?_
  obtain ⟨t, e, q2⟩ := tru_of q1
  refine ⟨t, e, ?_⟩
  cases t with
  | true => exact iteT ⟨g1, dσ, S1, r1, sl.mono l1, q2⟩
  | false => exact iteF ⟨g1, dσ, S1, r1, sl.mono l1, q2⟩
/-! tests -/
theorem t_truth (hK : fx.K = X.K) (ha : PE X a (tE fx W f)) (he : ∀ whole, isTrue a X.env whole = (do let v ← whole; standAt a.pos; holding [v] (truthy v))) : PT X a (tT fx W f) := by
  refine pt_imp (pt_truth ha he) fun σ H Q ⟨g, dσ, S, r, sl, q⟩ => ⟨g, dσ, S, r, sl, ?_⟩
  cases e : f dσ S with
  | bad => rw [e] at q; exact q
  | ex x S1 => rw [e] at q; exact q
  | ok d S1 =>
    rw [e] at q
    intro g1 H1 l1 r1 v rv
    obtain ⟨b, hb, qb⟩ := q g1 H1 l1 r1
    exact ⟨b, by rw [← hK]; exact r1.tru rv hb, qb⟩
theorem t_not (ha : PT X a (tT fx W f)) : PT X (.UnaryOp .Not a pos) (tT fx W fun σ S => (f σ S).bind fun x S1 => tru S1 x fun b => .ok (.bl (!b)) S1) := by
  refine pt_imp (pt_not ha) fun σ H Q ⟨g, dσ, S, r, sl, q⟩ => tT.bind q r sl fun x S1 g1 H1 _ l1 r1 q1 => ?_
  obtain ⟨b, e, q2⟩ := tru_of q1
  obtain ⟨b', e', q3⟩ := q2 g1 H1 (Gh.le.refl g1) r1
  cases e'
  exact ⟨b, e, q3⟩
theorem w_and {rest : List Expr} (ha : PT X a (tT fx W f)) (hb : PW X (.BoolOp .And (b :: rest) pos) (tT fx W h)) :
    PW X (.BoolOp .And (a :: b :: rest) pos) (tT fx W fun σ S => (f σ S).bind fun x S1 => tru S1 x fun t => if t then h σ S1 else .ok x S1) := by
  refine pw_imp (pw_and ha hb) fun σ H Q ⟨g, dσ, S, r, sl, q⟩ => tT.bind q r sl fun x S1 g1 H1 _ l1 r1 q1 => ?_
  obtain ⟨t, e, q2⟩ := tru_of q1
  refine ⟨t, e, ?_⟩
  cases t with
  | true => exact iteT ⟨g1, dσ, S1, r1, sl.mono l1, q2⟩
  | false =>
    obtain ⟨b', e', q3⟩ := q2 g1 H1 (Gh.le.refl g1) r1
    have e2 : some b' = some false := e'.symm.trans e
    cases e2
    exact iteF q3
theorem w_or {rest : List Expr} (ha : PT X a (tT fx W f)) (hb : PW X (.BoolOp .Or (b :: rest) pos) (tT fx W h)) :
    PW X (.BoolOp .Or (a :: b :: rest) pos) (tT fx W fun σ S => (f σ S).bind fun x S1 => tru S1 x fun t => if t then .ok x S1 else h σ S1) := by
  refine pw_imp (pw_or ha hb) fun σ H Q ⟨g, dσ, S, r, sl, q⟩ => tT.bind q r sl fun x S1 g1 H1 _ l1 r1 q1 => ?_
  obtain ⟨t, e, q2⟩ := tru_of q1
  refine ⟨t, e, ?_⟩
  cases t with
  | false => exact iteF ⟨g1, dσ, S1, r1, sl.mono l1, q2⟩
  | true =>
    obtain ⟨b', e', q3⟩ := q2 g1 H1 (Gh.le.refl g1) r1
    have e2 : some b' = some true := e'.symm.trans e
    cases e2
    exact iteT q3
/-! arguments, displays -/
theorem s_anil : PA X [] (tA fx W fun _ S => .ok (.tup []) S) := pa_imp pa_nil fun σ H Q ⟨g, dσ, S, r, sl, q⟩ => q g H (Gh.le.refl g) r [] .nil
theorem s_acons {es : List Expr} (ha : PE X a (tE fx W f)) (hr : PA X es (tA fx W h)) (hs : starEach (a :: es) X.env = (false, eval a X.env) :: starEach es X.env) :
    PA X (a :: es) (tA fx W fun σ S => (f σ S).bind fun x S1 => (h σ S1).bind fun y S2 => .ok (.tup (x :: unT y)) S2) := by
  refine pa_imp (pa_cons ha hr hs) fun σ H Q ⟨g, dσ, S, r, sl, q⟩ => tE.bind q r sl fun x S1 v g1 H1 _ l1 r1 x1 q1 => tA.bind q1 r1 (sl.mono l1) fun y S2 vs g2 H2 _ l2 r2 y2 q2 => ?_
  exact q2 g2 H2 (Gh.le.refl g2) r2 (v :: vs) (.cons (x1.mono l2) y2)
theorem s_tup {es : List Expr} {x1} (ha : PA X es (tA fx W f)) : PE X (.Tuple es x1 pos) (tE fx W fun σ S => (f σ S).bind fun x S1 => if (unT x).length ≤ sizeLine then .ok (.tup (unT x)) S1 else .bad) := by
  refine pe_imp (pe_tup ha) fun σ H Q ⟨g, dσ, S, r, sl, q⟩ => tA.bind q r sl fun x S1 vs g1 H1 _ l1 r1 x1 q1 => ?_
  by_cases hz : (unT x).length ≤ sizeLine
  · rw [if_pos hz] at q1
    exact ⟨by rw [x1.length]; exact hz, fun p hp => q1.new r1 hp fun g' l e => .tup e (x1.mono l)⟩
  · rw [if_neg hz] at q1
    exact q1.elim
theorem s_lst {es : List Expr} (ha : PA X es (tA fx W f)) : PE X (.List es pos) (tE fx W fun σ S => (f σ S).bind fun x S1 => if (unT x).length ≤ sizeLine then .ok (.lst (unT x)) S1 else .bad) := by
  refine pe_imp (pe_lst ha) fun σ H Q ⟨g, dσ, S, r, sl, q⟩ => tA.bind q r sl fun x S1 vs g1 H1 _ l1 r1 x1 q1 => ?_
  by_cases hz : (unT x).length ≤ sizeLine
  · rw [if_pos hz] at q1
    exact ⟨by rw [x1.length]; exact hz, fun p hp => q1.new r1 hp fun g' l e => .lst e (x1.mono l)⟩
  · rw [if_neg hz] at q1
    exact q1.elim
theorem s_cell {es : List Expr} (ha : PA X es (tA fx W f)) : PE X (.List es pos) (tE fx W fun σ S => (f σ S).bind fun x S1 => if (unT x).length ≤ sizeLine then .ok (.ptr S1.length) (S1 ++ [.lst (unT x)]) else .bad) := by
  refine pe_imp (pe_lst ha) fun σ H Q ⟨g, dσ, S, r, sl, q⟩ => tA.bind q r sl fun x S1 vs g1 H1 _ l1 r1 x1 q1 => ?_
  by_cases hz : (unT x).length ≤ sizeLine
  · rw [if_pos hz] at q1
    refine ⟨by rw [x1.length]; exact hz, fun p hp => ?_⟩
    obtain ⟨g', l, am, n, r'⟩ := r1.cell hp x1
    refine q1 g' _ l r' (.ref p) ?_
    rw [← am]
    exact .ptr (by rw [n]; exact Nat.lt_succ_self _)
  · rw [if_neg hz] at q1
    exact q1.elim
/-- a value, frozen from here on -/
theorem s_frz (ha : PE X a (tE fx W f)) : PE X a (tE fx W fun σ S => (f σ S).bind fun x S1 => frzE S1 x) := by
  refine pe_imp ha fun σ H Q ⟨g, dσ, S, r, sl, q⟩ => tE.bind q r sl fun x S1 v g1 H1 _ l1 r1 x1 q1 => ?_
  unfold frzE at q1
  cases e : frzD frzK S1 x with
  | none => rw [e] at q1; exact q1.elim
  | some p =>
    obtain ⟨x', S2⟩ := p
    rw [e] at q1
    obtain ⟨g2, l2, _, r2, x2, _⟩ := frzD_ok frzK fx g1 S1 H1 v x x' S2 e r1 x1
    exact q1 g2 H1 l2 r2 v x2
theorem opD_cat {X : Cx} {fx : Fix} {W : WX} : OpD X fx W (binaryOp .Add) catD := by
  intro pins s σ H x y v u Q I rx ry h
  obtain ⟨g, S, d, e, r, rd, re, h⟩ := h
  unfold catD at h
  cases e1 : look S d with
  | lst xs =>
    cases e2 : look S e with
    | lst ys =>
      rw [e1, e2] at h
      obtain ⟨a, vs, rfl, ha, ra⟩ := r.lst rd e1
      obtain ⟨b, ws, rfl, hb, rb⟩ := r.lst re e2
      have h : ePost fx W g σ (tOf fx Q) (if xs.length + ys.length ≤ sizeLine then .ok (.ptr S.length) (S ++ [.lst (xs ++ ys)]) else .bad) := h
      by_cases hz : xs.length + ys.length ≤ sizeLine
      · rw [if_pos hz] at h
        refine op_cat pins s σ H _ _ v u Q I rx ry ⟨a, b, vs, ws, rfl, rfl, ha, hb, by rw [ra.length, rb.length]; exact hz, fun p hp => ?_⟩
        obtain ⟨g', l, am, n, r'⟩ := r.cell hp (ra.append rb)
        refine h g' _ l r' (.ref p) ?_
        rw [← am]
        exact .ptr (by rw [n]; exact Nat.lt_succ_self _)
      · rw [if_neg hz] at h
        exact h.elim
    | _ => rw [e1, e2] at h; exact h.elim
  | _ => rw [e1] at h; exact h.elim
/-! subscripts -/
theorem s_idx (hK : fx.K = X.K) (ha : PE X a (tE fx W f)) (hb : PE X b (tE fx W h)) (hs : PlainIx b) : PE X (.Subscript a b pos) (tE fx W fun σ S => (f σ S).bind fun x S1 => (h σ S1).bind fun y S2 => idxD S2 x y) := by
  refine pe_imp (pe_ix ix_seq ha hb hs) fun σ H Q ⟨g, dσ, S, r, sl, q⟩ => tE.bind q r sl fun x S1 v g1 H1 _ l1 r1 x1 q1 => tE.bind q1 r1 (sl.mono l1) fun y S2 w g2 H2 _ l2 r2 y2 q2 => ?_
  have x2 := x1.mono l2
  have key : ∃ i, y = .int i := by
    cases y with
    | int i => exact ⟨i, rfl⟩
    | _ =>
      unfold idxD at q2
      cases z : look S2 x <;> rw [z] at q2 <;> exact q2.elim
  obtain ⟨i, rfl⟩ := key
  have hw := y2.iInt
  subst hw
  unfold idxD at q2
  cases e1 : look S2 x with
  | lst xs =>
    rw [e1] at q2
    obtain ⟨p, vs, rfl, hp, rp⟩ := r2.lst x2 e1
    have q2 : ePost fx W g2 σ (tOf fx Q) (match atD xs i with
      | some d => .ok d S2
      | none => .bad) := q2
    cases e : atD xs i with
    | none => rw [e] at q2; exact q2.elim
    | some d =>
      rw [e] at q2
      obtain ⟨u, hu, ru⟩ := rp.at e
      exact .inl ⟨p, vs, i, u, rfl, rfl, SqL.of hp, hu, ePost.ret q2 r2 ru⟩
  | tup xs =>
    rw [e1] at q2
    obtain ⟨p, vs, rfl, hp, rp⟩ := r2.tup x2 e1
    have q2 : ePost fx W g2 σ (tOf fx Q) (match atD xs i with
      | some d => .ok d S2
      | none => .bad) := q2
    cases e : atD xs i with
    | none => rw [e] at q2; exact q2.elim
    | some d =>
      rw [e] at q2
      obtain ⟨u, hu, ru⟩ := rp.at e
      exact .inr (.inl ⟨p, vs, i, u, rfl, rfl, SqT.of hp, hu, ePost.ret q2 r2 ru⟩)
  | _ => rw [e1] at q2; exact q2.elim
/-- a slice's part -/
def tO (fx : Fix) (W : WX) (f : DSt → Store → Res D) : TO := fun σ H Q => ∃ g dσ S, R fx g S H ∧ Sl fx g dσ σ ∧ ePost fx W g σ (fun _ d _ H' => ∃ o, partD d = some o ∧ Q o H') (f dσ S)
theorem po_imp {X : Cx} {e : Option Expr} {t t' : TO} (h : PO X e t) (i : ∀ σ H Q, t' σ H Q → t σ H Q) : PO X e t' := ⟨fun pins s σ H Q I q => h.run pins s σ H Q I (i σ H Q q)⟩
theorem o_none : PO X none (tO fx W fun _ S => .ok .non S) := po_imp po_none fun σ H Q ⟨g, dσ, S, r, sl, q⟩ => by
  obtain ⟨o, e, q1⟩ := q g H (Gh.le.refl g) r
  cases e
  exact q1
theorem o_some (ha : PE X a (tE fx W f)) : PO X (some a) (tO fx W fun σ S => (f σ S).bind fun x S1 => match x with
    | .int i => .ok (.int i) S1
    | _ => .bad) := po_imp (po_some ha) fun σ H Q ⟨g, dσ, S, r, sl, q⟩ => tE.bind q r sl fun x S1 v g1 H1 _ l1 r1 x1 q1 => by
  cases x with
  | int i =>
    obtain ⟨o, e, q2⟩ := q1 g1 H1 (Gh.le.refl g1) r1
    cases e
    exact ⟨i, x1.iInt, q2⟩
  | _ => exact q1.elim
theorem tO.bind {α : Type} {g : Gh} {σ : L2.St} {H : Hp} {dσ : DSt} {S : Store} {T : Gh → α → Store → Hp → Prop} {f : DSt → Store → Res D} {k : D → Store → Res α} (h : ePost fx W g σ T ((f dσ S).bind k)) (r : R fx g S H) (sl : Sl fx g dσ σ) {Q' : Option Int → Hp → Prop}
    (hq : ∀ x S' g' H', f dσ S = .ok x S' → g.le g' → R fx g' S' H' → ePost fx W g' σ T (k x S') → ∃ o, partD x = some o ∧ Q' o H') : tO fx W f σ H Q' := by
  refine ⟨g, dσ, S, r, sl, ?_⟩
  cases e : f dσ S with
  | ok x S' =>
    rw [e] at h
    intro g' H' l r'
    exact hq x S' g' H' e l r' (ePost.up h l)
  | ex x S' =>
    rw [e] at h
    exact h
  | bad =>
    rw [e] at h
    exact h
theorem part_of {α : Type} {g : Gh} {σ : L2.St} {d : D} {T : Gh → α → Store → Hp → Prop} {kk : Option Int → Res α} (q : ePost fx W g σ T (withPart d kk)) : ∃ o, partD d = some o ∧ ePost fx W g σ T (kk o) := by
  unfold withPart at q
  cases e : partD d with
  | none => rw [e] at q; exact q.elim
  | some o => rw [e] at q; exact ⟨o, rfl, q⟩
theorem s_cut {lo hi : Option Expr} {p2 : Pos} {fl fh : DSt → Store → Res D} (hK : fx.K = X.K) (ha : PE X a (tE fx W f)) (hl : PO X lo (tO fx W fl)) (hh : PO X hi (tO fx W fh)) :
    PE X (.Subscript a (.Slice lo hi none p2) pos) (tE fx W fun σ S => (f σ S).bind fun x S1 => (fl σ S1).bind fun y S2 => withPart y fun l => (fh σ S2).bind fun z S3 => withPart z fun h => cutD S3 x l h) := by
  refine pe_imp (pe_slice (SlR.or sl_list sl_tup) ha hl hh) fun σ H Q ⟨g, dσ, S, r, sl, q⟩ => tE.bind q r sl fun x S1 v g1 H1 _ l1 r1 x1 q1 => tO.bind q1 r1 (sl.mono l1) fun y S2 g2 H2 _ l2 r2 q2 => ?_
  obtain ⟨l, ey, q2⟩ := part_of q2
  refine ⟨l, ey, tO.bind q2 r2 ((sl.mono l1).mono l2) fun z S3 g3 H3 _ l3 r3 q3 => ?_⟩
  obtain ⟨u, ez, q3⟩ := part_of q3
  refine ⟨u, ez, ?_⟩
  have x3 := (x1.mono l2).mono l3
  unfold cutD at q3
  cases e1 : look S3 x with
  | lst xs =>
    rw [e1] at q3
    obtain ⟨p, vs, rfl, hp, rp⟩ := r3.lst x3 e1
    exact .inl ⟨p, vs, rfl, SqL.of hp, fun t ht => ePost.new q3 r3 ht fun g' l e => .lst e ((rp.cut _ _).mono l)⟩
  | tup xs =>
    rw [e1] at q3
    obtain ⟨p, vs, rfl, hp, rp⟩ := r3.tup x3 e1
    have q3 : ePost fx W g3 σ (tOf fx Q) (if HT.sIx xs.length 0 l = 0 ∧ HT.sIx xs.length xs.length u = xs.length then .bad else .ok (.tup (cutL xs l u)) S3) := q3
    by_cases hz : HT.sIx xs.length 0 l = 0 ∧ HT.sIx xs.length xs.length u = xs.length
    · rw [if_pos hz] at q3
      exact q3.elim
    · rw [if_neg hz] at q3
      exact .inr ⟨p, vs, rfl, SqT.of hp, by rw [rp.length]; exact hz, fun t ht => ePost.new q3 r3 ht fun g' l e => .tup e ((rp.cut _ _).mono l)⟩
  | _ => rw [e1] at q3; exact q3.elim
/-! calls of built-ins -/
def CallD (X : Cx) (fx : Fix) (W : WX) (fv : Value) (o : Store → List D → Res D) : Prop :=
  ∀ (pins : List (Addr × Obj)) (s : Shared) (σ : L2.St) (H : Hp) (g : Gh) (S : Store) (vs : List V) (ds : List D) (us : List Value) (Q : VK), Inv X pins σ H s → Vals vs us → R fx g S H → RelL fx.K fx.ca g vs ds → ePost fx W g σ (tOf fx Q) (o S ds) →
    wpAny (model X.prog X.w) X.A (call fv us) (EP X pins σ Q) X.xe s
/-- such a call's arguments, then the call -/
theorem s_args {es : List Expr} {fv : Value} {o : Store → List D → Res D} (hc : CallD X fx W fv o) (ha : PA X es (tA fx W f)) {pins : List (Addr × Obj)} {s : Shared} {σ : L2.St} {H : Hp} {Q : VK} (I : Inv X pins σ H s)
    (q : tE fx W (fun σ S => (f σ S).bind fun x S1 => o S1 (unT x)) σ H Q) (pos : Pos) : wpAny (model X.prog X.w) X.A (spliced (backTo pos (starEach es X.env))) (fun us s1 => wpAny (model X.prog X.w) X.A (call fv us) (EP X pins σ Q) X.xe s1) X.xe s := by
  obtain ⟨g, dσ, S, r, sl, q⟩ := q
  have q1 : tA fx W f σ H (fun vs H1 => ∃ g1 S1 ds, R fx g1 S1 H1 ∧ RelL fx.K fx.ca g1 vs ds ∧ ePost fx W g1 σ (tOf fx Q) (o S1 ds)) :=
    tA.bind q r sl fun x S1 vs g1 H1 _ l1 r1 x1 q1 => ⟨g1, S1, unT x, r1, x1, q1⟩
  refine thn (ha.run pos pins s σ H _ I q1) fun us s1 ⟨vs, H1, I1, rv, g1, S1, ds, r1, rd, q2⟩ => hc pins s1 σ H1 g1 S1 vs ds us Q I1 rv r1 rd q2
theorem s_callB {x : Str} {id : String} {e : Expr} {es : List Expr} {p : Pos} {o : Store → List D → Res D} (hc : CallD X fx W (.builtin id) o) (hg : Gl X x) (hm : X.mg x = none) (hv : bootBuiltins x = some (.builtin id)) (hn : x ≠ "__name__") (hdb : (x == ("__debug__" : Str)) = false) (ha : PA X (e :: es) (tA fx W f))
    (he : starEach (e :: es) X.env = (false, eval e X.env) :: starEach es X.env) (hpl : (backTo pos (starEach es X.env)).any (·.1) = false) : PE X (.Call (.Name x p) (e :: es) [] pos) (tE fx W fun σ S => (f σ S).bind fun x S1 => o S1 (unT x)) := by
  refine ⟨fun pins s σ H Q I h => ?_⟩
  refine wpAny_Call_Name_kw (ld_blt I hg hm hv ?_ hn hdb)
  exact PyProof.Rows.callWith_builtin1 (s_args hc ha I h pos) he hpl
end
end MX
end

section
set_option maxRecDepth 100000
set_option maxHeartbeats 1000000
namespace MX
open PySem PySem.Spec PyProof.Rows L2

/-! ### sums of tuples, any and all of numbers -/
section
variable {prog : Program} {w : World} {A : Around} {E : Value → Shared → Prop} {s : Shared} {l : Addr} {its : List Value} {ns : List Int} {Q : Value → Shared → Prop}
theorem sum_rawT (hh : A.handled = none) (hl : s.heap.IsTuple l its.toArray) (hi : IntsAre its ns)
    (h : ∀ h' tk t', (∀ b o, s.heap.get? b = some o → h'.get? b = some o) → Q (.int ns.sum t') { s with heap := h', toks := tk }) : wpAny (model prog w) A (call (.builtin "sum") [.ref l]) Q E s := by
  obtain ⟨xs, e⟩ := hi.allInts.items
  have hn : numsOf (intItems xs).toList = ns := by rw [← e]; exact hi.numsOf
  rw [nums_intItems] at hn
  rw [e] at hl
  have hlt : l < s.heap.objs.size := by obtain ⟨_, e, _⟩ := hl; exact Heap.lt_size e
  refine call_sum_walkG (wpAny_pyIter_tuple hl ?_)
  refine ⟨_, _, _, _, _, _, numAt xs, rfl, Walks.tuple (A := A.in1) hh _ l (Nat.ne_of_lt hlt) (intItems xs), ⟨⟨_, Heap.get?_push_size _ rfl, rfl, rfl⟩, hl.push _⟩, fun b hb => ?_, (fun _ _ => intItems_at), fun h' tk t' hk => ?_⟩
  · show b < (s.heap.push _).objs.size
    rw [Heap.size_push]
    rcases List.mem_cons.mp hb with rfl | hb
    · exact Nat.lt_succ_self _
    · rcases List.mem_cons.mp hb with rfl | hb
      · exact Nat.lt_succ_of_lt hlt
      · cases hb
  · have := h h' tk t' fun b o eb => hk b o (fun hb => absurd (Heap.lt_size eb) ((List.mem_singleton.mp hb) ▸ Nat.lt_irrefl _)) (Heap.get?_push_of_some _ eb)
    rw [show (intItems xs).size = xs.size by simp [intItems], preSum_eq, List.take_of_length_le (by simp), hn]
    exact this
end
theorem truth_tr {prog : Program} {w : World} {A : Around} : ∀ {vs : List V} {bs : List Bool} {its : List Value}, Vals vs its → Paired TrV vs bs →
    TruthOf prog w A (fun i v => its.toArray[i]? = some v) (fun i => bs.getD i false) := fun {vs} {bs} {its} rv p i v s Q E hv hq => by
  have hv' : its[i]? = some v := by simpa using hv
  clear hv
  induction p generalizing i its with
  | nil => cases rv; simp at hv'
  | cons hb pr ih =>
    rename_i u b us bs'
    cases rv with
    | cons ru rr =>
      cases i with
      | succ i => exact ih rr i hq (by simpa using hv')
      | zero =>
        simp at hv'
        subst hv'
        rcases hb with rfl | ⟨k, rfl, rfl⟩
        · cases ru
          exact wpAny_truthy_bool hq
        · obtain ⟨t, rfl⟩ := ru
          exact truthy_int hq
section
variable {X : Cx}
def rSumT (K : PySem.W.Frag) : List V → Hp → VK → Prop := fun vs H Q => ∃ (a : Addr) (ns : List Int), vs = [V.ref a] ∧ SqT K H a (ns.map V.int) ∧ Q (.int ns.sum) H
theorem cr_sumT (hc : X.calm = true) : CallR X (.builtin "sum") (rSumT X.K) := by
  intro pins s σ H vs us Q I r h
  obtain ⟨a, ns, rfl, hs, q⟩ := h
  obtain ⟨its, rv, hl, _⟩ := I.tuple hs
  rw [Vals.ref1 r]
  exact sum_rawT (I.ok.hd hc) hl rv.ints fun h' tk t' hk => ⟨.int _, H, I.kept hk, ⟨_, rfl⟩, q⟩
def rAnyT (K : PySem.W.Frag) (f : List Bool → Bool) : List V → Hp → VK → Prop := fun vs H Q => ∃ (a : Addr) (xs : List V) (bs : List Bool), vs = [V.ref a] ∧ SqL K H a xs ∧ Paired TrV xs bs ∧ Q (.bl (f bs)) H
theorem paired_len {α β : Type} {F : α → β → Prop} : ∀ {l : List α} {m : List β}, Paired F l m → l.length = m.length
  | _, _, .nil => rfl
  | _, _, .cons _ h => congrArg (· + 1) (paired_len h)
theorem cr_anyT (hc : X.calm = true) : CallR X (.builtin "any") (rAnyT X.K (fun bs => bs.any id)) := by
  intro pins s σ H vs us Q I r h
  obtain ⟨a, xs, bs, rfl, hs, p, q⟩ := h
  obtain ⟨its, rv, hl, _⟩ := I.list hs
  rw [Vals.ref1 r]
  refine call_any_walk (iter_any hl.isList fun s₂ e2 st hne => ?_)
  subst e2
  refine ⟨_, _, _, _, _, _, _, rfl, Walks.list (A := X.A.in1) (I.ok.hd hc) _ a hne its.toArray, st, truth_tr rv p, fun h' tk hk => ?_⟩
  refine ⟨.bl _, H, I.kept fun b o eo => hk b o (fun hmem => ?_) (Heap.get?_push_of_some _ eo), ?_, q⟩
  · rcases List.mem_cons.mp hmem with e1 | hmem
    · exact absurd (e1 ▸ Heap.lt_size eo) (Nat.lt_irrefl _)
    · cases hmem
  · show Value.bool _ = Value.bool (bs.any id)
    rw [← L2.any_range, List.size_toArray, ← rv.length, paired_len p]
theorem cr_allT (hc : X.calm = true) : CallR X (.builtin "all") (rAnyT X.K (fun bs => bs.all id)) := by
  intro pins s σ H vs us Q I r h
  obtain ⟨a, xs, bs, rfl, hs, p, q⟩ := h
  obtain ⟨its, rv, hl, _⟩ := I.list hs
  rw [Vals.ref1 r]
  refine call_all_walk (iter_any hl.isList fun s₂ e2 st hne => ?_)
  subst e2
  refine ⟨_, _, _, _, _, _, _, rfl, Walks.list (A := X.A.in1) (I.ok.hd hc) _ a hne its.toArray, st, truth_tr rv p, fun h' tk hk => ?_⟩
  refine ⟨.bl _, H, I.kept fun b o eo => hk b o (fun hmem => ?_) (Heap.get?_push_of_some _ eo), ?_, q⟩
  · rcases List.mem_cons.mp hmem with e1 | hmem
    · exact absurd (e1 ▸ Heap.lt_size eo) (Nat.lt_irrefl _)
    · cases hmem
  · show Value.bool _ = Value.bool (bs.all id)
    rw [← L2.all_range, List.size_toArray, ← rv.length, paired_len p]
end
/-- the built-in's value -/
def Bi.val : Bi → Value
  | .abs => .builtin "abs"
  | .int => .type "int"
  | .bool => .type "bool"
  | .len => .builtin "len"
  | .sum => .builtin "sum"
  | .list => .type "list"
  | .listc => .type "list"
  | .tuple => .type "tuple"
  | .max2 => .builtin "max"
  | .min2 => .builtin "min"
  | .any => .builtin "any"
  | .all => .builtin "all"
def Bi.nm : Bi → String
  | .abs => "abs"
  | .int => "int"
  | .bool => "bool"
  | .len => "len"
  | .sum => "sum"
  | .list => "list"
  | .listc => "list"
  | .tuple => "tuple"
  | .max2 => "max"
  | .min2 => "min"
  | .any => "any"
  | .all => "all"
section
variable {X : Cx} {fx : Fix} {W : WX}
theorem relL1 {K : PySem.W.Frag} {ca : String → Addr} {g : Gh} {vs : List V} {d : D} (h : RelL K ca g vs [d]) : ∃ v, vs = [v] ∧ RelD K ca g v d := by
  cases h with
  | cons a b =>
    cases b
    exact ⟨_, rfl, a⟩
theorem relL2 {K : PySem.W.Frag} {ca : String → Addr} {g : Gh} {vs : List V} {d e : D} (h : RelL K ca g vs [d, e]) : ∃ v w, vs = [v, w] ∧ RelD K ca g v d ∧ RelD K ca g w e := by
  cases h with
  | cons a b =>
    obtain ⟨w, rfl, r⟩ := relL1 b
    exact ⟨_, w, rfl, a, r⟩
theorem callD_bi (b : Bi) (hK : fx.K = X.K) (hc : X.calm = true) : CallD X fx W b.val (biD b) := by
  intro pins s σ H g S vs ds us Q I rv r rd q
  unfold biD at q
  split at q
  · obtain ⟨v, rfl, r1⟩ := relL1 rd
    have := r1.iInt
    subst this
    exact call_abs pins s σ H _ us Q I rv ⟨_, rfl, ePost.ret q r (.int _)⟩
  · obtain ⟨v, rfl, r1⟩ := relL1 rd
    have := r1.iInt
    subst this
    exact call_int1 pins s σ H _ us Q I rv (.inl ⟨_, rfl, ePost.ret q r (.int _)⟩)
  · obtain ⟨v, rfl, r1⟩ := relL1 rd
    have := r1.iBl
    subst this
    exact call_int1 pins s σ H _ us Q I rv (.inr ⟨_, rfl, ePost.ret q r (.int _)⟩)
  · obtain ⟨v, rfl, r1⟩ := relL1 rd
    have := r1.iInt
    subst this
    exact call_bool1 pins s σ H _ us Q I rv (.inl ⟨_, rfl, ePost.ret q r (.bl _)⟩)
  · obtain ⟨v, rfl, r1⟩ := relL1 rd
    have := r1.iBl
    subst this
    exact call_bool1 pins s σ H _ us Q I rv (.inr ⟨_, rfl, ePost.ret q r (.bl _)⟩)
  · obtain ⟨v, rfl, r1⟩ := relL1 rd
    rename_i d
    cases e : lenD S d with
    | none => rw [e] at q; exact q.elim
    | some n =>
      rw [e] at q
      refine call_len pins s σ H _ us Q I rv ⟨v, n, rfl, ?_, ePost.ret q r (.int _)⟩
      unfold lenD at e
      cases e1 : look S d with
      | lst xs =>
        rw [e1] at e
        cases e
        obtain ⟨a, ws, rfl, h1, h2⟩ := r.lst r1 e1
        exact .inl ⟨ws, SqL.of h1, h2.length.symm⟩
      | tup xs =>
        rw [e1] at e
        cases e
        obtain ⟨a, ws, rfl, h1, h2⟩ := r.tup r1 e1
        exact .inr ⟨ws, SqT.of h1, h2.length.symm⟩
      | str z =>
        rw [e1] at e
        have e : (if z.length ≤ sizeLine then some z.length else none) = some n := e
        by_cases hz : z.length ≤ sizeLine
        · rw [if_pos hz] at e
          cases e
          have := r.str r1 e1
          subst this
          exact ⟨hz, rfl⟩
        · rw [if_neg hz] at e
          cases e
      | scr ns =>
        rw [e1] at e
        cases e
        obtain ⟨a, rfl, h1⟩ := r.scr r1 e1
        rw [hK] at h1
        exact .inl ⟨_, h1, by rw [List.length_map]⟩
      | _ => rw [e1] at e; cases e
  · obtain ⟨v, w, rfl, r1, r2⟩ := relL2 rd
    have h1 := r1.iInt
    have h2 := r2.iInt
    subst h1 h2
    exact call_max2 hc pins s σ H _ us Q I rv ⟨_, _, rfl, ePost.ret q r (.int _)⟩
  · obtain ⟨v, w, rfl, r1, r2⟩ := relL2 rd
    have h1 := r1.iInt
    have h2 := r2.iInt
    subst h1 h2
    exact call_min2 hc pins s σ H _ us Q I rv ⟨_, _, rfl, ePost.ret q r (.int _)⟩
  · obtain ⟨v, rfl, r1⟩ := relL1 rd
    rename_i d
    cases e1 : look S d with
    | lst xs =>
      rw [e1] at q
      have q : ePost fx W g σ (tOf fx Q) (match intsD xs with
        | some ns => .ok (.int ns.sum) S
        | none => .bad) := q
      cases e2 : intsD xs with
      | none => rw [e2] at q; exact q.elim
      | some ns =>
        rw [e2] at q
        obtain ⟨a, ws, rfl, h1, h2⟩ := r.lst r1 e1
        have := h2.ints e2
        subst this
        exact cr_sum hc pins s σ H _ us Q I rv ⟨a, ns, rfl, SqL.of h1, ePost.ret q r (.int _)⟩
    | tup xs =>
      rw [e1] at q
      have q : ePost fx W g σ (tOf fx Q) (match intsD xs with
        | some ns => .ok (.int ns.sum) S
        | none => .bad) := q
      cases e2 : intsD xs with
      | none => rw [e2] at q; exact q.elim
      | some ns =>
        rw [e2] at q
        obtain ⟨a, ws, rfl, h1, h2⟩ := r.tup r1 e1
        have := h2.ints e2
        subst this
        exact cr_sumT hc pins s σ H _ us Q I rv ⟨a, ns, rfl, SqT.of h1, ePost.ret q r (.int _)⟩
    | _ => rw [e1] at q; exact q.elim
  · obtain ⟨v, rfl, r1⟩ := relL1 rd
    rename_i d
    cases e1 : look S d with
    | lst xs =>
      rw [e1] at q
      have q : ePost fx W g σ (tOf fx Q) (match blsD xs with
        | some ns => .ok (.bl (ns.any id)) S
        | none => .bad) := q
      cases e2 : blsD xs with
      | none => rw [e2] at q; exact q.elim
      | some ns =>
        rw [e2] at q
        obtain ⟨a, ws, rfl, h1, h2⟩ := r.lst r1 e1
        exact cr_anyT hc pins s σ H _ us Q I rv ⟨a, ws, ns, rfl, SqL.of h1, h2.bls e2, ePost.ret q r (.bl _)⟩
    | _ => rw [e1] at q; exact q.elim
  · obtain ⟨v, rfl, r1⟩ := relL1 rd
    rename_i d
    cases e1 : look S d with
    | lst xs =>
      rw [e1] at q
      have q : ePost fx W g σ (tOf fx Q) (match blsD xs with
        | some ns => .ok (.bl (ns.all id)) S
        | none => .bad) := q
      cases e2 : blsD xs with
      | none => rw [e2] at q; exact q.elim
      | some ns =>
        rw [e2] at q
        obtain ⟨a, ws, rfl, h1, h2⟩ := r.lst r1 e1
        exact cr_allT hc pins s σ H _ us Q I rv ⟨a, ws, ns, rfl, SqL.of h1, h2.bls e2, ePost.ret q r (.bl _)⟩
    | _ => rw [e1] at q; exact q.elim
  · obtain ⟨v, rfl, r1⟩ := relL1 rd
    rename_i d
    cases e1 : look S d with
    | lst xs =>
      rw [e1] at q
      obtain ⟨a, ws, rfl, h1, h2⟩ := r.lst r1 e1
      exact call_list_of pins s σ H _ us Q I rv ⟨a, ws, rfl, .inl (SqL.of h1), fun l hl => ePost.new q r hl fun g' le e => .lst e (h2.mono le)⟩
    | tup xs =>
      rw [e1] at q
      obtain ⟨a, ws, rfl, h1, h2⟩ := r.tup r1 e1
      exact call_list_of pins s σ H _ us Q I rv ⟨a, ws, rfl, .inr (SqT.of h1), fun l hl => ePost.new q r hl fun g' le e => .lst e (h2.mono le)⟩
    | _ => rw [e1] at q; exact q.elim
  · obtain ⟨v, rfl, r1⟩ := relL1 rd
    rename_i d
    cases e1 : look S d with
    | lst xs =>
      rw [e1] at q
      obtain ⟨a, ws, rfl, h1, h2⟩ := r.lst r1 e1
      exact call_tuple_of pins s σ H _ us Q I rv ⟨a, ws, rfl, .inl ⟨SqL.of h1, fun l hl => ePost.new q r hl fun g' le e => .tup e (h2.mono le)⟩⟩
    | tup xs =>
      rw [e1] at q
      obtain ⟨a, ws, rfl, h1, h2⟩ := r.tup r1 e1
      refine call_tuple_of pins s σ H _ us Q I rv ⟨a, ws, rfl, .inr ⟨SqT.of h1, ?_⟩⟩
      have hd : RelD fx.K fx.ca g (.ref a) (.tup xs) := r.dat r1 e1 (fun _ z => by cases z) (fun _ _ z => by cases z)
      exact ePost.ret q r hd
    | _ => rw [e1] at q; exact q.elim
  · obtain ⟨v, rfl, r1⟩ := relL1 rd
    rename_i d
    cases e1 : look S d with
    | lst xs =>
      rw [e1] at q
      obtain ⟨a, ws, rfl, h1, h2⟩ := r.lst r1 e1
      exact call_list_of pins s σ H _ us Q I rv ⟨a, ws, rfl, .inl (SqL.of h1), fun l hl => by
        obtain ⟨g', le, am, n, r'⟩ := r.cell hl h2
        refine q g' _ le r' (.ref l) ?_
        rw [← am]
        exact .ptr (by rw [n]; exact Nat.lt_succ_self _)⟩
    | tup xs =>
      rw [e1] at q
      obtain ⟨a, ws, rfl, h1, h2⟩ := r.tup r1 e1
      exact call_list_of pins s σ H _ us Q I rv ⟨a, ws, rfl, .inr (SqT.of h1), fun l hl => by
        obtain ⟨g', le, am, n, r'⟩ := r.cell hl h2
        refine q g' _ le r' (.ref l) ?_
        rw [← am]
        exact .ptr (by rw [n]; exact Nat.lt_succ_self _)⟩
    | _ => rw [e1] at q; exact q.elim
  · exact q.elim
/-- a call by name: built-in function or type -/
theorem s_bi {b : Bi} {x : Str} {e : Expr} {es : List Expr} {p pos : Pos} {f : DSt → Store → Res D} (hK : fx.K = X.K) (hc : X.calm = true) (hx : x = Str.ofString b.nm) (hg : Gl X x) (hm : X.mg x = none) (ha : PA X (e :: es) (tA fx W f))
    (he : starEach (e :: es) X.env = (false, eval e X.env) :: starEach es X.env) (hpl : (backTo pos (starEach es X.env)).any (·.1) = false) : PE X (.Call (.Name x p) (e :: es) [] pos) (tE fx W fun σ S => (f σ S).bind fun x S1 => biD b S1 (unT x)) := by
  have hd : CallD X fx W b.val (biD b) := callD_bi b hK hc
  refine ⟨fun pins s σ H Q I h => ?_⟩
  have hdb : (x == ("__debug__" : Str)) = false := by subst hx; cases b <;> decide +kernel
  have hn : x ≠ ("__name__" : Str) := by subst hx; cases b <;> decide +kernel
  have hv : bootBuiltins x = some b.val := by subst hx; cases b <;> decide +kernel
  refine wpAny_Call_Name_kw (ld_blt I hg hm hv ?_ hn hdb)
  have q := s_args hd ha I h pos
  cases b with
  | abs => exact PyProof.Rows.callWith_builtin1 q he hpl
  | len => exact PyProof.Rows.callWith_builtin1 q he hpl
  | sum => exact PyProof.Rows.callWith_builtin1 q he hpl
  | max2 => exact PyProof.Rows.callWith_builtin1 q he hpl
  | min2 => exact PyProof.Rows.callWith_builtin1 q he hpl
  | any => exact PyProof.Rows.callWith_builtin1 q he hpl
  | all => exact PyProof.Rows.callWith_builtin1 q he hpl
  | int => exact PyProof.Rows.callWith_type1 q he hpl
  | bool => exact PyProof.Rows.callWith_type1 q he hpl
  | list => exact PyProof.Rows.callWith_type1 q he hpl
  | listc => exact PyProof.Rows.callWith_type1 q he hpl
  | tuple => exact PyProof.Rows.callWith_type1 q he hpl
/-! isinstance -/
def Ty.nm : Ty → String
  | .int => "int"
  | .bool => "bool"
  | .str => "str"
  | .list => "list"
  | .tuple => "tuple"
  | .cls c => c
def Ty.blt : Ty → Bool
  | .cls _ => false
  | _ => true
/-- the built-in type of plain data -/
def dTy : D → Option String
  | .non => some "NoneType"
  | .bl _ => some "bool"
  | .int _ => some "int"
  | .str _ => some "str"
  | .lst _ => some "list"
  | .tup _ => some "tuple"
  | _ => none
theorem R.ty {g : Gh} {S : Store} {H : Hp} (r : R fx g S H) {v : V} {d : D} (h : RelD fx.K fx.ca g v d) {t : String} (e : dTy (MX.look S d) = some t) : TyX X.K H v (.type t) := by
  cases q : MX.look S d with
  | non => rw [q] at e; cases e; rw [r.non h q]; exact .base .non
  | bl b => rw [q] at e; cases e; rw [r.bl h q]; exact .base (.bl _)
  | int b => rw [q] at e; cases e; rw [r.int h q]; exact .base (.int _)
  | str b => rw [q] at e; cases e; rw [r.str h q]; exact .base (.str _)
  | lst xs =>
    rw [q] at e
    cases e
    obtain ⟨a, vs, rfl, h1, _⟩ := r.lst h q
    exact .base (.lst h1)
  | tup xs =>
    rw [q] at e
    cases e
    obtain ⟨a, vs, rfl, h1, _⟩ := r.tup h q
    exact .base (.tup h1)
  | ins c fs => rw [q] at e; cases e
  | ptr n => rw [q] at e; cases e
  | scr n => rw [q] at e; cases e
theorem isi_kit {K : PySem.W.Frag} {S : Store} {d : D} {t : Ty} {b : Bool} (e : isiD S d t = some b) (ht : t.blt = true) : ∃ n, dTy (look S d) = some n ∧ PySem.W.kitOne K (.type n) (.type t.nm) = some b := by
  unfold isiD at e
  cases q : look S d <;> rw [q] at e <;> first
    | (cases e; done)
    | (refine ⟨_, rfl, kit_ty ?_⟩; cases t <;> first | (cases ht; done) | (cases e; decide +kernel))
theorem isi_any {K : PySem.W.Frag} {S : Store} {d : D} : ∀ {ts : List Ty} {b : Bool}, isiAny S d ts = some b → ts.all Ty.blt = true → ts ≠ [] → ∃ n, dTy (look S d) = some n ∧ PySem.W.kitAny K (.type n) (ts.map fun t => .type t.nm) = some b
  | [], _, _, _, h => absurd rfl h
  | t :: r, b, e, ht, _ => by
    rw [List.all_cons, Bool.and_eq_true] at ht
    have e : (match isiD S d t with
      | some true => some true
      | some false => isiAny S d r
      | none => none) = some b := e
    cases q : isiD S d t with
    | none => rw [q] at e; cases e
    | some c =>
      rw [q] at e
      obtain ⟨n, h1, h2⟩ := isi_kit (K := K) q ht.1
      refine ⟨n, h1, ?_⟩
      rw [List.map_cons]
      cases c with
      | true =>
        cases e
        exact kitAny_cons h2 (fun z => by cases z) fun _ => rfl
      | false =>
        have e : isiAny S d r = some b := e
        refine kitAny_cons h2 (fun _ => ?_) fun z => by cases z
        cases r with
        | nil =>
          cases e
          exact kitAny_nil
        | cons t2 r2 =>
          obtain ⟨m, h3, h4⟩ := isi_any (K := K) e ht.2 (by simp)
          rw [h1] at h3
          cases h3
          exact h4
end
end MX
end

section
set_option maxRecDepth 100000
set_option maxHeartbeats 1000000
namespace MX
open PySem PySem.Spec PyProof.Rows L2

section
variable {X : Cx} {fx : Fix} {W : WX} {f h : DSt → Store → Res D} {a b : Expr} {pos : Pos}
/-! isinstance -/
theorem ty_boot {t : Ty} (ht : t.blt = true) : bootBuiltins (Str.ofString t.nm) = some (.type t.nm) ∧ Str.ofString t.nm ≠ ("__name__" : Str) ∧ (Str.ofString t.nm == ("__debug__" : Str)) = false := by
  cases t <;> first | (cases ht; done) | exact ⟨by decide +kernel, by decide +kernel, by decide +kernel⟩
theorem s_isi {t : Ty} {y : Str} {p p2 : Pos} (hK : fx.K = X.K) (ht : t.blt = true) (hg : Gl X "isinstance") (hm : X.mg "isinstance" = none) (hy : y = Str.ofString t.nm) (hgy : Gl X y) (hmy : X.mg y = none) (ha : PE X a (tE fx W f))
    (he : starEach [a, .Name y p2] X.env = (false, eval a X.env) :: starEach [.Name y p2] X.env) : PE X (.Call (.Name "isinstance" p) [a, .Name y p2] [] pos) (tE fx W fun σ S => (f σ S).bind fun x S1 => ofB S1 (isiAny S1 x [t])) := by
  obtain ⟨h1, h2, h3⟩ := ty_boot ht
  subst hy
  have pn : PE X (.Name (Str.ofString t.nm) p2) (tC (.ty t.nm)) := pe_bltn hgy hmy h1 rfl h2 h3
  refine pe_imp (pe_callB call_isi hg hm PyProof.Rows.boot_isinstance (pa_cons ha (pa_cons pn pa_nil) he) (by decide) (by decide) he (by rfl)) fun σ H Q ⟨g, dσ, S, r, sl, q⟩ => tE.bind q r sl fun x S1 v g1 H1 _ l1 r1 x1 q1 => ?_
  obtain ⟨b, e, q2⟩ := ofB_ret (H := H1) q1
  obtain ⟨n, e1, e2⟩ := isi_any (K := X.K) e (by rw [List.all_cons, ht]; rfl) (by simp)
  have hty : TyX X.K H1 v (.type n) := r1.ty (X := X) x1 e1
  refine ⟨v, .ty t.nm, .type n, .type t.nm, b, rfl, .ty _, hty, ?_, ePost.ret q2 r1 (.bl _)⟩
  have e3 : PySem.W.kitAny X.K (.type n) [.type t.nm] = some b := e2
  unfold PySem.W.kitAny at e3
  cases q3 : PySem.W.kitOne X.K (.type n) (.type t.nm) with
  | none => rw [q3] at e3; cases e3
  | some c =>
    rw [q3] at e3
    cases c with
    | true => cases e3; rfl
    | false => cases e3; rfl
/-- the names of built-in types, as arguments -/
def tyNames : List Ty → List Expr → Bool
  | [], [] => true
  | t :: ts, .Name y _ :: es => t.blt && (decide (y = Str.ofString t.nm) && tyNames ts es)
  | _, _ => false
theorem pa_tys : ∀ {ts : List Ty} {es : List Expr}, tyNames ts es = true → (∀ t ∈ ts, Gl X (Str.ofString t.nm) ∧ X.mg (Str.ofString t.nm) = none) → PA X es (fun _ H Q => Q (ts.map fun t => .ty t.nm) H)
  | [], [], _, _ => pa_nil
  | t :: ts, .Name y p :: es, h, k => by
    unfold tyNames at h
    rw [Bool.and_eq_true, Bool.and_eq_true] at h
    obtain ⟨h1, h2, h3⟩ := ty_boot h.1
    have hy := of_decide_eq_true h.2.1
    subst hy
    obtain ⟨k1, k2⟩ := k t List.mem_cons_self
    have pn : PE X (.Name (Str.ofString t.nm) p) (tC (.ty t.nm)) := pe_bltn k1 k2 h1 rfl h2 h3
    have ih := pa_tys h.2.2 fun u hu => k u (List.mem_cons_of_mem _ hu)
    exact pa_imp (pa_cons pn ih) fun σ H Q q => q
  | [], _ :: _, h, _ => by cases h
  | _ :: _, [], h, _ => by cases h
  | _ :: _, .BoolOp _ _ _ :: _, h, _ => by cases h
  | _ :: _, .NamedExpr _ _ _ :: _, h, _ => by cases h
  | _ :: _, .BinOp _ _ _ _ :: _, h, _ => by cases h
  | _ :: _, .UnaryOp _ _ _ :: _, h, _ => by cases h
  | _ :: _, .Lambda _ _ _ _ :: _, h, _ => by cases h
  | _ :: _, .IfExp _ _ _ _ :: _, h, _ => by cases h
  | _ :: _, .Dict _ _ _ :: _, h, _ => by cases h
  | _ :: _, .Set _ _ _ :: _, h, _ => by cases h
  | _ :: _, .ListComp _ _ _ _ :: _, h, _ => by cases h
  | _ :: _, .SetComp _ _ _ _ :: _, h, _ => by cases h
  | _ :: _, .DictComp _ _ _ _ _ :: _, h, _ => by cases h
  | _ :: _, .GeneratorExp _ _ _ _ :: _, h, _ => by cases h
  | _ :: _, .Await _ _ :: _, h, _ => by cases h
  | _ :: _, .Yield _ _ :: _, h, _ => by cases h
  | _ :: _, .YieldFrom _ _ :: _, h, _ => by cases h
  | _ :: _, .Compare _ _ _ _ :: _, h, _ => by cases h
  | _ :: _, .Call _ _ _ _ :: _, h, _ => by cases h
  | _ :: _, .FormattedValue _ _ _ _ :: _, h, _ => by cases h
  | _ :: _, .JoinedStr _ _ :: _, h, _ => by cases h
  | _ :: _, .Constant _ _ _ :: _, h, _ => by cases h
  | _ :: _, .Attribute _ _ _ :: _, h, _ => by cases h
  | _ :: _, .Subscript _ _ _ :: _, h, _ => by cases h
  | _ :: _, .Starred _ _ :: _, h, _ => by cases h
  | _ :: _, .List _ _ :: _, h, _ => by cases h
  | _ :: _, .Tuple _ _ _ :: _, h, _ => by cases h
  | _ :: _, .Slice _ _ _ _ :: _, h, _ => by cases h
theorem clsAll : ∀ ts : List Ty, Paired ClsV (ts.map fun t => V.ty t.nm) (ts.map fun t => Value.type t.nm)
  | [] => .nil
  | t :: r => .cons (.ty _) (clsAll r)
theorem s_isiT {ts : List Ty} {es : List Expr} {x1} {p p2 : Pos} (hK : fx.K = X.K) (hn : ts ≠ []) (hl : ts.length ≤ sizeLine) (ht : tyNames ts es = true) (hts : ts.all Ty.blt = true) (hg : Gl X "isinstance") (hm : X.mg "isinstance" = none) (hk : ∀ t ∈ ts, Gl X (Str.ofString t.nm) ∧ X.mg (Str.ofString t.nm) = none) (ha : PE X a (tE fx W f))
    (he : starEach [a, .Tuple es x1 p2] X.env = (false, eval a X.env) :: starEach [.Tuple es x1 p2] X.env) : PE X (.Call (.Name "isinstance" p) [a, .Tuple es x1 p2] [] pos) (tE fx W fun σ S => (f σ S).bind fun x S1 => ofB S1 (isiAny S1 x ts)) := by
  have pt : PE X (.Tuple es x1 p2) (tTup (fun _ H Q => Q (ts.map fun t => .ty t.nm) H)) := pe_tup (pa_tys ht hk)
  refine pe_imp (pe_callB call_isiT hg hm PyProof.Rows.boot_isinstance (pa_cons ha (pa_cons pt pa_nil) he) (by decide) (by decide) he (by rfl)) fun σ H Q ⟨g, dσ, S, r, sl, q⟩ => tE.bind q r sl fun x S1 v g1 H1 _ l1 r1 x1 q1 => ?_
  refine ⟨by rw [List.length_map]; exact hl, fun p hp => ?_⟩
  obtain ⟨b, e, q2⟩ := ofB_ret (H := H1) q1
  obtain ⟨n, e1, e2⟩ := isi_any (K := X.K) e hts hn
  obtain ⟨r2, l2⟩ := r1.laid (o := .tup (ts.map fun t => V.ty t.nm)) hp
  have hty := r2.ty (X := X) (x1.mono l2) e1
  exact ⟨v, p, _, .type n, _, b, rfl, upd_same, clsAll ts, hty, e2, ePost.ret (ePost.up q2 l2) r2 (.bl _)⟩
/-! append -/
theorem s_app {apos : Pos} (hK : fx.K = X.K) (ha : PE X a (tE fx W f)) (hb : PE X b (tE fx W h)) (hbase : attributeBase a "append" X.env (eval a X.env) = eval a X.env) (hline : (apos.endLine == pos.line) = true)
    (hs : starEach [b] X.env = (false, eval b X.env) :: starEach [] X.env) :
    PE X (.Call (.Attribute a "append" apos) [b] [] pos) (tE fx W fun σ S => (f σ S).bind fun x S1 => match x with
    | .ptr n => match S1[n]? with
      | some (.lst _) => (h σ S1).bind fun y S2 => match S2[n]? with
        | some (.lst xs) => if xs.length < sizeLine then .ok .non (S2.set n (.lst (xs ++ [y]))) else .bad
        | _ => .bad
      | _ => .bad
    | _ => .bad) := by
  refine pe_imp (pe_bm PySem.F.plainAttrs_list PySem.F.slot_list_append PySem.F.type_list_append mt_append ha (pa_cons hb pa_nil hs) hbase (by rw [hs]; rfl) hline hs rfl) fun σ H Q ⟨g, dσ, S, r, sl, q⟩ => tE.bind q r sl fun x S1 v g1 H1 _ l1 r1 x1 q1 => ?_
  cases x with
  | ptr n =>
    obtain ⟨rfl, hn⟩ := x1.iPtr
    have q1 : ePost fx W g1 σ (tOf fx Q) (match S1[n]? with
      | some (.lst _) => (h dσ S1).bind fun y S2 => match S2[n]? with
        | some (.lst xs) => if xs.length < sizeLine then .ok .non (S2.set n (.lst (xs ++ [y]))) else .bad
        | _ => .bad
      | _ => .bad) := q1
    cases hc : S1[n]? with
    | none => rw [hc] at q1; exact q1.elim
    | some c =>
      rw [hc] at q1
      cases c with
      | lst zs =>
        obtain ⟨_, _, vs0, hv0, _⟩ := r1.cells n _ hc
        refine ⟨.inl ⟨rfl, _, SqL.of hv0⟩, tE.bind q1 r1 (sl.mono l1) fun y S2 w g2 H2 _ l2 r2 y2 q2 => ?_⟩
        cases hc2 : S2[n]? with
        | none => simp only [hc2] at q2; exact q2.elim
        | some c2 =>
          simp only [hc2] at q2
          cases c2 with
          | lst xs =>
            have q2 : ePost fx W g2 σ (tOf fx Q) (if xs.length < sizeLine then .ok .non (S2.set n (.lst (xs ++ [y]))) else .bad) := q2
            have am : g2.am n = g1.am n := l2.am n hn
            obtain ⟨_, _, vs, hv, rv⟩ := r2.cells n _ hc2
            by_cases hz : xs.length < sizeLine
            · rw [if_pos hz] at q2
              have r3 := r2.put hc2 (rv.append (RelL.one y2))
              rw [am] at hv r3
              exact ⟨_, vs, w, rfl, rfl, hv, by rw [rv.length]; exact hz, ePost.ret q2 r3 .non⟩
            · rw [if_neg hz] at q2
              exact q2.elim
          | ins c fs => exact q2.elim
          | frz d => exact q2.elim
      | ins c fs => exact q1.elim
      | frz d => exact q1.elim
  | _ => exact q1.elim
/-! own defs -/
/-- a def that may be called: its promise is its run -/
structure CallOk (P : Prog) (n : Nat) (K : PySem.W.Frag) (ca : String → Addr) (X : Cx) (x : Str) (f : String) : Prop where
  ex : ∃ (k : Nat) (a : Addr) (fd : FuncData) (ps : List Str), X.mg x = some (.ref a) ∧ PySem.W.keepIn X.K (.ref a) = true ∧ Room k X.A ∧ Binds X.K fd ps [] ∧ FnOk X.prog X.w X.K X.mg X.base (L2.CX X.prog X.w) k a fd ps (spI P n K ca f)
theorem run_np {P : Prog} {n : Nat} {f : String} {ds : List D} {S : Store} (h : run P n f ds S ≠ .bad) : ∃ F, P.fn f = some F ∧ ds.length = F.np := by
  cases n with
  | zero => exact absurd rfl h
  | succ n =>
    unfold run at h
    cases q : P.fn f with
    | none => simp only [q] at h; exact absurd rfl h
    | some F =>
      simp only [q] at h
      by_cases hz : ds.length = F.np
      · exact ⟨F, rfl, hz⟩
      · rw [if_neg hz] at h
        exact absurd rfl h
theorem frzL_len {f : Store → D → Option (D × Store)} : ∀ {ds : List D} {S : Store} {es : List D} {S' : Store}, frzL f S ds = some (es, S') → es.length = ds.length
  | [], S, es, S', e => by cases e; rfl
  | d :: r, S, es, S', e => by
    unfold frzL at e
    cases q : f S d with
    | none => rw [q] at e; cases e
    | some p =>
      obtain ⟨e1, S1⟩ := p
      rw [q] at e
      have e : (match frzL f S1 r with
        | some (q, S2) => some (e1 :: q, S2)
        | none => none) = some (es, S') := e
      cases q2 : frzL f S1 r with
      | none => rw [q2] at e; cases e
      | some p2 =>
        obtain ⟨e2, S2⟩ := p2
        rw [q2] at e
        cases e
        rw [List.length_cons, List.length_cons, frzL_len q2]
theorem callP_np {P : Prog} {n : Nat} {f : String} {ds : List D} {S : Store} (h : callP (run P n) f ds S ≠ .bad) : ∃ F, P.fn f = some F ∧ ds.length = F.np := by
  unfold callP pureK at h
  cases q : frzL (frzD frzK) S ds with
  | none => rw [q] at h; exact absurd rfl h
  | some p =>
    obtain ⟨es, S1⟩ := p
    rw [q] at h
    have hr : run P n f es [] ≠ .bad := fun e => by
      simp only [e] at h
      exact h rfl
    obtain ⟨F, h1, h2⟩ := run_np hr
    exact ⟨F, h1, by rw [← h2, frzL_len q]⟩
theorem post_ne {α : Type} {g : Gh} {σ : L2.St} {T : Gh → α → Store → Hp → Prop} {r : Res α} (h : ePost fx W g σ T r) : r ≠ .bad := fun e => by
  rw [e] at h
  exact h
theorem s_call {P : Prog} {n : Nat} {m : Mode} {fn : String} {x : Str} {e : Expr} {es : List Expr} {p : Pos} (hK : fx.K = X.K) (tk : Takes X W) (hg : Gl X x) (hc : CallOk P n fx.K fx.ca X x fn) (ha : PA X (e :: es) (tA fx W f)) (hdb : (x == ("__debug__" : Str)) = false)
    (he : starEach (e :: es) X.env = (false, eval e X.env) :: starEach es X.env) (hpl : (backTo pos (starEach es X.env)).any (·.1) = false) : PE X (.Call (.Name x p) (e :: es) [] pos) (tE fx W fun σ S => (f σ S).bind fun x S1 => callM (run P n) m fn (unT x) S1) := by
  obtain ⟨k, a, fd, ps, hm, hk, hr, hb, F⟩ := hc.ex
  refine pe_imp (pe_callS F hr hg hm hk hb (fun σ => passAt tk σ) ha hdb he hpl) fun σ H Q ⟨g, dσ, S, r, sl, q⟩ => tA.bind q r sl fun y S1 vs g1 H1 _ l1 r1 y1 q1 => ?_
  cases m with
  | st =>
    have q1 : ePost fx W g1 σ (tOf fx Q) (run P n fn (unT y) S1) := q1
    obtain ⟨G, h1, h2⟩ := run_np (post_ne q1)
    exact call_st ⟨G, h1, by rw [y1.length]; exact h2⟩ q1 r1 y1
  | pure =>
    have q1 : ePost fx W g1 σ (tOf fx Q) (callP (run P n) fn (unT y) S1) := q1
    obtain ⟨G, h1, h2⟩ := callP_np (post_ne q1)
    exact call_pure ⟨G, h1, by rw [y1.length]; exact h2⟩ q1 r1 y1
end
end MX
end

section
set_option maxRecDepth 100000
set_option maxHeartbeats 1000000
namespace MX
open PySem PySem.Spec PyProof.Rows L2

/-- an iterator that gives these items, as long as the source stands -/
def GoodIt (fx0 : Fix) (g0 : Gh) (ok : Store → Bool) (J : It) (xs : List D) : Prop := ∀ (fx : Fix) (i : Nat) (g : Gh) (S : Store) (H : Hp), fx.K = fx0.K → fx.ca = fx0.ca → g0.le g → R fx g S H → ok S = true →
  (i < xs.length → J.go i H ∧ ∀ x H', J.yld i H x H' → ∃ g' d, g.le g' ∧ R fx g' S H' ∧ xs[i]? = some d ∧ RelD fx.K fx.ca g' x d) ∧ (xs.length ≤ i → J.stop i H)
/-- what is walked -/
def srcPost (fx : Fix) (k : ItK) (Q : It → Hp → Prop) : Gh → D → Store → Hp → Prop := fun g d S H => ∃ s, srcD k S d = some s ∧ ∀ J, GoodIt fx g s.ok J s.xs → Q J H
def tI (fx : Fix) (W : WX) (k : ItK) (f : DSt → Store → Res D) : TI := fun σ H Q => ∃ g dσ S, R fx g S H ∧ Sl fx g dσ σ ∧ ePost fx W g σ (srcPost fx k Q) (f dσ S)
theorem tI.bind {fx : Fix} {W : WX} {g : Gh} {α : Type} {σ : L2.St} {H : Hp} {dσ : DSt} {S : Store} {T : Gh → α → Store → Hp → Prop} {f : DSt → Store → Res D} {k : D → Store → Res α} {kk : ItK} (h : ePost fx W g σ T ((f dσ S).bind k)) (r : R fx g S H) (sl : Sl fx g dσ σ) {Q' : It → Hp → Prop}
    (hq : ∀ x S' g' H', f dσ S = .ok x S' → g.le g' → R fx g' S' H' → ePost fx W g' σ T (k x S') → srcPost fx kk Q' g' x S' H') : tI fx W kk f σ H Q' := by
  refine ⟨g, dσ, S, r, sl, ?_⟩
  cases e : f dσ S with
  | ok x S' =>
    rw [e] at h
    intro g' H' l r'
    exact hq x S' g' H' e l r' (ePost.up h l)
  | ex x S' =>
    rw [e] at h
    exact h
  | bad =>
    rw [e] at h
    exact h
mutual
theorem same_of : ∀ (a b : D), sameB a b = true → a = b
  | .non, b, h => by cases b <;> first | rfl | (unfold sameB at h; cases h)
  | .bl x, b, h => by
    cases b <;> first | (unfold sameB at h; cases h; done) | skip
    unfold sameB at h
    rw [eq_of_beq h]
  | .int x, b, h => by
    cases b <;> first | (unfold sameB at h; cases h; done) | skip
    unfold sameB at h
    rw [eq_of_beq h]
  | .str x, b, h => by
    cases b <;> first | (unfold sameB at h; cases h; done) | skip
    unfold sameB at h
    rw [of_decide_eq_true h]
  | .lst x, b, h => by
    cases b <;> first | (unfold sameB at h; cases h; done) | skip
    unfold sameB at h
    rw [same_ofL _ _ h]
  | .tup x, b, h => by
    cases b <;> first | (unfold sameB at h; cases h; done) | skip
    unfold sameB at h
    rw [same_ofL _ _ h]
  | .ins c x, b, h => by
    cases b <;> first | (unfold sameB at h; cases h; done) | skip
    unfold sameB at h
    rw [Bool.and_eq_true] at h
    rw [of_decide_eq_true h.1, same_ofF _ _ h.2]
  | .ptr x, b, h => by
    cases b <;> first | (unfold sameB at h; cases h; done) | skip
    unfold sameB at h
    rw [eq_of_beq h]
  | .scr x, b, h => by
    cases b <;> first | (unfold sameB at h; cases h; done) | skip
    unfold sameB at h
    rw [of_decide_eq_true h]
theorem same_ofL : ∀ (a b : List D), sameBL a b = true → a = b
  | [], b, h => by cases b <;> first | rfl | (unfold sameBL at h; cases h)
  | x :: r, b, h => by
    cases b <;> first | (unfold sameBL at h; cases h; done) | skip
    unfold sameBL at h
    rw [Bool.and_eq_true] at h
    rw [same_of _ _ h.1, same_ofL _ _ h.2]
theorem same_ofF : ∀ (a b : List (String × D)), sameBF a b = true → a = b
  | [], b, h => by cases b <;> first | rfl | (unfold sameBF at h; cases h)
  | (x, d) :: r, b, h => by
    cases b <;> first | (unfold sameBF at h; cases h; done) | skip
    unfold sameBF at h
    rw [Bool.and_eq_true, Bool.and_eq_true] at h
    rw [of_decide_eq_true h.1, same_of _ _ h.2.1, same_ofF _ _ h.2.2]
end

section
variable {fx : Fix} {g : Gh} {S : Store} {H : Hp}
/-- a frozen source is data -/
theorem R.still (r : R fx g S H) {v : V} {d : D} (h : RelD fx.K fx.ca g v d) (st : still S d = true) : RelD fx.K fx.ca g v (MX.look S d) := by
  rcases r.look h with ⟨n, ys, rfl, rfl, hc, e'⟩ | ⟨n, c, fs, rfl, rfl, hc, e'⟩ | k
  · unfold MX.still at st
    simp only [hc] at st
    cases st
  · unfold MX.still at st
    simp only [hc] at st
    cases st
  · exact k
/-- a source: the list, or the tuple, at its address, with the items, as long as it stands -/
structure Stands (fx0 : Fix) (g0 : Gh) (ok : Store → Bool) (a : Addr) (xs : List D) (tp : Bool) : Prop where
  at_ : ∀ (fx : Fix) (g : Gh) (S : Store) (H : Hp), fx.K = fx0.K → fx.ca = fx0.ca → g0.le g → R fx g S H → ok S = true →
    ∃ vs, (if tp then H a = some (.tup vs) else H a = some (.lst vs) ∨ SqL fx0.K H a vs) ∧ RelL fx.K fx.ca g vs xs
theorem rel_scr {K : PySem.W.Frag} {ca : String → Addr} {g : Gh} : ∀ ns : List Int, RelL K ca g (ns.map V.int) (ns.map D.int)
  | [] => .nil
  | n :: ns => .cons (.int n) (rel_scr ns)
/-- a value that is walked stands at an address -/
theorem R.stands (r : R fx g S H) {v : V} {d : D} (h : RelD fx.K fx.ca g v d) {s : Src} (e : seqD S d = some s) : ∃ a, v = .ref a ∧ ((∃ xs, MX.look S d = .tup xs) ∧ Stands fx g s.ok a s.xs true ∨ (∀ xs, MX.look S d ≠ .tup xs) ∧ Stands fx g s.ok a s.xs false) := by
  unfold seqD at e
  cases hx : itemsD S d with
  | none => rw [hx] at e; cases e
  | some xs =>
    rw [hx] at e
    cases e
    cases st : MX.still S d with
    | true =>
      have k := r.still h st
      unfold itemsD at hx
      cases ex : MX.look S d with
      | lst ys =>
        rw [ex] at k hx
        cases hx
        obtain ⟨p, vs, rfl, h1, h2⟩ := k.iLst
        refine ⟨p, rfl, .inr ⟨fun _ z => (by cases z), ⟨fun fx2 g1 S1 H1 k1 k2 l1 r1 _ => ⟨vs, ?_, by rw [k1, k2]; exact h2.mono l1⟩⟩⟩⟩
        rw [if_neg (by decide)]
        exact .inl (r1.frz _ _ (l1.F _ _ h1))
      | tup ys =>
        rw [ex] at k hx
        cases hx
        obtain ⟨p, vs, rfl, h1, h2⟩ := k.iTup
        refine ⟨p, rfl, .inl ⟨⟨_, rfl⟩, ⟨fun fx2 g1 S1 H1 k1 k2 l1 r1 _ => ⟨vs, ?_, by rw [k1, k2]; exact h2.mono l1⟩⟩⟩⟩
        rw [if_pos rfl]
        exact r1.frz _ _ (l1.F _ _ h1)
      | scr ns =>
        rw [ex] at k hx
        cases hx
        obtain ⟨p, rfl, h1⟩ := k.iScr
        refine ⟨p, rfl, .inr ⟨fun _ z => (by cases z), ⟨fun fx2 g1 S1 H1 k1 k2 l1 r1 _ => ⟨ns.map V.int, ?_, ?_⟩⟩⟩⟩
        · rw [if_neg (by decide)]
          exact .inr ((show Same g.F H1 from fun a o e => r1.frz _ _ (l1.F _ _ e)).seq h1)
        · exact rel_scr ns
      | _ => rw [ex] at hx; cases hx
    | false =>
      cases d with
      | ptr n =>
        obtain ⟨rfl, hn⟩ := h.iPtr
        have hn : n < S.length := by rw [← r.n]; exact hn
        have hcn : S[n]? = some S[n] := List.getElem?_eq_getElem hn
        cases hd : S[n] with
        | frz d =>
          unfold MX.still at st
          simp only [hcn, hd] at st
          cases st
        | ins c fs =>
          unfold itemsD MX.look at hx
          simp only [hcn, hd] at hx
          cases hx
        | lst ys =>
          have e2 : MX.look S (.ptr n) = .lst ys := by unfold MX.look; simp only [hcn, hd]
          refine ⟨_, rfl, .inr ⟨fun _ z => (by rw [e2] at z; cases z), ⟨fun fx2 g1 S1 H1 k1 k2 l1 r1 ho => ?_⟩⟩⟩
          have q1 : RelD fx2.K fx2.ca g1 (.ref (g.am n)) (.ptr n) := by rw [k1, k2]; exact h.mono l1
          have ho : sameSrc S1 (.ptr n) xs = true := ho
          unfold sameSrc at ho
          cases ex : MX.look S1 (.ptr n) with
          | lst zs =>
            rw [ex] at ho
            obtain rfl := same_ofL _ _ ho
            obtain ⟨a, vs, ea, h1, h2⟩ := r1.lst q1 ex
            cases ea
            exact ⟨vs, by rw [if_neg (by decide)]; exact .inl h1, h2⟩
          | _ => rw [ex] at ho; cases ho
      | _ => cases st
theorem Stands.sqL {fx0 : Fix} {g0 : Gh} {ok : Store → Bool} {a : Addr} {xs : List D} (h : Stands fx0 g0 ok a xs false) {fx : Fix} {g : Gh} {S : Store} {H : Hp} (k1 : fx.K = fx0.K) (k2 : fx.ca = fx0.ca) (l : g0.le g) (r : R fx g S H) (o : ok S = true) : ∃ vs, SqL fx0.K H a vs ∧ RelL fx.K fx.ca g vs xs := by
  obtain ⟨vs, h1, h2⟩ := h.at_ fx g S H k1 k2 l r o
  rw [if_neg (by decide)] at h1
  rcases h1 with h1 | h1
  · exact ⟨vs, SqL.of h1, h2⟩
  · exact ⟨vs, h1, h2⟩
theorem Stands.sqT {fx0 : Fix} {g0 : Gh} {ok : Store → Bool} {a : Addr} {xs : List D} (h : Stands fx0 g0 ok a xs true) {fx : Fix} {g : Gh} {S : Store} {H : Hp} (k1 : fx.K = fx0.K) (k2 : fx.ca = fx0.ca) (l : g0.le g) (r : R fx g S H) (o : ok S = true) : ∃ vs, SqT fx0.K H a vs ∧ RelL fx.K fx.ca g vs xs := by
  obtain ⟨vs, h1, h2⟩ := h.at_ fx g S H k1 k2 l r o
  rw [if_pos rfl] at h1
  exact ⟨vs, SqT.of h1, h2⟩
theorem Stands.imp {fx0 : Fix} {g0 g1 : Gh} {ok ok' : Store → Bool} {a : Addr} {xs : List D} {tp : Bool} (h : Stands fx0 g0 ok a xs tp) (l : g0.le g1) (i : ∀ S, ok' S = true → ok S = true) : Stands fx0 g1 ok' a xs tp := ⟨fun fx g S H k1 k2 l1 r o => h.at_ fx g S H k1 k2 (l.trans l1) r (i S o)⟩
theorem good_list {a : Addr} {xs : List D} {ok : Store → Bool} (h : Stands fx g ok a xs false) : GoodIt fx g ok (Itl fx.K a) xs := by
  intro fx2 i g1 S1 H1 k1 k2 l1 r1 o
  obtain ⟨vs, h1, rv⟩ := h.sqL k1 k2 l1 r1 o
  refine ⟨fun hi => ?_, fun hi => ⟨vs, h1, by rw [rv.length]; exact hi⟩⟩
  obtain ⟨v, e1, e2⟩ := rv.get (List.getElem?_eq_getElem hi)
  refine ⟨⟨vs, v, h1, e1⟩, fun x H' ⟨eh, hx⟩ => ?_⟩
  subst eh
  have hxv := hx vs h1
  rw [e1] at hxv
  cases hxv
  exact ⟨g1, _, Gh.le.refl g1, r1, List.getElem?_eq_getElem hi, e2⟩
theorem good_tup {a : Addr} {xs : List D} {ok : Store → Bool} (h : Stands fx g ok a xs true) : GoodIt fx g ok (Itt fx.K a) xs := by
  intro fx2 i g1 S1 H1 k1 k2 l1 r1 o
  obtain ⟨vs, h1, rv⟩ := h.sqT k1 k2 l1 r1 o
  refine ⟨fun hi => ?_, fun hi => ⟨vs, h1, by rw [rv.length]; exact hi⟩⟩
  obtain ⟨v, e1, e2⟩ := rv.get (List.getElem?_eq_getElem hi)
  refine ⟨⟨vs, v, h1, e1⟩, fun x H' ⟨eh, hx⟩ => ?_⟩
  subst eh
  have hxv := hx vs h1
  rw [e1] at hxv
  cases hxv
  exact ⟨g1, _, Gh.le.refl g1, r1, List.getElem?_eq_getElem hi, e2⟩
theorem good_rng {lo : Int} {n : Nat} {ok : Store → Bool} : GoodIt fx g ok (Itr lo n) ((List.range n).map fun (k : Nat) => D.int (lo + (k : Int))) := by
  intro fx2 i g1 S1 H1 k1 k2 l1 r1 o
  refine ⟨fun hi => ?_, fun hi => ?_⟩
  · rw [List.length_map, List.length_range] at hi
    refine ⟨hi, fun x H' ⟨eh, hx⟩ => ?_⟩
    subst eh
    subst hx
    exact ⟨g1, .int (lo + (i : Int)), Gh.le.refl g1, r1, by rw [List.getElem?_map, List.getElem?_range hi]; rfl, .int _⟩
  · rw [List.length_map, List.length_range] at hi
    exact hi
end

mutual
theorem same_refl : ∀ a : D, sameB a a = true
  | .non => by unfold sameB; rfl
  | .bl x => by unfold sameB; exact beq_self_eq_true x
  | .int x => by unfold sameB; exact beq_self_eq_true x
  | .str x => by unfold sameB; exact decide_eq_true rfl
  | .lst x => by unfold sameB; exact same_reflL x
  | .tup x => by unfold sameB; exact same_reflL x
  | .ins c x => by unfold sameB; rw [decide_eq_true rfl, same_reflF x]; rfl
  | .ptr x => by unfold sameB; exact beq_self_eq_true x
  | .scr x => by unfold sameB; exact decide_eq_true rfl
theorem same_reflL : ∀ a : List D, sameBL a a = true
  | [] => by unfold sameBL; rfl
  | x :: r => by unfold sameBL; rw [same_refl x, same_reflL r]; rfl
theorem same_reflF : ∀ a : List (String × D), sameBF a a = true
  | [] => by unfold sameBF; rfl
  | (x, d) :: r => by unfold sameBF; rw [decide_eq_true rfl, same_refl d, same_reflF r]; rfl
end
/-- a source stands where it is told -/
theorem seq_ok0 {S : Store} {d : D} {s : Src} (h : seqD S d = some s) : s.ok S = true := by
  unfold seqD at h
  cases hx : itemsD S d with
  | none => rw [hx] at h; cases h
  | some xs =>
    rw [hx] at h
    cases h
    cases st : MX.still S d with
    | true => rfl
    | false =>
      show sameSrc S d xs = true
      unfold sameSrc
      unfold itemsD at hx
      cases ex : MX.look S d with
      | lst ys => rw [ex] at hx; cases hx; exact same_reflL _
      | tup ys =>
        exfalso
        cases d with
        | ptr n =>
          unfold MX.still at st
          unfold MX.look at ex
          cases hc : S[n]? with
          | none => simp only [hc] at ex; cases ex
          | some c =>
            simp only [hc] at ex
            cases c with
            | frz d => simp [hc] at st
            | _ => cases ex
        | _ => cases st
      | scr ys =>
        exfalso
        cases d with
        | ptr n =>
          unfold MX.still at st
          unfold MX.look at ex
          cases hc : S[n]? with
          | none => simp only [hc] at ex; cases ex
          | some c =>
            simp only [hc] at ex
            cases c with
            | frz d => simp [hc] at st
            | _ => cases ex
        | _ => cases st
      | _ => rw [ex] at hx; cases hx
section
variable {X : Cx} {fx : Fix} {W : WX} {f h : DSt → Store → Res D} {a b tg : Expr} {pos : Pos}
theorem pi_or {wi wj : TI} (h1 : PI X tg a wi) (h2 : PI X tg a wj) : PI X tg a (fun σ H Q => wi σ H Q ∨ wj σ H Q) := ⟨fun pins s σ H Q I q => by
  rcases q with q | q
  · exact h1.run pins s σ H Q I q
  · exact h2.run pins s σ H Q I q⟩
theorem pi_imp {wi wj : TI} (h1 : PI X tg a wi) (i : ∀ σ H Q, wj σ H Q → wi σ H Q) : PI X tg a wj := ⟨fun pins s σ H Q I q => h1.run pins s σ H Q I (i σ H Q q)⟩
/-- a value that is walked -/
theorem i_seq (hK : fx.K = X.K) (ha : PE X a (tE fx W f)) : PI X tg a (tI fx W .seq f) := by
  refine pi_imp (pi_or (pi_list ha) (pi_tup ha)) fun σ H Q ⟨g, dσ, S, r, sl, q⟩ => ?_
  cases e : f dσ S with
  | bad => rw [e] at q; exact q.elim
  | ex x S1 =>
    rw [e] at q
    exact .inl ⟨g, dσ, S, r, sl, by rw [e]; exact q⟩
  | ok d S1 =>
    rw [e] at q
    have key : (∃ xs, MX.look S1 d = .tup xs) ∨ ∀ xs, MX.look S1 d ≠ .tup xs := by
      cases MX.look S1 d <;> first | exact .inl ⟨_, rfl⟩ | exact .inr fun _ z => by cases z
    rcases key with ⟨xs, ex⟩ | nt
    · refine .inr ⟨g, dσ, S, r, sl, ?_⟩
      rw [e]
      intro g1 H1 l1 r1 v rv
      obtain ⟨s, hs, hJ⟩ := q g1 H1 l1 r1
      have hs : seqD S1 d = some s := hs
      obtain ⟨p, rfl, ⟨_, st⟩ | ⟨no, _⟩⟩ := r1.stands rv hs
      · obtain ⟨vs, h1, _⟩ := st.sqT rfl rfl (Gh.le.refl g1) r1 (seq_ok0 hs)
        rw [← hK]
        exact ⟨p, rfl, ⟨vs, h1⟩, hJ _ (good_tup st)⟩
      · exact absurd ex (no _)
    · refine .inl ⟨g, dσ, S, r, sl, ?_⟩
      rw [e]
      intro g1 H1 l1 r1 v rv
      obtain ⟨s, hs, hJ⟩ := q g1 H1 l1 r1
      have hs : seqD S1 d = some s := hs
      obtain ⟨p, rfl, ⟨⟨_, y⟩, _⟩ | ⟨_, st⟩⟩ := r1.stands rv hs
      · exact absurd y (nt _)
      · obtain ⟨vs, h1, _⟩ := st.sqL rfl rfl (Gh.le.refl g1) r1 (seq_ok0 hs)
        rw [← hK]
        exact ⟨p, rfl, ⟨vs, h1⟩, hJ _ (good_list st)⟩
/-- a range -/
theorem rng_ret {g : Gh} {σ : L2.St} {S : Store} {o : Option (List D)} {T : Gh → D → Store → Hp → Prop} (q : ePost fx W g σ T (match o with
    | some xs => .ok (.lst xs) S
    | none => .bad)) : ∃ xs, o = some xs ∧ ePost fx W g σ T (.ok (.lst xs) S) := by
  cases o with
  | none => exact q.elim
  | some xs => exact ⟨xs, rfl, q⟩
theorem i_rng1 {p : Pos} (hg : Gl X "range") (hm : X.mg "range" = none) (ha : PE X a (tE fx W f)) (hs : starEach [a] X.env = [(false, eval a X.env)]) : PI X tg (.Call (.Name "range" p) [a] [] pos) (tI fx W .seq fun σ S => (f σ S).bind fun x S1 => match rngD [x] with
    | some xs => .ok (.lst xs) S1
    | none => .bad) := by
  refine pi_imp (pi_range1 hg hm (pa_cons ha pa_nil hs) hs) fun σ H Q ⟨g, dσ, S, r, sl, q⟩ => tE.bind q r sl fun x S1 v g1 H1 _ l1 r1 x1 q1 => ?_
  obtain ⟨xs, e, q2⟩ := rng_ret q1
  cases x with
  | int n =>
    have := x1.iInt
    subst this
    have e : (if -(2 ^ 62) ≤ n ∧ n < 2 ^ 62 then some ((List.range n.toNat).map fun (k : Nat) => D.int (0 + (k : Int))) else none) = some xs := e
    by_cases hz : -(2 ^ 62) ≤ n ∧ n < 2 ^ 62
    · rw [if_pos hz] at e
      cases e
      obtain ⟨s, hy, hJ⟩ := q2 g1 H1 (Gh.le.refl g1) r1
      cases hy
      exact ⟨n, rfl, hz.1, hz.2, hJ _ good_rng⟩
    · rw [if_neg hz] at e
      cases e
  | _ => cases e
theorem i_rng2 {p : Pos} (hg : Gl X "range") (hm : X.mg "range" = none) (ha : PE X a (tE fx W f)) (hb : PE X b (tE fx W h)) (hs : starEach [a, b] X.env = [(false, eval a X.env), (false, eval b X.env)]) (hs2 : starEach [b] X.env = [(false, eval b X.env)]) :
    PI X tg (.Call (.Name "range" p) [a, b] [] pos) (tI fx W .seq fun σ S => (f σ S).bind fun x S1 => (h σ S1).bind fun y S2 => match rngD [x, y] with
    | some xs => .ok (.lst xs) S2
    | none => .bad) := by
  refine pi_imp (pi_range2 hg hm (pa_cons ha (pa_cons hb pa_nil hs2) (by rw [hs, hs2])) hs hs2) fun σ H Q ⟨g, dσ, S, r, sl, q⟩ => tE.bind q r sl fun x S1 v g1 H1 _ l1 r1 x1 q1 => tE.bind q1 r1 (sl.mono l1) fun y S2 w g2 H2 _ l2 r2 y2 q2 => ?_
  obtain ⟨xs, e, q3⟩ := rng_ret q2
  cases x with
  | int n =>
    cases y with
    | int m =>
      have h1 := x1.iInt
      have h2 := y2.iInt
      subst h1 h2
      have e : (if -(2 ^ 62) ≤ n ∧ n < 2 ^ 62 ∧ -(2 ^ 62) ≤ m ∧ m < 2 ^ 62 then some ((List.range (m - n).toNat).map fun (k : Nat) => D.int (n + (k : Int))) else none) = some xs := e
      by_cases hz : -(2 ^ 62) ≤ n ∧ n < 2 ^ 62 ∧ -(2 ^ 62) ≤ m ∧ m < 2 ^ 62
      · rw [if_pos hz] at e
        cases e
        obtain ⟨s, hy, hJ⟩ := q3 g2 H2 (Gh.le.refl g2) r2
        cases hy
        exact ⟨n, m, rfl, hz, hJ _ good_rng⟩
      · rw [if_neg hz] at e
        cases e
    | _ => cases e
  | _ => cases y <;> cases e
/-! ### comprehensions -/
def W0 : WX := fun _ _ _ _ => False
theorem nox_of {α : Type} {g : Gh} {σ : L2.St} {T : Gh → α → Store → Hp → Prop} {r : Res α} (q : ePost fx W g σ T (noEx r)) : ePost fx W0 g σ T r := by
  cases r with
  | ok a S => exact q
  | ex x S => exact q.elim
  | bad => exact q
theorem wipe_key : ∀ (own : List Nat) (ρ τ : L2.St), ρ.length = τ.length → (∀ i, i ∉ own → ρ[i]? = τ[i]?) → L2.wipe ρ own = L2.wipe τ own := fun own => by
  induction own with
  | nil => exact fun ρ τ hl h => List.ext_getElem? fun i => h i (by simp)
  | cons v r ih =>
    intro ρ τ hl h
    show (L2.wipe ρ r).set v none = (L2.wipe τ r).set v none
    refine List.ext_getElem? fun i => ?_
    by_cases hv : v = i
    · subst hv
      rw [List.getElem?_set, List.getElem?_set, if_pos rfl, if_pos rfl, L2.wipe_length, L2.wipe_length, hl]
    · rw [List.getElem?_set_ne hv, List.getElem?_set_ne hv]
      by_cases hr : i ∈ r
      · have w1 : ∀ (κ : L2.St) (l : List Nat), i ∈ l → (L2.wipe κ l)[i]? = if i < κ.length then some none else none := fun κ l => by
          induction l with
          | nil => exact fun z => by cases z
          | cons u s ih2 =>
            intro z
            show ((L2.wipe κ s).set u none)[i]? = _
            rw [List.getElem?_set, L2.wipe_length]
            by_cases hu : u = i
            · rw [if_pos hu, hu]
            · rw [if_neg hu]
              exact ih2 (by rcases List.mem_cons.mp z with e | e; exact absurd e.symm hu; exact e)
        rw [w1 _ _ hr, w1 _ _ hr, hl]
      · rw [L2.wipe_out hr, L2.wipe_out hr]
        exact h i fun z => by rcases List.mem_cons.mp z with e | e; exact hv e.symm; exact hr e
theorem wipe_wipe {σ : L2.St} {own : List Nat} : L2.wipe (L2.wipe σ own) own = L2.wipe σ own := wipe_key own _ _ (L2.wipe_length _ _) fun i hi => L2.wipe_out hi
theorem wipe_put {σ : L2.St} {t : Nat} {v : Option V} {own : List Nat} (ht : t ∈ own) : L2.wipe (σ.set t v) own = L2.wipe σ own := wipe_key own _ _ (List.length_set ..) fun i hi => List.getElem?_set_ne (fun z => hi (by rw [← z]; exact ht))
theorem wipe_set {σ : L2.St} {t : Nat} {v : Option V} : ∀ {own : List Nat}, t ∈ own → L2.wipe ((L2.wipe σ own).set t v) own = L2.wipe σ own := by
  intro own ht
  have e1 : L2.wipe (L2.wipe σ own) own = L2.wipe σ own := by
    refine wipe_key own _ _ (L2.wipe_length _ _) fun i hi => L2.wipe_out hi
  rw [← e1]
  refine wipe_key own _ _ (by rw [List.length_set, L2.wipe_length, L2.wipe_length]) fun i hi => ?_
  rw [e1, List.getElem?_set_ne (fun z => hi (by rw [← z]; exact ht))]
/-- an object kept beside the state -/
theorem R.withB {fx : Fix} {g : Gh} {S : Store} {H : Hp} {p : Addr} {o : HO} (r : R fx g S H) (hp : H p = none) : R { fx with B := upd fx.B p o } g S (upd H p o) := by
  have nF : ∀ a u, g.F a = some u → a ≠ p := fun a u e => ne_of_none (r.frz a u e) hp
  refine ⟨fun a u e => ?_, fun a u e => ?_, fun a u e => ?_, r.f0, r.n, fun n c e => ?_, r.inj⟩
  · have e : upd fx.B p o a = some u := e
    by_cases ha : a = p
    · subst ha
      rw [upd_same] at e ⊢
      exact e
    · rw [upd_ne ha] at e ⊢
      exact r.frame a u e
  · rw [upd_ne (nF a u e)]
    exact r.frz a u e
  · rcases r.fresh a u e with h | h
    · exact .inl h
    · refine .inr ?_
      show upd fx.B p o a = none
      rw [upd_ne (nF a u e)]
      exact h
  · have q := r.cells n c e
    cases c with
    | lst xs =>
      obtain ⟨h1, h2, vs, h3, h4⟩ := q
      have ne := ne_of_none h3 hp
      exact ⟨h1, by show upd fx.B p o (g.am n) = none; rw [upd_ne ne]; exact h2, vs, by rw [upd_ne ne]; exact h3, h4⟩
    | ins c fs =>
      obtain ⟨h1, h2, dx, vs, h3, h4⟩ := q
      have ne := ne_of_none h3 hp
      exact ⟨h1, by show upd fx.B p o (g.am n) = none; rw [upd_ne ne]; exact h2, dx, vs, by rw [upd_ne ne]; exact h3, h4⟩
    | frz d => exact q
def hid (H : Hp) (p : Addr) : Hp := fun b => if b = p then none else H b
theorem hid_ne {H : Hp} {p a : Addr} (h : a ≠ p) : hid H p a = H a := if_neg h
theorem hid_same {H : Hp} {p : Addr} : hid H p p = none := if_pos rfl
theorem upd_hid {H : Hp} {p : Addr} {o : HO} : upd (hid H p) p o = upd H p o := by
  funext b
  unfold upd hid
  split <;> rfl
theorem R.dropB {fx : Fix} {g : Gh} {S : Store} {H : Hp} {p : Addr} {o : HO} (r : R { fx with B := upd fx.B p o } g S H) (hB : fx.B p = none) (h0 : fx.F0 p = none) : R fx g S (hid H p) ∧ H p = some o := by
  have hp : H p = some o := r.frame p o (show upd fx.B p o p = some o from upd_same)
  have nF : ∀ a u, g.F a = some u → a ≠ p := fun a u e z => by
    subst z
    rcases r.fresh a u e with h | h
    · rw [show fx.F0 a = some u from h] at h0
      cases h0
    · have h : upd fx.B a o a = none := h
      rw [upd_same] at h
      cases h
  refine ⟨⟨fun a u e => ?_, fun a u e => ?_, fun a u e => ?_, r.f0, r.n, fun n c e => ?_, r.inj⟩, hp⟩
  · have ne := ne_of_none e hB
    rw [hid_ne ne]
    exact r.frame a u (by show upd fx.B p o a = some u; rw [upd_ne ne]; exact e)
  · rw [hid_ne (nF a u e)]
    exact r.frz a u e
  · rcases r.fresh a u e with h | h
    · exact .inl h
    · refine .inr ?_
      have h : upd fx.B p o a = none := h
      rw [upd_ne (nF a u e)] at h
      exact h
  · have q := r.cells n c e
    have key : ∀ n, upd fx.B p o (g.am n) = none → g.am n ≠ p ∧ fx.B (g.am n) = none := fun n z => by
      have ne : g.am n ≠ p := fun y => by
        rw [y, upd_same] at z
        cases z
      rw [upd_ne ne] at z
      exact ⟨ne, z⟩
    cases c with
    | lst xs =>
      obtain ⟨h1, h2, vs, h3, h4⟩ := q
      obtain ⟨k1, k2⟩ := key n h2
      exact ⟨h1, k2, vs, by rw [hid_ne k1]; exact h3, h4⟩
    | ins c fs =>
      obtain ⟨h1, h2, dx, vs, h3, h4⟩ := q
      obtain ⟨k1, k2⟩ := key n h2
      exact ⟨h1, k2, dx, vs, by rw [hid_ne k1]; exact h3, h4⟩
    | frz d => exact q
/-- readings over any ground -/
def tE' (fx : Fix) (W : WX) (f : DSt → Store → Res D) : TE := fun σ H Q => ∃ fx' : Fix, fx'.K = fx.K ∧ fx'.ca = fx.ca ∧ tE fx' W f σ H Q
def tT' (fx : Fix) (W : WX) (f : DSt → Store → Res D) : TT := fun σ H Q => ∃ fx' : Fix, fx'.K = fx.K ∧ fx'.ca = fx.ca ∧ tT fx' W f σ H Q
theorem pe_all {X : Cx} {e : Expr} {fx : Fix} {W : WX} {f : DSt → Store → Res D} (h : ∀ fx' : Fix, fx'.K = fx.K → fx'.ca = fx.ca → PE X e (tE fx' W f)) : PE X e (tE' fx W f) :=
  ⟨fun pins s σ H Q I ⟨fx', k1, k2, q⟩ => (h fx' k1 k2).run pins s σ H Q I q⟩
theorem pt_all {X : Cx} {e : Expr} {fx : Fix} {W : WX} {f : DSt → Store → Res D} (h : ∀ fx' : Fix, fx'.K = fx.K → fx'.ca = fx.ca → PT X e (tT fx' W f)) : PT X e (tT' fx W f) :=
  ⟨fun pins s σ H Q I ⟨fx', k1, k2, q⟩ => (h fx' k1 k2).run pins s σ H Q I q⟩
theorem compK_ok {g : Gh} {σ : L2.St} {T : Gh → D → Store → Hp → Prop} {ok : Store → Bool} {f : D → Store → Res (Option D)} (hf : ∀ x S y S1, f x S ≠ .ex y S1) {k : List D → Store → Res D} : ∀ {xs : List D} {S : Store}, ePost fx W g σ T ((compK ok f xs S).bind k) → ∃ ys S1, compK ok f xs S = .ok ys S1 := by
  intro xs S q
  have nex : ∀ (xs : List D) (S : Store) y S1, compK ok f xs S ≠ .ex y S1 := fun xs => by
    induction xs with
    | nil =>
      intro S y S1 e
      unfold compK at e
      split at e <;> cases e
    | cons x r ih =>
      intro S y S1 e
      unfold compK at e
      split at e
      · cases q1 : f x S with
        | bad => rw [q1] at e; cases e
        | ex z S2 => exact hf _ _ _ _ q1
        | ok o S2 =>
          rw [q1] at e
          have e : ((compK ok f r S2).bind fun ys S2 => .ok (o.toList ++ ys) S2) = .ex y S1 := e
          cases q2 : compK ok f r S2 with
          | bad => rw [q2] at e; cases e
          | ex z S3 => exact ih _ _ _ q2
          | ok o S3 => rw [q2] at e; cases e
      · cases e
  cases e : compK ok f xs S with
  | ok ys S1 => exact ⟨ys, S1, rfl⟩
  | ex y S1 => exact absurd e (nex _ _ _ _)
  | bad => rw [e] at q; exact q.elim
theorem compK_here {g : Gh} {σ : L2.St} {T : Gh → D → Store → Hp → Prop} {ok : Store → Bool} {f : D → Store → Res (Option D)} {k : List D → Store → Res D} {xs : List D} {S : Store} (q : ePost fx W g σ T ((compK ok f xs S).bind k)) : ok S = true := by
  cases e : ok S with
  | true => rfl
  | false =>
    cases xs <;> (unfold compK at q; rw [e] at q; exact q.elim)
/-- a list just made: frozen, or a cell -/
theorem ePost.newL {g : Gh} {σ : L2.St} {H : Hp} {S : Store} {Q : VK} {nw : Bool} {xs : List D} {vs : List V} (h : ePost fx W g σ (tOf fx Q) (newL nw S xs)) (r : R fx g S H) {p : Addr} (hp : H p = none) (rv : RelL fx.K fx.ca g vs xs) : Q (.ref p) (upd H p (.lst vs)) := by
  cases nw with
  | false => exact ePost.new (d := .lst xs) h r hp fun g' l e => .lst e (rv.mono l)
  | true =>
    obtain ⟨g', l, am, n, r'⟩ := r.cell hp rv
    refine h g' _ l r' (.ref p) ?_
    rw [← am]
    exact .ptr (by rw [n]; exact Nat.lt_succ_self _)
/-- the turn of a comprehension over any target -/
def turnG (sg : DSt → D → Option DSt) (own : List Nat) (dσ : DSt) (fc fe : DSt → Store → Res D) : D → Store → Res (Option D) := fun x S => match sg (wipeD dσ own) x with
  | some dσ1 => noEx ((fc dσ1 S).bind fun y S2 => match truD (look S2 y) with
    | some true => (fe dσ1 S2).bind fun z S3 => .ok (some z) S3
    | some false => .ok none S2
    | none => .bad)
  | none => .bad
/-- a target stores as sg says, within own -/
structure TgOk (K : PySem.W.Frag) (ca : String → Addr) (G : TG) (sg : DSt → D → Option DSt) (own : List Nat) : Prop where
  run : ∀ (fx : Fix) (g : Gh) (S : Store) (H : Hp) (dσ dσ' : DSt) (σ : L2.St) (x : V) (dx : D) (Q : L2.St → Hp → Prop), fx.K = K → fx.ca = ca → R fx g S H → Sl fx g dσ σ → RelD K ca g x dx → sg dσ dx = some dσ' →
    (∀ σ', Sl fx g dσ' σ' → L2.wipe σ' own = L2.wipe σ own → Q σ' H) → G x σ H Q
theorem tg_name {K : PySem.W.Frag} {ca : String → Addr} {t : Nat} {own : List Nat} (ht : t ∈ own) : TgOk K ca (gName t) (fun σ x => some (σ.set t (some x))) own := ⟨fun fx g S H dσ dσ' σ x dx Q k1 k2 r sl rx e h => by
  cases e
  subst k1 k2
  exact h _ (sl.set t rx) (wipe_put ht)⟩
theorem turn_nex {sg : DSt → D → Option DSt} {own : List Nat} {dσ : DSt} {fc fe : DSt → Store → Res D} : ∀ x S y S1, turnG sg own dσ fc fe x S ≠ .ex y S1 := fun x S y S1 e => by
  unfold turnG noEx at e
  split at e
  · split at e
    · cases e
    · rename_i h
      exact h _ _ e
  · cases e
/-- the reading of a comprehension -/
theorem lc_readG {k : ItK} {nw : Bool} {fi : DSt → Store → Res D} {fc fe : DSt → Store → Res D} {sg : DSt → D → Option DSt} {G : TG} {own : List Nat} {tt : TT} (tg : TgOk fx.K fx.ca G sg own) (htt : tt = tT' fx W0 fc ∨ (tt = tYes ∧ fc = fun _ S => .ok (.bl true) S)) : ∀ (σ : L2.St) (H : Hp) (Q : VK), tE fx W (fun σ S => (fi σ S).bind fun d S1 => match srcD k S1 d with
    | some s => (compK s.ok (turnG sg own σ fc fe) s.xs S1).bind fun ys S2 => if ys.length ≤ sizeLine then newL nw S2 ys else .bad
    | none => .bad) σ H Q → tLc (tI fx W k fi) G tt (tE' fx W0 fe) own σ H Q := by
  intro σ H Q ⟨g, dσ, S, r, sl, q⟩
  show tI fx W k fi σ H _
  refine tI.bind q r sl fun d S1 g1 H1 _ l1 r1 q1 => ?_
  cases hx : srcD k S1 d with
  | none => rw [hx] at q1; exact q1.elim
  | some s =>
      rw [hx] at q1
      refine ⟨s, hx, fun J hJ D0 hD => ?_⟩
      obtain ⟨xs, ok⟩ := s
      generalize es : Src.mk xs ok = s at *
      obtain rfl : xs = s.xs := by rw [← es]
      have q1 : ePost fx W g1 σ (tOf fx Q) ((compK s.ok (turnG sg own dσ fc fe) s.xs S1).bind fun ys S2 => if ys.length ≤ sizeLine then newL nw S2 ys else .bad) := q1
      generalize s.xs = xs at *
      have nB : fx.B D0 = none := by
        cases z : fx.B D0 with
        | none => rfl
        | some u => rw [r1.frame _ _ z] at hD; cases hD
      have n0 : fx.F0 D0 = none := by
        cases z : fx.F0 D0 with
        | none => rfl
        | some u => rw [r1.frz _ _ (r1.f0 _ _ z)] at hD; cases hD
      -- the invariant: what is made so far, the rest to come
      refine ⟨fun i m H' => m + i = xs.length ∧ ∃ (g' : Gh) (S' : Store) (acc : List V) (dacc : List D) (H0 : Hp), g1.le g' ∧ R fx g' S' H0 ∧ H0 D0 = none ∧ H' = upd H0 D0 (.lst acc) ∧ RelL fx.K fx.ca g' acc dacc ∧
        ePost fx W g' σ (tOf fx Q) ((compK s.ok (turnG sg own dσ fc fe) (xs.drop i) S').bind fun ys S2 => if (dacc ++ ys).length ≤ sizeLine then newL nw S2 (dacc ++ ys) else .bad), ?_, ?_⟩
      · refine ⟨xs.length, rfl, g1, S1, [], [], H1, Gh.le.refl g1, r1, hD, rfl, .nil, ?_⟩
        rw [List.drop_zero]
        exact q1
      · intro i m H' ⟨hm, g', S', acc, dacc, H0, le, r', hD0, hH', ra, q'⟩
        subst hH'
        have hr : R { fx with B := upd fx.B D0 (.lst acc) } g' S' (upd H0 D0 (.lst acc)) := r'.withB hD0
        rcases Nat.lt_or_ge i xs.length with hi | hi
        · right
          have ho := compK_here q'
          obtain ⟨hgo, hyl⟩ := (hJ { fx with B := upd fx.B D0 (.lst acc) } i g' S' _ rfl rfl le hr ho).1 hi
          refine ⟨hgo, fun H2 => m - 1 + (i + 1) = xs.length ∧ ∃ (g' : Gh) (S' : Store) (acc : List V) (dacc : List D) (H0 : Hp), g1.le g' ∧ R fx g' S' H0 ∧ H0 D0 = none ∧ H2 = upd H0 D0 (.lst acc) ∧ RelL fx.K fx.ca g' acc dacc ∧
            ePost fx W g' σ (tOf fx Q) ((compK s.ok (turnG sg own dσ fc fe) (xs.drop (i + 1)) S').bind fun ys S2 => if (dacc ++ ys).length ≤ sizeLine then newL nw S2 (dacc ++ ys) else .bad), fun H2 h2 => ⟨m - 1, by omega, h2⟩, fun x H2 hy => ?_⟩
          obtain ⟨g2, dx, l2, r2, ex, rx⟩ := hyl x H2 hy
          have hd : xs.drop i = dx :: xs.drop (i + 1) := by
            rw [List.drop_eq_getElem_cons hi]
            rw [List.getElem?_eq_getElem hi] at ex
            rw [Option.some.inj ex]
          rw [hd] at q'
          have s0 : Sl { fx with B := upd fx.B D0 (.lst acc) } g2 dσ σ := ⟨((sl.mono l1).mono le).len, fun i d e => by
              obtain ⟨v, h1, h2⟩ := sl.at_ i d e
              exact ⟨v, h1, ((h2.mono l1).mono le).mono l2⟩⟩
          rw [show compK s.ok (turnG sg own dσ fc fe) (dx :: xs.drop (i + 1)) S' = (turnG sg own dσ fc fe dx S').bind fun o S3 => (compK s.ok (turnG sg own dσ fc fe) (xs.drop (i + 1)) S3).bind fun ys S4 => .ok (o.toList ++ ys) S4 from by conv => lhs; unfold compK; rw [if_pos ho]] at q'
          have q' : ePost fx W g' σ (tOf fx Q) (((turnG sg own dσ fc fe dx S').bind fun o S3 => (compK s.ok (turnG sg own dσ fc fe) (xs.drop (i + 1)) S3).bind fun ys S4 => .ok (o.toList ++ ys) S4).bind fun ys S2 => if (dacc ++ ys).length ≤ sizeLine then newL nw S2 (dacc ++ ys) else .bad) := q'
          cases e0 : sg (wipeD dσ own) dx with
          | none =>
            have et : turnG sg own dσ fc fe dx S' = .bad := by unfold turnG; rw [e0]
            rw [et] at q'
            exact q'.elim
          | some dσ1 =>
          have et : turnG sg own dσ fc fe dx S' = noEx ((fc dσ1 S').bind fun y S2 => match truD (look S2 y) with
            | some true => (fe dσ1 S2).bind fun z S3 => .ok (some z) S3
            | some false => .ok none S2
            | none => .bad) := by unfold turnG; rw [e0]
          rw [et] at q'
          refine tg.run { fx with B := upd fx.B D0 (.lst acc) } g2 S' H2 (wipeD dσ own) dσ1 (L2.wipe σ own) x dx _ rfl rfl r2 (s0.wipe own) rx e0 fun σ1 sl2 hw => ⟨hw.trans wipe_wipe, ?_⟩
          -- a turn that is kept, a turn that is not
          have yes : ∀ (S2 : Store) (g3 : Gh) (H3 : Hp), g2.le g3 → R { fx with B := upd fx.B D0 (.lst acc) } g3 S2 H3 → ePost fx W g3 σ (tOf fx Q) (((noEx ((fe dσ1 S2).bind fun z S3 => .ok (some z) S3)).bind fun o S3 => (compK s.ok (turnG sg own dσ fc fe) (xs.drop (i + 1)) S3).bind fun ys S4 => .ok (o.toList ++ ys) S4).bind fun ys S2 => if (dacc ++ ys).length ≤ sizeLine then newL nw S2 (dacc ++ ys) else .bad) →
              tE' fx W0 fe σ1 H3 fun y H4 => ∃ acc', H4 D0 = some (.lst acc') ∧ acc'.length < sizeLine ∧ (m - 1 + (i + 1) = xs.length ∧ ∃ (g' : Gh) (S' : Store) (acc : List V) (dacc : List D) (H0 : Hp), g1.le g' ∧ R fx g' S' H0 ∧ H0 D0 = none ∧ upd H4 D0 (.lst (acc' ++ [y])) = upd H0 D0 (.lst acc) ∧ RelL fx.K fx.ca g' acc dacc ∧
            ePost fx W g' σ (tOf fx Q) ((compK s.ok (turnG sg own dσ fc fe) (xs.drop (i + 1)) S').bind fun ys S2 => if (dacc ++ ys).length ≤ sizeLine then newL nw S2 (dacc ++ ys) else .bad)) := by
            intro S2 g3 H3 l3 r3 q3
            refine ⟨{ fx with B := upd fx.B D0 (.lst acc) }, rfl, rfl, g3, _, S2, r3, sl2.mono l3, ?_⟩
            cases e4 : fe dσ1 S2 with
            | bad => rw [e4] at q3; exact q3.elim
            | ex z S3 => rw [e4] at q3; exact q3.elim
            | ok z S3 =>
              rw [e4] at q3
              intro g4 H4 l4 r4 y ry
              obtain ⟨r5, h5⟩ := R.dropB r4 nB n0
              have q3 : ePost fx W g3 σ (tOf fx Q) (((compK s.ok (turnG sg own dσ fc fe) (xs.drop (i + 1)) S3).bind fun ys S4 => .ok (z :: ys) S4).bind fun ys S2 => if (dacc ++ ys).length ≤ sizeLine then newL nw S2 (dacc ++ ys) else .bad) := q3
              have ra4 : RelL fx.K fx.ca g4 acc dacc := ((ra.mono l2).mono l3).mono l4
              have q4 : ePost fx W g4 σ (tOf fx Q) ((compK s.ok (turnG sg own dσ fc fe) (xs.drop (i + 1)) S3).bind fun ys S2 => if ((dacc ++ [z]) ++ ys).length ≤ sizeLine then newL nw S2 ((dacc ++ [z]) ++ ys) else .bad) := by
                refine ePost.up ?_ l4
                cases e5 : compK s.ok (turnG sg own dσ fc fe) (xs.drop (i + 1)) S3 with
                | bad => rw [e5] at q3; exact q3.elim
                | ex w S4 => rw [e5] at q3; exact q3
                | ok w S4 =>
                  rw [e5] at q3
                  show ePost fx W g3 σ (tOf fx Q) (if ((dacc ++ [z]) ++ w).length ≤ sizeLine then newL nw S4 ((dacc ++ [z]) ++ w) else .bad)
                  rw [List.append_assoc]
                  exact q3
              have hlen : dacc.length < sizeLine := by
                obtain ⟨ys, S5, e5⟩ := compK_ok turn_nex q4
                rw [e5] at q4
                have q4 : ePost fx W g4 σ (tOf fx Q) (if ((dacc ++ [z]) ++ ys).length ≤ sizeLine then newL nw S5 ((dacc ++ [z]) ++ ys) else .bad) := q4
                by_cases hz : ((dacc ++ [z]) ++ ys).length ≤ sizeLine
                · simp only [List.length_append, List.length_cons, List.length_nil] at hz
                  omega
                · rw [if_neg hz] at q4
                  exact q4.elim
              exact ⟨acc, h5, by rw [ra4.length]; exact hlen, by omega, g4, S3, acc ++ [y], dacc ++ [z], hid H4 D0, ((le.trans l2).trans l3).trans l4, r5, hid_same, upd_hid.symm, ra4.append (RelL.one ry), q4⟩
          rcases htt with htt | ⟨htt, hfc⟩
          · subst htt
            refine ⟨{ fx with B := upd fx.B D0 (.lst acc) }, rfl, rfl, g2, _, S', r2, sl2, ?_⟩
            cases e3 : fc dσ1 S' with
            | bad => rw [e3] at q'; exact q'.elim
            | ex z S3 => rw [e3] at q'; exact q'.elim
            | ok z S3 =>
              rw [e3] at q'
              have q' : ePost fx W g' σ (tOf fx Q) (((noEx (match truD (look S3 z) with
                | some true => (fe dσ1 S3).bind fun z S3 => .ok (some z) S3
                | some false => .ok none S3
                | none => .bad)).bind fun o S3 => (compK s.ok (turnG sg own dσ fc fe) (xs.drop (i + 1)) S3).bind fun ys S4 => .ok (o.toList ++ ys) S4).bind fun ys S2 => if (dacc ++ ys).length ≤ sizeLine then newL nw S2 (dacc ++ ys) else .bad) := q'
              intro g3 H3 l3 r3
              cases e4 : truD (look S3 z) with
              | none => rw [e4] at q'; exact q'.elim
              | some b =>
                rw [e4] at q'
                refine ⟨b, e4, ?_⟩
                cases b with
                | true => exact iteT (yes S3 g3 H3 l3 r3 (ePost.up q' (l2.trans l3)))
                | false =>
                  refine iteF ?_
                  obtain ⟨r5, h5⟩ := R.dropB r3 nB n0
                  have q5 : ePost fx W g' σ (tOf fx Q) ((compK s.ok (turnG sg own dσ fc fe) (xs.drop (i + 1)) S3).bind fun ys S2 => if (dacc ++ ys).length ≤ sizeLine then newL nw S2 (dacc ++ ys) else .bad) := by
                    cases e5 : compK s.ok (turnG sg own dσ fc fe) (xs.drop (i + 1)) S3 with
                    | bad =>
                      have q' : ePost fx W g' σ (tOf fx Q) (((compK s.ok (turnG sg own dσ fc fe) (xs.drop (i + 1)) S3).bind fun ys S4 => .ok ([] ++ ys) S4).bind fun ys S2 => if (dacc ++ ys).length ≤ sizeLine then newL nw S2 (dacc ++ ys) else .bad) := q'
                      rw [e5] at q'
                      exact q'.elim
                    | ex w S4 =>
                      have q' : ePost fx W g' σ (tOf fx Q) (((compK s.ok (turnG sg own dσ fc fe) (xs.drop (i + 1)) S3).bind fun ys S4 => .ok ([] ++ ys) S4).bind fun ys S2 => if (dacc ++ ys).length ≤ sizeLine then newL nw S2 (dacc ++ ys) else .bad) := q'
                      rw [e5] at q'
                      exact q'
                    | ok w S4 =>
                      have q' : ePost fx W g' σ (tOf fx Q) (((compK s.ok (turnG sg own dσ fc fe) (xs.drop (i + 1)) S3).bind fun ys S4 => .ok ([] ++ ys) S4).bind fun ys S2 => if (dacc ++ ys).length ≤ sizeLine then newL nw S2 (dacc ++ ys) else .bad) := q'
                      rw [e5] at q'
                      exact q'
                  refine ⟨by omega, g3, S3, acc, dacc, hid H3 D0, (le.trans l2).trans l3, r5, hid_same, ?_, ((ra.mono l2).mono l3), ePost.up q5 (l2.trans l3)⟩
                  rw [upd_hid]
                  funext b
                  unfold upd
                  split
                  · rename_i hb
                    rw [hb, h5]
                  · rfl
          · subst htt hfc
            have z := yes S' g2 H2 (Gh.le.refl g2) r2 (ePost.up q' l2)
            simp only [tYes, ↓reduceIte]
            exact z
        · left
          have hr0 : R fx g' S' (upd H0 D0 (.lst acc)) := r'.same fun b o e => by rw [upd_ne (ne_of_none e hD0)]; exact e
          have ho := compK_here q'
          refine ⟨(hJ _ i g' S' _ rfl rfl le hr0 ho).2 hi, ?_⟩
          rw [List.drop_eq_nil_of_le hi, show compK s.ok (turnG sg own dσ fc fe) [] S' = .ok [] S' from by unfold compK; rw [if_pos ho]] at q'
          have q' : ePost fx W g' σ (tOf fx Q) (if (dacc ++ []).length ≤ sizeLine then newL nw S' (dacc ++ []) else .bad) := q'
          rw [List.append_nil] at q'
          by_cases hz : dacc.length ≤ sizeLine
          · rw [if_pos hz] at q'
            exact ePost.newL q' r' hD0 ra
          · rw [if_neg hz] at q'
            exact q'.elim
end
end MX
end

section
set_option maxRecDepth 100000
set_option maxHeartbeats 1000000
namespace MX
open PySem PySem.Spec PyProof.Rows L2

def sPost (fx : Fix) (W : WX) (g : Gh) (D : Ends) : SR → Prop
  | .nx dσ S => ∀ g' H' σ', g.le g' → R fx g' S H' → Sl fx g' dσ σ' → D.nx σ' H'
  | .bk dσ S => ∀ g' H' σ', g.le g' → R fx g' S H' → Sl fx g' dσ σ' → D.bk σ' H'
  | .ct dσ S => ∀ g' H' σ', g.le g' → R fx g' S H' → Sl fx g' dσ σ' → D.ct σ' H'
  | .rt d S => ∀ g' H' v, g.le g' → R fx g' S H' → RelD fx.K fx.ca g' v d → D.rt v H'
  | .ex x dσ S => ∀ cls dx g' H' σ', g.le g' → R fx g' S H' → Sl fx g' dσ σ' → RelX fx g' cls dx x → W cls dx σ' H'
  | .bad => False
def tS (fx : Fix) (W : WX) (f : DSt → Store → SR) : TS := fun D σ H => ∃ g dσ S, R fx g S H ∧ Sl fx g dσ σ ∧ sPost fx W g D (f dσ S)
theorem sPost.up {fx : Fix} {W : WX} {g g1 : Gh} {D : Ends} {r : SR} (h : sPost fx W g D r) (l : g.le g1) : sPost fx W g1 D r := by
  cases r with
  | nx d S => exact fun g' H' σ' l' => h g' H' σ' (l.trans l')
  | bk d S => exact fun g' H' σ' l' => h g' H' σ' (l.trans l')
  | ct d S => exact fun g' H' σ' l' => h g' H' σ' (l.trans l')
  | rt d S => exact fun g' H' v l' => h g' H' v (l.trans l')
  | ex x d S => exact fun c d g' H' σ' l' => h c d g' H' σ' (l.trans l')
  | bad => exact h
section
variable {fx : Fix} {W : WX} {g : Gh} {D : Ends} {σ : L2.St} {H : Hp} {dσ : DSt} {S : Store}
/-- an expression, then the rest -/
theorem tE.sr {f : DSt → Store → Res MX.D} {k : MX.D → Store → SR} (h : sPost fx W g D ((f dσ S).sr dσ k)) (r : R fx g S H) (sl : Sl fx g dσ σ) {Q' : VK}
    (hq : ∀ x S' v g' H', f dσ S = .ok x S' → g.le g' → R fx g' S' H' → RelD fx.K fx.ca g' v x → sPost fx W g' D (k x S') → Q' v H') : tE fx W f σ H Q' := by
  refine ⟨g, dσ, S, r, sl, ?_⟩
  cases e : f dσ S with
  | ok x S' =>
    rw [e] at h
    intro g' H' l r' v rv
    exact hq x S' v g' H' e l r' rv (sPost.up h l)
  | ex x S' =>
    rw [e] at h
    intro c d g' H' l r' rx
    exact h c d g' H' σ l r' (sl.mono l) rx
  | bad =>
    rw [e] at h
    exact h
theorem tT.sr {f : DSt → Store → Res MX.D} {k : MX.D → Store → SR} (h : sPost fx W g D ((f dσ S).sr dσ k)) (r : R fx g S H) (sl : Sl fx g dσ σ) {Q' : Bool → Hp → Prop}
    (hq : ∀ x S' g' H', f dσ S = .ok x S' → g.le g' → R fx g' S' H' → sPost fx W g' D (k x S') → ∃ b, truD (look S' x) = some b ∧ Q' b H') : tT fx W f σ H Q' := by
  refine ⟨g, dσ, S, r, sl, ?_⟩
  cases e : f dσ S with
  | ok x S' =>
    rw [e] at h
    intro g' H' l r'
    exact hq x S' g' H' e l r' (sPost.up h l)
  | ex x S' =>
    rw [e] at h
    intro c d g' H' l r' rx
    exact h c d g' H' σ l r' (sl.mono l) rx
  | bad =>
    rw [e] at h
    exact h
theorem tI.sr {f : DSt → Store → Res MX.D} {k : MX.D → Store → SR} (h : sPost fx W g D ((f dσ S).sr dσ k)) (r : R fx g S H) (sl : Sl fx g dσ σ) {kk : ItK} {Q' : It → Hp → Prop}
    (hq : ∀ x S' g' H', f dσ S = .ok x S' → g.le g' → R fx g' S' H' → sPost fx W g' D (k x S') → srcPost fx kk Q' g' x S' H') : tI fx W kk f σ H Q' := by
  refine ⟨g, dσ, S, r, sl, ?_⟩
  cases e : f dσ S with
  | ok x S' =>
    rw [e] at h
    intro g' H' l r'
    exact hq x S' g' H' e l r' (sPost.up h l)
  | ex x S' =>
    rw [e] at h
    intro c d g' H' l r' rx
    exact h c d g' H' σ l r' (sl.mono l) rx
  | bad =>
    rw [e] at h
    exact h
end
section
variable {X : Cx} {fx : Fix} {W : WX} {f h : DSt → Store → SR} {e : Expr} {fe : DSt → Store → Res D} {pos : Pos} {st : Stmt} {rest sb sc : List Stmt}
theorem ss_next {f : TS} : PSs X [] (tS fx W fun σ S => .nx σ S) := pss_imp pss_nil fun D σ H ⟨g, dσ, S, r, sl, q⟩ => q g H σ (Gh.le.refl g) r sl
theorem ss_pass : PS X (.Pass pos) (tS fx W fun σ S => .nx σ S) := ps_imp ps_pass fun D σ H ⟨g, dσ, S, r, sl, q⟩ => q g H σ (Gh.le.refl g) r sl
theorem ss_brk : PS X (.Break pos) (tS fx W fun σ S => .bk σ S) := ps_imp ps_break fun D σ H ⟨g, dσ, S, r, sl, q⟩ => q g H σ (Gh.le.refl g) r sl
theorem ss_cont : PS X (.Continue pos) (tS fx W fun σ S => .ct σ S) := ps_imp ps_continue fun D σ H ⟨g, dσ, S, r, sl, q⟩ => q g H σ (Gh.le.refl g) r sl
theorem ss_doc {x j p p'} : PS X (.Expr (.Constant (.str x) j p) p') (tS fx W fun σ S => .nx σ S) := ps_imp ps_doc fun D σ H ⟨g, dσ, S, r, sl, q⟩ => q g H σ (Gh.le.refl g) r sl
def seqS (f h : DSt → Store → SR) : DSt → Store → SR := fun σ S => match f σ S with
  | .nx σ1 S1 => h σ1 S1
  | r => r
theorem ss_seq (h1 : PS X st (tS fx W f)) (h2 : PSs X rest (tS fx W h)) : PSs X (st :: rest) (tS fx W (seqS f h)) := by
  refine pss_imp (pss_cons h1 h2) fun D σ H ⟨g, dσ, S, r, sl, q⟩ => ⟨g, dσ, S, r, sl, ?_⟩
  unfold seqS at q
  cases e : f dσ S with
  | nx d1 S1 =>
    rw [e] at q
    exact fun g' H' σ' l r' s' => ⟨g', d1, S1, r', s', sPost.up q l⟩
  | bk d1 S1 => rw [e] at q; exact q
  | ct d1 S1 => rw [e] at q; exact q
  | rt d1 S1 => rw [e] at q; exact q
  | ex x d1 S1 => rw [e] at q; exact q
  | bad => rw [e] at q; exact q
theorem ss_one (h1 : PS X st (tS fx W f)) : PSs X [st] (tS fx W f) := pss_one h1
theorem ss_asg {i : Nat} {x : Str} {p : Pos} (hN : X.N.Nodup) (hi : X.N[i]? = some x) (hx : Loc X.env.scope x) (he : PE X e (tE fx W fe)) (hs : swapsWith e (some (.Name x p)) pos.line X.env = pure false) (hf : X.fn x = true ∨ X.env.scope.names.lookup x = some .local) :
    PS X (.Assign [.Name x p] e pos) (tS fx W fun σ S => (fe σ S).sr σ fun d S1 => .nx (σ.set i (some d)) S1) := by
  refine ps_imp (ps_set hN hi hx he hs hf) fun D σ H ⟨g, dσ, S, r, sl, q⟩ => tE.sr q r sl fun d S1 v g1 H1 _ l1 r1 rv q1 => ?_
  exact q1 g1 H1 _ (Gh.le.refl g1) r1 ((sl.mono l1).set i rv)
theorem ss_ex (he : PE X e (tE fx W fe)) (hs : swapsWith e none pos.line X.env = pure false) : PS X (.Expr e pos) (tS fx W fun σ S => (fe σ S).sr σ fun _ S1 => .nx σ S1) := by
  refine ps_imp (ps_expr he hs) fun D σ H ⟨g, dσ, S, r, sl, q⟩ => tE.sr q r sl fun d S1 v g1 H1 _ l1 r1 rv q1 => ?_
  exact q1 g1 H1 σ (Gh.le.refl g1) r1 (sl.mono l1)
theorem ss_ret (he : PE X e (tE fx W fe)) : PS X (.Return (some e) pos) (tS fx W fun σ S => (fe σ S).sr σ fun d S1 => .rt d S1) := by
  refine ps_imp (ps_ret he) fun D σ H ⟨g, dσ, S, r, sl, q⟩ => tE.sr q r sl fun d S1 v g1 H1 _ l1 r1 rv q1 => ?_
  exact q1 g1 H1 v (Gh.le.refl g1) r1 rv
theorem ss_retN : PS X (.Return none pos) (tS fx W fun _ S => .rt .non S) := ps_imp ps_retN fun D σ H ⟨g, dσ, S, r, sl, q⟩ => q g H .non (Gh.le.refl g) r .non
theorem ss_if {fb fc : DSt → Store → SR} (he : PT X e (tT fx W fe)) (hb : PSs X sb (tS fx W fb)) (hc : PSs X sc (tS fx W fc)) : PS X (.If e sb sc pos) (tS fx W fun σ S => (fe σ S).sr σ fun x S1 => match truD (look S1 x) with
    | some true => fb σ S1
    | some false => fc σ S1
    | none => .bad) := by
  refine ps_imp (ps_if he hb hc) fun D σ H ⟨g, dσ, S, r, sl, q⟩ => tT.sr q r sl fun x S1 g1 H1 _ l1 r1 q1 => ?_
  cases e : truD (look S1 x) with
  | none => simp only [e] at q1; exact q1.elim
  | some b =>
    simp only [e] at q1
    refine ⟨b, rfl, ?_⟩
    cases b with
    | true => exact iteT ⟨g1, dσ, S1, r1, sl.mono l1, q1⟩
    | false => exact iteF ⟨g1, dσ, S1, r1, sl.mono l1, q1⟩
/-! ### while -/
theorem ss_whl {n : Nat} {fb : DSt → Store → SR} (hp : PassesOwn (model X.prog X.w) X.A X.env X.xe) (he : PT X e (tT fx W fe)) (hb : PSs X sb (tS fx W fb)) : PS X (.While e sb [] pos) (tS fx W fun σ S => whlL fe fb n σ S) := by
  refine ps_imp (ps_while hp he hb) fun D σ H ⟨g, dσ, S, r, sl, q⟩ => ?_
  refine ⟨fun m σ' H' => ∃ g' dσ' S', R fx g' S' H' ∧ Sl fx g' dσ' σ' ∧ sPost fx W g' D (whlL fe fb m dσ' S'), ⟨n, g, dσ, S, r, sl, q⟩, fun m σ' H' ⟨g', dσ', S', r', sl', q'⟩ => ?_⟩
  cases m with
  | zero => exact q'.elim
  | succ m =>
    have q' : sPost fx W g' D ((fe dσ' S').sr dσ' fun x S1 => match truD (look S1 x) with
      | some true => match fb dσ' S1 with
        | .nx σ1 S2 => whlL fe fb m σ1 S2
        | .ct σ1 S2 => whlL fe fb m σ1 S2
        | .bk σ1 S2 => .nx σ1 S2
        | .rt d S2 => .rt d S2
        | .ex x σ1 S2 => .ex x σ1 S2
        | .bad => .bad
      | some false => .nx dσ' S1
      | none => .bad) := q'
    refine tT.sr q' r' sl' fun x S1 g1 H1 _ l1 r1 q1 => ?_
    cases e : truD (look S1 x) with
    | none => simp only [e] at q1; exact q1.elim
    | some b =>
      simp only [e] at q1
      refine ⟨b, rfl, ?_⟩
      cases b with
      | false => exact iteF (q1 g1 H1 σ' (Gh.le.refl g1) r1 (sl'.mono l1))
      | true =>
        refine iteT ⟨fun σ2 H2 => ∃ g' dσ' S', R fx g' S' H2 ∧ Sl fx g' dσ' σ2 ∧ sPost fx W g' D (whlL fe fb m dσ' S'), fun σ2 H2 h2 => ⟨m, Nat.lt_succ_self m, h2⟩, g1, dσ', S1, r1, sl'.mono l1, ?_⟩
        have q1 : sPost fx W g1 D (match fb dσ' S1 with
          | .nx σ1 S2 => whlL fe fb m σ1 S2
          | .ct σ1 S2 => whlL fe fb m σ1 S2
          | .bk σ1 S2 => .nx σ1 S2
          | .rt d S2 => .rt d S2
          | .ex x σ1 S2 => .ex x σ1 S2
          | .bad => .bad) := q1
        cases e2 : fb dσ' S1 with
        | nx d1 S2 => rw [e2] at q1; exact fun g2 H2 σ2 l2 r2 s2 => ⟨g2, d1, S2, r2, s2, sPost.up q1 l2⟩
        | ct d1 S2 => rw [e2] at q1; exact fun g2 H2 σ2 l2 r2 s2 => ⟨g2, d1, S2, r2, s2, sPost.up q1 l2⟩
        | bk d1 S2 => rw [e2] at q1; exact q1
        | rt d1 S2 => rw [e2] at q1; exact q1
        | ex x d1 S2 => rw [e2] at q1; exact q1
        | bad => rw [e2] at q1; exact q1
/-! ### for -/
/-- a turn of a for over any target -/
def bodyG (sg : DSt → D → Option DSt) (fb : DSt → Store → SR) (x : D) (σ : DSt) (S : Store) : SR := match sg σ x with
  | some σ1 => fb σ1 S
  | none => .bad
theorem forK_here {ok : Store → Bool} {f : MX.D → DSt → Store → SR} {xs : List MX.D} {dσ : DSt} {S : Store} {g : Gh} {D : Ends} (q : sPost fx W g D (forK ok f xs dσ S)) : ok S = true := by
  cases e : ok S with
  | true => rfl
  | false => cases xs <;> (unfold forK at q; rw [e] at q; exact q.elim)
theorem ss_forG {k : ItK} {sg : DSt → D → Option DSt} {G : TG} {own : List Nat} {tg : Expr} {fb : DSt → Store → SR} (hp : PassesOwn (model X.prog X.w) X.A X.env X.xe) (hc : X.calm = true) (hi : PI X tg e (tI fx W k fe)) (hg : PG X tg G) (tk : TgOk fx.K fx.ca G sg own) (hb : PSs X sb (tS fx W fb)) (hs : ∀ x, foldedSetIterable e X.env x = pure x) :
    PS X (.For tg e sb [] pos) (tS fx W fun σ S => (fe σ S).sr σ fun d S1 => match srcD k S1 d with
      | some s => forK s.ok (fun x σ S => bodyG sg fb x σ S) s.xs σ S1
      | none => .bad) := by
  refine ps_imp (ps_for hp hc hi hg hb hs) fun D σ H ⟨g, dσ, S, r, sl, q⟩ => ?_
  show tI fx W k fe σ H _
  refine tI.sr q r sl fun d S1 g1 H1 _ l1 r1 q1 => ?_
  cases hx : srcD k S1 d with
  | none => rw [hx] at q1; exact q1.elim
  | some s =>
      rw [hx] at q1
      refine ⟨s, hx, fun J hJ => ?_⟩
      have q1 : sPost fx W g1 D (forK s.ok (fun x σ S => bodyG sg fb x σ S) s.xs dσ S1) := q1
      generalize s.xs = xs at *
      generalize s.ok = ok at *
      refine ⟨fun i m σ' H' => m + i = xs.length ∧ ∃ g' dσ' S', g1.le g' ∧ R fx g' S' H' ∧ Sl fx g' dσ' σ' ∧ sPost fx W g' D (forK ok (fun x σ S => bodyG sg fb x σ S) (xs.drop i) dσ' S'), ⟨xs.length, rfl, g1, dσ, S1, Gh.le.refl g1, r1, sl.mono l1, by rw [List.drop_zero]; exact q1⟩, ?_⟩
      intro i m σ' H' ⟨hm, g', dσ', S', le, r', sl', q'⟩
      have ho := forK_here q'
      rcases Nat.lt_or_ge i xs.length with hi | hi
      · right
        obtain ⟨hgo, hyl⟩ := (hJ fx i g' S' _ rfl rfl le r' ho).1 hi
        refine ⟨hgo, fun σ2 H2 => m - 1 + (i + 1) = xs.length ∧ ∃ g' dσ' S', g1.le g' ∧ R fx g' S' H2 ∧ Sl fx g' dσ' σ2 ∧ sPost fx W g' D (forK ok (fun x σ S => bodyG sg fb x σ S) (xs.drop (i + 1)) dσ' S'), fun σ2 H2 h2 => ⟨m - 1, by omega, h2⟩, fun x H2 hy => ?_⟩
        obtain ⟨g2, dx, l2, r2, ex, rx⟩ := hyl x H2 hy
        have hd : xs.drop i = dx :: xs.drop (i + 1) := by
          rw [List.drop_eq_getElem_cons hi]
          rw [List.getElem?_eq_getElem hi] at ex
          rw [Option.some.inj ex]
        rw [hd] at q'
        have q' : sPost fx W g' D (if ok S' then match bodyG sg fb dx dσ' S' with
          | .nx σ1 S1 => forK ok (fun x σ S => bodyG sg fb x σ S) (xs.drop (i + 1)) σ1 S1
          | .ct σ1 S1 => forK ok (fun x σ S => bodyG sg fb x σ S) (xs.drop (i + 1)) σ1 S1
          | .bk σ1 S1 => .nx σ1 S1
          | .rt d S1 => .rt d S1
          | .ex x σ1 S1 => .ex x σ1 S1
          | .bad => .bad
          else .bad) := q'
        rw [if_pos ho] at q'
        cases e0 : sg dσ' dx with
        | none =>
          have et : bodyG sg fb dx dσ' S' = .bad := by unfold bodyG; rw [e0]
          rw [et] at q'
          exact q'.elim
        | some dσ1 =>
        have et : bodyG sg fb dx dσ' S' = fb dσ1 S' := by unfold bodyG; rw [e0]
        rw [et] at q'
        refine tk.run fx g2 S' H2 dσ' dσ1 σ' x dx _ rfl rfl r2 (sl'.mono l2) rx e0 fun σ1 sl1 _ => ⟨g2, dσ1, S', r2, sl1, ?_⟩
        cases e2 : fb dσ1 S' with
        | nx d1 S2 =>
          rw [e2] at q'
          exact fun g3 H3 σ3 l3 r3 s3 => ⟨by omega, g3, d1, S2, (le.trans l2).trans l3, r3, s3, sPost.up q' (l2.trans l3)⟩
        | ct d1 S2 =>
          rw [e2] at q'
          exact fun g3 H3 σ3 l3 r3 s3 => ⟨by omega, g3, d1, S2, (le.trans l2).trans l3, r3, s3, sPost.up q' (l2.trans l3)⟩
        | bk d1 S2 =>
          rw [e2] at q'
          exact fun g3 H3 σ3 l3 r3 s3 => q' g3 H3 σ3 (l2.trans l3) r3 s3
        | rt d1 S2 =>
          rw [e2] at q'
          exact fun g3 H3 σ3 l3 r3 s3 => q' g3 H3 σ3 (l2.trans l3) r3 s3
        | ex x d1 S2 =>
          rw [e2] at q'
          exact fun c dd g3 H3 σ3 l3 r3 s3 => q' c dd g3 H3 σ3 (l2.trans l3) r3 s3
        | bad => rw [e2] at q'; exact q'
      · left
        refine ⟨(hJ fx i g' S' _ rfl rfl le r' ho).2 hi, ?_⟩
        rw [List.drop_eq_nil_of_le hi] at q'
        have q' : sPost fx W g' D (if ok S' then .nx dσ' S' else .bad) := q'
        rw [if_pos ho] at q'
        exact q' g' H' σ' (Gh.le.refl g') r' sl'
/-! ### x op= e -/
theorem aug_op {op : Bop} {x y : D} {k : Int} (h : augI op x y = some k) : ∃ i j, x = .int i ∧ y = .int j ∧ ((op = .add ∧ k = i + j) ∨ (op = .sub ∧ k = i - j)) := by
  unfold augI at h
  split at h
  · cases h; exact ⟨_, _, rfl, rfl, .inl ⟨rfl, rfl⟩⟩
  · cases h; exact ⟨_, _, rfl, rfl, .inr ⟨rfl, rfl⟩⟩
  · cases h
theorem ss_aug {op : Bop} {i : Nat} {x : Str} {p : Pos} (hN : X.N.Nodup) (hi : X.N[i]? = some x) (hx : Loc X.env.scope x) (he : PE X e (tE fx W fe)) (hop : op = .add ∨ op = .sub) (hf : X.fn x = true ∨ X.env.scope.names.lookup x = some .local) :
    PS X (.AugAssign (.Name x p) op.op e pos) (tS fx W fun σ S => match σ[i]? with
    | some (some x) => (fe σ S).sr σ fun y S1 => match augI op x y with
      | some k => .nx (σ.set i (some (.int k))) S1
      | none => .bad
    | _ => .bad) := by
  have key : ∀ (ti : TIp), PIp X op.op ti → (∀ i j H Q, Q (.int (if op = .add then i + j else i - j)) H → ti (.int i) (.int j) H Q) → PS X (.AugAssign (.Name x p) op.op e pos) (tS fx W fun σ S => match σ[i]? with
    | some (some x) => (fe σ S).sr σ fun y S1 => match augI op x y with
      | some k => .nx (σ.set i (some (.int k))) S1
      | none => .bad
    | _ => .bad) := fun ti hti hq => by
    refine ps_imp (ps_aug hN hi hx he hti hf) fun D σ H ⟨g, dσ, S, r, sl, q⟩ => ?_
    cases e1 : dσ[i]? with
    | none => simp only [e1] at q; exact q.elim
    | some o =>
      cases o with
      | none => simp only [e1] at q; exact q.elim
      | some d =>
        simp only [e1] at q
        obtain ⟨v, h1, h2⟩ := sl.at_ i d e1
        refine ⟨v, h1, tE.sr q r sl fun y S1 w g1 H1 _ l1 r1 y1 q1 => ?_⟩
        cases e2 : augI op d y with
        | none => simp only [e2] at q1; exact q1.elim
        | some k =>
          simp only [e2] at q1
          obtain ⟨a, b, rfl, rfl, hk⟩ := aug_op e2
          have h3 := h2.iInt
          have h4 := y1.iInt
          subst h3 h4
          refine hq a b H1 _ ?_
          have ek : (if op = Bop.add then a + b else a - b) = k := by
            rcases hk with ⟨h5, h6⟩ | ⟨h5, h6⟩
            · rw [if_pos h5, h6]
            · rw [if_neg (by rw [h5]; decide), h6]
          rw [ek]
          exact q1 g1 H1 _ (Gh.le.refl g1) r1 ((sl.mono l1).set i (.int k))
  rcases hop with rfl | rfl
  · exact key _ ip_add fun a b H Q q => ⟨a, b, rfl, rfl, q⟩
  · exact key _ ip_sub fun a b H Q q => ⟨a, b, rfl, rfl, q⟩
end
end MX
end

section
set_option maxRecDepth 100000
set_option maxHeartbeats 1000000
namespace MX
open PySem PySem.Spec PyProof.Rows L2
/-! ### targets of names; zip, enumerate, reversed -/
def gL : List Nat → TGs
  | [] => gNil
  | i :: is => gCons (gName i) (gL is)
def gT (K : PySem.W.Frag) : Tg → TG
  | .n i => gName i
  | .t is => gTup K is.length (gL is)
def Tg.slots : Tg → List Nat
  | .n i => [i]
  | .t is => is
theorem setL_len : ∀ {is : List Nat} {xs : List D} {σ σ' : DSt}, setL is xs σ = some σ' → is.length = xs.length
  | [], [], _, _, _ => rfl
  | [], _ :: _, _, _, h => by cases h
  | _ :: _, [], _, _, h => by cases h
  | i :: is, x :: xs, σ, σ', h => by
    have h : setL is xs (σ.set i (some x)) = some σ' := h
    rw [List.length_cons, List.length_cons, setL_len h]
theorem gL_run {fx : Fix} {g : Gh} {H : Hp} {own : List Nat} {dσ' : DSt} {Q : L2.St → Hp → Prop} : ∀ {is : List Nat} {vs : List V} {xs : List D} {dσ : DSt} {σ : L2.St}, (∀ i ∈ is, i ∈ own) → RelL fx.K fx.ca g vs xs → Sl fx g dσ σ → setL is xs dσ = some dσ' → (∀ σ', Sl fx g dσ' σ' → L2.wipe σ' own = L2.wipe σ own → Q σ' H) → gL is vs σ H Q
  | [], _, _, dσ, σ, _, .nil, sl, e, h => by
    cases e
    exact ⟨rfl, h _ sl rfl⟩
  | _ :: _, _, _, _, _, _, .nil, _, e, _ => by cases e
  | [], _, _, _, _, _, .cons _ _, _, e, _ => by cases e
  | i :: is, _, _, dσ, σ, ho, .cons (v := v) (vs := vs) (d := d) (ds := ds) a b, sl, e, h => by
    have e : setL is ds (dσ.set i (some d)) = some dσ' := e
    refine ⟨v, vs, rfl, ?_⟩
    show gL is vs (σ.set i (some v)) H Q
    exact gL_run (fun j hj => ho j (List.mem_cons_of_mem _ hj)) b (sl.set i a) e fun σ' s w => h σ' s (w.trans (wipe_put (ho i List.mem_cons_self)))
theorem tg_ok {K : PySem.W.Frag} {ca : String → Addr} {own : List Nat} : ∀ {tg : Tg}, (∀ i ∈ tg.slots, i ∈ own) → TgOk K ca (gT K tg) (fun σ x => setT tg σ x) own
  | .n i, ho => tg_name (ho i (List.mem_singleton.mpr rfl))
  | .t is, ho => ⟨fun fx g S H dσ dσ' σ x dx Q k1 k2 r sl rx e h => by
    subst k1 k2
    cases dx with
    | tup xs =>
      have e : setL is xs dσ = some dσ' := e
      obtain ⟨p, vs, rfl, h1, h2⟩ := rx.iTup
      exact ⟨p, vs, rfl, SqT.of (r.frz _ _ h1), by rw [h2.length, setL_len e], gL_run ho h2 sl e h⟩
    | _ => cases e⟩
/-- a target's text -/
def chkTL (p : Nat → Str → Bool) : List Nat → List Expr → Bool
  | [], [] => true
  | i :: is, .Name x _ :: es => p i x && chkTL p is es
  | _, _ => false
def chkT (p : Nat → Str → Bool) : Tg → Expr → Bool
  | .n i, .Name x _ => p i x
  | .t is, .Tuple es _ _ => chkTL p is es
  | _, _ => false
theorem pgs_of {X : Cx} {p : Nat → Str → Bool} (hp : ∀ i x q, p i x = true → PG X (.Name x q) (gName i)) : ∀ {is : List Nat} {es : List Expr}, chkTL p is es = true → PGs X es (gL is) ∧ (assignEach es X.env).length = is.length ∧ (assignEach es X.env).findIdx? (·.1) = none
  | [], [], _ => ⟨pgs_nil, rfl, rfl⟩
  | [], e :: es, h => by cases e <;> cases h
  | _ :: _, [], h => by cases h
  | i :: is, e :: es, h => by
    cases e with
    | Name x q =>
      have h : (p i x && chkTL p is es) = true := h
      rw [Bool.and_eq_true] at h
      obtain ⟨h1, h2, h3⟩ := pgs_of hp h.2
      have ea : assignEach (.Name x q :: es) X.env = (false, assign (.Name x q) X.env) :: assignEach es X.env := rfl
      refine ⟨pgs_cons (hp i x q h.1) h1, by rw [ea, List.length_cons, List.length_cons, h2], ?_⟩
      rw [ea, List.findIdx?_cons]
      simp only [Bool.false_eq_true, if_false, h3, Option.map_none]
    | _ => cases h
theorem pg_of {X : Cx} {p : Nat → Str → Bool} {tg : Tg} {e : Expr} (hc : X.calm = true) (hp : ∀ i x q, p i x = true → PG X (.Name x q) (gName i)) (h : chkT p tg e = true) : PG X e (gT X.K tg) := by
  cases tg with
  | n i =>
    cases e with
    | Name x q => exact hp i x q h
    | _ => cases h
  | t is =>
    cases e with
    | Tuple es k q =>
      obtain ⟨h1, h2, h3⟩ := pgs_of hp (show chkTL p is es = true from h)
      exact pg_tup hc h1 h2 h3
    | _ => cases h
section
variable {fx : Fix} {g : Gh}
theorem zip_at {xs ys : List D} {i : Nat} (i1 : i < xs.length) (i2 : i < ys.length) : ((List.zip xs ys).map fun p => D.tup [p.1, p.2])[i]? = some (.tup [xs[i], ys[i]]) := by
  rw [List.getElem?_map]
  have z : (List.zip xs ys)[i]? = some (xs[i], ys[i]) := by
    rw [List.getElem?_zip_eq_some]
    exact ⟨List.getElem?_eq_getElem i1, List.getElem?_eq_getElem i2⟩
  rw [z]
  rfl
theorem good_zip {a b : Addr} {xs ys : List D} {o1 o2 : Store → Bool} (hv : Stands fx g o1 a xs false) (hw : Stands fx g o2 b ys false) : GoodIt fx g (fun S => o1 S && o2 S) (Itz fx.K a b) ((List.zip xs ys).map fun p => D.tup [p.1, p.2]) := by
  intro fx2 i g1 S1 H1 k1 k2 l1 r1 o
  rw [Bool.and_eq_true] at o
  obtain ⟨vs, h1, rv⟩ := hv.sqL k1 k2 l1 r1 o.1
  obtain ⟨ws, h2, rw_⟩ := hw.sqL k1 k2 l1 r1 o.2
  have lz := rv.length
  have lw := rw_.length
  refine ⟨fun hi => ?_, fun hi => ⟨vs, ws, h1, h2, ?_⟩⟩
  · rw [List.length_map, List.length_zip] at hi
    have i1 : i < xs.length := by omega
    have i2 : i < ys.length := by omega
    obtain ⟨v, e1, e2⟩ := rv.get (List.getElem?_eq_getElem i1)
    obtain ⟨w, e3, e4⟩ := rw_.get (List.getElem?_eq_getElem i2)
    refine ⟨⟨vs, ws, v, w, h1, h2, e1, e3⟩, fun x H' ⟨T, x0, y0, eT, hT, eh, hx, hy⟩ => ?_⟩
    subst eT eh
    have hxv := hx vs h1
    rw [e1] at hxv
    cases hxv
    have hyw := hy ws h2
    rw [e3] at hyw
    cases hyw
    obtain ⟨r', l'⟩ := r1.laid (o := .tup [v, w]) hT
    exact ⟨_, .tup [xs[i], ys[i]], l', r', zip_at i1 i2, .tup (show upd g1.F T _ T = _ from upd_same) (.cons (e2.mono l') (.cons (e4.mono l') .nil))⟩
  · rw [List.length_map, List.length_zip] at hi
    omega
theorem good_zipT {a b : Addr} {xs ys : List D} {o1 o2 : Store → Bool} (hv : Stands fx g o1 a xs true) (hw : Stands fx g o2 b ys true) : GoodIt fx g (fun S => o1 S && o2 S) (RZ.ItzT fx.K a b) ((List.zip xs ys).map fun p => D.tup [p.1, p.2]) := by
  intro fx2 i g1 S1 H1 k1 k2 l1 r1 o
  rw [Bool.and_eq_true] at o
  obtain ⟨vs, h1, rv⟩ := hv.sqT k1 k2 l1 r1 o.1
  obtain ⟨ws, h2, rw_⟩ := hw.sqT k1 k2 l1 r1 o.2
  have lz := rv.length
  have lw := rw_.length
  refine ⟨fun hi => ?_, fun hi => ⟨vs, ws, h1, h2, ?_⟩⟩
  · rw [List.length_map, List.length_zip] at hi
    have i1 : i < xs.length := by omega
    have i2 : i < ys.length := by omega
    obtain ⟨v, e1, e2⟩ := rv.get (List.getElem?_eq_getElem i1)
    obtain ⟨w, e3, e4⟩ := rw_.get (List.getElem?_eq_getElem i2)
    refine ⟨⟨vs, ws, v, w, h1, h2, e1, e3⟩, fun x H' ⟨T, x0, y0, eT, hT, eh, hx, hy⟩ => ?_⟩
    subst eT eh
    have hxv := hx vs h1
    rw [e1] at hxv
    cases hxv
    have hyw := hy ws h2
    rw [e3] at hyw
    cases hyw
    obtain ⟨r', l'⟩ := r1.laid (o := .tup [v, w]) hT
    exact ⟨_, .tup [xs[i], ys[i]], l', r', zip_at i1 i2, .tup (show upd g1.F T _ T = _ from upd_same) (.cons (e2.mono l') (.cons (e4.mono l') .nil))⟩
  · rw [List.length_map, List.length_zip] at hi
    omega
theorem enumL_at : ∀ {xs : List D} {k i : Nat} {d : D}, xs[i]? = some d → (enumL k xs)[i]? = some (.tup [.int ((k + i : Nat) : Int), d])
  | [], k, i, d, h => by simp at h
  | x :: xs, k, 0, d, h => by
    simp at h
    subst h
    rfl
  | x :: xs, k, i + 1, d, h => by
    have h : xs[i]? = some d := by simpa using h
    show (enumL (k + 1) xs)[i]? = _
    rw [enumL_at h, show k + 1 + i = k + (i + 1) by omega]
theorem enumL_len : ∀ (xs : List D) (k : Nat), (enumL k xs).length = xs.length
  | [], _ => rfl
  | x :: xs, k => by
    show (enumL (k + 1) xs).length + 1 = _
    rw [enumL_len xs, List.length_cons]
theorem good_enum {a : Addr} {xs : List D} {ok : Store → Bool} (hv : Stands fx g ok a xs false) : GoodIt fx g ok (Ite fx.K a) (enumL 0 xs) := by
  intro fx2 i g1 S1 H1 k1 k2 l1 r1 o
  obtain ⟨vs, h1, rv⟩ := hv.sqL k1 k2 l1 r1 o
  have lz := rv.length
  refine ⟨fun hi => ?_, fun hi => ⟨vs, h1, by rw [enumL_len] at hi; omega⟩⟩
  rw [enumL_len] at hi
  obtain ⟨v, e1, e2⟩ := rv.get (List.getElem?_eq_getElem hi)
  refine ⟨⟨vs, v, h1, e1⟩, fun x H' ⟨T, x0, eT, hT, eh, hx⟩ => ?_⟩
  subst eT eh
  have hxv := hx vs h1
  rw [e1] at hxv
  cases hxv
  obtain ⟨r', l'⟩ := r1.laid (o := .tup [.int ((i : Nat) : Int), v]) hT
  exact ⟨_, .tup [.int ((0 + i : Nat) : Int), xs[i]], l', r', enumL_at (List.getElem?_eq_getElem hi), .tup (show upd g1.F T _ T = _ from upd_same) (.cons (by rw [Nat.zero_add]; exact .int _) (.cons (e2.mono l') .nil))⟩
theorem good_rev {a : Addr} {xs : List D} {ok : Store → Bool} (hv : Stands fx g ok a xs false) : GoodIt fx g ok (Itv fx.K a xs.length) xs.reverse := by
  intro fx2 i g1 S1 H1 k1 k2 l1 r1 o
  obtain ⟨vs, h1, rv⟩ := hv.sqL k1 k2 l1 r1 o
  have lz := rv.length
  refine ⟨fun hi => ?_, fun hi => (by rw [List.length_reverse] at hi; exact hi)⟩
  rw [List.length_reverse] at hi
  have hj : xs.length - 1 - i < xs.length := by omega
  obtain ⟨v, e1, e2⟩ := rv.get (List.getElem?_eq_getElem hj)
  refine ⟨⟨hi, vs, v, h1, e1⟩, fun x H' ⟨eh, hx⟩ => ?_⟩
  subst eh
  have hxv := hx vs h1
  rw [e1] at hxv
  cases hxv
  exact ⟨g1, _, Gh.le.refl g1, r1, by rw [List.getElem?_reverse hi, List.getElem?_eq_getElem hj], e2⟩
end
theorem RelL.reverse {K : PySem.W.Frag} {ca : String → Addr} {g : Gh} : ∀ {vs : List V} {ds : List D}, RelL K ca g vs ds → RelL K ca g vs.reverse ds.reverse
  | _, _, .nil => .nil
  | _, _, .cons a b => by
    rw [List.reverse_cons, List.reverse_cons]
    exact b.reverse.append (RelL.one a)
section
variable {X : Cx} {fx : Fix} {W : WX} {f h : DSt → Store → Res D} {a b : Expr} {pos tpos : Pos} {elts : List Expr} {kk : Nat}
/-- a[::-1] -/
theorem s_rev {k : Nat} {p1 p2 p3 : Pos} (hK : fx.K = X.K) (ha : PE X a (tE fx W f)) : PE X (.Subscript a (.Slice none none (some (.UnaryOp .USub (.Constant (.int 1) k p1) p2)) p3) pos) (tE fx W fun σ S => (f σ S).bind fun x S1 => match MX.look S1 x with
    | .lst xs => .ok (.lst xs.reverse) S1
    | _ => .bad) := by
  refine pe_imp (L2.pe_revL ha) fun σ H Q ⟨g, dσ, S, r, sl, q⟩ => tE.bind q r sl fun x S1 v g1 H1 _ l1 r1 x1 q1 => ?_
  cases ex : MX.look S1 x with
  | lst xs =>
    simp only [ex] at q1
    obtain ⟨a, ws, rfl, h1, h2⟩ := r1.lst x1 ex
    exact ⟨a, ws, rfl, SqL.of h1, fun p hp => q1.new r1 hp fun g' le e => .lst e (h2.reverse.mono le)⟩
  | _ => simp only [ex] at q1; exact q1.elim
/-- what the arguments of a walk's call are -/
theorem tA.src {kk : ItK} {σ : L2.St} {H : Hp} {Q : It → Hp → Prop} (q : tI fx W kk f σ H Q) {Q' : List V → Hp → Prop} (hq : ∀ x S' vs g' H', R fx g' S' H' → RelL fx.K fx.ca g' vs (unT x) → srcPost fx kk Q g' x S' H' → Q' vs H') : tA fx W f σ H Q' := by
  obtain ⟨g, dσ, S, r, sl, q⟩ := q
  refine ⟨g, dσ, S, r, sl, ?_⟩
  cases e : f dσ S with
  | ok x S' =>
    rw [e] at q
    intro g' H' l r' vs rv
    exact hq x S' vs g' H' r' rv (q g' H' l r')
  | ex x S' =>
    rw [e] at q
    exact q
  | bad =>
    rw [e] at q
    exact q
theorem RelL.one_of {K : PySem.W.Frag} {ca : String → Addr} {g : Gh} {vs : List V} {a : D} (r : RelL K ca g vs [a]) : ∃ x, vs = [x] ∧ RelD K ca g x a := by
  cases r with
  | cons h1 r1 =>
    cases r1
    exact ⟨_, rfl, h1⟩
theorem RelL.two {K : PySem.W.Frag} {ca : String → Addr} {g : Gh} {vs : List V} {a b : D} (r : RelL K ca g vs [a, b]) : ∃ x y, vs = [x, y] ∧ RelD K ca g x a ∧ RelD K ca g y b := by
  cases r with
  | cons h1 r1 =>
    obtain ⟨y, rfl, h2⟩ := r1.one_of
    exact ⟨_, _, rfl, h1, h2⟩
theorem srcD_zip {S : Store} {d : D} {s : Src} (h : srcD .zip S d = some s) : ∃ a b, d = .tup [a, b] ∧ zipG (alikeS S a b) (seqD S a) (seqD S b) = some s := by
  cases d with
  | tup l =>
    match l, h with
    | [a, b], h => exact ⟨a, b, rfl, h⟩
    | [], h => cases h
    | [_], h => cases h
    | _ :: _ :: _ :: _, h => cases h
  | _ => cases h
theorem srcD_enum {S : Store} {d : D} {s : Src} (h : srcD .enum S d = some s) : ∃ a, d = .tup [a] ∧ enumG (isLst S a) (seqD S a) = some s := by
  cases d with
  | tup l =>
    match l, h with
    | [a], h => exact ⟨a, rfl, h⟩
    | [], h => cases h
    | _ :: _ :: _, h => cases h
  | _ => cases h
theorem srcD_rev {S : Store} {d : D} {s : Src} (h : srcD .rev S d = some s) : ∃ a, d = .tup [a] ∧ revG (isLst S a) (seqD S a) = some s := by
  cases d with
  | tup l =>
    match l, h with
    | [a], h => exact ⟨a, rfl, h⟩
    | [], h => cases h
    | _ :: _ :: _, h => cases h
  | _ => cases h
/-- zip(a, b) -/
theorem i_zip {p : Pos} (hK : fx.K = X.K) (hg : Gl X "zip") (hm : X.mg "zip" = none) (ha : PA X [a, b] (tA fx W f)) (hs : starEach [a, b] X.env = (false, eval a X.env) :: starEach [b] X.env) (hs2 : starEach [b] X.env = (false, eval b X.env) :: starEach [] X.env) :
    PI X (.Tuple elts kk tpos) (.Call (.Name "zip" p) [a, b] [] pos) (tI fx W .zip f) := by
  refine pi_imp (RZ.pi_zipA hg hm ha hs (by rw [hs2]; rfl)) fun σ H Q q => ?_
  refine tA.src q fun x S' vs g' H' r' rv ⟨s, hs, hJ⟩ => ?_
  rw [← hK]
  obtain ⟨a, b, rfl, hz⟩ := srcD_zip hs
  · replace hs := hz
    obtain ⟨v, w, rfl, ra, rb⟩ := RelL.two rv
    cases ea : seqD S' a with
    | none =>
      cases h : alikeS S' a b <;> (rw [h, ea] at hs; cases hs)
    | some s1 =>
      cases eb : seqD S' b with
      | none => cases h : alikeS S' a b <;> (rw [h, ea, eb] at hs; cases hs)
      | some s2 =>
        cases h : alikeS S' a b with
        | false => rw [h, ea, eb] at hs; cases hs
        | true =>
          rw [h, ea, eb] at hs
          cases hs
          have o1 := seq_ok0 ea
          have o2 := seq_ok0 eb
          obtain ⟨pa, rfl, ha⟩ := r'.stands ra ea
          obtain ⟨pb, rfl, hb⟩ := r'.stands rb eb
          unfold alikeS at h
          rcases ha with ⟨⟨xs, exa⟩, sa⟩ | ⟨na, sa⟩
          · rcases hb with ⟨⟨ys, exb⟩, sb⟩ | ⟨nb, sb⟩
            · obtain ⟨vs, h1, _⟩ := sa.sqT rfl rfl (Gh.le.refl g') r' o1
              obtain ⟨ws, h2, _⟩ := sb.sqT rfl rfl (Gh.le.refl g') r' o2
              exact ⟨pa, pb, vs, ws, rfl, .inr ⟨h1, h2, hJ _ (good_zipT sa sb)⟩⟩
            · rw [exa] at h
              cases exb : MX.look S' b <;> rw [exb] at h <;> first | exact absurd exb (nb _) | cases h
          · rcases hb with ⟨⟨ys, exb⟩, sb⟩ | ⟨nb, sb⟩
            · rw [exb] at h
              cases exa : MX.look S' a <;> rw [exa] at h <;> first | exact absurd exa (na _) | cases h
            · obtain ⟨vs, h1, _⟩ := sa.sqL rfl rfl (Gh.le.refl g') r' o1
              obtain ⟨ws, h2, _⟩ := sb.sqL rfl rfl (Gh.le.refl g') r' o2
              exact ⟨pa, pb, vs, ws, rfl, .inl ⟨h1, h2, hJ _ (good_zip sa sb)⟩⟩
/-- a list that stands -/
theorem lst_stands {g : Gh} {S : Store} {H : Hp} {v : V} {d : D} {s : Src} (r : R fx g S H) (h : RelD fx.K fx.ca g v d) (e : seqD S d = some s) (l : isLst S d = true) : ∃ a vs, v = .ref a ∧ Stands fx g s.ok a s.xs false ∧ SqL fx.K H a vs ∧ vs.length = s.xs.length := by
  obtain ⟨p, rfl, ⟨⟨_, y⟩, _⟩ | ⟨_, st⟩⟩ := r.stands h e
  · unfold isLst at l
    rw [y] at l
    cases l
  · obtain ⟨vs, h1, h2⟩ := st.sqL rfl rfl (Gh.le.refl g) r (seq_ok0 e)
    exact ⟨p, vs, rfl, st, h1, h2.length⟩
/-- enumerate(a) -/
theorem i_enum {p : Pos} (hK : fx.K = X.K) (hg : Gl X "enumerate") (hm : X.mg "enumerate" = none) (ha : PA X [a] (tA fx W f)) (hs : starEach [a] X.env = (false, eval a X.env) :: starEach [] X.env) :
    PI X (.Tuple elts kk tpos) (.Call (.Name "enumerate" p) [a] [] pos) (tI fx W .enum f) := by
  refine pi_imp (pi_enum hg hm ha hs) fun σ H Q q => ?_
  refine tA.src q fun x S' vs g' H' r' rv ⟨s, hs, hJ⟩ => ?_
  rw [← hK]
  obtain ⟨a, rfl, hz⟩ := srcD_enum hs
  · replace hs := hz
    obtain ⟨v, rfl, ra⟩ := RelL.one_of rv
    cases ea : seqD S' a with
    | none => cases h : isLst S' a <;> (rw [h, ea] at hs; cases hs)
    | some s1 =>
      cases h : isLst S' a with
      | false => rw [h, ea] at hs; cases hs
      | true =>
        rw [h, ea] at hs
        cases hs
        obtain ⟨p, vs, rfl, st, h1, _⟩ := lst_stands r' ra ea h
        exact ⟨p, vs, rfl, h1, hJ _ (good_enum st)⟩
/-- reversed(a) -/
theorem i_rev {p : Pos} {tg : Expr} (hK : fx.K = X.K) (hg : Gl X "reversed") (hm : X.mg "reversed" = none) (ha : PA X [a] (tA fx W f)) (hs : starEach [a] X.env = (false, eval a X.env) :: starEach [] X.env) :
    PI X tg (.Call (.Name "reversed" p) [a] [] pos) (tI fx W .rev f) := by
  refine pi_imp (pi_reversed hg hm ha hs) fun σ H Q q => ?_
  refine tA.src q fun x S' vs g' H' r' rv ⟨s, hs, hJ⟩ => ?_
  rw [← hK]
  obtain ⟨a, rfl, hz⟩ := srcD_rev hs
  · replace hs := hz
    obtain ⟨v, rfl, ra⟩ := RelL.one_of rv
    cases ea : seqD S' a with
    | none => cases h : isLst S' a <;> (rw [h, ea] at hs; cases hs)
    | some s1 =>
      cases h : isLst S' a with
      | false => rw [h, ea] at hs; cases hs
      | true =>
        rw [h, ea] at hs
        cases hs
        obtain ⟨p, vs, rfl, st, h1, hl⟩ := lst_stands r' ra ea h
        exact ⟨p, vs, rfl, h1, by rw [hl]; exact hJ _ (good_rev st)⟩
end
end MX
end

section
set_option maxRecDepth 100000
set_option maxHeartbeats 1000000
namespace MX
open PySem PySem.Spec PyProof.Rows L2

theorem ofStr_inj {a b : String} (h : Str.ofString a = Str.ofString b) : a = b := by
  rw [Str.ofString_eq_toList, Str.ofString_eq_toList] at h
  have h2 : a.toList.map Char.toNat = b.toList.map Char.toNat := by
    have := congrArg (fun s : Str => s.cps.toList) h
    simpa using this
  exact String.toList_inj.mp ((List.map_inj_right (fun x y e => Char.toNat_inj.mp e)).mp h2)
theorem RelF.look {K : PySem.W.Frag} {ca : String → Addr} {g : Gh} {x : String} {d : D} : ∀ {vs : List (Str × V)} {fs : List (String × D)}, RelF K ca g vs fs → fs.lookup x = some d → ∃ v, vs.lookup (Str.ofString x) = some v ∧ RelD K ca g v d
  | _, _, .nil, e => by cases e
  | _, _, .cons (x := y) (v := v) (vs := vs) (ds := ds) a b, e => by
    rw [List.lookup_cons] at e
    by_cases hy : x = y
    · subst hy
      rw [beq_self_eq_true] at e
      cases e
      exact ⟨v, by rw [List.lookup_cons, beq_self_eq_true], a⟩
    · rw [beq_eq_false_iff_ne.mpr hy] at e
      obtain ⟨u, h1, h2⟩ := RelF.look b e
      exact ⟨u, by rw [List.lookup_cons, beq_eq_false_iff_ne.mpr fun z => hy (ofStr_inj z)]; exact h1, h2⟩
theorem RelF.lookN {K : PySem.W.Frag} {ca : String → Addr} {g : Gh} {x : String} : ∀ {vs : List (Str × V)} {fs : List (String × D)}, RelF K ca g vs fs → fs.lookup x = none → vs.lookup (Str.ofString x) = none
  | _, _, .nil, _ => rfl
  | _, _, .cons (x := y) (v := v) (vs := vs) (ds := ds) a b, e => by
    rw [List.lookup_cons] at e
    by_cases hy : x = y
    · subst hy
      rw [beq_self_eq_true] at e
      cases e
    · rw [beq_eq_false_iff_ne.mpr hy] at e
      rw [List.lookup_cons, beq_eq_false_iff_ne.mpr fun z => hy (ofStr_inj z)]
      exact RelF.lookN b e
theorem RelF.put {K : PySem.W.Frag} {ca : String → Addr} {g : Gh} {x : String} {d : D} {v : V} (r : RelD K ca g v d) : ∀ {vs : List (Str × V)} {fs : List (String × D)}, RelF K ca g vs fs → RelF K ca g (putF (Str.ofString x) v vs) (putD x d fs)
  | _, _, .nil => .cons r .nil
  | _, _, .cons (x := y) (v := w) (vs := vs) (d := e) (ds := ds) a b => by
    unfold putF putD
    by_cases hy : y = x
    · subst hy
      rw [if_pos rfl, if_pos rfl]
      exact .cons r b
    · rw [if_neg hy, if_neg fun z => hy (ofStr_inj z)]
      exact .cons a (RelF.put r b)
theorem RelF.length {K : PySem.W.Frag} {ca : String → Addr} {g : Gh} : ∀ {vs : List (Str × V)} {fs : List (String × D)}, RelF K ca g vs fs → vs.length = fs.length
  | _, _, .nil => rfl
  | _, _, .cons _ b => congrArg (· + 1) (RelF.length b)
section
variable {fx : Fix} {g : Gh} {S : Store} {H : Hp}
/-- an instance, frozen or not -/
theorem R.insD (r : R fx g S H) {v : V} {d : D} {c : String} {fs : List (String × D)} (h : RelD fx.K fx.ca g v d) (e : MX.insD S d = some (c, fs)) : ∃ a dx vs, v = .ref a ∧ H a = some (.ins (fx.ca c) dx vs) ∧ RelF fx.K fx.ca g vs fs := by
  unfold MX.insD at e
  rcases r.look h with ⟨n, ys, rfl, rfl, hc, e'⟩ | ⟨n, k, gs, rfl, rfl, hc, e'⟩ | k
  · rw [e'] at e
    cases e
  · rw [e'] at e
    cases e
    obtain ⟨_, _, dx, vs, h3, h4⟩ := r.cells n _ hc
    exact ⟨_, dx, vs, rfl, h3, h4⟩
  · cases q : MX.look S d with
    | ins k0 gs =>
      rw [q] at e k
      cases e
      cases k with
      | ins h1 h2 => exact ⟨_, _, _, rfl, r.frz _ _ h1, h2⟩
    | _ => rw [q] at e; cases e
end
/-- a class's facts -/
structure ClsBits (K : PySem.W.Frag) (C : Addr) : Prop where
  cls : Cls K C
  sf : PySem.W.selfFirst K C = true
  ni : PySem.W.subIn K (.ref C) (.type "int") = some false
  ob : PySem.W.subIn K (.ref C) (.type "object") = some true
  ne : PySem.W.findIn K (.ref C) "__ne__" = some (some (.builtin "object.__ne__"))
  gt : PySem.W.findIn K (.ref C) "__gt__" = some (some (.builtin "object.__gt__"))
  ge : PySem.W.findIn K (.ref C) "__ge__" = some (some (.builtin "object.__ge__"))
/-- a method that may be called -/
structure MethOk (P : Prog) (n : Nat) (K : PySem.W.Frag) (ca : String → Addr) (X : Cx) (c x f : String) : Prop where
  ex : ∃ (k : Nat) (a : Addr) (fd : FuncData) (ps : List Str), Meth X.K (ca c) (Str.ofString x) a ∧ Room (k + 2) X.A ∧ Binds X.K fd ps [] ∧ FnOk X.prog X.w X.K X.mg X.base (L2.CX X.prog X.w) k a fd ps (spI P n K ca f)
/-- a class that may be called -/
structure MkOk (P : Prog) (n : Nat) (K : PySem.W.Frag) (ca : String → Addr) (X : Cx) (c f : String) : Prop where
  ex : ∃ (k : Nat) (a : Addr) (fd : FuncData) (ps : List Str), Mk X.K (ca c) a ∧ X.mg (Str.ofString c) = some (.ref (ca c)) ∧ Room (k + 1) X.A ∧ Binds X.K fd ps [] ∧ FnOk X.prog X.w X.K X.mg X.base (L2.CX X.prog X.w) k a fd ps (spI P n K ca f)
/-- what is known of own classes as types -/
structure OwnK (K : PySem.W.Frag) (ca : String → Addr) (kn : String → Bool) : Prop where
  cls : ∀ c, kn c = true → Cls K (ca c)
  at_ : ∀ c, kn c = true → PySem.W.findIn K (.ref (ca c)) "__class__" = some (some (.builtin "object.__class__"))
  sp : PySem.W.specialIn K (.builtin "object.__class__") "__get__" = some (some (.builtin "getset_descriptor.__get__"))
  tk : PySem.W.takesIn K (.builtin "object.__class__") = some true
  mro : ∀ c, kn c = true → PySem.W.mroIn K (ca c) (.type "object") = some true
  own : ∀ c, kn c = true → ∀ e, kn e = true → PySem.W.kitOne K (.ref (ca c)) (.ref (ca e)) = some (c == e)
  out : ∀ c, kn c = true → ∀ t : Ty, t.blt = true → PySem.W.kitOne K (.ref (ca c)) (.type t.nm) = some false
  inn : ∀ c, kn c = true → ∀ d n, dTy d = some n → PySem.W.kitOne K (.type n) (.ref (ca c)) = some false
/-- a place's facts of the own classes -/
structure ObjF (P : Prog) (n : Nat) (fx : Fix) (X : Cx) : Prop where
  bits : ∀ c, P.kn c = true → ClsBits X.K (fx.ca c)
  lacks : ∀ c x, P.lacks c x = true → NoAttr X.K (fx.ca c) (Str.ofString x)
  meth : ∀ c x f m, P.meth c x = some (f, m) → MethOk P n fx.K fx.ca X c x f
  mkk : ∀ c k f m, P.ct c = some k → k.init = some (f, m) → MkOk P n fx.K fx.ca X c f
  own : (∃ c, P.kn c = true) → OwnK X.K fx.ca P.kn
theorem kn_of_lacks {P : Prog} {c x : String} (h : P.lacks c x = true) : P.kn c = true := by
  unfold Prog.lacks at h
  unfold Prog.kn
  cases e : P.ct c with
  | none => rw [e] at h; cases h
  | some k => rfl
theorem kn_of_meth {P : Prog} {c x : String} {o : String × Mode} (h : P.meth c x = some o) : P.kn c = true := by
  unfold Prog.meth at h
  unfold Prog.kn
  cases e : P.ct c with
  | none => rw [e] at h; cases h
  | some k => rfl
section
variable {X : Cx} {fx : Fix} {W : WX} {f h : DSt → Store → Res D} {o a b : Expr} {pos : Pos}
/-- o.x -/
theorem s_fld {P : Prog} {n : Nat} {x : String} {m : Str} (hm : m = Str.ofString x) (ob : ObjF P n fx X) (ho : PE X o (tE fx W f)) (hb : attributeBase o m X.env (eval o X.env) = eval o X.env) : PE X (.Attribute o m pos) (tE fx W fun σ S => (f σ S).bind fun d S1 => fldD P x S1 d) := by
  subst hm
  refine pe_imp (pe_fld ho hb) fun σ H Q ⟨g, dσ, S, r, sl, q⟩ => tE.bind q r sl fun d S1 v g1 H1 _ l1 r1 x1 q1 => ?_
  unfold fldD at q1
  cases e : insD S1 d with
  | none => rw [e] at q1; exact q1.elim
  | some cf =>
    obtain ⟨c, fs⟩ := cf
    rw [e] at q1
    obtain ⟨p, dx, vs, rfl, h1, h2⟩ := r1.insD x1 e
    have q1 : ePost fx W g1 σ (tOf fx Q) (if P.lacks c x then match fs.lookup x with
      | some e => .ok e S1
      | none => .bad
      else .bad) := q1
    by_cases hl : P.lacks c x = true
    · rw [if_pos hl] at q1
      cases e2 : fs.lookup x with
      | none => rw [e2] at q1; exact q1.elim
      | some y =>
        rw [e2] at q1
        obtain ⟨u, h3, h4⟩ := h2.look e2
        exact ⟨p, _, dx, vs, u, rfl, h1, (ob.bits c (kn_of_lacks hl)).cls, ob.lacks c x hl, h3, ePost.ret q1 r1 h4⟩
    · rw [if_neg hl] at q1
      exact q1.elim
theorem callM_np {P : Prog} {n : Nat} {m : Mode} {f : String} {ds : List D} {S : Store} (h : callM (run P n) m f ds S ≠ .bad) : ∃ F, P.fn f = some F ∧ ds.length = F.np := by
  cases m with
  | pure => exact callP_np h
  | st => exact run_np h
/-- the call behind a method, an operator: self and the arguments -/
theorem run_m {P : Prog} {n : Nat} {m : Mode} {c x fn : String} {pins : List (Addr × Obj)} {σ : L2.St} {H : Hp} {s : Shared} {Q : VK} {us : List Value} {vs : List V} {ds : List D} {g : Gh} {S : Store} {adr : Addr}
    (hK : fx.K = X.K) (tk : Takes X W) {k : Nat} {fd : FuncData} {ps : List Str} (hr : Room k X.A) (hb : Binds X.K fd ps []) (F : FnOk X.prog X.w X.K X.mg X.base (L2.CX X.prog X.w) k adr fd ps (spI P n fx.K fx.ca fn))
    (I : Inv X pins σ H s) (r : R fx g S H) (rv : RelL fx.K fx.ca g vs ds) (ru : Vals vs us) (q : ePost fx W g σ (tOf fx Q) (callM (run P n) m fn ds S)) : wpAny (model X.prog X.w) X.A (call (.ref adr) us) (EP X pins σ Q) X.xe s := by
  obtain ⟨G, h1, h2⟩ := callM_np (post_ne q)
  exact run_fnS (E := fun σ => WE W σ) F hr hb (passAt tk σ) I ru (call_m ⟨G, h1, by rw [rv.length]; exact h2⟩ q r rv)
theorem methD_of {P : Prog} {x : String} {S : Store} {d : D} {f : String} {m : Mode} (h : methD P x S d = some (f, m)) : ∃ c fs, insD S d = some (c, fs) ∧ fs.lookup x = none ∧ P.meth c x = some (f, m) := by
  unfold methD at h
  cases e : insD S d with
  | none => rw [e] at h; cases h
  | some cf =>
    obtain ⟨c, fs⟩ := cf
    rw [e] at h
    have h : (if (fs.lookup x).isNone then P.meth c x else none) = some (f, m) := h
    by_cases hn : (fs.lookup x).isNone = true
    · rw [if_pos hn] at h
      exact ⟨c, fs, rfl, Option.isNone_iff_eq_none.mp hn, h⟩
    · rw [if_neg hn] at h
      cases h
theorem s_meth {P : Prog} {n : Nat} {x : String} {y : Str} {e : Expr} {es : List Expr} {ap : Pos} {pl : Sem Bool} (hy : y = Str.ofString x) (hK : fx.K = X.K) (tk : Takes X W) (ob : ObjF P n fx X) (ho : PE X o (tE fx W f)) (ha : PA X (e :: es) (tA fx W h))
    (he : starEach (e :: es) X.env = (false, eval e X.env) :: starEach es X.env) (hpl : (backTo pos (starEach es X.env)).any (·.1) = false)
    (ht : eval (.Call (.Attribute o y ap) (e :: es) [] pos) X.env = (do
      let z ← eval o X.env
      standAt ap.atName
      let (q, i) ← holding [z] (getMethod z y pl)
      callWith pos q i (backTo pos (starEach (e :: es) X.env)) (backToKw pos (keywordEach [] X.env)))) :
    PE X (.Call (.Attribute o y ap) (e :: es) [] pos) (tE fx W fun σ S => (f σ S).bind fun d S1 => match methD P x S1 d with
      | some (fn, m) => (h σ S1).bind fun z S2 => callM (run P n) m fn (d :: unT z) S2
      | none => .bad) := by
  subst hy
  refine ⟨fun pins s σ H Q I ⟨g, dσ, S, r, sl, q⟩ => ?_⟩
  have q0 : tE fx W f σ H fun v H1 => ∃ C a p dx fs, v = .ref p ∧ H1 p = some (.ins C dx fs) ∧ fs.lookup (Str.ofString x) = none ∧ Cls X.K C ∧ Meth X.K C (Str.ofString x) a ∧
      tA fx W h σ H1 fun vs H2 => ∀ us s2, Inv X pins σ H2 s2 → Vals vs us → wpAny (model X.prog X.w) X.A (call (.ref a) (.ref p :: us)) (EP X pins σ Q) X.xe s2 := by
    refine tE.bind q r sl fun d S1 v g1 H1 _ l1 r1 x1 q1 => ?_
    cases hh : methD P x S1 d with
    | none => rw [hh] at q1; exact q1.elim
    | some fm =>
      obtain ⟨fn, m⟩ := fm
      rw [hh] at q1
      obtain ⟨c, fs, e1, e2, e3⟩ := methD_of hh
      obtain ⟨k, a, fd, ps, hm, hr, hb, F⟩ := (ob.meth c x fn m e3).ex
      obtain ⟨p, dx, vs, rfl, h1, h2⟩ := r1.insD x1 e1
      refine ⟨_, a, p, dx, vs, rfl, h1, h2.lookN e2, (ob.bits c (kn_of_meth e3)).cls, hm, ?_⟩
      refine tA.bind q1 r1 (sl.mono l1) fun z S2 ws g2 H2 _ l2 r2 y2 q2 us s2 I2 ru => ?_
      exact run_m (vs := .ref p :: ws) (ds := d :: unT z) (c := c) (x := x) hK tk (hr.mono (Nat.le_add_right _ 2)) hb F I2 r2 (.cons (x1.mono l2) y2) (.cons rfl ru) q2
  refine PySem.W.methodCall_KW (pl := pl) (thn (ho.run pins s σ H _ I q0) fun u s1 ⟨v, H1, I1, rx, C, a, p, dx, fs, ex, ea, l, hc, hm, q1⟩ => ?_) ht
  subst ex
  obtain rfl : u = Value.ref p := rx
  refine getmeth_ok I1 ea hc hm l ?_
  exact PySem.W.callWith_K (first := [.ref p]) (h₀ := X.base) I.ok.mod.kin hm.kp (thn (ha.run pos pins s1 σ H1 _ I1 q1) fun us s2 ⟨vs, H2, I2, ru, q2⟩ => ⟨I2.kIn, q2 us s2 I2 ru⟩) he hpl
theorem s_meth0 {P : Prog} {n : Nat} {x : String} {y : Str} {ap : Pos} {pl : Sem Bool} (hy : y = Str.ofString x) (hK : fx.K = X.K) (tk : Takes X W) (ob : ObjF P n fx X) (ho : PE X o (tE fx W f))
    (ht : eval (.Call (.Attribute o y ap) [] [] pos) X.env = (do
      let z ← eval o X.env
      standAt ap.atName
      let (q, i) ← holding [z] (getMethod z y pl)
      callWith pos q i (backTo pos (starEach [] X.env)) (backToKw pos (keywordEach [] X.env)))) :
    PE X (.Call (.Attribute o y ap) [] [] pos) (tE fx W fun σ S => (f σ S).bind fun d S1 => match methD P x S1 d with
      | some (fn, m) => (Res.ok (.tup []) S1).bind fun z S2 => callM (run P n) m fn (d :: unT z) S2
      | none => .bad) := by
  subst hy
  refine ⟨fun pins s σ H Q I ⟨g, dσ, S, r, sl, q⟩ => ?_⟩
  have q0 : tE fx W f σ H fun v H1 => ∃ C a p dx fs, v = .ref p ∧ H1 p = some (.ins C dx fs) ∧ fs.lookup (Str.ofString x) = none ∧ Cls X.K C ∧ Meth X.K C (Str.ofString x) a ∧
      ∀ s2, Inv X pins σ H1 s2 → wpAny (model X.prog X.w) X.A (call (.ref a) [.ref p]) (EP X pins σ Q) X.xe s2 := by
    refine tE.bind q r sl fun d S1 v g1 H1 _ l1 r1 x1 q1 => ?_
    cases hh : methD P x S1 d with
    | none => rw [hh] at q1; exact q1.elim
    | some fm =>
      obtain ⟨fn, m⟩ := fm
      rw [hh] at q1
      obtain ⟨c, fs, e1, e2, e3⟩ := methD_of hh
      obtain ⟨k, a, fd, ps, hm, hr, hb, F⟩ := (ob.meth c x fn m e3).ex
      obtain ⟨p, dx, vs, rfl, h1, h2⟩ := r1.insD x1 e1
      refine ⟨_, a, p, dx, vs, rfl, h1, h2.lookN e2, (ob.bits c (kn_of_meth e3)).cls, hm, fun s2 I2 => ?_⟩
      exact run_m (vs := [.ref p]) (ds := [d]) (c := c) (x := x) hK tk (hr.mono (Nat.le_add_right _ 2)) hb F I2 r1 (.cons x1 .nil) (.cons rfl .nil) q1
  refine PySem.W.methodCall_KW (pl := pl) (thn (ho.run pins s σ H _ I q0) fun u s1 ⟨v, H1, I1, rx, C, a, p, dx, fs, ex, ea, l, hc, hm, q1⟩ => ?_) ht
  subst ex
  obtain rfl : u = Value.ref p := rx
  refine getmeth_ok I1 ea hc hm l ?_
  exact PySem.W.callWith_K0 (first := [.ref p]) I1.kIn hm.kp (q1 s1 I1)
theorem mkM_np {P : Prog} {n : Nat} {m : Mode} {c f : String} {ds : List D} {S : Store} (h : mkM (run P n) m c f ds S ≠ .bad) : ∃ F, P.fn f = some F ∧ ds.length + 1 = F.np := by
  have key : ∀ (ds : List D) (S : Store), mkK (run P n f) c ds S ≠ .bad → ∃ F, P.fn f = some F ∧ ds.length + 1 = F.np := fun ds S h => by
    have hr : run P n f (.ptr S.length :: ds) (S ++ [.ins c []]) ≠ .bad := fun e => by
      unfold mkK at h
      rw [e] at h
      exact h rfl
    exact run_np hr
  cases m with
  | pure =>
    have h : pureK (mkK (run P n f) c) ds S ≠ .bad := h
    unfold pureK at h
    cases q : frzL (frzD frzK) S ds with
    | none => rw [q] at h; exact absurd rfl h
    | some p =>
      obtain ⟨es, S1⟩ := p
      rw [q] at h
      obtain ⟨F, h1, h2⟩ := key es [] fun e => by
        simp only [e] at h
        exact h rfl
      exact ⟨F, h1, by rw [← h2, frzL_len q]⟩
  | st => exact key ds S h
theorem run_mk {P : Prog} {n : Nat} {m : Mode} {c fn : String} {pins : List (Addr × Obj)} {σ : L2.St} {H : Hp} {s : Shared} {Q : VK} {us : List Value} {vs : List V} {ds : List D} {g : Gh} {S : Store} {adr : Addr}
    (tk : Takes X W) {k : Nat} {fd : FuncData} {ps : List Str} (M : Mk X.K (fx.ca c) adr) (hr : Room (k + 1) X.A) (hb : Binds X.K fd ps []) (F : FnOk X.prog X.w X.K X.mg X.base (L2.CX X.prog X.w) k adr fd ps (spI P n fx.K fx.ca fn))
    (I : Inv X pins σ H s) (r : R fx g S H) (rv : RelL fx.K fx.ca g vs ds) (ru : Vals vs us) (q : ePost fx W g σ (tOf fx Q) (mkM (run P n) m c fn ds S)) : wpAny (model X.prog X.w) X.A (call (.ref (fx.ca c)) us) (EP X pins σ Q) X.xe s := by
  obtain ⟨G, g1, g2⟩ := mkM_np (post_ne q)
  have sp := mk_m ⟨G, g1, by rw [rv.length]; exact g2⟩ q r rv
  have want := sp (s.heap.objs.size + 1) s.heap.objs.size (I.hok.fresh (Nat.le_succ _)) (I.hok.fresh (Nat.le_refl _)) (Nat.ne_of_lt (Nat.lt_succ_self _))
  have I1 := Inv.made (C := fx.ca c) I
  have rel : Vals (V.ref (s.heap.objs.size + 1) :: vs) (Value.ref (s.heap.objs.size + 1) :: us) := .cons rfl ru
  have len : (Value.ref (s.heap.objs.size + 1) :: us ++ []).length = ps.length := by
    rw [List.append_nil, ← rel.length]
    exact F.len _ _ _ _ want
  have bnd := hb { s with heap := (s.heap.push PySem.W.emptyDict).push (PySem.W.instObj (fx.ca c) s.heap.objs.size) } (Value.ref (s.heap.objs.size + 1) :: us) I1.kIn len
  rw [List.append_nil] at bnd
  have go := F.run (X.A.under (.builtin "type.__call__" ⟨.ref (fx.ca c) :: us, []⟩)) X.stack _ _ ⟨Value.ref (s.heap.objs.size + 1) :: us, []⟩ (Value.ref (s.heap.objs.size + 1) :: us) _ _ _ (hr.make _ us []) (I1.env0.make _ us []) bnd rel want
  refine wpAny_call (make_map (f := adr) I.kIn M.makes M.init (beq_iff_eq.mp M.fn) (codeAny_mono go fun t s2 hq => ?_))
  cases t with
  | error z => exact passAt tk σ pins _ _ z s2 I1 hq
  | ok flow =>
    cases flow with
    | ret z =>
      obtain ⟨v, H2, I2, rz, ez, q3⟩ := I1.after hq
      subst ez
      exact ⟨rz, ⟨V.ref (s.heap.objs.size + 1), H2, I2, rfl, q3⟩⟩
    | _ => exact hq.elim
theorem mkX_of {P : Prog} {cb : Cb} {c : String} {ds : List D} {S : Store} (h : mkX P cb c ds S ≠ .bad) : ∃ k f m, P.ct c = some k ∧ k.init = some (f, m) ∧ mkX P cb c ds S = mkM cb m c f ds S := by
  unfold mkX at h ⊢
  cases e : P.ct c with
  | none => rw [e] at h; exact absurd rfl h
  | some k =>
    rw [e] at h
    cases e2 : k.init with
    | none => simp only [e2] at h; exact absurd rfl h
    | some fm => exact ⟨k, fm.1, fm.2, rfl, e2, by simp only [e2]⟩
theorem s_mk {P : Prog} {n : Nat} {c : String} {y : Str} {e : Expr} {es : List Expr} {p : Pos} (hy : y = Str.ofString c) (tk : Takes X W) (hg : Gl X y) (hmg : X.mg y = some (.ref (fx.ca c))) (ob : ObjF P n fx X) (kp : PySem.W.keepIn X.K (.ref (fx.ca c)) = true) (ha : PA X (e :: es) (tA fx W f)) (hdb : (y == ("__debug__" : Str)) = false)
    (he : starEach (e :: es) X.env = (false, eval e X.env) :: starEach es X.env) (hpl : (backTo pos (starEach es X.env)).any (·.1) = false) : PE X (.Call (.Name y p) (e :: es) [] pos) (tE fx W fun σ S => (f σ S).bind fun x S1 => mkX P (run P n) c (unT x) S1) := by
  subst hy
  refine ⟨fun pins s σ H Q I ⟨g, dσ, S, r, sl, q⟩ => ?_⟩
  have q0 : tA fx W f σ H fun vs H1 => ∀ us s2, Inv X pins σ H1 s2 → Vals vs us → wpAny (model X.prog X.w) X.A (call (.ref (fx.ca c)) us) (EP X pins σ Q) X.xe s2 :=
    tA.bind q r sl fun y S1 vs g1 H1 _ l1 r1 y1 q1 us s2 I2 ru => by
      obtain ⟨k, fn, m, e1, e2, e3⟩ := mkX_of (post_ne q1)
      rw [e3] at q1
      obtain ⟨k, a, fd, ps, M, hc, hr, hb, F⟩ := (ob.mkk c k fn m e1 e2).ex
      exact run_mk tk M hr hb F I2 r1 y1 ru q1
  refine wpAny_Call_Name_kw (ld_glob I hg hmg ?_ hdb)
  exact PySem.W.callWith_K (h₀ := X.base) I.ok.mod.kin kp (thn (ha.run pos pins s σ H _ I q0) fun us s1 ⟨vs, H1, I1, ru, q1⟩ => ⟨I1.kIn, q1 us s1 I1 ru⟩) he hpl
theorem s_mk0 {P : Prog} {n : Nat} {c : String} {y : Str} {p : Pos} (hy : y = Str.ofString c) (tk : Takes X W) (hg : Gl X y) (hmg : X.mg y = some (.ref (fx.ca c))) (ob : ObjF P n fx X) (kp : PySem.W.keepIn X.K (.ref (fx.ca c)) = true) (hdb : (y == ("__debug__" : Str)) = false) :
    PE X (.Call (.Name y p) [] [] pos) (tE fx W fun σ S => (Res.ok (.tup []) S).bind fun x S1 => mkX P (run P n) c (unT x) S1) := by
  subst hy
  refine ⟨fun pins s σ H Q I ⟨g, dσ, S, r, sl, q⟩ => ?_⟩
  refine wpAny_Call_Name_kw (ld_glob I hg hmg ?_ hdb)
  refine PySem.W.callWith_K0 I.kIn kp ?_
  obtain ⟨k, fn, m, e1, e2, e3⟩ := mkX_of (post_ne q)
  have q : ePost fx W g σ (tOf fx Q) (mkX P (run P n) c [] S) := q
  rw [show mkX P (run P n) c [] S = mkM (run P n) m c fn [] S from e3] at q
  obtain ⟨k, a, fd, ps, M, hc, hr, hb, F⟩ := (ob.mkk c k fn m e1 e2).ex
  exact run_mk (us := []) (vs := []) (ds := []) tk M hr hb F I r .nil .nil q
/-- o.x = e -/
theorem s_sfld {P : Prog} {n : Nat} {x : String} {m : Str} {v : Expr} {ap : Pos} (hm : m = Str.ofString x) (ob : ObjF P n fx X) (hv : PE X v (tE fx W f)) (ho : PE X o (tE fx W h)) (hs : swapsWith v (some (.Attribute o m ap)) pos.line X.env = pure false) :
    PS X (.Assign [.Attribute o m ap] v pos) (tS fx W fun σ S => (f σ S).sr σ fun d S1 => (h σ S1).sr σ fun p S2 => match sfldD P x S2 p d with
      | some S3 => .nx σ S3
      | none => .bad) := by
  subst hm
  refine ps_imp (ps_fld ho hv hs) fun D σ H ⟨g, dσ, S, r, sl, q⟩ => tE.sr q r sl fun d S1 u g1 H1 _ l1 r1 d1 q1 => tE.sr q1 r1 (sl.mono l1) fun p S2 w g2 H2 _ l2 r2 p2 q2 => ?_
  unfold sfldD at q2
  cases p with
  | ptr n =>
    have q2 : sPost fx W g2 D (match (match S2[n]? with
      | some (.ins c fs) => if P.lacks c x = true ∧ fs.length < 1000 then some (S2.set n (.ins c (putD x d fs))) else none
      | _ => none) with
      | some S3 => .nx dσ S3
      | none => .bad) := q2
    cases e : S2[n]? with
    | none => rw [e] at q2; exact q2.elim
    | some k =>
      cases k with
      | ins c fs =>
        rw [e] at q2
        have q2 : sPost fx W g2 D (match (if P.lacks c x = true ∧ fs.length < 1000 then some (S2.set n (.ins c (putD x d fs))) else none) with
          | some S3 => .nx dσ S3
          | none => .bad) := q2
        by_cases hk : P.lacks c x = true ∧ fs.length < 1000
        · rw [if_pos hk] at q2
          obtain ⟨hl0, hl⟩ := hk
          obtain ⟨a1, a2, dx, vs, a3, a4⟩ := r2.cells n _ e
          cases p2 with
          | ptr hn2 =>
            refine ⟨g2.am n, _, dx, vs, rfl, a3, (ob.bits c (kn_of_lacks hl0)).cls, ob.lacks c x hl0, by rw [a4.length]; exact hl, ?_⟩
            have r3 := r2.putIns (dx := dx) e (a4.put (x := x) (d1.mono l2))
            exact q2 g2 _ σ (Gh.le.refl _) r3 ((sl.mono l1).mono l2)
        · rw [if_neg hk] at q2
          exact q2.elim
      | _ => rw [e] at q2; exact q2.elim
  | _ => exact q2.elim
/-- o[i] = e -/
theorem s_sidx {v o i : Expr} {f h k : DSt → Store → Res D} {sp : Pos} (hv : PE X v (tE fx W f)) (ho : PE X o (tE fx W h)) (hi : PE X i (tE fx W k)) (hs : swapsWith v (some (.Subscript o i sp)) pos.line X.env = pure false)
    (ha : ∀ u, assign (.Subscript o i sp) X.env u = (do
      let ov ← holding [u] (eval o X.env)
      let iv ← holding [u, ov] (eval i X.env)
      standAt sp
      holding [u, ov, iv] (setItem ov iv u)
      release [u, ov, iv] [])) :
    PS X (.Assign [.Subscript o i sp] v pos) (tS fx W fun σ S => (f σ S).sr σ fun d S1 => (h σ S1).sr σ fun p S2 => (k σ S2).sr σ fun q S3 => match sidxD S3 p q d with
      | some S4 => .nx σ S4
      | none => .bad) := by
  refine ps_imp (ps_asg hv (pg_sub ho hi set_list ha) hs rfl rfl) fun D σ H ⟨g, dσ, S, r, sl, q⟩ => tE.sr q r sl fun d S1 u g1 H1 _ l1 r1 d1 q1 => tE.sr q1 r1 (sl.mono l1) fun p S2 w g2 H2 _ l2 r2 p2 q2 => tE.sr q2 r2 ((sl.mono l1).mono l2) fun z S3 y g3 H3 _ l3 r3 z3 q3 => ?_
  unfold sidxD at q3
  cases p with
  | ptr n =>
    cases z with
    | int j =>
      cases e : S3[n]? with
      | none => simp only [e] at q3; exact q3.elim
      | some c =>
        cases c with
        | lst xs =>
          simp only [e] at q3
          cases e2 : L2.ixN xs.length j with
          | none => simp only [e2] at q3; exact q3.elim
          | some m =>
            simp only [e2] at q3
            obtain ⟨rfl, hn⟩ := p2.iPtr
            obtain rfl := z3.iInt
            obtain ⟨_, _, vs, hv2, rv⟩ := r3.cells n _ e
            have am : g3.am n = g2.am n := l3.am n hn
            have r4 := r3.put e (RelL.set (d1.mono (l2.trans l3)) m rv)
            rw [am] at hv2 r4
            exact ⟨_, vs, j, m, rfl, rfl, hv2, by rw [rv.length]; exact e2, q3 g3 _ σ (Gh.le.refl _) r4 (((sl.mono l1).mono l2).mono l3)⟩
        | _ => simp only [e] at q3; exact q3.elim
    | _ => exact q3.elim
  | _ => exact q3.elim

end
end MX
end

section
set_option maxRecDepth 100000
set_option maxHeartbeats 1000000
namespace MX
open PySem PySem.Spec PyProof.Rows
section
open PySem.W
variable {prog : Program} {w : World} {A : Around} {E : Value → Shared → Prop} {s : Shared} {K : Frag} {x C f : Addr} {ox : Obj} {od : Option Obj}
/-- own operator, the right side of the same class -/
theorem own_same {op : Operator} {b : Value} {Q : Value → Shared → Prop} (kin : K.In s.heap) (at_ : InstAt s.heap x ox C od) (tb : Looks (model prog w) s.heap (typeOf b) (.ref C)) (sf : selfFirst K C = true)
    (fnd : findIn K (.ref C) (PySem.dunder op.info.2) = some (some (.ref f))) (isf : isFn K (.ref f) = true)
    (go : wpAny (model prog w) A (call (.ref f) [.ref x, b]) (PySem.W.CmpBack Q) E s) : wpAny (model prog w) A (binaryOp op (.ref x) b) Q E s := by
  obtain ⟨cd, tl, hcd, hmro⟩ := ksp_first sf
  unfold binaryOp
  refine wpAny_holding (wpAny_bind ?_)
  unfold binaryOp1
  refine wpAny_bind (at_.type.here (wpAny_bind (tb.here (wpAny_bind ((fills_K kin hcd hmro fnd).here ?_)))))
  simp only [beq_self_eq_true, if_true]
  refine wpAny_bind (wpAny_pure ?_)
  simp only [Bool.and_false, Bool.false_eq_true, if_false, Bool.false_and]
  refine wpAny_bind (wpAny_pure ?_)
  simp only [Bool.false_eq_true, if_false]
  refine wpAny_bind (m := tryMethod (.ref x) _ b) ?_
  unfold tryMethod
  refine wpAny_bind (special_fn kin at_ fnd (beq_iff_eq.mp isf) (wpAny_mono go (fun z s2 hz => ?_) fun _ _ y => y))
  cases z <;> first | exact hz.elim | exact wpAny_pure (wpAny_pure (wpAny_pure hz))
/-- own operator, the right side of a built-in type -/
theorem own_int {op : Operator} {b : Value} {T : String} {fo ro rc : Option Value} {Q : Value → Shared → Prop} (kin : K.In s.heap) (at_ : InstAt s.heap x ox C od) (tb : typeOf b = pure (.type T)) (sf : selfFirst K C = true)
    (fnd : findIn K (.ref C) (PySem.dunder op.info.2) = some (some (.ref f))) (isf : isFn K (.ref f) = true) (fr : findIn K (.ref C) (dunderR op.info.2) = some rc) (pr : rc = none ∨ ∃ g : Addr, rc = some (.ref g))
    (t1 : findIn K (.type T) (PySem.dunder op.info.2) = some fo) (t2 : findIn K (.type T) (dunderR op.info.2) = some ro) (nsub : subIn K (.type T) (.ref C) = some false)
    (go : wpAny (model prog w) A (call (.ref f) [.ref x, b]) (PySem.W.CmpBack Q) E s) : wpAny (model prog w) A (binaryOp op (.ref x) b) Q E s := by
  obtain ⟨cd, tl, hcd, hmro⟩ := ksp_first sf
  have first := ksp_try kin at_ fnd isf go
  rcases io : op.info with ⟨sy, nn⟩
  rw [io] at fnd fr t1 t2 first
  dsimp only at fnd fr t1 t2 first
  obtain ⟨h0, gs, dr, tk, os⟩ := s
  have k1 : Looks (model prog w) h0 (typeOf (.ref x)) (.ref C) := at_.type
  have k2 : Looks (model prog w) h0 (typeOf b) (.type T) := Looks.of_pure tb
  have k3 : Looks (model prog w) h0 (fillsNumberSlot (.ref C) nn) true := fills_K kin hcd hmro fnd
  have k4 : Looks (model prog w) h0 (fillsNumberSlot (.type T) nn) ((fo.isSome && !isSeqSlot fo) || (ro.isSome && !isSeqSlot ro)) := ksp_fillsT kin t1 t2
  have k5 : Looks (model prog w) h0 (isSubtype (.type T) (.ref C)) false := looks_subIn kin nsub
  have k6 : Looks (model prog w) h0 (numberSlotInPython (.ref C) nn) true := ksp_inPy kin fnd fr pr
  have k7 : Looks (model prog w) h0 (numberSlotInPython (.type T) nn) false := Looks.of_pure rfl
  have k8 : Looks (model prog w) h0 (typeLookup (.type T) (dunderR nn)) ro := looks_findIn kin t2
  generalize ((fo.isSome && !isSeqSlot fo) || (ro.isSome && !isSeqSlot ro)) = rb at k4
  have ne : (Value.ref C == Value.type T) = false := Bool.eq_false_iff.mpr fun q => by cases beq_iff_eq.mp q
  simp only [binaryOp, io]
  refine wpAny_holding (wpAny_bind ?_)
  unfold binaryOp1
  refine wpAny_bind (k1.at (wpAny_bind (k2.at (wpAny_bind (k3.at ?_)))))
  simp only [ne, Bool.false_eq_true, if_false]
  cases rb with
  | false =>
    ksp_lk
    refine wpAny_mono first (fun r s2 ⟨z, ez, hz⟩ => ?_) fun _ _ y => y
    subst ez
    ksp_lk
    exact hz
  | true =>
    ksp_lk
    refine wpAny_mono first (fun r s2 ⟨z, ez, hz⟩ => ?_) fun _ _ y => y
    subst ez
    ksp_lk
    exact hz
end
end MX
end

section
set_option maxRecDepth 100000
set_option maxHeartbeats 1000000
namespace MX
open PySem PySem.Spec PyProof.Rows
section
open PySem.W
variable {prog : Program} {w : World} {A : Around} {E : Value → Shared → Prop} {s : Shared} {K : Frag} {x C f : Addr} {ox : Obj} {od : Option Obj}
/-- int.__op__ of an instance: not implemented -/
theorem int_ni {nm : String} {g : Int → Int → Sem Fin} {i : Int} {t : Tok} {y : Addr} {oy : Obj} {Q : Fin → Shared → Prop} (hy : s.heap.get? y = some oy) (hd : ∀ k u, oy.data ≠ .prim (.int k u)) (q : Q (.done (.ret .notImplemented)) s) :
    wpAny (model prog w) A (Builtin.Int.intBinary nm g false ⟨[.int i t, .ref y], []⟩) Q E s := by
  unfold Builtin.Int.intBinary slotArgs
  refine wpAny_bind (m := pure (Value.int i t, [Value.ref y])) (wpAny_pure ?_)
  refine wpAny_bind (m := pure i) (wpAny_pure ?_)
  refine wpAny_bind ?_
  show wpAny (model prog w) A (asInt? (.ref y)) _ E s
  unfold asInt?
  refine wpAny_bind (wpAny_load hy ?_)
  split
  · rename_i k u h
    exact absurd h (hd k u)
  · exact wpAny_pure (wpAny_bind (wpAny_rule (wpAny_pure q)))
/-- a builtin that answers an int and an instance by not implemented -/
def NiOk (B : Builtin) : Prop := ∀ (prog : Program) (w : World) (A : Around) (E : Value → Shared → Prop) (s : Shared) (i : Int) (t : Tok) (y : Addr) (oy : Obj) (Q : Fin → Shared → Prop), s.heap.get? y = some oy → (∀ k u, oy.data ≠ .prim (.int k u)) → Q (.done (.ret .notImplemented)) s → wpAny (model prog w) A (B ⟨[.int i t, .ref y], []⟩) Q E s
theorem ni_bin {nm : String} {g : Int → Int → Sem Fin} : NiOk (Builtin.Int.intBinary nm g false) := fun prog w A E s i t y oy Q hy hd q => int_ni hy hd q
/-- int op instance: the instance's own reflected operator -/
theorem own_refl {op : Operator} {i : Int} {t : Tok} {idl : String} {B : Builtin} {f0 : Addr} {fo ro : Option Value} {Q : Value → Shared → Prop} (kin : K.In s.heap) (at_ : InstAt s.heap x ox C od) (hd : ∀ k u, ox.data ≠ .prim (.int k u)) (sf : selfFirst K C = true)
    (fnd0 : findIn K (.ref C) (PySem.dunder op.info.2) = some (some (.ref f0))) (fnd : findIn K (.ref C) (dunderR op.info.2) = some (some (.ref f))) (isf : isFn K (.ref f) = true)
    (t1 : findIn K (.type "int") (PySem.dunder op.info.2) = some fo) (t2 : findIn K (.type "int") (dunderR op.info.2) = some ro) (fil : ((fo.isSome && !isSeqSlot fo) || (ro.isSome && !isSeqSlot ro)) = true) (nsub : subIn K (.ref C) (.type "int") = some false)
    (sl : Slot "int" (PySem.dunder op.info.2) idl) (ar : argsOk idl ⟨[.int i t, .ref x], []⟩) (en : entryFor table idl = some B) (ni : NiOk B)
    (go : wpAny (model prog w) A (call (.ref f) [.ref x, .int i t]) (PySem.W.CmpBack Q) E s) : wpAny (model prog w) A (binaryOp op (.int i t) (.ref x)) Q E s := by
  obtain ⟨cd, tl, hcd, hmro⟩ := ksp_first sf
  have last := ksp_try kin at_ fnd isf go
  have hx : s.heap.get? x = some ox := at_.1
  rcases io : op.info with ⟨sy, nn⟩
  rw [io] at fnd0 fnd t1 t2 last sl
  dsimp only at fnd0 fnd t1 t2 last sl
  obtain ⟨h0, gs, dr, tk, os⟩ := s
  have k1 : Looks (model prog w) h0 (typeOf (.ref x)) (.ref C) := at_.type
  have k2 : Looks (model prog w) h0 (typeOf (.int i t)) (.type "int") := Looks.of_pure rfl
  have k3 : Looks (model prog w) h0 (fillsNumberSlot (.ref C) nn) true := fills_K kin hcd hmro fnd0
  have k4 : Looks (model prog w) h0 (fillsNumberSlot (.type "int") nn) true := fil ▸ ksp_fillsT kin t1 t2
  have k5 : Looks (model prog w) h0 (isSubtype (.ref C) (.type "int")) false := looks_subIn kin nsub
  have k7 : Looks (model prog w) h0 (numberSlotInPython (.type "int") nn) false := Looks.of_pure rfl
  have ne : (Value.type "int" == Value.ref C) = false := Bool.eq_false_iff.mpr fun q => by cases beq_iff_eq.mp q
  simp only [binaryOp, io]
  refine wpAny_holding (wpAny_bind ?_)
  unfold binaryOp1
  refine wpAny_bind (k2.at (wpAny_bind (k1.at (wpAny_bind (k4.at ?_)))))
  simp only [ne, Bool.false_eq_true, if_false]
  ksp_lk
  refine wpAny_bind (m := callSpecial? (.int i t) (PySem.dunder nn) [.ref x]) ?_
  refine wpAny_callSpecial?_slot (T := "int") rfl sl ?_
  refine wpAny_call (codeAny_call_builtin sl.plain en (sl.check _ _ _ _ _ _ _ _ rfl ar ?_))
  refine ni _ _ _ _ _ _ _ _ _ _ hx hd ?_
  show wpAny (model prog w) A (pure none) _ E _
  refine wpAny_pure ?_
  ksp_lk
  refine wpAny_mono last (fun r s2 ⟨z, ez, hz⟩ => ?_) fun _ _ y => y
  subst ez
  ksp_lk
  exact hz
end
end MX
end

section
set_option maxRecDepth 100000
set_option maxHeartbeats 1000000
namespace MX
open PySem PySem.Spec PyProof.Rows L2
theorem Bop.dn_ok (op : Bop) : PySem.dunder op.op.info.2 = Str.ofString op.dn := by cases op <;> decide +kernel
theorem Bop.rn_ok (op : Bop) : dunderR op.op.info.2 = Str.ofString op.rn := by cases op <;> decide +kernel
theorem back_of {X : Cx} {pins : List (Addr × Obj)} {σ : L2.St} {Q : VK} {v : Value} {s : Shared} (h : EP X pins σ Q v s) : PySem.W.CmpBack (EP X pins σ Q) v s := by
  obtain ⟨x, H, I, r, q⟩ := h
  cases v with
  | notImplemented => cases x <;> first | (obtain ⟨_, z⟩ := r; cases z; done) | exact absurd r (by intro z; cases z)
  | _ => exact ⟨x, H, I, r, q⟩
theorem ins_at {X : Cx} {pins : List (Addr × Obj)} {σ : L2.St} {H : Hp} {s : Shared} {a C dx : Addr} {vs : List (Str × V)} (I : Inv X pins σ H s) (e : H a = some (.ins C dx vs)) : ∃ od, PySem.W.InstAt s.heap a (PySem.W.instObj C dx) C (some od) := by
  obtain ⟨mA, O, _⟩ := ins_get I.hok e
  obtain ⟨od, h1, _⟩ := O.look
  exact ⟨od, h1⟩
theorem int_fnd (K : PySem.W.Frag) (op : Bop) : ∃ fo ro, PySem.W.findIn K (.type "int") (PySem.dunder op.op.info.2) = some fo ∧ PySem.W.findIn K (.type "int") (dunderR op.op.info.2) = some ro ∧ ((fo.isSome && !isSeqSlot fo) || (ro.isSome && !isSeqSlot ro)) = true := by
  cases op <;> exact ⟨_, _, rfl, rfl, rfl⟩
theorem int_sub (K : PySem.W.Frag) (C : Addr) : PySem.W.subIn K (.type "int") (.ref C) = some false := rfl
theorem int_slot (op : Bop) : op = .add ∨ op = .sub ∨ op = .mul ∨ op = .fdiv → ∃ idl B, Slot "int" (PySem.dunder op.op.info.2) idl ∧ (∀ i t x, argsOk idl ⟨[.int i t, .ref x], []⟩) ∧ entryFor table idl = some B ∧ NiOk B := by
  rintro (rfl | rfl | rfl | rfl)
  · exact ⟨"int.__add__", _, slot_int_add, fun i t x => rfl, entryFor_of_tree (b := Builtin.«int.__add__») (by kernel_rfl), ni_bin⟩
  · exact ⟨"int.__sub__", _, slot_int_sub, fun i t x => rfl, entryFor_of_tree (b := Builtin.«int.__sub__») (by kernel_rfl), ni_bin⟩
  · exact ⟨"int.__mul__", _, slot_int_mul, fun i t x => rfl, entryFor_of_tree (b := Builtin.«int.__mul__») (by kernel_rfl), ni_bin⟩
  · refine ⟨"int.__floordiv__", _, slot_int_floordiv, fun i t x => rfl, entryFor_of_tree (b := Builtin.«int.__floordiv__») (by kernel_rfl), fun prog w A E s i t y oy Q hy hd q => ?_⟩
    unfold Builtin.«int.__floordiv__» Builtin.exactOperandsForPylong
    refine wpAny_bind ?_
    rw [if_pos (show ([Value.int i t, Value.ref y].any Value.onHeap) = true from rfl)]
    refine wpAny_bind (m := pure (some i)) (wpAny_pure (wpAny_bind ?_))
    show wpAny (model prog w) A (asInt? (.ref y)) _ E s
    unfold asInt?
    refine wpAny_bind (wpAny_load hy ?_)
    split
    · rename_i k u h
      exact absurd h (hd k u)
    · exact wpAny_pure (wpAny_pure (int_ni hy hd q))
end MX
end

section
set_option maxRecDepth 100000
set_option maxHeartbeats 1000000
namespace MX
open PySem PySem.Spec PyProof.Rows L2
section
variable {X : Cx} {fx : Fix} {W : WX} {P : Prog} {n : Nat}
theorem isInt_of {d : D} (h : isInt d = true) : ∃ i, d = .int i := by
  cases d with
  | int i => exact ⟨i, rfl⟩
  | _ => cases h
theorem callO_of {cb : Cb} {o : Option (String × Mode)} {ds : List D} {S : Store} (h : callO cb o ds S ≠ .bad) : ∃ f m, o = some (f, m) ∧ callO cb o ds S = callM cb m f ds S := by
  cases o with
  | none => exact absurd rfl h
  | some fm => exact ⟨fm.1, fm.2, rfl, rfl⟩
/-- the reflected name: a method, or none -/
def RefOk (P : Prog) (n : Nat) (fx : Fix) (X : Cx) (c : String) (op : Bop) : Prop :=
  NoAttr X.K (fx.ca c) (Str.ofString op.rn) ∨ ∃ g, MethOk P n fx.K fx.ca X c op.rn g ∧ (op = .add ∨ op = .sub ∨ op = .mul ∨ op = .fdiv)
theorem rok_op {op : Bop} (h : op.rok = true) : op = .add ∨ op = .sub ∨ op = .mul ∨ op = .fdiv := by cases op <;> first | (cases h; done) | simp
theorem refOk_of {c : String} {op : Bop} (ob : ObjF P n fx X) (h : P.rok c op = true) : RefOk P n fx X c op := by
  unfold Prog.rok at h
  rw [Bool.or_eq_true, Bool.and_eq_true] at h
  rcases h with h | ⟨h1, h2⟩
  · exact .inl (ob.lacks c _ h)
  · obtain ⟨fm, e⟩ := Option.isSome_iff_exists.mp h2
    exact .inr ⟨fm.1, ob.meth c _ fm.1 fm.2 e, rok_op h1⟩
theorem opD_own {op : Bop} (hK : fx.K = X.K) (tk : Takes X W) (ob : ObjF P n fx X) : OpD X fx W (binaryOp op.op) (binX P (run P n) op) := by
  intro pins s σ H x y v u Q I rx ry h
  obtain ⟨gh, S, d, e, r, rd, re, h⟩ := h
  unfold binX at h
  cases e1 : insD S d with
  | some cf =>
    obtain ⟨c, fs⟩ := cf
    rw [e1] at h
    obtain ⟨a, dx, vs, rfl, ha, _⟩ := r.insD rd e1
    obtain rfl : v = .ref a := rx
    obtain ⟨od, at_⟩ := ins_at I ha
    have go0 : ePost fx W gh σ (tOf fx Q) (callO (run P n) (P.meth c op.dn) [d, e] S) → ∃ ad : Addr, PySem.W.findIn X.K (.ref (fx.ca c)) (PySem.dunder op.op.info.2) = some (some (.ref ad)) ∧ PySem.W.isFn X.K (.ref ad) = true ∧ PySem.W.selfFirst X.K (fx.ca c) = true ∧
        wpAny (model X.prog X.w) X.A (call (.ref ad) [.ref a, u]) (PySem.W.CmpBack (EP X pins σ Q)) X.xe s := fun h => by
      obtain ⟨f, m, em, ec⟩ := callO_of (post_ne h)
      rw [ec] at h
      obtain ⟨k, ad, fd, ps, M, hr, hb, F⟩ := (ob.meth c _ f m em).ex
      have go := wpAny_mono (run_m (c := c) (x := op.dn) (vs := [.ref a, y]) (us := [.ref a, u]) hK tk (hr.mono (Nat.le_add_right _ 2)) hb F I r (.cons rd (.cons re .nil)) (.cons rfl (.cons ry .nil)) h) (fun z s2 hz => back_of hz) fun _ _ q => q
      exact ⟨ad, by rw [op.dn_ok]; exact M.at_, M.fn, (ob.bits c (kn_of_meth em)).sf, go⟩
    cases e2 : insD S e with
    | some cf2 =>
      obtain ⟨c2, fs2⟩ := cf2
      rw [e2] at h
      have h : ePost fx W gh σ (tOf fx Q) (if c2 = c then callO (run P n) (P.meth c op.dn) [d, e] S else .bad) := h
      by_cases h2 : c2 = c
      · rw [if_pos h2] at h
        subst h2
        obtain ⟨ad, fnd, isf, sf, go⟩ := go0 h
        obtain ⟨b, dx2, vs2, rfl, hb2, _⟩ := r.insD re e2
        obtain rfl : u = .ref b := ry
        obtain ⟨od2, at2⟩ := ins_at I hb2
        exact own_same I.kIn at_ at2.type sf fnd isf go
      · rw [if_neg h2] at h
        exact h.elim
    | none =>
      rw [e2] at h
      have h : ePost fx W gh σ (tOf fx Q) (if (isInt e && P.rok c op) = true then callO (run P n) (P.meth c op.dn) [d, e] S else .bad) := h
      by_cases h2 : (isInt e && P.rok c op) = true
      · rw [if_pos h2] at h
        rw [Bool.and_eq_true] at h2
        obtain ⟨ad, fnd, isf, sf, go⟩ := go0 h
        obtain ⟨i, rfl⟩ := isInt_of h2.1
        obtain rfl := re.iInt
        obtain ⟨t, rfl⟩ := ry
        obtain ⟨fo, ro, t1, t2, fil⟩ := int_fnd X.K op
        rcases refOk_of ob h2.2 with hn | ⟨g, hm, _⟩
        · exact own_int (rc := none) I.kIn at_ rfl sf fnd isf (by rw [op.rn_ok]; exact hn) (.inl rfl) t1 t2 (int_sub _ _) go
        · obtain ⟨k', ad', fd', ps', M', _⟩ := hm.ex
          exact own_int (rc := some (.ref ad')) I.kIn at_ rfl sf fnd isf (by rw [op.rn_ok]; exact M'.at_) (.inr ⟨ad', rfl⟩) t1 t2 (int_sub _ _) go
      · rw [if_neg h2] at h
        exact h.elim
  | none =>
    rw [e1] at h
    cases e2 : insD S e with
    | some cf2 =>
      obtain ⟨c, fs2⟩ := cf2
      rw [e2] at h
      have h : ePost fx W gh σ (tOf fx Q) (if (isInt d && (op.rok && (P.meth c op.dn).isSome)) = true then callO (run P n) (P.meth c op.rn) [e, d] S else .bad) := h
      by_cases h2 : (isInt d && (op.rok && (P.meth c op.dn).isSome)) = true
      · rw [if_pos h2] at h
        rw [Bool.and_eq_true, Bool.and_eq_true] at h2
        obtain ⟨h3, hop, hdn⟩ := h2
        obtain ⟨i, rfl⟩ := isInt_of h3
        obtain ⟨fm0, em0⟩ := Option.isSome_iff_exists.mp hdn
        obtain ⟨f, m, em, ec⟩ := callO_of (post_ne h)
        rw [ec] at h
        obtain rfl := rd.iInt
        obtain ⟨t, rfl⟩ := rx
        obtain ⟨a, dx, vs, rfl, ha, _⟩ := r.insD re e2
        obtain rfl : u = .ref a := ry
        obtain ⟨od, at_⟩ := ins_at I ha
        obtain ⟨k, ad, fd, ps, M, hr, hb, F⟩ := (ob.meth c _ f m em).ex
        obtain ⟨k0, ad0, fd0, ps0, M0, _⟩ := (ob.meth c _ fm0.1 fm0.2 em0).ex
        obtain ⟨fo, ro, t1, t2, fil⟩ := int_fnd X.K op
        obtain ⟨idl, B, sl, ar, en, ni⟩ := int_slot op (rok_op hop)
        have bt := ob.bits c (kn_of_meth em)
        have go := wpAny_mono (run_m (c := c) (x := op.rn) (vs := [.ref a, .int i]) (us := [.ref a, .int i t]) hK tk (hr.mono (Nat.le_add_right _ 2)) hb F I r (.cons re (.cons rd .nil)) (.cons rfl (.cons ⟨t, rfl⟩ .nil)) h) (fun z s2 hz => back_of hz) fun _ _ q => q
        exact own_refl I.kIn at_ (fun k u z => by cases z) bt.sf (by rw [op.dn_ok]; exact M0.at_) (by rw [op.rn_ok]; exact M.at_) M.fn t1 t2 fil bt.ni sl (ar _ _ _) en ni go
      · rw [if_neg h2] at h
        exact h.elim
    | none =>
      rw [e2] at h
      exact opD_bin op hK pins s σ H x y v u Q I rx ry ⟨gh, S, d, e, r, rd, re, h⟩
end
end MX
end

section
set_option maxRecDepth 100000
set_option maxHeartbeats 1000000
namespace MX
open PySem PySem.Spec PyProof.Rows
section
open PySem.W
variable {prog : Program} {w : World} {A : Around} {E : Value → Shared → Prop} {s : Shared} {K : Frag} {x C f : Addr} {ox : Obj} {od : Option Obj}
/-- a comparison that the class has of its own -/
theorem own_cmp {op : CmpOp} {b tb : Value} {Q : Value → Shared → Prop} (room : A.units < cLine) (kin : K.In s.heap) (at_ : InstAt s.heap x ox C od) (ty : Looks (model prog w) s.heap (typeOf b) tb) (nf : tb = .ref C ∨ subIn K tb (.ref C) = some false)
    (fnd : findIn K (.ref C) (cmpInfo op).2.1 = some (some (.ref f))) (isf : isFn K (.ref f) = true)
    (go : wpAny (model prog w) A (call (.ref f) [.ref x, b]) (PySem.W.CmpBack Q) E s) : wpAny (model prog w) A (richCompare op (.ref x) b) Q E s := by
  have first : wpAny (model prog w) A (tryCompare (.ref x) (cmpInfo op).2.1 b) (fun r s2 => ∃ z, r = some z ∧ Q z s2) E s := by
    unfold tryCompare
    refine wpAny_bind (ifBound_K kin at_ fnd isf (wpAny_mono go (fun z s2 hz => ?_) fun _ _ y => y))
    cases z <;> first | exact hz.elim | exact wpAny_pure ⟨_, rfl, hz⟩
  have fin := wpAny_mono first (fun r s2 (hz : ∃ z, r = some z ∧ Q z s2) => hz) fun _ _ y => y
  unfold richCompare
  simp only [oneThing_ref]
  refine wpAny_holding (wpAny_bind (wpAny_cRoomFor room ?_))
  refine wpAny_bind (at_.type.here (wpAny_bind (ty.here ?_)))
  split
  · rename_i q
    have ns : subIn K tb (.ref C) = some false := nf.resolve_left fun z => by
      rw [z] at q
      simp at q
    refine wpAny_bind ((looks_subIn kin ns).here ?_)
    simp only [Bool.false_eq_true, if_false]
    refine wpAny_bind (wpAny_mono first (fun r s2 ⟨z, ez, hz⟩ => ?_) fun _ _ y => y)
    subst ez
    exact wpAny_pure hz
  · refine wpAny_bind (wpAny_pure ?_)
    simp only [Bool.false_eq_true, if_false]
    refine wpAny_bind (wpAny_mono first (fun r s2 ⟨z, ez, hz⟩ => ?_) fun _ _ y => y)
    subst ez
    exact wpAny_pure hz
theorem own_neg {Q : Value → Shared → Prop} (kin : K.In s.heap) (at_ : InstAt s.heap x ox C od) (fnd : findIn K (.ref C) "__neg__" = some (some (.ref f))) (isf : isFn K (.ref f) = true)
    (go : wpAny (model prog w) A (call (.ref f) [.ref x]) Q E s) : wpAny (model prog w) A (unaryOp .USub (.ref x)) Q E s := by
  unfold unaryOp
  refine wpAny_holding (wpAny_bind (special_fn kin at_ fnd (beq_iff_eq.mp isf) ?_))
  exact wpAny_mono go (fun _ _ q => wpAny_pure q) fun _ _ q => q
theorem own_tru {Q : Bool → Shared → Prop} (kin : K.In s.heap) (at_ : InstAt s.heap x ox C od) (fnd : findIn K (.ref C) "__bool__" = some (some (.ref f))) (isf : isFn K (.ref f) = true)
    (go : wpAny (model prog w) A (call (.ref f) [.ref x]) (fun r s2 => ∃ b, r = .bool b ∧ Q b s2) E s) : wpAny (model prog w) A (truthy (.ref x)) Q E s := by
  unfold truthy
  refine wpAny_bind (m := callSpecial? (.ref x) (Str.ofString "__bool__")) (special_fn kin at_ fnd (beq_iff_eq.mp isf) (wpAny_mono go (fun r s2 ⟨b, eb, hb⟩ => ?_) fun _ _ y => y))
  subst eb
  exact wpAny_pure hb
end
end MX
end

section
set_option maxRecDepth 100000
set_option maxHeartbeats 1000000
namespace MX
open PySem PySem.Spec PyProof.Rows
theorem slot_ne : Slot "object" "__ne__" "object.__ne__" :=
  .of (owner := "object") (n := "__ne__") (by rw [typeLookup_type, builtinLookup_eq_fast]; kernel_rfl) (by decide +kernel) (by decide +kernel) (by decide +kernel) (.inl (by decide +kernel)) (by rw [isSubtype_type]; kernel_rfl)
section
open PySem.W
variable {prog : Program} {w : World} {A : Around} {E : Value → Shared → Prop} {s : Shared} {K : Frag} {x C f : Addr} {ox : Obj} {od : Option Obj}
/-- a builtin of object, found by an instance -/
theorem bound_obj {M : Model} {name : Str} {id : String} {args : List Value} {Q : Option Value → Shared → Prop} (kin : K.In s.heap) (at_ : InstAt s.heap x ox C od) (fnd : findIn K (.ref C) name = some (some (.builtin id))) (bd : ∀ self, bindSpecial (.builtin id) self = pure (.builtin id, [self]))
    (go : wpAny M A (call (.builtin id) (.ref x :: args)) (fun v => Q (some v)) E s) : wpAny M A (callSpecialIfBound? (.ref x) name args) Q E s := by
  simp only [callSpecialIfBound?, bindSpecialIfBound?]
  refine wpAny_holding (wpAny_bind (wpAny_bind (wpAny_bind (at_.type.here ((looks_findIn kin fnd).here ?_)))))
  refine wpAny_bind (wpAny_askSetting (wpAny_ite ?_))
  have last : wpAny M A (call (.builtin id) ([.ref x] ++ args) >>= fun v => pure (some v)) Q E s := wpAny_bind (wpAny_mono go (fun z s2 hz => wpAny_pure hz) fun _ _ y => y)
  simp only [bd]
  split
  · exact wpAny_bind (wpAny_pure (wpAny_pure (by exact last)))
  · exact wpAny_tryCatch (wpAny_bind (wpAny_pure (wpAny_pure (by exact last))))
theorem check_ne {M : Model} {b : Value} {Q : Unit → Shared → Prop} (kin : K.In s.heap) (at_ : InstAt s.heap x ox C od) (sub : subIn K (.ref C) (.type "object") = some true) (q : Q () s) : wpAny M A (checkBuiltinCall "object.__ne__" ⟨[.ref x, b], []⟩) Q E s := by
  simp only [checkBuiltinCall, PySem.F.cmpKind_ne, PySem.F.cmpSplit_ne]
  refine wpAny_bind ?_
  unfold isInstance
  refine wpAny_bind (at_.type.here ((looks_subIn kin sub).here ?_))
  simp only [Bool.not_true, Bool.false_eq_true, if_false]
  cases hsig : Manifest.signature? "object.__ne__" with
  | none => exact wpAny_pure q
  | some sig =>
    have ha := PySem.F.cmpArgs_ne (.ref x) b
    simp only [argsOk, hsig] at ha
    have h2 : Bind.checkArgs "object.__ne__" sig ⟨[.ref x, b], []⟩ = pure () := ha
    show wpAny M A (Bind.checkArgs "object.__ne__" sig ⟨[.ref x, b], []⟩) Q E s
    rw [h2]
    exact wpAny_pure q
/-- x != y by the class's own __eq__ -/
theorem own_ne {b tb : Value} {Q : Value → Shared → Prop} (room : A.units + 1 < cLine) (kin : K.In s.heap) (at_ : InstAt s.heap x ox C od) (ty : Looks (model prog w) s.heap (typeOf b) tb) (nf : tb = .ref C ∨ subIn K tb (.ref C) = some false)
    (fnd : findIn K (.ref C) "__eq__" = some (some (.ref f))) (isf : isFn K (.ref f) = true) (fne : findIn K (.ref C) "__ne__" = some (some (.builtin "object.__ne__"))) (sub : subIn K (.ref C) (.type "object") = some true)
    (go : wpAny (model prog w) A.in1 (call (.ref f) [.ref x, b]) (fun v s2 => ∃ t, v = .bool t ∧ Q (.bool (!t)) s2) E s) : wpAny (model prog w) A (richCompare .NotEq (.ref x) b) Q E s := by
  have body : wpAny (model prog w) A.in1 (Builtin.«object.__ne__» ⟨[.ref x, b], []⟩) (fun fin s2 => ∃ t, fin = .done (.ret (.bool (!t))) ∧ Q (.bool (!t)) s2) E s := by
    unfold Builtin.«object.__ne__» slotArgs
    refine wpAny_bind (m := pure (Value.ref x, [b])) (wpAny_pure ?_)
    refine wpAny_bind (wpAny_cRoomFor (by exact room) ?_)
    refine wpAny_bind (m := callSpecialIfBound? (.ref x) (Str.ofString "__eq__") [b]) (ifBound_K kin at_ fnd isf (wpAny_mono go (fun z s2 ⟨t, ez, hz⟩ => ?_) fun _ _ y => y))
    subst ez
    exact wpAny_bind (m := truthy (.bool t)) (wpAny_pure (wpAny_pure ⟨t, rfl, hz⟩))
  have first : wpAny (model prog w) A (tryCompare (.ref x) (cmpInfo .NotEq).2.1 b) (fun r s2 => ∃ z, r = some z ∧ Q z s2) E s := by
    unfold tryCompare
    refine wpAny_bind (bound_obj kin at_ (by exact fne) slot_ne.bind (wpAny_call (codeAny_call_builtin slot_ne.plain PySem.F.cmpEntry_ne (check_ne kin at_ sub ?_))))
    refine wpAny_mono body (fun fin s2 ⟨t, ef, ht⟩ => ?_) fun _ _ y => y
    subst ef
    exact wpAny_pure ⟨_, rfl, ht⟩
  unfold richCompare
  simp only [oneThing_ref]
  refine wpAny_holding (wpAny_bind (wpAny_cRoomFor (Nat.lt_of_succ_lt room) ?_))
  refine wpAny_bind (at_.type.here (wpAny_bind (ty.here ?_)))
  split
  · rename_i q
    have ns : subIn K tb (.ref C) = some false := nf.resolve_left fun z => by
      rw [z] at q
      simp at q
    refine wpAny_bind ((looks_subIn kin ns).here ?_)
    simp only [Bool.false_eq_true, if_false]
    refine wpAny_bind (wpAny_mono first (fun r s2 ⟨z, ez, hz⟩ => ?_) fun _ _ y => y)
    subst ez
    exact wpAny_pure hz
  · refine wpAny_bind (wpAny_pure ?_)
    simp only [Bool.false_eq_true, if_false]
    refine wpAny_bind (wpAny_mono first (fun r s2 ⟨z, ez, hz⟩ => ?_) fun _ _ y => y)
    subst ez
    exact wpAny_pure hz
theorem check_slot2 {M : Model} {id nm : String} {b : Value} {Q : Unit → Shared → Prop} (hk : builtinKind id = some .slot) (hs : splitId id = some ("object", nm)) (ha : argsOk id ⟨[.ref x, b], []⟩) (kin : K.In s.heap) (at_ : InstAt s.heap x ox C od) (sub : subIn K (.ref C) (.type "object") = some true) (q : Q () s) : wpAny M A (checkBuiltinCall id ⟨[.ref x, b], []⟩) Q E s := by
  simp only [checkBuiltinCall, hk, hs]
  refine wpAny_bind ?_
  unfold isInstance
  refine wpAny_bind (at_.type.here ((looks_subIn kin sub).here ?_))
  simp only [Bool.not_true, Bool.false_eq_true, if_false]
  cases hsig : Manifest.signature? id with
  | none => exact wpAny_pure q
  | some sig =>
    simp only [argsOk, hsig] at ha
    have h2 : Bind.checkArgs id sig ⟨[.ref x, b], []⟩ = pure () := ha
    show wpAny M A (Bind.checkArgs id sig ⟨[.ref x, b], []⟩) Q E s
    rw [h2]
    exact wpAny_pure q
/-- x > y, x >= y where the class has no such method: the other side's __lt__, __le__ -/
theorem own_rev {op : CmpOp} {id nm : String} {bi : Builtin} {y : Addr} {oy : Obj} {oe : Option Obj} {Q : Value → Shared → Prop} (room : A.units < cLine) (kin : K.In s.heap) (atx : InstAt s.heap x ox C od) (aty : InstAt s.heap y oy C oe)
    (sl : Slot "object" (cmpInfo op).2.1 id) (hk : builtinKind id = some .slot) (hs : splitId id = some ("object", nm)) (ha : argsOk id ⟨[.ref x, .ref y], []⟩) (ent : entryFor table id = some bi) (hb : bi ⟨[.ref x, .ref y], []⟩ = pure (.done (.ret .notImplemented)))
    (fx : findIn K (.ref C) (cmpInfo op).2.1 = some (some (.builtin id))) (sub : subIn K (.ref C) (.type "object") = some true)
    (fnd : findIn K (.ref C) (cmpInfo op).2.2 = some (some (.ref f))) (isf : isFn K (.ref f) = true)
    (go : wpAny (model prog w) A (call (.ref f) [.ref y, .ref x]) (PySem.W.CmpBack Q) E s) (ho : op = .Gt ∨ op = .GtE) : wpAny (model prog w) A (richCompare op (.ref x) (.ref y)) Q E s := by
  have first : wpAny (model prog w) A (tryCompare (.ref x) (cmpInfo op).2.1 (.ref y)) (fun r s2 => r = none ∧ s2 = s) E s := by
    unfold tryCompare
    refine wpAny_bind (bound_obj kin atx (by exact fx) sl.bind (wpAny_call (codeAny_call_builtin sl.plain ent (check_slot2 hk hs ha kin atx sub ?_))))
    rw [hb]
    exact wpAny_pure (wpAny_pure ⟨rfl, rfl⟩)
  have second : wpAny (model prog w) A (tryCompare (.ref y) (cmpInfo op).2.2 (.ref x)) (fun r s2 => ∃ z, r = some z ∧ Q z s2) E s := by
    unfold tryCompare
    refine wpAny_bind (ifBound_K kin aty fnd isf (wpAny_mono go (fun z s2 hz => ?_) fun _ _ y => y))
    cases z <;> first | exact hz.elim | exact wpAny_pure ⟨_, rfl, hz⟩
  unfold richCompare
  simp only [oneThing_ref]
  refine wpAny_holding (wpAny_bind (wpAny_cRoomFor room ?_))
  refine wpAny_bind (atx.type.here (wpAny_bind (aty.type.here ?_)))
  split
  · rename_i q
    exact absurd q (by simp)
  · refine wpAny_bind (wpAny_pure ?_)
    simp only [Bool.false_eq_true, if_false]
    refine wpAny_bind (wpAny_mono first (fun r s2 ⟨er, es⟩ => ?_) fun _ _ y => y)
    subst er es
    simp only [Bool.not_false, if_true]
    refine wpAny_bind (wpAny_mono second (fun r s2 ⟨z, ez, hz⟩ => ?_) fun _ _ y => y)
    subst ez
    exact wpAny_pure hz
theorem declines_gt (a b : Value) : Builtin.«object.__gt__» ⟨[a, b], []⟩ = pure (.done (.ret .notImplemented)) := rfl
theorem declines_ge (a b : Value) : Builtin.«object.__ge__» ⟨[a, b], []⟩ = pure (.done (.ret .notImplemented)) := rfl
end
end MX
end

section
set_option maxRecDepth 100000
set_option maxHeartbeats 1000000
namespace MX
open PySem PySem.Spec PyProof.Rows L2
section
variable {X : Cx} {fx : Fix} {W : WX} {P : Prog} {n : Nat}
/-- a call within a builtin's own step -/
theorem run_m1 {m : Mode} {fn : String} {pins : List (Addr × Obj)} {σ : L2.St} {H : Hp} {s : Shared} {Q : VK} {us : List Value} {vs : List V} {ds : List D} {g : Gh} {S : Store} {adr : Addr}
    (tk : Takes X W) {k : Nat} {fd : FuncData} {ps : List Str} (hr : Room (k + 1) X.A) (hb : Binds X.K fd ps []) (F : FnOk X.prog X.w X.K X.mg X.base (L2.CX X.prog X.w) k adr fd ps (spI P n fx.K fx.ca fn))
    (I : Inv X pins σ H s) (r : R fx g S H) (rv : RelL fx.K fx.ca g vs ds) (ru : Vals vs us) (q : ePost fx W g σ (tOf fx Q) (callM (run P n) m fn ds S)) : wpAny (model X.prog X.w) X.A.in1 (call (.ref adr) us) (EP X pins σ Q) X.xe s := by
  obtain ⟨G, h1, h2⟩ := callM_np (post_ne q)
  have want := call_m ⟨G, h1, by rw [rv.length]; exact h2⟩ q r rv
  have len : us.length = ps.length := by
    rw [← ru.length]
    exact F.len _ _ _ _ want
  have bnd := hb s us I.kIn (by rw [List.append_nil]; exact len)
  rw [List.append_nil] at bnd
  refine wpAny_call (codeAny_mono (F.run X.A.in1 X.stack s H ⟨us, []⟩ us vs Q _ hr.in1 I.env0.in1 bnd ru want) fun t s2 hq => ?_)
  cases t with
  | error z => exact passAt tk σ pins H s z s2 I hq
  | ok flow =>
    cases flow with
    | ret z => exact I.after hq
    | _ => exact hq.elim
theorem asBl_post {g : Gh} {σ : L2.St} {Q : VK} {r : Res D} {k : Bool → Bool} (h : ePost fx W g σ (tOf fx Q) (asBl r k)) : ePost fx W g σ (tOf fx fun v H => ∃ b, v = .bl b ∧ Q (.bl (k b)) H) r := by
  cases r with
  | bad => exact h
  | ex y S1 => exact h
  | ok d S1 =>
    cases d with
    | bl b =>
      intro g2 H2 l2 r2 v rv
      obtain rfl := rv.iBl
      exact ⟨b, rfl, h g2 H2 l2 r2 _ (.bl _)⟩
    | _ => exact h.elim
theorem opD_cmpX {op : Cop} (hK : fx.K = X.K) (tk : Takes X W) (room : X.A.units + 64 < cLine) (ob : ObjF P n fx X) (plain : OpD X fx W (compareOp op.op) (fun S x y => ofB S (cmpB op S x y))) : OpD X fx W (compareOp op.op) (cmpX P (run P n) op) := by
  intro pins s σ H x y v u Q I rx ry h
  obtain ⟨gh, S, d, e, r, rd, re, h⟩ := h
  unfold cmpX at h
  cases e1 : insD S d with
  | none =>
    rw [e1] at h
    exact plain pins s σ H x y v u Q I rx ry ⟨gh, S, d, e, r, rd, re, h⟩
  | some cf =>
    obtain ⟨c, fs⟩ := cf
    rw [e1] at h
    obtain ⟨a, dx, vs, rfl, ha, _⟩ := r.insD rd e1
    obtain rfl : v = .ref a := rx
    obtain ⟨od, at_⟩ := ins_at I ha
    have h : ePost fx W gh σ (tOf fx Q) (if op = .eq ∨ op = .ne then
      if (isInt e || (match insD S e with
        | some (c2, _) => c2 == c
        | none => false)) = true then asBl (callO (run P n) (P.meth c "__eq__") [d, e] S) (fun t => (op == .ne) != t) else .bad
      else if op = .is_ ∨ op = .isn then ofB S (cmpB op S d e)
      else if sameC S c e then ordX P (run P n) c S d e op else .bad) := h
    by_cases h0 : op = .eq ∨ op = .ne
    · rw [if_pos h0] at h
      by_cases h2 : (isInt e || (match insD S e with
        | some (c2, _) => c2 == c
        | none => false)) = true
      · rw [if_pos h2] at h
        have h := asBl_post h
        obtain ⟨f, m, em, ec⟩ := callO_of (post_ne h)
        rw [ec] at h
        obtain ⟨k, ad, fd, ps, M, hr, hb, F⟩ := (ob.meth c _ f m em).ex
        have bt := ob.bits c (kn_of_meth em)
        have ty : ∃ tb, PySem.W.Looks (model X.prog X.w) s.heap (typeOf u) tb ∧ (tb = .ref (fx.ca c) ∨ PySem.W.subIn X.K tb (.ref (fx.ca c)) = some false) := by
          by_cases h3 : isInt e = true
          · obtain ⟨i, rfl⟩ := isInt_of h3
            obtain rfl := re.iInt
            obtain ⟨t, rfl⟩ := ry
            exact ⟨.type "int", PySem.W.Looks.of_pure rfl, .inr (int_sub _ _)⟩
          · rw [Bool.or_eq_true] at h2
            have h4 := h2.resolve_left h3
            cases e2 : insD S e with
            | none => rw [e2] at h4; cases h4
            | some cf2 =>
              obtain ⟨c2, fs2⟩ := cf2
              rw [e2] at h4
              obtain rfl := eq_of_beq (show (c2 == c) = true from h4)
              obtain ⟨b, dx2, vs2, rfl, hb2, _⟩ := r.insD re e2
              obtain rfl : u = .ref b := ry
              obtain ⟨od2, at2⟩ := ins_at I hb2
              exact ⟨_, at2.type, .inl rfl⟩
        obtain ⟨tb, ty, nf⟩ := ty
        rcases h0 with rfl | rfl
        · have go := wpAny_mono (run_m (c := c) (x := "__eq__") (vs := [.ref a, y]) (us := [.ref a, u]) hK tk (hr.mono (Nat.le_add_right _ 2)) hb F I r (.cons rd (.cons re .nil)) (.cons rfl (.cons ry .nil)) h) (fun z s2 ⟨w0, H2, I2, rz, b, ew, q⟩ => back_of (Q := Q) ⟨w0, H2, I2, rz, by subst ew; cases b <;> exact q⟩) fun _ _ q => q
          exact own_cmp (op := .Eq) (by omega) I.kIn at_ ty nf M.at_ M.fn go
        · have go := wpAny_mono (run_m1 (vs := [.ref a, y]) (us := [.ref a, u]) tk (hr.mono (Nat.le_succ _)) hb F I r (.cons rd (.cons re .nil)) (.cons rfl (.cons ry .nil)) h) (fun z s2 ⟨w0, H2, I2, rz, b, ew, q⟩ => (show ∃ t, z = Value.bool t ∧ EP X pins σ Q (Value.bool (!t)) s2 from by
            subst ew
            obtain rfl : z = Value.bool b := rz
            exact ⟨b, rfl, .bl (!b), H2, I2, rfl, by cases b <;> exact q⟩)) fun _ _ q => q
          exact own_ne (by omega) I.kIn at_ ty nf M.at_ M.fn bt.ne bt.ob go
      · rw [if_neg h2] at h
        exact h.elim
    · rw [if_neg h0] at h
      by_cases h1 : op = .is_ ∨ op = .isn
      · rw [if_pos h1] at h
        exact plain pins s σ H (.ref a) y (.ref a) u Q I rfl ry ⟨gh, S, d, e, r, rd, re, h⟩
      rw [if_neg h1] at h
      by_cases h3 : sameC S c e = true
      · rw [if_pos h3] at h
        unfold sameC at h3
        cases e2 : insD S e with
        | none => rw [e2] at h3; cases h3
        | some cf2 =>
          obtain ⟨c2, fs2⟩ := cf2
          rw [e2] at h3
          obtain rfl := eq_of_beq (show (c2 == c) = true from h3)
          obtain ⟨b, dx2, vs2, rfl, hb2, _⟩ := r.insD re e2
          obtain rfl : u = .ref b := ry
          obtain ⟨od2, at2⟩ := ins_at I hb2
          have key1 : ∀ {x : String} {ds : List D} {vs : List V} {us : List Value}, ePost fx W gh σ (tOf fx Q) (asBl (callO (run P n) (P.meth c2 x) ds S) id) → RelL fx.K fx.ca gh vs ds → Vals vs us →
              PySem.W.subIn X.K (.ref (fx.ca c2)) (.type "object") = some true ∧ PySem.W.findIn X.K (.ref (fx.ca c2)) "__gt__" = some (some (.builtin "object.__gt__")) ∧ PySem.W.findIn X.K (.ref (fx.ca c2)) "__ge__" = some (some (.builtin "object.__ge__")) ∧
              ∃ ad, PySem.W.findIn X.K (.ref (fx.ca c2)) (Str.ofString x) = some (some (.ref ad)) ∧ PySem.W.isFn X.K (.ref ad) = true ∧ wpAny (model X.prog X.w) X.A (call (.ref ad) us) (PySem.W.CmpBack (EP X pins σ Q)) X.xe s := fun {x} {ds} {vs} {us} h rv ru => by
            have h := asBl_post h
            obtain ⟨f, m, em, ec⟩ := callO_of (post_ne h)
            rw [ec] at h
            obtain ⟨k, ad, fd, ps, M, hr, hb, F⟩ := (ob.meth c2 _ f m em).ex
            have bt := ob.bits c2 (kn_of_meth em)
            exact ⟨bt.ob, bt.gt, bt.ge, ad, M.at_, M.fn, wpAny_mono (run_m (c := c2) (x := x) (vs := vs) (us := us) hK tk (hr.mono (Nat.le_add_right _ 2)) hb F I r rv ru h) (fun z s2 ⟨w0, H2, I2, rz, b, ew, q⟩ => back_of (Q := Q) ⟨w0, H2, I2, rz, by subst ew; cases b <;> exact q⟩) fun _ _ q => q⟩
          cases op with
          | eq => exact absurd (.inl rfl) h0
          | ne => exact absurd (.inr rfl) h0
          | is_ => exact absurd (.inl rfl) h1
          | isn => exact absurd (.inr rfl) h1
          | in_ => exact h.elim
          | nin => exact h.elim
          | lt =>
            obtain ⟨_, _, _, ad, fnd, isf, go⟩ := key1 (x := "__lt__") (vs := [.ref a, .ref b]) (us := [.ref a, .ref b]) h (.cons rd (.cons re .nil)) (.cons rfl (.cons rfl .nil))
            exact own_cmp (op := .Lt) (by omega) I.kIn at_ at2.type (.inl rfl) fnd isf go
          | le =>
            obtain ⟨_, _, _, ad, fnd, isf, go⟩ := key1 (x := "__le__") (vs := [.ref a, .ref b]) (us := [.ref a, .ref b]) h (.cons rd (.cons re .nil)) (.cons rfl (.cons rfl .nil))
            exact own_cmp (op := .LtE) (by omega) I.kIn at_ at2.type (.inl rfl) fnd isf go
          | gt =>
            obtain ⟨so, fg, _, ad, fnd, isf, go⟩ := key1 (x := "__lt__") (vs := [.ref b, .ref a]) (us := [.ref b, .ref a]) h (.cons re (.cons rd .nil)) (.cons rfl (.cons rfl .nil))
            exact own_rev (op := .Gt) (nm := "__gt__") (by omega) I.kIn at_ at2 PySem.F.slot_object_gt (by decide +kernel) (by decide +kernel) (PySem.F.args_object_gt_2 _ _) PySem.F.entry_object_gt (declines_gt _ _) fg so fnd isf go (.inl rfl)
          | ge =>
            obtain ⟨so, _, fg, ad, fnd, isf, go⟩ := key1 (x := "__le__") (vs := [.ref b, .ref a]) (us := [.ref b, .ref a]) h (.cons re (.cons rd .nil)) (.cons rfl (.cons rfl .nil))
            exact own_rev (op := .GtE) (nm := "__ge__") (by omega) I.kIn at_ at2 PySem.F.slot_object_ge (by decide +kernel) (by decide +kernel) (PySem.F.args_object_ge_2 _ _) PySem.F.entry_object_ge (declines_ge _ _) fg so fnd isf go (.inr rfl)
      · rw [if_neg h3] at h
        exact h.elim
end
end MX
end

section
set_option maxRecDepth 100000
set_option maxHeartbeats 1000000
namespace MX
open PySem PySem.Spec PyProof.Rows L2
section
variable {X : Cx} {fx : Fix} {W : WX} {P : Prog} {n : Nat} {f : DSt → Store → Res D} {a : Expr} {pos : Pos}
theorem s_nego (hK : fx.K = X.K) (tk : Takes X W) (ob : ObjF P n fx X) (ha : PE X a (tE fx W f)) :
    PE X (.UnaryOp .USub a pos) (tE fx W fun σ S => (f σ S).bind fun x S1 => negX P (run P n) S1 x) := by
  refine ⟨fun pins s σ H Q I ⟨g, dσ, S, r, sl, q⟩ => ?_⟩
  have q0 : tE fx W f σ H fun v H1 => ∀ u s1, Inv X pins σ H1 s1 → RelV v u → wpAny (model X.prog X.w) X.A (unaryOp .USub u) (EP X pins σ Q) X.xe s1 := by
    refine tE.bind q r sl fun d S1 v g1 H1 _ l1 r1 d1 q1 u s1 I1 ru => ?_
    unfold negX at q1
    cases e1 : insD S1 d with
    | some cf =>
      obtain ⟨c, fs⟩ := cf
      rw [e1] at q1
      obtain ⟨p, dx, vs, rfl, hp, _⟩ := r1.insD d1 e1
      obtain rfl : u = .ref p := ru
      obtain ⟨od, at_⟩ := ins_at I1 hp
      have q1 : ePost fx W g1 σ (tOf fx Q) (callO (run P n) (P.meth c "__neg__") [d] S1) := q1
      obtain ⟨fn, m, em, ec⟩ := callO_of (post_ne q1)
      rw [ec] at q1
      obtain ⟨k, ad, fd, ps, M, hr, hb, F⟩ := (ob.meth c _ fn m em).ex
      exact own_neg I1.kIn at_ M.at_ M.fn (run_m (c := c) (x := "__neg__") (vs := [.ref p]) (us := [.ref p]) hK tk (hr.mono (Nat.le_add_right _ 2)) hb F I1 r1 (.cons d1 .nil) (.cons rfl .nil) q1)
    | none =>
      rw [e1] at q1
      cases d with
      | int i =>
        obtain rfl := d1.iInt
        exact un_neg pins s1 σ H1 _ u Q I1 ru ⟨i, rfl, ePost.ret q1 r1 (.int _)⟩
      | _ => exact q1.elim
  exact UnaryOp_ (thn (ha.run pins s σ H _ I q0) fun u s1 ⟨v, H1, I1, ru, q1⟩ => q1 u s1 I1 ru)
end
section
variable {prog : Program} {w : World} {A : Around} {E : Value → Shared → Prop} {s : Shared}
/-- bool(x) where the truth of x is told by a walk -/
theorem bool_walk {x : Value} {Q : Value → Shared → Prop} (go : wpAny (model prog w) A.in1.in1 (truthy x) (fun b s2 => Q (.bool b) s2) E s) : wpAny (model prog w) A (call (.type "bool") [x]) Q E s := by
  have ft := F.called_bool
  obtain ⟨_, _, hmro⟩ := ft.mro
  have mb := ft.made
  have sb := ft.sub
  have f1 := F.conv_sub_bool
  have step : wpAny (model prog w) A.in1.in1 (Builtin.«bool.__new__» ⟨[.type "bool", x], []⟩) (fun fin s' => match fin with | .done f => wants (fun obj s₁ => s₁.TypeIs obj "bool" ∧ Q obj s₁) E (.ok f) s' | .again c' => c'.quiet = true ∧ codeAny (model prog w) A.in1 c' (wants (fun obj s₁ => s₁.TypeIs obj "bool" ∧ Q obj s₁) E) s') (fun e s' => wants (fun obj s₁ => s₁.TypeIs obj "bool" ∧ Q obj s₁) E (.error e) s') s := by
    unfold Builtin.«bool.__new__»
    refine wpAny_bind (m := isType (.type "bool")) (wpAny_pure ?_)
    show wpAny _ _ (isSubtype (.type "bool") (.type "bool") >>= _) _ _ _
    refine wpAny_bind (wpAny_of_eq f1 ?_)
    show wpAny _ _ (someArgs "bool" 0 1 ⟨[x], []⟩ >>= _) _ _ _
    refine wpAny_bind (m := someArgs "bool" 0 1 ⟨[x], []⟩) (wpAny_of_eq (a := [x]) (by rfl) ?_)
    show wpAny _ _ (truthy x >>= _) _ _ _
    exact wpAny_bind (wpAny_mono go (fun b s2 hb => wpAny_pure ⟨rfl, hb⟩) fun _ _ y => y)
  refine wpAny_call (codeAny_of_tree ?_)
  show wpAny (model prog w) _ (callAny (.type "bool") ⟨[x], []⟩) _ _ s
  refine wpAny_pure ⟨Code.quiet_builtin _ (by decide +kernel), codeAny_builtin F.entry_type_call ?_⟩
  rw [Around.under_plain (weight_type_call_type "bool" [x] []) (units_type_call_type "bool" [x] [])]
  have nt := ft.notType
  have cc := ft.canCreate
  have ct := F.typeCall_bool_1 x
  repeat (any_goals (first | assumption | wp_step))
  refine codeAny_mono (codeAny_call_builtin ft.plain F.entry_bool_new (wpAny_of_eq (F.newCall_bool_1 x) step)) fun r s1 hr => ?_
  cases r with
  | error e => exact hr
  | ok fl =>
    cases fl with
    | ret obj =>
      obtain ⟨hT, hq⟩ := hr
      have li := ft.init.lookup
      have bi := ft.init.bind obj
      repeat (any_goals (first | assumption | wp_step))
      refine codeAny_mono (codeAny_call_builtin ft.init.plain F.entry_object_init (ft.init.check _ _ _ _ _ _ _ _ hT (F.args_object_init_2 obj x) (object_init_meets ft.init.lookup ft.made F.newNe_bool prog w A.in1 (wants (fun r s2 => r = .none ∧ Q obj s2) E) s1 ⟨hT, rfl, hq⟩))) fun r2 s2 hr2 => ?_
      cases r2 with
      | error e => exact hr2
      | ok fl2 =>
        cases fl2 with
        | ret r =>
          obtain ⟨rfl, hq2⟩ := hr2
          repeat (any_goals (first | assumption | wp_step))
        | _ => exact hr2.elim
    | _ => exact hr.elim
end
section
variable {X : Cx} {fx : Fix} {W : WX} {P : Prog} {n : Nat}
theorem run_m2 {m : Mode} {fn : String} {pins : List (Addr × Obj)} {σ : L2.St} {H : Hp} {s : Shared} {Q : VK} {us : List Value} {vs : List V} {ds : List D} {g : Gh} {S : Store} {adr : Addr}
    (tk : Takes X W) {k : Nat} {fd : FuncData} {ps : List Str} (hr : Room (k + 2) X.A) (hb : Binds X.K fd ps []) (F : FnOk X.prog X.w X.K X.mg X.base (L2.CX X.prog X.w) k adr fd ps (spI P n fx.K fx.ca fn))
    (I : Inv X pins σ H s) (r : R fx g S H) (rv : RelL fx.K fx.ca g vs ds) (ru : Vals vs us) (q : ePost fx W g σ (tOf fx Q) (callM (run P n) m fn ds S)) : wpAny (model X.prog X.w) X.A.in1.in1 (call (.ref adr) us) (EP X pins σ Q) X.xe s := by
  obtain ⟨G, h1, h2⟩ := callM_np (post_ne q)
  have want := call_m ⟨G, h1, by rw [rv.length]; exact h2⟩ q r rv
  have len : us.length = ps.length := by
    rw [← ru.length]
    exact F.len _ _ _ _ want
  have bnd := hb s us I.kIn (by rw [List.append_nil]; exact len)
  rw [List.append_nil] at bnd
  refine wpAny_call (codeAny_mono (F.run X.A.in1.in1 X.stack s H ⟨us, []⟩ us vs Q _ hr.in1.in1 I.env0.in1.in1 bnd ru want) fun t s2 hq => ?_)
  cases t with
  | error z => exact passAt tk σ pins H s z s2 I hq
  | ok flow =>
    cases flow with
    | ret z => exact I.after hq
    | _ => exact hq.elim
/-- bool(x) of an instance, by its __bool__ -/
theorem call_boolO (tk : Takes X W) (ob : ObjF P n fx X) {pins : List (Addr × Obj)} {σ : L2.St} {H : Hp} {s : Shared} {Q : VK} {g : Gh} {S : Store} {d : D} {v : V} {u : Value} {c : String} {fs : List (String × D)} (I : Inv X pins σ H s) (r : R fx g S H) (rd : RelD fx.K fx.ca g v d) (ru : RelV v u) (e1 : insD S d = some (c, fs))
    (q : ePost fx W g σ (tOf fx Q) (asBl (callO (run P n) (P.meth c "__bool__") [d] S) id)) : wpAny (model X.prog X.w) X.A (call (.type "bool") [u]) (EP X pins σ Q) X.xe s := by
  obtain ⟨p, dx, vs, rfl, hp, _⟩ := r.insD rd e1
  obtain rfl : u = .ref p := ru
  obtain ⟨od, at_⟩ := ins_at I hp
  have q := asBl_post q
  obtain ⟨fn, m, em, ec⟩ := callO_of (post_ne q)
  rw [ec] at q
  obtain ⟨k, ad, fd, ps, M, hr, hb, F⟩ := (ob.meth c _ fn m em).ex
  refine bool_walk (own_tru I.kIn at_ M.at_ M.fn (wpAny_mono (run_m2 (vs := [.ref p]) (us := [.ref p]) tk hr hb F I r (.cons rd .nil) (.cons rfl .nil) q) (fun z s2 ⟨w0, H2, I2, rz, b, ew, hq⟩ => ?_) fun _ _ y => y))
  subst ew
  obtain rfl : z = Value.bool b := rz
  exact ⟨b, rfl, .bl b, H2, I2, rfl, hq⟩
end
end MX
end

section
set_option maxRecDepth 100000
set_option maxHeartbeats 1000000
namespace MX
open PySem PySem.Spec PyProof.Rows L2
def tyV (ca : String → Addr) (d : D) : Option Value :=
  match d with
  | .ins k _ => some (.ref (ca k))
  | d => (dTy d).map Value.type
def clsV (ca : String → Addr) : Ty → Value
  | .cls c => .ref (ca c)
  | t => .type t.nm
theorem isiX_kit {K : PySem.W.Frag} {ca : String → Addr} {kn : String → Bool} (ok : OwnK K ca kn) {S : Store} {d : D} {t : Ty} {b : Bool} (e : isiX kn S d t = some b) : ∃ v, tyV ca (look S d) = some v ∧ PySem.W.kitOne K v (clsV ca t) = some b ∧ (∀ k fs, look S d = .ins k fs → kn k = true) := by
  unfold isiX at e
  cases t with
  | cls c =>
    cases q : look S d with
    | ins k fs =>
      simp only [q] at e
      by_cases h : (kn k && kn c) = true
      · rw [if_pos h] at e
        cases e
        rw [Bool.and_eq_true] at h
        exact ⟨_, rfl, ok.own k h.1 c h.2, fun k' fs' z => by cases z; exact h.1⟩
      · rw [if_neg h] at e
        cases e
    | scr ns => simp only [q] at e; cases e
    | ptr n => simp only [q] at e; cases e
    | _ =>
      simp only [q] at e
      by_cases h : kn c = true
      · rw [if_pos h] at e
        cases e
        exact ⟨_, rfl, ok.inn c h (look S d) _ (by rw [q]; rfl), fun k' fs' z => by cases z⟩
      · rw [if_neg h] at e
        cases e
  | _ =>
    cases q : look S d with
    | ins k fs =>
      simp only [q] at e
      by_cases h : kn k = true
      · rw [if_pos h] at e
        cases e
        exact ⟨_, rfl, ok.out k h _ rfl, fun k' fs' z => by cases z; exact h⟩
      · rw [if_neg h] at e
        cases e
    | _ =>
      simp only [q] at e
      obtain ⟨n, h1, h2⟩ := isi_kit (K := K) e rfl
      rw [q] at h1
      refine ⟨.type n, ?_, h2, fun k' fs' z => by cases z⟩
      exact congrArg (Option.map Value.type) h1
theorem isiXs_kit {K : PySem.W.Frag} {ca : String → Addr} {kn : String → Bool} (ok : OwnK K ca kn) {S : Store} {d : D} : ∀ {ts : List Ty} {b : Bool}, isiXs kn S d ts = some b → ts ≠ [] → ∃ v, tyV ca (look S d) = some v ∧ PySem.W.kitAny K v (ts.map (clsV ca)) = some b ∧ (∀ k fs, look S d = .ins k fs → kn k = true)
  | [], _, _, h => absurd rfl h
  | t :: r, b, e, _ => by
    have e : (match isiX kn S d t with
      | some true => some true
      | some false => isiXs kn S d r
      | none => none) = some b := e
    cases q : isiX kn S d t with
    | none => rw [q] at e; cases e
    | some c =>
      rw [q] at e
      obtain ⟨v, h1, h2, h3⟩ := isiX_kit ok q
      refine ⟨v, h1, ?_, h3⟩
      rw [List.map_cons]
      unfold PySem.W.kitAny
      rw [h2]
      cases c with
      | true => exact e
      | false =>
        have e : isiXs kn S d r = some b := e
        cases r with
        | nil => exact e
        | cons t2 r2 =>
          obtain ⟨v', k1, k2, _⟩ := isiXs_kit ok e (by simp)
          rw [h1] at k1
          cases k1
          exact k2
theorem R.tyX {X : Cx} {fx : Fix} {g : Gh} {S : Store} {H : Hp} {kn : String → Bool} (r : R fx g S H) (hK : fx.K = X.K) (ok : OwnK X.K fx.ca kn) {v : V} {d : D} (h : RelD fx.K fx.ca g v d) {t : Value} (e : tyV fx.ca (MX.look S d) = some t) (hk : ∀ k fs, MX.look S d = .ins k fs → kn k = true) : TyX X.K H v t := by
  cases q : MX.look S d with
  | ins k fs =>
    rw [q] at e
    cases e
    have m := hk k fs q
    have hi : MX.insD S d = some (k, fs) := by
      unfold MX.insD
      rw [q]
    obtain ⟨a, dx, vs, rfl, ha, _⟩ := r.insD h hi
    exact .base (.ins ha (ok.cls k m) (ok.at_ k m) ok.sp ok.tk (ok.mro k m))
  | _ =>
    rw [q] at e
    first
    | (cases e; done)
    | (cases e; exact r.ty (X := X) h (by rw [q]; rfl))
end MX
end

section
set_option maxRecDepth 100000
set_option maxHeartbeats 1000000
namespace MX
open PySem PySem.Spec PyProof.Rows L2
def nmX : Ty → String
  | .cls c => c
  | t => t.nm
def clsU (ca : String → Addr) : Ty → V
  | .cls c => .ref (ca c)
  | t => .ty t.nm
/-- a class's name, as a module sees it -/
def NmOk (X : Cx) (ca : String → Addr) (t : Ty) : Prop :=
  Gl X (Str.ofString (nmX t)) ∧ match t with
    | .cls c => X.mg (Str.ofString c) = some (.ref (ca c)) ∧ (Str.ofString c == ("__debug__" : Str)) = false
    | t => X.mg (Str.ofString t.nm) = none
section
variable {X : Cx} {fx : Fix} {W : WX} {f : DSt → Store → Res D} {a : Expr} {pos : Pos}
theorem pe_cls {ca : String → Addr} {t : Ty} {p : Pos} (h : NmOk X ca t) : PE X (.Name (Str.ofString (nmX t)) p) (tC (clsU ca t)) := by
  obtain ⟨hg, hm⟩ := h
  have key : ∀ t : Ty, t.blt = true → Gl X (Str.ofString t.nm) → X.mg (Str.ofString t.nm) = none → PE X (.Name (Str.ofString t.nm) p) (tC (.ty t.nm)) := fun t hb g m => by
    obtain ⟨h1, h2, h3⟩ := ty_boot hb
    exact pe_bltn g m h1 rfl h2 h3
  cases t with
  | cls c => exact pe_glob hg hm.1 rfl hm.2
  | int => exact key .int rfl hg hm
  | bool => exact key .bool rfl hg hm
  | str => exact key .str rfl hg hm
  | list => exact key .list rfl hg hm
  | tuple => exact key .tuple rfl hg hm
theorem clsU_v (ca : String → Addr) (t : Ty) : ClsV (clsU ca t) (clsV ca t) := by
  cases t with
  | cls c => exact .own _
  | _ => exact .ty _
theorem s_isio {kn : String → Bool} {t : Ty} {p p2 : Pos} (hK : fx.K = X.K) (ok : OwnK X.K fx.ca kn) (hg : Gl X "isinstance") (hm : X.mg "isinstance" = none) (hn : NmOk X fx.ca t) (ha : PE X a (tE fx W f))
    (he : starEach [a, .Name (Str.ofString (nmX t)) p2] X.env = (false, eval a X.env) :: starEach [.Name (Str.ofString (nmX t)) p2] X.env) : PE X (.Call (.Name "isinstance" p) [a, .Name (Str.ofString (nmX t)) p2] [] pos) (tE fx W fun σ S => (f σ S).bind fun x S1 => ofB S1 (isiXs kn S1 x [t])) := by
  refine pe_imp (pe_callB call_isi hg hm PyProof.Rows.boot_isinstance (pa_cons ha (pa_cons (pe_cls hn) pa_nil) he) (by decide) (by decide) he (by rfl)) fun σ H Q ⟨g, dσ, S, r, sl, q⟩ => tE.bind q r sl fun x S1 v g1 H1 _ l1 r1 x1 q1 => ?_
  obtain ⟨b, e, q2⟩ := ofB_ret (H := H1) q1
  obtain ⟨u, e1, e2, e3⟩ := isiXs_kit ok e (by simp)
  refine ⟨v, clsU fx.ca t, u, clsV fx.ca t, b, rfl, clsU_v _ _, r1.tyX hK ok x1 e1 e3, ?_, ePost.ret q2 r1 (.bl _)⟩
  have e4 : PySem.W.kitAny X.K u [clsV fx.ca t] = some b := e2
  unfold PySem.W.kitAny at e4
  cases q3 : PySem.W.kitOne X.K u (clsV fx.ca t) with
  | none => rw [q3] at e4; cases e4
  | some c =>
    rw [q3] at e4
    cases c with
    | true => cases e4; rfl
    | false => cases e4; rfl
def tyNamesX : List Ty → List Expr → Bool
  | [], es => es.isEmpty
  | t :: ts, e :: es => (match e with
    | .Name y _ => decide (y = Str.ofString (nmX t))
    | _ => false) && tyNamesX ts es
  | _ :: _, [] => false
theorem pa_clsX {ca : String → Addr} : ∀ {ts : List Ty} {es : List Expr}, tyNamesX ts es = true → (∀ t ∈ ts, NmOk X ca t) → PA X es (fun _ H Q => Q (ts.map (clsU ca)) H)
  | [], [], _, _ => pa_nil
  | [], _ :: _, h, _ => by cases h
  | _ :: _, [], h, _ => by cases h
  | t :: ts, e :: es, h, k => by
    unfold tyNamesX at h
    rw [Bool.and_eq_true] at h
    obtain ⟨h1, h2⟩ := h
    cases e with
    | Name y p =>
      have hy := of_decide_eq_true h1
      subst hy
      have ih := pa_clsX (ca := ca) h2 fun u hu => k u (List.mem_cons_of_mem _ hu)
      exact pa_imp (pa_cons (pe_cls (k t List.mem_cons_self)) ih) fun σ H Q q => q
    | _ => cases h1
theorem clsU_all (ca : String → Addr) : ∀ ts : List Ty, Paired ClsV (ts.map (clsU ca)) (ts.map (clsV ca))
  | [] => .nil
  | t :: r => .cons (clsU_v ca t) (clsU_all ca r)
theorem s_isioT {kn : String → Bool} {ts : List Ty} {es : List Expr} {x1} {p p2 : Pos} (hK : fx.K = X.K) (ok : OwnK X.K fx.ca kn) (hne : ts ≠ []) (hl : ts.length ≤ sizeLine) (ht : tyNamesX ts es = true) (hg : Gl X "isinstance") (hm : X.mg "isinstance" = none) (hn : ∀ t ∈ ts, NmOk X fx.ca t) (ha : PE X a (tE fx W f))
    (he : starEach [a, .Tuple es x1 p2] X.env = (false, eval a X.env) :: starEach [.Tuple es x1 p2] X.env) : PE X (.Call (.Name "isinstance" p) [a, .Tuple es x1 p2] [] pos) (tE fx W fun σ S => (f σ S).bind fun x S1 => ofB S1 (isiXs kn S1 x ts)) := by
  have pt : PE X (.Tuple es x1 p2) (tTup (fun _ H Q => Q (ts.map (clsU fx.ca)) H)) := pe_tup (pa_clsX ht hn)
  refine pe_imp (pe_callB call_isiT hg hm PyProof.Rows.boot_isinstance (pa_cons ha (pa_cons pt pa_nil) he) (by decide) (by decide) he (by rfl)) fun σ H Q ⟨g, dσ, S, r, sl, q⟩ => tE.bind q r sl fun x S1 v g1 H1 _ l1 r1 d1 q1 => ?_
  refine ⟨by rw [List.length_map]; exact hl, fun tp hp => ?_⟩
  obtain ⟨b, e, q2⟩ := ofB_ret (H := H1) q1
  obtain ⟨u, e1, e2, e3⟩ := isiXs_kit ok e hne
  obtain ⟨r2, l2⟩ := r1.laid (o := .tup (ts.map (clsU fx.ca))) hp
  exact ⟨v, tp, _, u, _, b, rfl, upd_same, clsU_all _ ts, r2.tyX hK ok (d1.mono l2) e1 e3, e2, ePost.ret (ePost.up q2 l2) r2 (.bl _)⟩
end
end MX
end

section
set_option maxRecDepth 100000
set_option maxHeartbeats 1000000
namespace MX
open PySem PySem.Spec PyProof.Rows L2
section
variable {X : Cx} {fx : Fix} {W : WX} {P : Prog} {n : Nat} {f h k : DSt → Store → Res D} {a b c : Expr} {pos : Pos}
/-- the built-ins, asked of instances too -/
theorem callD_biX (b : Bi) (hK : fx.K = X.K) (hc : X.calm = true) (tk : Takes X W) (ob : ObjF P n fx X) : CallD X fx W b.val (biX P (run P n) b) := by
  have pl := callD_bi (W := W) b hK hc
  cases b with
  | bool =>
    intro pins s σ H g S vs ds us Q I rv r rd q
    match ds, rd, q with
    | [d], rd, q =>
      have q : ePost fx W g σ (tOf fx Q) (match insD S d with
        | some (c, _) => asBl (callO (run P n) (P.meth c "__bool__") [d] S) id
        | none => biD .bool S [d]) := q
      cases e : insD S d with
      | some cf =>
        obtain ⟨c, fs⟩ := cf
        rw [e] at q
        cases rd with
        | cons r1 rr =>
          cases rr
          cases rv with
          | cons ru rr =>
            cases rr
            exact call_boolO tk ob I r r1 ru e q
      | none =>
        rw [e] at q
        exact pl pins s σ H g S vs [d] us Q I rv r rd q
    | [], rd, q => exact pl pins s σ H g S vs [] us Q I rv r rd q
    | x :: y :: z, rd, q => exact pl pins s σ H g S vs (x :: y :: z) us Q I rv r rd q
  | _ => exact pl
theorem s_biX {b : Bi} {x : Str} {e : Expr} {es : List Expr} {p pos : Pos} {f : DSt → Store → Res D} (hK : fx.K = X.K) (hc : X.calm = true) (tk : Takes X W) (ob : ObjF P n fx X) (hx : x = Str.ofString b.nm) (hg : Gl X x) (hm : X.mg x = none) (ha : PA X (e :: es) (tA fx W f))
    (he : starEach (e :: es) X.env = (false, eval e X.env) :: starEach es X.env) (hpl : (backTo pos (starEach es X.env)).any (·.1) = false) : PE X (.Call (.Name x p) (e :: es) [] pos) (tE fx W fun σ S => (f σ S).bind fun x S1 => biX P (run P n) b S1 (unT x)) := by
  have hd : CallD X fx W b.val (biX P (run P n) b) := callD_biX b hK hc tk ob
  refine ⟨fun pins s σ H Q I h => ?_⟩
  have hdb : (x == ("__debug__" : Str)) = false := by subst hx; cases b <;> decide +kernel
  have hn : x ≠ ("__name__" : Str) := by subst hx; cases b <;> decide +kernel
  have hv : bootBuiltins x = some b.val := by subst hx; cases b <;> decide +kernel
  refine wpAny_Call_Name_kw (ld_blt I hg hm hv ?_ hn hdb)
  have q := s_args hd ha I h pos
  cases b with
  | int => exact callWith_type1 q he hpl
  | bool => exact callWith_type1 q he hpl
  | list => exact callWith_type1 q he hpl
  | listc => exact callWith_type1 q he hpl
  | tuple => exact callWith_type1 q he hpl
  | _ => exact PyProof.Rows.callWith_builtin1 q he hpl
/-- a comparison hands back a bool -/
theorem cmpX_bl {op : Cop} {S S' : Store} {x y d : D} (e : cmpX P (run P n) op S x y = .ok d S') : ∃ b, d = .bl b := by
  unfold cmpX at e
  have key : ∀ (r : Res D) (k : Bool → Bool), asBl r k = .ok d S' → ∃ b, d = .bl b := fun r k e => by
    unfold asBl at e
    cases r with
    | ok z S1 =>
      cases z <;> first | (cases e; exact ⟨_, rfl⟩) | cases e
    | ex z S1 => cases e
    | bad => cases e
  cases e1 : insD S x with
  | some cf =>
    obtain ⟨c, fs⟩ := cf
    rw [e1] at e
    have e : (if op = .eq ∨ op = .ne then
      if (isInt y || (match insD S y with
        | some (c2, _) => c2 == c
        | none => false)) = true then asBl (callO (run P n) (P.meth c "__eq__") [x, y] S) (fun t => (op == .ne) != t) else .bad
      else if op = .is_ ∨ op = .isn then ofB S (cmpB op S x y)
      else if sameC S c y then ordX P (run P n) c S x y op else .bad) = .ok d S' := e
    by_cases h0 : op = .eq ∨ op = .ne
    · rw [if_pos h0] at e
      by_cases h2 : (isInt y || (match insD S y with
        | some (c2, _) => c2 == c
        | none => false)) = true
      · rw [if_pos h2] at e
        exact key _ _ e
      · rw [if_neg h2] at e
        cases e
    · rw [if_neg h0] at e
      by_cases h1 : op = .is_ ∨ op = .isn
      · rw [if_pos h1] at e
        cases q : cmpB op S x y with
        | none => rw [q] at e; cases e
        | some b => rw [q] at e; cases e; exact ⟨_, rfl⟩
      rw [if_neg h1] at e
      by_cases h3 : sameC S c y = true
      · rw [if_pos h3] at e
        cases op <;> first | exact key _ _ e | cases e
      · rw [if_neg h3] at e
        cases e
  | none =>
    rw [e1] at e
    have e : ofB S (cmpB op S x y) = .ok d S' := e
    cases q : cmpB op S x y with
    | none => rw [q] at e; cases e
    | some b => rw [q] at e; cases e; exact ⟨_, rfl⟩
theorem s_cmpTX {op : CmpOp} {o : Store → D → D → Res D} (ho : OpD X fx W (compareOp op) o) (hbl : ∀ {S S' x y d}, o S x y = .ok d S' → ∃ b, d = .bl b) (ha : PE X a (tE fx W f)) (hb : PE X b (tE fx W h)) (hm : behindInMarks op b = false) :
    PT X (.Compare a [op] [b] pos) (tT fx W fun σ S => (f σ S).bind fun x S1 => (h σ S1).bind fun y S2 => o S2 x y) := by
  refine ⟨fun pins s σ H Q I q => ?_⟩
  obtain ⟨g, dσ, S, r, sl, q⟩ := q
  have q1 : tE fx W f σ H (fun v H1 => tE fx W h σ H1 fun w H2 => rD fx W o σ v w H2 fun z H3 => ∃ b, z = .bl b ∧ Q b H3) :=
    tE.bind q r sl fun x S1 v g1 H1 _ l1 r1 x1 q1 => tE.bind q1 r1 (sl.mono l1) fun y S2 w g2 H2 _ l2 r2 y2 q2 => by
      refine ⟨g2, S2, x, y, r2, x1.mono l2, y2, ?_⟩
      cases e : o S2 x y with
      | bad => rw [e] at q2; exact q2.elim
      | ex z S3 => rw [e] at q2; exact q2
      | ok d S3 =>
        rw [e] at q2
        obtain ⟨b, rfl⟩ := hbl e
        intro g3 H3 l3 r3 v3 rv3
        obtain ⟨b', e', q4⟩ := q2 g3 H3 l3 r3
        cases e'
        exact ⟨b, rv3.iBl, q4⟩
  refine wpAny_isTrue_Compare1 (thn (ha.run pins s σ H _ I q1) fun v s1 ⟨x, H1, I1, r1, q1⟩ => thn (hb.run pins s1 σ H1 _ I1 q1) fun u s2 ⟨y, H2, I2, r2, q2⟩ =>
    thn (ho pins s2 σ H2 x y v u _ I2 r1 r2 q2) fun c s3 ⟨z, H3, I3, r3, k, e, q3⟩ => ?_) hm
  subst e
  cases r3
  exact wpAny_truthy_bool ⟨H3, I3, q3⟩
/-- what a link of a chain wants -/
theorem chain_q {o1 o2 : Store → D → D → Option Bool} {σ : L2.St} {H : Hp} {T : Gh → D → Store → Hp → Prop} {Q : VK} (hT : ∀ g d S H, T g d S H → True) (q : tE fx W (fun σ S => (f σ S).bind fun x S1 => (h σ S1).bind fun y S2 => match o1 S2 x y with
      | some true => (k σ S2).bind fun z S3 => ofB S3 (o2 S3 y z)
      | some false => .ok (.bl false) S2
      | none => .bad) σ H Q) :
    tE fx W f σ H fun v H1 => tE fx W h σ H1 fun w H2 => rD fx W (fun S x y => ofB S (o1 S x y)) σ v w H2 fun z H3 => ∃ b, z = .bl b ∧ (if b = true then tE fx W k σ H3 fun v' H4 => rD fx W (fun S x y => ofB S (o2 S x y)) σ w v' H4 Q else Q (.bl false) H3) := by
  obtain ⟨g, dσ, S, r, sl, q⟩ := q
  refine tE.bind q r sl fun x S1 v g1 H1 _ l1 r1 x1 q1 => tE.bind q1 r1 (sl.mono l1) fun y S2 w g2 H2 _ l2 r2 y2 q2 => ?_
  refine ⟨g2, S2, x, y, r2, x1.mono l2, y2, ?_⟩
  cases e : o1 S2 x y with
  | none => rw [e] at q2; exact q2.elim
  | some b =>
    rw [e] at q2
    show ePost fx W g2 σ (tOf fx _) (ofB S2 (o1 S2 x y))
    rw [e]
    intro g3 H3 l3 r3 v3 rv3
    refine ⟨b, rv3.iBl, ?_⟩
    cases b with
    | false =>
      refine (if_neg (by simp)).mpr ?_
      exact q2 g3 H3 l3 r3 (V.bl false) (RelD.bl _)
    | true =>
      refine (if_pos rfl).mpr ?_
      have q2 : ePost fx W g2 σ (tOf fx Q) ((k dσ S2).bind fun z S3 => ofB S3 (o2 S3 y z)) := q2
      refine tE.bind (ePost.up q2 l3) r3 (((sl.mono l1).mono l2).mono l3) fun z S4 w' g4 H4 _ l4 r4 z4 q4 => ?_
      exact ⟨g4, S4, y, z, r4, (y2.mono l3).mono l4, z4, q4⟩
theorem s_chain {o1 o2 : CmpOp} {d1 d2 : Store → D → D → Option Bool} (ho : OpD X fx W (compareOp o1) (fun S x y => ofB S (d1 S x y))) (ho' : OpD X fx W (compareOp o2) (fun S x y => ofB S (d2 S x y))) (ha : PE X a (tE fx W f)) (hb : PE X b (tE fx W h)) (hc : PE X c (tE fx W k))
    (hm : lastMarks [o1, o2] [b, c] = false) : PE X (.Compare a [o1, o2] [b, c] pos) (tE fx W fun σ S => (f σ S).bind fun x S1 => (h σ S1).bind fun y S2 => match d1 S2 x y with
      | some true => (k σ S2).bind fun z S3 => ofB S3 (d2 S3 y z)
      | some false => .ok (.bl false) S2
      | none => .bad) := by
  refine ⟨fun pins s σ H Q I q => ?_⟩
  have q := chain_q (T := fun _ _ _ _ => True) (fun _ _ _ _ _ => trivial) q
  refine Compare_chain (thn (ha.run pins s σ H _ I q) fun v s1 ⟨x, H1, I1, r1, q1⟩ => chain_link (thn (hb.run pins s1 σ H1 _ I1 q1) fun u s2 ⟨y, H2, I2, r2, q2⟩ =>
    thn (ho pins s2 σ H2 x y v u _ I2 r1 r2 q2) fun d s3 ⟨z, H3, I3, r3, kk, e, q3⟩ => ?_)) hm
  subst e
  cases r3
  refine wpAny_truthy_bool ?_
  cases kk with
  | false => exact ite_ff ⟨.bl false, H3, I3, rfl, q3⟩
  | true => exact ite_tt (chain_last (thn (hc.run pins s3 σ H3 _ I3 q3) fun w' s4 ⟨z', H4, I4, r4, q4⟩ => ho' pins s4 σ H4 y z' u w' Q I4 r2 r4 q4))
theorem asT {g : Gh} {σ : L2.St} {Q : Bool → Hp → Prop} {res : Res D} (bl : ∀ d S', res = .ok d S' → ∃ b, d = .bl b) (q : ePost fx W g σ (tOfT Q) res) : ePost fx W g σ (tOf fx fun v H => ∃ b, v = .bl b ∧ Q b H) res := by
  cases res with
  | bad => exact q
  | ex x S1 => exact q
  | ok d S1 =>
    obtain ⟨b, rfl⟩ := bl d S1 rfl
    intro g1 H1 l1 r1 v rv
    obtain ⟨b', e', q4⟩ := q g1 H1 l1 r1
    cases e'
    exact ⟨b, rv.iBl, q4⟩
theorem t_chain {o1 o2 : CmpOp} {d1 d2 : Store → D → D → Option Bool} (ho : OpD X fx W (compareOp o1) (fun S x y => ofB S (d1 S x y))) (ho' : OpD X fx W (compareOp o2) (fun S x y => ofB S (d2 S x y))) (ha : PE X a (tE fx W f)) (hb : PE X b (tE fx W h)) (hc : PE X c (tE fx W k))
    (hm : lastMarks [o1, o2] [b, c] = false) : PT X (.Compare a [o1, o2] [b, c] pos) (tT fx W fun σ S => (f σ S).bind fun x S1 => (h σ S1).bind fun y S2 => match d1 S2 x y with
      | some true => (k σ S2).bind fun z S3 => ofB S3 (d2 S3 y z)
      | some false => .ok (.bl false) S2
      | none => .bad) := by
  refine ⟨fun pins s σ H Q I q => ?_⟩
  have q : tE fx W (fun σ S => (f σ S).bind fun x S1 => (h σ S1).bind fun y S2 => match d1 S2 x y with
      | some true => (k σ S2).bind fun z S3 => ofB S3 (d2 S3 y z)
      | some false => .ok (.bl false) S2
      | none => .bad) σ H (fun v H => ∃ b, v = .bl b ∧ Q b H) := by
    obtain ⟨g, dσ, S, r, sl, q⟩ := q
    refine ⟨g, dσ, S, r, sl, asT (fun d S' e => ?_) q⟩
    have fin : ∀ (S : Store) (o : Option Bool) (d : D) (S' : Store), ofB S o = .ok d S' → ∃ b, d = .bl b := fun S o d S' e => by
      cases o with
      | none => cases e
      | some b => cases e; exact ⟨_, rfl⟩
    have bd : ∀ {r : Res D} {g : D → Store → Res D} {d : D} {S' : Store}, r.bind g = .ok d S' → ∃ x S1, g x S1 = .ok d S' := fun {r g d S'} e => by
      cases r with
      | ok x S1 => exact ⟨x, S1, e⟩
      | ex x S1 => cases e
      | bad => cases e
    obtain ⟨x, S1, e⟩ := bd e
    obtain ⟨y, S2, e⟩ := bd e
    cases q2 : d1 S2 x y with
    | none => rw [q2] at e; cases e
    | some t =>
      rw [q2] at e
      cases t with
      | false => cases e; exact ⟨_, rfl⟩
      | true =>
        obtain ⟨z, S3, e⟩ := bd e
        exact fin _ _ _ _ e
  have q := chain_q (T := fun _ _ _ _ => True) (fun _ _ _ _ _ => trivial) q
  refine isTrue_chain (thn (ha.run pins s σ H _ I q) fun v s1 ⟨x, H1, I1, r1, q1⟩ => test_link (thn (hb.run pins s1 σ H1 _ I1 q1) fun u s2 ⟨y, H2, I2, r2, q2⟩ =>
    thn (ho pins s2 σ H2 x y v u _ I2 r1 r2 q2) fun d s3 ⟨z, H3, I3, r3, kk, e, q3⟩ => ?_)) hm
  subst e
  cases r3
  refine wpAny_truthy_bool ?_
  cases kk with
  | false =>
    obtain ⟨k', e', q'⟩ := q3
    cases e'
    exact ite_ff ⟨H3, I3, q'⟩
  | true =>
    refine ite_tt (test_last (thn (hc.run pins s3 σ H3 _ I3 q3) fun w' s4 ⟨z', H4, I4, r4, q4⟩ => thn (ho' pins s4 σ H4 y z' u w' _ I4 r2 r4 q4) fun d' s5 ⟨z2, H5, I5, r5, k2, e2, q5⟩ => ?_))
    subst e2
    cases r5
    exact wpAny_truthy_bool ⟨H5, I5, q5⟩
end
end MX
end

section
set_option maxRecDepth 100000
set_option maxHeartbeats 1000000
namespace MX
open PySem PySem.Spec PyProof.Rows L2
/-- a class's address -/
def caOf (K : PySem.W.Frag) (c : String) : Addr := He.ga K (Str.ofString c)
def tNames : List String := ["NoneType", "bool", "int", "str", "list", "tuple"]
def bTys : List Ty := [.int, .bool, .str, .list, .tuple]
def clsBits (K : PySem.W.Frag) (kn : List String) (c : String) : Bool :=
  He.Fa.ok K (.cls (Str.ofString c)) && (He.eqO (PySem.W.findIn K (.ref (caOf K c)) "__class__") (some (some (.builtin "object.__class__"))) && (decide (PySem.W.mroIn K (caOf K c) (.type "object") = some true) &&
    (PySem.W.selfFirst K (caOf K c) && (decide (PySem.W.subIn K (.ref (caOf K c)) (.type "int") = some false) && (decide (PySem.W.subIn K (.ref (caOf K c)) (.type "object") = some true) &&
    (He.eqO (PySem.W.findIn K (.ref (caOf K c)) "__ne__") (some (some (.builtin "object.__ne__"))) && (He.eqO (PySem.W.findIn K (.ref (caOf K c)) "__gt__") (some (some (.builtin "object.__gt__"))) && (He.eqO (PySem.W.findIn K (.ref (caOf K c)) "__ge__") (some (some (.builtin "object.__ge__"))) && (kn.all (fun e => decide (PySem.W.kitOne K (.ref (caOf K c)) (.ref (caOf K e)) = some (c == e))) &&
    (bTys.all (fun t => decide (PySem.W.kitOne K (.ref (caOf K c)) (.type t.nm) = some false)) && tNames.all fun n => decide (PySem.W.kitOne K (.type n) (.ref (caOf K c)) = some false)))))))))))
def ownBits (K : PySem.W.Frag) (kn : List String) : Bool :=
  He.eqO (PySem.W.specialIn K (.builtin "object.__class__") "__get__") (some (some (.builtin "getset_descriptor.__get__"))) && (decide (PySem.W.takesIn K (.builtin "object.__class__") = some true) && kn.all (clsBits K kn))
theorem ownK_of {K : PySem.W.Frag} {kn : List String} (h : ownBits K kn = true) : OwnK K (caOf K) kn.contains ∧ ∀ c ∈ kn, ClsBits K (caOf K c) := by
  unfold ownBits at h
  simp only [Bool.and_eq_true, decide_eq_true_eq, List.all_eq_true] at h
  obtain ⟨h1, h2, h3⟩ := h
  have bits := fun c hc => by
    have z := h3 c hc
    unfold clsBits at z
    simp only [Bool.and_eq_true, decide_eq_true_eq, List.all_eq_true] at z
    exact z
  have key : ∀ {c : String}, kn.contains c = true → c ∈ kn := fun h => List.contains_iff_mem.mp h
  refine ⟨⟨fun c hc => He.cls_ok (bits c (key hc)).1, fun c hc => He.eqO_ok (bits c (key hc)).2.1, He.eqO_ok h1, h2, fun c hc => (bits c (key hc)).2.2.1, fun c hc e he => (bits c (key hc)).2.2.2.2.2.2.2.2.2.1 e (key he), fun c hc t ht => ?_, fun c hc d n hd => ?_⟩, fun c hc => ⟨He.cls_ok (bits c hc).1, (bits c hc).2.2.2.1, (bits c hc).2.2.2.2.1, (bits c hc).2.2.2.2.2.1, He.eqO_ok (bits c hc).2.2.2.2.2.2.1, He.eqO_ok (bits c hc).2.2.2.2.2.2.2.1, He.eqO_ok (bits c hc).2.2.2.2.2.2.2.2.1⟩⟩
  · refine (bits c (key hc)).2.2.2.2.2.2.2.2.2.2.1 t ?_
    cases t <;> first | (cases ht; done) | (unfold bTys; simp)
  · refine (bits c (key hc)).2.2.2.2.2.2.2.2.2.2.2 n ?_
    cases d <;> first | (cases hd; done) | (cases hd; unfold tNames; simp)
/-! ### the Hook: bits of one's own beside He's facts -/
abbrev AlX : Type := Bool × He.AlD
def obsX (bk : PySem.W.Frag → Bool) (fa : List He.Fa) (fn : List He.DefD) (K : PySem.W.Frag) : AlX := (bk K, He.obsD fa fn K)
def obsXG (n : Nat) (bk : PySem.W.Frag → Bool) (fa : List He.Fa) (fn : List He.DefD) (g : Addr → Option Obj) : AlX := obsX bk fa fn (He.frG g (He.asD g n))
def hookX (n : Nat) (bk : PySem.W.Frag → Bool) (fa : List He.Fa) (fn : List He.DefD) : PySem.W.Hook where
  α := AlX
  obs := fun s => obsXG n bk fa fn s.heap.get?
  val := fun _ => (true, He.valD fn)
  says := fun _ h => ∃ K : PySem.W.Frag, K.In h ∧ bk K = true ∧ He.SaysD fa fn K
  of := fun _ _ e => ⟨_, He.frG_in, congrArg Prod.fst e, congrArg Prod.snd e⟩
  keeps := fun _ _ _ ⟨K, h1, h2, h3⟩ k => ⟨K, PySem.W.Frag.In.keeps h1 k, h2, h3⟩
theorem obsXG_eq {n : Nat} {bk : PySem.W.Frag → Bool} {fa : List He.Fa} {fn : List He.DefD} {g : Addr → Option Obj} {s : Shared} (h : ∀ a, g a = s.heap.get? a) : obsXG n bk fa fn g = (hookX n bk fa fn).obs s := by
  have e : g = s.heap.get? := funext h
  rw [e] <;> rfl
end MX
end

section
set_option maxRecDepth 100000
set_option maxHeartbeats 1000000
namespace MX
open PySem PySem.Spec PyProof.Rows L2

/-- what a module's name is -/
inductive GK where | blt | int (i : Int) | fn (f : String) | cls (c : String) | exc (c : String)
  deriving DecidableEq
/-- what is known of a place in the text: the names by slot, the scope, the module's names -/
structure Gam where
  N : List Str
  sc : Scope
  gl : List (Str × GK)
def okName (x : Str) : Bool := !(x == ("__debug__" : Str)) && !(x == ("__classdict__" : Str))
def Gam.vis (Γ : Gam) (i : Nat) (x : Str) : Bool := decide (Γ.N[i]? = some x) && (decide (Γ.sc.names.lookup x = some .local) || (decide (Γ.sc.names.lookup x = some .cell) || decide (Γ.sc.names.lookup x = some .free)))
def Gam.loc (Γ : Gam) (i : Nat) (x : Str) : Bool := decide (Γ.N[i]? = some x) && (decide (Γ.sc.names.lookup x = some .local) || decide (Γ.sc.names.lookup x = some .cell))
def Gam.glo (Γ : Gam) (x : Str) (k : GK) : Bool := decide (Γ.sc.names.lookup x = some .globalImplicit) && decide (Γ.gl.lookup x = some k)
theorem okName_of {x : Str} (h : okName x = true) : (x == ("__debug__" : Str)) = false ∧ (x == ("__classdict__" : Str)) = false := by
  unfold okName at h
  rw [Bool.and_eq_true, Bool.not_eq_true', Bool.not_eq_true'] at h
  exact h
def notStar : Expr → Bool
  | .Starred _ _ => false
  | _ => true
def notSet : Expr → Bool
  | .Set _ _ _ => false
  | _ => true
def notIf : Expr → Bool
  | .IfExp _ _ _ _ => false
  | _ => true
def notSlice : Expr → Bool
  | .Slice _ _ _ _ => false
  | _ => true
def notComp : Expr → Bool
  | .ListComp _ _ _ _ => false
  | .SetComp _ _ _ _ => false
  | .DictComp _ _ _ _ _ => false
  | _ => true
/-- no call, at the head: super() is one -/
def notCall : Expr → Bool
  | .Call _ _ _ _ => false
  | _ => true
def isBool : Expr → Bool
  | .BoolOp _ _ _ => true
  | _ => false
def relS' (scope sc : Scope) : Scope :=
  { scope with names := scope.names.map fun (n, k) => if (k == .free && sc.kind == .function && sc.names.lookup n == some .cell) then (n, .cell) else (n, k) }
def Gam.blk (Γ : Gam) (scope : Scope) : Gam := { Γ with sc := relS' scope Γ.sc }
def ownN (Γ : Gam) (own : List Nat) : List (Str × Nat) := own.map fun i => (Γ.N.getD i Str.empty, i)
def tyGK : Ty → GK
  | .cls c => .cls c
  | _ => .blt
def nameArgs (Γ : Gam) : List Ty → Bool
  | [] => true
  | t :: r => (Γ.glo (Str.ofString (nmX t)) (tyGK t) && okName (Str.ofString (nmX t))) && nameArgs Γ r

def plainT : Expr → Bool
  | .UnaryOp .Not _ _ => false
  | .BoolOp _ _ _ => false
  | .IfExp _ _ _ _ => false
  | .Compare _ _ _ _ => false
  | _ => true
/-- a comprehension's one clause -/
def genOk : List Comprehension → Bool
  | [⟨_, _, _, a⟩] => decide (a = 0)
  | _ => false
def genT : List Comprehension → Expr
  | ⟨x, _, _, _⟩ :: _ => x
  | _ => default
def genI : List Comprehension → Expr
  | ⟨_, i, _, _⟩ :: _ => i
  | [] => default
def genF : List Comprehension → List Expr
  | ⟨_, _, f, _⟩ :: _ => f
  | [] => []
theorem gen_of {gens : List Comprehension} (h : genOk gens = true) : gens = [⟨genT gens, genI gens, genF gens, 0⟩] := by
  match gens, h with
  | [⟨tg, i, f, a⟩], h =>
    have h : decide (a = 0) = true := h
    have := of_decide_eq_true h
    subst this
    rfl
  | [], h => cases h
  | ⟨_, _, _, _⟩ :: ⟨_, _, _, _⟩ :: _, h => cases h
/-- a name that a comprehension's block stores -/
def Gam.own (Γ : Gam) (scope : Scope) (i : Nat) (x : Str) : Bool := (Γ.blk scope).loc i x && (decide ((Γ.blk scope).sc.names.lookup x = some .local) || decide (scope.names.lookup x = some .cell))
def ItK.nm : ItK → Str
  | .zip => "zip"
  | .enum => "enumerate"
  | .rev => "reversed"
  | .seq => Str.empty
def ItK.ar : ItK → Nat
  | .zip => 2
  | _ => 1
def Tg.isT : Tg → Bool
  | .t _ => true
  | _ => false
def ItK.tgOk : ItK → Tg → Bool
  | .rev, _ => true
  | .seq, _ => true
  | _, tg => tg.isT
/-- the slice ::-1 -/
def revB : Expr → Bool
  | .Slice none none (some (.UnaryOp .USub (.Constant (.int i) _ _) _)) _ => decide (i = 1)
  | _ => false
theorem rev_of {s : Expr} (h : revB s = true) : ∃ k p1 p2 p3, s = .Slice none none (some (.UnaryOp .USub (.Constant (.int 1) k p1) p2)) p3 := by
  unfold revB at h
  split at h
  · obtain rfl := of_decide_eq_true h
    exact ⟨_, _, _, _, rfl⟩
  · cases h
def tailB (op : BoolOp) (y : Expr) (rest : List Expr) (p : Pos) : Expr :=
  match rest with
  | [] => y
  | _ :: _ => .BoolOp op (y :: rest) p
def chkTy (cs : List Ty) : Expr → Bool
  | .Name y _ => decide (cs.map (fun t => Str.ofString (nmX t)) = [y])
  | .Tuple es _ _ => tyNamesX cs es
  | _ => false
/-- what is walked; ce, ca: its code's check -/
def chkI (Γ : Gam) (k : ItK) (tg : Tg) (ce : Expr → Bool) (ca : List Expr → Bool) : Expr → Bool
  | .Call (.Name z p) es kw cp => match k with
    | .seq => ce (.Call (.Name z p) es kw cp)
    | k => decide (z = k.nm) && (Γ.glo z .blt && (k.tgOk tg && (decide (es.length = k.ar) && (kw.isEmpty && ca es))))
  | e => match k with
    | .seq => notSet e && ce e
    | _ => false
mutual
def chkE (Γ : Gam) (m : Bool) : E → Expr → Bool
  | .var i, .Name x _ => Γ.vis i x && okName x
  | .int i, .Constant (.int j) _ _ => decide (i = j)
  | .bl b, .Constant (.bool c) _ _ => b == c
  | .non, .Constant .none _ _ => true
  | .str s, .Constant (.str x) _ _ => decide (x = Str.ofString s)
  | .gint x i, .Name y _ => decide (y = Str.ofString x) && (Γ.glo y (.int i) && okName y)
  | .bin op a b, .BinOp l o r _ => decide (o = op.op) && (chkE Γ false a l && chkE Γ false b r)
  | .neg a, .UnaryOp .USub x _ => chkE Γ false a x
  | .not a, .UnaryOp .Not x _ => notIf x && chkE Γ false a x
  | .chain o1 o2 a b c, .Compare l [p1, p2] [r1, r2] _ => decide (p1 = o1.op) && (decide (p2 = o2.op) && (notSet r2 && (chkE Γ false a l && (chkE Γ false b r1 && chkE Γ false c r2))))
  | .cmp op a b, .Compare l [o] [r] _ => decide (o = op.op) && (notSet r && (chkE Γ false a l && chkE Γ false b r))
  | .and a b, .BoolOp .And (x :: y :: rest) p => notIf x && (chkE Γ false a x && chkE Γ false b (tailB .And y rest p) && notIf (tailB .And y rest p))
  | .or a b, .BoolOp .Or (x :: y :: rest) p => notIf x && (chkE Γ false a x && chkE Γ false b (tailB .Or y rest p) && notIf (tailB .Or y rest p))
  | .ife c a b, .IfExp t x y _ => notIf t && (chkE Γ false c t && (chkE Γ false a x && chkE Γ false b y))
  | .tup as, .Tuple es _ _ => chkA Γ as es
  | .lst as, .List es _ => chkA Γ as es
  | .cell as, .List es _ => chkA Γ as es
  | .frz a, e => plainT e && (notComp e && chkE Γ false a e)
  | .catc a b, .BinOp l .Add r _ => chkE Γ false a l && chkE Γ false b r
  | .idx a i, .Subscript x s _ => notSlice s && (chkE Γ false a x && chkE Γ false i s)
  | .cut a lo hi, .Subscript x (.Slice l h none _) _ => chkE Γ false a x && (chkO Γ lo l && chkO Γ hi h)
  | .call _ f as, .Call (.Name x _) es [] _ => !es.isEmpty && (Γ.glo x (.fn f) && (okName x && chkA Γ as es))
  | .bi b as, .Call (.Name x _) es [] _ => !es.isEmpty && (decide (x = Str.ofString b.nm) && (Γ.glo x .blt && chkA Γ as es))
  | .isi e cs, .Call (.Name x _) [v, t] [] _ => decide (x = ("isinstance" : Str)) && (Γ.glo x .blt && (notStar v && (chkE Γ false e v && (!cs.isEmpty && (decide (cs.length ≤ sizeLine) && (nameArgs Γ cs && chkTy cs t))))))
  | .fld x o, .Attribute e y _ => decide (y = Str.ofString x) && (notCall e && chkE Γ false o e)
  | .mk c as, .Call (.Name y _) es [] _ => decide (y = Str.ofString c) && (Γ.glo y (.cls c) && (okName y && chkA Γ as es))
  | .meth x o as, .Call (.Attribute e y ap) es [] cp => decide (y = Str.ofString x) && ((ap.endLine == cp.line) && (decide (es.length < 30) && (notCall e && (chkE Γ false o e && chkA Γ as es))))
  | .app o e, .Call (.Attribute x m ap) [v] [] cp => decide (m = ("append" : Str)) && ((ap.endLine == cp.line) && (notStar v && (notCall x && (chkE Γ false o x && chkE Γ false e v))))
  | .comp _ own k tg it c elt, .ListComp el gens scope _ =>
    genOk gens && (tg.slots.all own.contains && (blkC Γ.N Γ.sc scope (ownN Γ own) && (chkT (Γ.own scope) tg (genT gens) && (chkI Γ k tg (chkE Γ true it) (chkA Γ it) (genI gens) && (chkC (Γ.blk scope) c (genF gens) && chkE (Γ.blk scope) false elt el)))))
  | .rev a, .Subscript x s _ => revB s && chkE Γ false a x
  | .irng1 a, .Call (.Name r _) [x] [] _ => m && (decide (r = ("range" : Str)) && (Γ.glo r .blt && (notStar x && chkE Γ false a x)))
  | .irng2 a b, .Call (.Name r _) [x, y] [] _ => m && (decide (r = ("range" : Str)) && (Γ.glo r .blt && (notStar x && (notStar y && (chkE Γ false a x && chkE Γ false b y)))))
  | _, _ => false
def chkO (Γ : Gam) : E → Option Expr → Bool
  | .nopart, none => true
  | .part e, some z => chkE Γ false e z
  | _, _ => false
def chkC (Γ : Gam) : E → List Expr → Bool
  | .bl true, [] => true
  | .cnd c, [i] => notIf i && chkE Γ false c i
  | _, _ => false
def chkA (Γ : Gam) : E → List Expr → Bool
  | .anil, [] => true
  | .acons e r, x :: xs => notStar x && (chkE Γ false e x && chkA Γ r xs)
  | _, _ => false
end
end MX
end

section
set_option maxRecDepth 100000
set_option maxHeartbeats 4000000
namespace MX
open PySem PySem.Spec PyProof.Rows L2

theorem lookup_zip : ∀ {ps : List Str} {us : List Value}, us.length = ps.length → ps.Nodup → ∀ (i : Nat) (x : Str) (u : Value), ps[i]? = some x → us[i]? = some u → (ps.zip us).lookup x = some u
  | [], _, _, _, _, _, _, h, _ => by simp at h
  | _ :: _, [], h, _, _, _, _, _, _ => by simp at h
  | p :: ps, v :: us, hl, nd, 0, x, u, h1, h2 => by
    simp at h1 h2
    subst h1 h2
    show (match p == p with | true => some v | false => _) = some v
    rw [beq_self_eq_true]
  | p :: ps, v :: us, hl, nd, i + 1, x, u, h1, h2 => by
    have h1 : ps[i]? = some x := by simpa using h1
    have h2 : us[i]? = some u := by simpa using h2
    have ne : (x == p) = false := beq_eq_false_iff_ne.mpr fun e => (List.nodup_cons.mp nd).1 (by rw [← e]; exact List.mem_of_getElem? h1)
    show (match x == p with | true => some v | false => (ps.zip us).lookup x) = some u
    rw [ne]
    exact lookup_zip (by simpa using hl) (List.nodup_cons.mp nd).2 i x u h1 h2
theorem filterMap_zip {ps : List Str} {us : List Value} (hl : us.length = ps.length) (nd : ps.Nodup) : (ps.filterMap fun n => ((ps.zip us).lookup n).map fun v => (n, v)) = ps.zip us := by
  have key : ∀ (qs : List Str) (ws : List Value), ws.length = qs.length → (∀ (i : Nat) x u, qs[i]? = some x → ws[i]? = some u → (ps.zip us).lookup x = some u) → (qs.filterMap fun n => ((ps.zip us).lookup n).map fun v => (n, v)) = qs.zip ws := fun qs => by
    induction qs with
    | nil => exact fun ws _ _ => by cases ws <;> rfl
    | cons q qs ih =>
      intro ws hl h
      cases ws with
      | nil => simp at hl
      | cons w ws =>
        have h0 := h 0 q w rfl rfl
        rw [List.filterMap_cons, h0]
        show (q, w) :: _ = (q, w) :: qs.zip ws
        rw [ih ws (by simpa using hl) fun i x u h1 h2 => h (i + 1) x u (by simpa using h1) (by simpa using h2)]
  exact key ps us hl fun i x u h1 h2 => lookup_zip hl nd i x u h1 h2
theorem none_zip {ps : List Str} {us : List Value} (hl : us.length = ps.length) (nd : ps.Nodup) : (ps.filter fun n => ((ps.zip us).lookup n).isNone) = [] := by
  rw [List.filter_eq_nil_iff]
  intro n hn
  obtain ⟨i, hi, e⟩ := List.getElem_of_mem hn
  rw [lookup_zip hl nd i n us[i] (by rw [List.getElem?_eq_getElem hi, e]) (List.getElem?_eq_getElem (by omega))]
  simp
def plainPs : Arguments → Bool
  | ⟨[], _, none, [], _, none, _⟩ => true
  | _ => false
def namesPs : Arguments → List Str
  | ⟨_, as, _, _, _, _, _⟩ => as.map (·.arg)
theorem bind_plain {x qual : Str} {params : Arguments} {body : List Stmt} {scope : Scope} {kV doc pm cdv ct : Value} {an : Option Addr} {us : List Value} (hp : plainPs params = true) (nd : (namesPs params).Nodup) (hl : us.length = (namesPs params).length) :
    bindArgs (PySem.W.fnOf x qual params body scope .none kV doc pm an cdv ct) ⟨us, []⟩ = pure ((namesPs params).zip us) := by
  obtain ⟨po, as, va, ko, kd, ka, ds⟩ := params
  cases po <;> cases va <;> cases ko <;> cases ka <;> first | (cases hp; done) | skip
  have nd : (as.map (·.arg)).Nodup := nd
  have hl : us.length = (as.map (·.arg)).length := hl
  unfold bindArgs
  simp only [PySem.W.fnOf, List.map_nil, List.nil_append, List.append_nil]
  have hg : ¬ us.length > (as.map (·.arg)).length := by omega
  generalize hps : as.map (·.arg) = ps at *
  have e1 : seqItems? Value.none = pure none := rfl
  rw [e1]
  have z1 := none_zip hl nd
  have z2 := filterMap_zip hl nd
  simp only [List.forIn_nil, pure_bind, Option.getD_none, List.toList_toArray, Array.toList_empty, List.length_nil, List.drop_nil, Nat.sub_zero, List.take_length, z1, List.isEmpty_nil, Bool.not_true, Bool.false_eq_true, if_false, List.zip_nil_right, List.append_nil, hg, decide_false, Bool.false_and, gt_iff_lt, Nat.zero_sub]
  rw [z2]
  show pure (ps.zip us) = pure ((as.map (·.arg)).zip us)
  rw [hps]
end MX
end

section
set_option maxRecDepth 100000
set_option maxHeartbeats 2000000
namespace MX
open PySem PySem.Spec PyProof.Rows
/-! ### an exception's own __init__: super().__init__('..'), then self.f = f -/
section
open PySem.W
variable {prog : Program} {w : World} {A : Around} {K : Frag} {C fI : Addr}
/-- the statements behind the first one: fields, each a parameter -/
def fldStmts (self : Str) : List (Str × Str) → List Stmt → Bool
  | [], [] => true
  | (f, v) :: r, .Assign [.Attribute (.Name o _) g _] (.Name x _) _ :: ss => decide (o = self) && (decide (g = f) && (decide (x = v) && fldStmts self r ss))
  | _, _ => false
/-- a record, its dict holding these -/
def RecD (h : Heap) (a C : Addr) (fs : List (Str × Value)) : Prop := ∃ (t1 : Addr), (fs = [] ∧ h.get? a = some ({ cls := .ref C, data := .fields #[.ref t1, .none, .none, .none, .bool false, .none] } : Obj)) ∨
  (fs ≠ [] ∧ ∃ dx, dx ≠ a ∧ h.get? a = some ({ cls := .ref C, dict := some dx, data := .fields #[.ref t1, .none, .none, .none, .bool false, .none] } : Obj) ∧ h.Ns1 dx (fun y => fs.lookup y))
/-- what the written part says of the class -/
structure RecK (K : Frag) (C : Addr) : Prop where
  ex : ∃ cd, clsIn K C = some cd ∧ PySem.HandSPX.refsVE cd.mro = true ∧ cd.hasDict = true
  sa : findIn K (.ref C) "__setattr__" = some (some (.builtin "object.__setattr__"))
/-- the slots while the fields are stored: the new heap keeps what stood ahead of the class's call -/
structure RecS (hp : Heap) (L : Addr) (m : Str → Option Value) (a C : Addr) (fs : List (Str × Value)) (h : Heap) : Prop where
  keep : ∀ b o, hp.get? b = some o → h.get? b = some o
  ns : h.Ns L m
  rec_ : RecD h a C fs
  new : ∀ dx t1, h.get? a = some ({ cls := .ref C, dict := some dx, data := .fields #[.ref t1, .none, .none, .none, .bool false, .none] } : Obj) → hp.objs.size ≤ dx ∧ dx ≠ L
theorem lookup_cons_if {α : Type} (f g : Str) (y : α) (fs : List (Str × α)) : ((f, y) :: fs).lookup g = if g = f then some y else fs.lookup g := by
  rw [List.lookup_cons]
  by_cases e : g = f
  · rw [beq_iff_eq.mpr e, if_pos e]
  · rw [beq_eq_false_iff_ne.mpr e, if_neg e]
/-- self.f = v of such a record -/
theorem rec_store {hp : Heap} {L a : Addr} {m : Str → Option Value} {fs : List (Str × Value)} {E : Value → Shared → Prop} {Q : Unit → Shared → Prop} {f : Str} {v : Value} {s : Shared} (kin : K.In hp) (rk : RecK K C) (ha : hp.get? a = none) (la : L ≠ a) (hL : hp.objs.size ≤ L) (hno : findIn K (.ref C) f = some none) (hz : fs.length ≤ 900)
    (S : RecS hp L m a C fs s.heap) (hq : ∀ h' tk', RecS hp L m a C ((f, v) :: fs) h' → Q () { s with heap := h', toks := tk' }) : wpAny (model prog w) A (setAttr (.ref a) f v) Q E s := by
  obtain ⟨cd, hcd, hm, hh⟩ := rk.ex
  obtain ⟨t1, ⟨rfl, ho⟩ | ⟨ne, dx, dne, ho, hns⟩⟩ := S.rec_
  · obtain ⟨h, g, d, t, os⟩ := s
    have X : K.In h := kin.keeps S.keep
    refine set_plain X (ox := { cls := .ref C, data := .fields #[.ref t1, .none, .none, .none, .bool false, .none] }) (od := none) ⟨ho, rfl, rfl, trivial⟩ rk.sa ?_
    refine PySem.HandSPX.exc_osa X ho hcd hm hh hno (fun h' tk' dx k dn dne hx hn => hq h' tk' ⟨fun b o e => ?_, ?_, ⟨t1, .inr ⟨by simp, dx, dne, hx, ?_⟩⟩, fun dx' t2 e => ?_⟩)
    · exact k b o (fun z => by rw [z, ha] at e; cases e) (S.keep b o e)
    · obtain ⟨oL, es, ep, e1, r⟩ := S.ns
      exact ⟨oL, es, ep, k _ _ la e1, r⟩
    · have e : (fun y => if y = f then some v else none) = fun y => List.lookup y [(f, v)] := by
        funext y
        rw [lookup_cons_if]
        rfl
      rw [← e]
      exact hn
    · rw [hx] at e
      cases e
      obtain ⟨oL, es, ep, e1, r⟩ := S.ns
      refine ⟨Nat.le_trans (Nat.le_trans hL (Nat.le_of_lt (Heap.lt_size (show h.get? L = some oL from e1)))) dn, fun z => ?_⟩
      have := Heap.lt_size (show h.get? L = some oL from e1)
      have dn : h.objs.size ≤ dx := dn
      rw [z] at dn
      exact absurd this (Nat.not_lt.mpr dn)
  · obtain ⟨h, g, d, t, os⟩ := s
    have X : K.In h := kin.keeps S.keep
    have hw : Within (fun y => fs.lookup y) (fs.map (·.1)) := fun y hy => by
      cases e : fs.lookup y with
      | none => exact absurd e hy
      | some z => exact List.mem_map.mpr ⟨(y, z), PySem.mem_of_lookup e, rfl⟩
    obtain ⟨oD, _, _, hoD, _, _⟩ := hns.count hw
    obtain ⟨n1, n2⟩ := S.new dx t1 ho
    refine set_plain X (ox := { cls := .ref C, dict := some dx, data := .fields #[.ref t1, .none, .none, .none, .bool false, .none] }) (od := some oD) ⟨ho, rfl, rfl, hoD⟩ rk.sa ?_
    refine PySem.OEX.osa_old X ho hns hw (by rw [List.length_map]; omega) hcd hm hh hno (fun h' tk' k hn => hq h' tk' ⟨fun b o e => ?_, ?_, ⟨t1, .inr ⟨by simp, dx, dne, k _ _ (Ne.symm dne) ho, ?_⟩⟩, fun dx' t2 e => ?_⟩)
    · exact k b o (fun z => absurd (Heap.lt_size e) (by rw [z]; exact Nat.not_lt.mpr n1)) (S.keep b o e)
    · obtain ⟨oL, es, ep, e1, r⟩ := S.ns
      exact ⟨oL, es, ep, k _ _ (Ne.symm n2) e1, r⟩
    · have e : (fun y => if y = f then some v else fs.lookup y) = fun y => List.lookup y ((f, v) :: fs) := by
        funext y
        rw [lookup_cons_if]
      rw [← e]
      exact hn
    · rw [k _ _ (Ne.symm dne) ho] at e
      cases e
      exact ⟨n1, n2⟩
/-- the fields, the last one first -/
def putAll (fvs : List (Str × Str)) (us : List Value) (fs : List (Str × Value)) : List (Str × Value) := ((fvs.map (·.1)).zip us).reverse ++ fs
/-- the fields, one after the other -/
theorem rec_stores {hp : Heap} {L a : Addr} {m : Str → Option Value} {E : Value → Shared → Prop} {env : Env} {self : Str} (kin : K.In hp) (rk : RecK K C) (ha : hp.get? a = none) (la : L ≠ a) (hL : hp.objs.size ≤ L)
    (hk : env.scope.kind = .function) (hl : env.locals = L) (hs : env.kindOf self = some .local) (hms : m self = some (.ref a)) (hds : (self == ("__debug__" : Str)) = false) {Q : List (Str × Value) → Shared → Prop} :
    ∀ (fvs : List (Str × Str)) (ss : List Stmt) (us : List Value) (fs : List (Str × Value)) (s : Shared), fldStmts self fvs ss = true → fvs.length = us.length → fs.length + fvs.length ≤ 900 →
    (∀ p ∈ fvs, findIn K (.ref C) p.1 = some none ∧ env.kindOf p.2 = some .local ∧ (p.2 == ("__debug__" : Str)) = false) → (∀ (i : Nat) p u, fvs[i]? = some p → us[i]? = some u → m p.2 = some u) → RecS hp L m a C fs s.heap →
    (∀ h' tk', RecS hp L m a C (putAll fvs us fs) h' → Q (putAll fvs us fs) { s with heap := h', toks := tk' }) →
    wpAny (model prog w) A (execs ss env) (fun f s' => f = .next ∧ Q (putAll fvs us fs) s') E s
  | [], [], us, fs, s, _, hlen, _, _, _, S, hq => by
    cases us with
    | nil => exact wpAny_execs_nil ⟨rfl, hq s.heap s.toks S⟩
    | cons _ _ => cases hlen
  | [], _ :: _, _, _, _, h, _, _, _, _, _, _ => by cases h
  | (f, x) :: r, [], _, _, _, h, _, _, _, _, _, _ => by cases h
  | (f, x) :: r, st :: ss, us, fs, s, h, hlen, hz, hf, hm, S, hq => by
    cases us with
    | nil => cases hlen
    | cons u us =>
      have hst : ∃ op ap vp p, st = .Assign [.Attribute (.Name self op) f ap] (.Name x vp) p ∧ fldStmts self r ss = true := by
        unfold fldStmts at h
        split at h
        · rename_i heq1 heq2; cases heq1
        · rename_i f' v' r' o op g ap x' vp p ss' heq1 heq2
          cases heq1
          cases heq2
          rw [Bool.and_eq_true, Bool.and_eq_true, Bool.and_eq_true, decide_eq_true_eq, decide_eq_true_eq, decide_eq_true_eq] at h
          obtain ⟨rfl, rfl, rfl, h4⟩ := h
          exact ⟨op, ap, vp, p, rfl, h4⟩
        · cases h
      obtain ⟨op, ap, vp, p, rfl, hr⟩ := hst
      obtain ⟨k1, k2, k3⟩ := hf (f, x) List.mem_cons_self
      have ns := S.ns
      rw [← hl] at ns
      refine wpAny_execs_cons (plainObj_wpAny_Assign_Attribute (wpAny_Name (wpAny_loadName_local hk k2 ns (hm 0 (f, x) u rfl rfl) (wpAny_Name (wpAny_loadName_local hk hs ns hms ?_) hds)) k3))
      refine rec_store kin rk ha la hL k1 (by simp at hz; omega) S fun h' tk' S' => ?_
      have go := rec_stores (E := E) kin rk ha la hL hk hl hs hms hds (Q := fun z s' => Q z s') r ss us ((f, u) :: fs) { s with heap := h', toks := tk' } hr (by simpa using hlen) (by simp at hz ⊢; omega) (fun q hq => hf q (List.mem_cons_of_mem _ hq)) (fun i q v e1 e2 => hm (i + 1) q v (by simpa using e1) (by simpa using e2)) S' (fun h2 tk2 S2 => by
        have e : putAll ((f, x) :: r) (u :: us) fs = putAll r us ((f, u) :: fs) := by unfold putAll; simp
        have z := hq h2 tk2 (by rw [e]; exact S2)
        rw [e] at z
        exact z)
      have e : putAll ((f, x) :: r) (u :: us) fs = putAll r us ((f, u) :: fs) := by unfold putAll; simp
      rw [e]
      exact go
end
end MX
end

section
set_option maxRecDepth 100000
set_option maxHeartbeats 2000000
namespace MX
open PySem PySem.Spec PyProof.Rows
/-- super().__init__('..') -/
def supCall (p0 p1 p2 p3 p4 : Pos) (j : Nat) (msg : Str) : Expr := .Call (.Attribute (.Call (.Name "super" p0) [] [] p1) "__init__" p2) [.Constant (.str msg) j p3] [] p4
theorem sup_ht {p0 p1 p2 p3 p4 : Pos} {j : Nat} {msg : Str} {env : Env} (hl : (p2.endLine == p4.line) = true) : eval (supCall p0 p1 p2 p3 p4 j msg) env = (do
      let ov ← attributeBase (.Call (.Name "super" p0) [] [] p1) "__init__" env (eval (.Call (.Name "super" p0) [] [] p1) env)
      standAt p2.atName
      let (f, first) ← holding [ov] (getMethod ov "__init__" (do return (← importBound (.Call (.Name "super" p0) [] [] p1) env).getD true))
      callWith p4 f first (backTo p4 (starEach [.Constant (.str msg) j p3] env)) []) := by
  have e1 : eval (supCall p0 p1 p2 p3 p4 j msg) env = (do
      let ov ← attributeBase (.Call (.Name "super" p0) [] [] p1) "__init__" env (eval (.Call (.Name "super" p0) [] [] p1) env)
      standAt p2.atName
      methodCall (.Call (.Name "super" p0) [] [] p1) "__init__" p2 p4 env ov 1 (backTo p4 (starEach [.Constant (.str msg) j p3] env)) []) := rfl
  have few : methodCallForm 1 (backTo p4 (starEach [.Constant (.str msg) j p3] env)) [] = true := rfl
  rw [e1]
  unfold methodCall calleeOf methodCallPos
  simp only [few, hl, if_true, Bool.not_true, Bool.false_or, pure_bind]
section
open PySem.W
variable {prog : Program} {w : World} {A : Around} {K : Frag} {C fI : Addr}
/-- what the written part says of the class's __init__ -/
structure IniK (prog : Program) (K : Frag) (C fI : Addr) (name qual : Str) (params : Arguments) (body : List Stmt) (scope : Scope) : Prop where
  fn : ∃ cc cda doc pm an ct kV oc od osl, K.lookup fI = some ⟨oc, od, .func (ksFn name qual params body scope .none kV doc pm an (.ref cda) ct cc), osl⟩ ∧ codeIn K (.ref cda) qual = true ∧
    (∃ ccl cdd vs ccs file tf, K.lookup cda = some ⟨ccl, cdd, .fields vs, ccs⟩ ∧ vs[2]? = some (.str file tf) ∧ ((prog.main.file : Str) == file) = true) ∧
    ∃ cl cld csl, K.lookup cc = some ⟨cl, cld, .cell (some (.ref C)), csl⟩
  cls : (clsIn K C).isSome = true
  sup : ks_superIn K C C "__init__" = some (some (.builtin "ValueError.__init__"))
  exI : ∃ bmB, excInitIn K C bmB "ValueError.__new__" = true ∧ bmB = [.type "ValueError", .type "Exception", .type "BaseException", .type "object"]
  subV : subIn K (.ref C) (.type "ValueError") = some true
  mro : mroIn K C (.ref C) = some true
  opq : nsIn K cStatics "thirdparty.any" = some none
/-- what a heap says of the module -/
structure ModH (mg : Str → Option Value) (h : Heap) : Prop where
  glob : h.Ns mainGlobals mg
  blt : ∃ mb, h.Ns builtinsNs mb ∧ ∀ x : Str, x ≠ "__name__" → mb x = bootBuiltins x
  lim : h.NoLimit
theorem ModH.keeps {mg : Str → Option Value} {h h' : Heap} (m : ModH mg h) (k : ∀ b o, h.get? b = some o → h'.get? b = some o) : ModH mg h' :=
  ⟨m.glob.keeps k, let ⟨mb, h1, h2⟩ := m.blt; ⟨mb, h1.keeps k, h2⟩, m.lim.keeps k⟩
theorem boot_super : bootBuiltins "super" = some (.type "super") := by decide +kernel
/-- the body's first statement -/
theorem sup_stmt {hp : Heap} {L a cc cda t0 : Addr} {m mg : Str → Option Value} {env : Env} {body : List Stmt} {self : Str} {E : Value → Shared → Prop} {Q : Flow → Shared → Prop} {p0 p1 p2 p3 p4 p5 : Pos} {j : Nat} {msg name qual : Str} {params : Arguments} {body0 : List Stmt} {scope : Scope} {ar : Arg} {s : Shared}
    {doc pm ct kV oc : Value} {an od : Option Addr} {osl : Array (Option Value)} (he : env = ksEnv qual scope L fI (.ref cda) cc) (ik : IniK prog K C fI name qual params body0 scope)
    (lk : K.lookup fI = some ⟨oc, od, .func (ksFn name qual params body0 scope .none kV doc pm an (.ref cda) ct cc), osl⟩)
    (hcode : ∃ ccl cdd vs ccs file tf, K.lookup cda = some ⟨ccl, cdd, .fields vs, ccs⟩ ∧ vs[2]? = some (.str file tf) ∧ ((prog.main.file : Str) == file) = true) (hcell : ∃ cl cld csl, K.lookup cc = some ⟨cl, cld, .cell (some (.ref C)), csl⟩)
    (kin : K.In hp) (md : ModH mg hp) (hsup : mg "super" = none) (F : Fr hp L s.heap m) (N : News hp L s.heap [(a, excObj C t0 none .none)]) (hp0 : (params.posonlyargs ++ params.args).head? = some ar) (har : ar.arg = self) (hv : m self = some (.ref a))
    (hks : scope.names.lookup ("super" : Str) = some .globalImplicit) (hkc : scope.names.lookup ("__class__" : Str) = some .free) (hka : scope.names.lookup self = some .local) (hk : scope.kind = .function)
    (htop : (prog.main.scope.names.lookup ("super" : Str)).isSome = false) (hl : (p2.endLine == p4.line) = true)
    (h : ∀ h' tk' t1, Fr hp L h' m → h'.get? a = some (excObj C t1 none .none) → Q .next { s with heap := h', toks := tk' }) :
    _root_.PySem.wpAt (model prog w) A (.func body env) (exec (.Expr (supCall p0 p1 p2 p3 p4 j msg) p5) env) Q E s := by
  subst he
  obtain ⟨ccl, cdd, vs, ccs, file, tf, hco, hvs, hfile⟩ := hcode
  obtain ⟨cl, cld, csl, hcc⟩ := hcell
  obtain ⟨cdD, hD⟩ := Option.isSome_iff_exists.mp ik.cls
  have hi : interactive (ksEnv qual scope L fI (.ref cda) cc) = false := by
    unfold interactive
    simp [hk]
  refine ks_wpAt_Expr_any (ks_wpAt_MethodCall ?_ (sup_ht hl)) hi rfl
  have X : K.In s.heap := kin.keeps F.keep
  have I : InstAt s.heap a (excObj C t0 none .none) C none := InstAt.of_exc0 N List.mem_cons_self
  obtain ⟨hh, g, d, t, os⟩ := s
  obtain ⟨oD, hD1, hD2⟩ : ∃ oD, hh.get? C = some oD ∧ oD.data = .cls cdD := by
    unfold clsIn at hD
    split at hD
    · rename_i c d cd' sl ho
      cases hD
      exact ⟨_, X _ _ ho, rfl⟩
    · cases hD
  have md2 := md.keeps F.keep
  obtain ⟨mb, hmb, hbt⟩ := md2.blt
  refine ks_wpAt_super_base (env := ksEnv qual scope L fI (.ref cda) cc) hks hkc (by decide) rfl (X _ _ lk) rfl hp0 rfl (X _ _ hco) rfl hvs hfile htop ?_
  refine ks_loadName_global hk hks (Calls.loadGlobal_builtin (env := ksEnv qual scope L fI (.ref cda) cc) md2.glob hsup hmb ((hbt _ (by decide +kernel)).trans boot_super) ⟨rfl, ?_⟩)
  refine wpAny_loadName_free hk hkc rfl ⟨_, X _ _ hcc, rfl⟩ ?_
  rw [har]
  refine wpAny_loadName_local hk hka F.ns hv ?_
  refine ks_wpAny_isType_cls hD1 hD2 ⟨rfl, ?_⟩
  refine ks_wpAny_call_super hD1 hD2 I.at_ I.cls (fun c e => ?_) (looks_mroIn X ik.mro) (fun h' e k => ?_)
  · have := I.no
    unfold notCls at this
    rw [e] at this
    exact Bool.noConfusion this
  obtain ⟨F1, N1, l1⟩ := ks_newsPush (s := ⟨hh, g, d, t, os⟩) F N rfl e k
  have I1 : InstAt h' a (excObj C t0 none .none) C none := InstAt.of_exc0 N1 (by simp)
  refine kxs_method (s := ⟨h', g, d, t, os⟩) kxs_ValueError F1 kin N1 List.mem_cons_self I1 ik.opq ik.sup ik.subV (by decide) fun q h2 F2 N2 l2 => ?_
  refine kxs_callWith1 (s := ⟨h2, g, d, t + 1, os⟩) N2 List.mem_cons_self ?_ rfl rfl
  show wpAny (model prog w) A (spliced ((false, eval (.Constant (.str msg) j p3) (ksEnv qual scope L fI (.ref cda) cc)) :: [])) _ E _
  refine Calls.spliced_cons (wpAny_Constant_str (Calls.spliced_nil ⟨kxs_at N2 List.mem_cons_self, ?_⟩))
  obtain ⟨bmB, hx, hb⟩ := ik.exI
  subst hb
  have na : ∀ p ∈ [(hh.objs.size, ks_superObj C a C)], p.1 ≠ a := fun p hp => by
    rw [List.mem_singleton] at hp
    subst hp
    exact Nat.ne_of_gt (l1 _ List.mem_cons_self)
  refine kxs_call (s := ⟨h2, g, d, t + 1 + 1, os⟩) F2 kin N2 PySem.F.excBase_ValueError hx List.mem_cons_self (.tail ?_ (.tail (na _ List.mem_cons_self) (.head (fun p hp => by cases hp)))) (by show 1 ≤ sizeLine; decide) fun t1 h3 F3 N3 _ => ?_
  · exact Nat.ne_of_gt (l2 (a, excObj C t0 none .none) (by simp))
  · exact h h3 _ t1 F3 (N3 (a, excObj C t1 none .none) (by simp)).1
end
end MX
end

section
set_option maxRecDepth 100000
set_option maxHeartbeats 2000000
namespace MX
open PySem PySem.Spec PyProof.Rows
section
open PySem.W
variable {prog : Program} {w : World} {A : Around} {K : Frag} {C fI : Addr}
/-- the body of such an __init__ -/
def supBody (self : Str) (fvs : List (Str × Str)) : List Stmt → Bool
  | .Expr (.Call (.Attribute (.Call (.Name sn _) [] [] _) mn p2) [.Constant (.str _) _ _] [] p4) _ :: ss => decide (sn = ("super" : Str)) && (decide (mn = ("__init__" : Str)) && ((p2.endLine == p4.line) && fldStmts self fvs ss))
  | _ => false
theorem supBody_of {self : Str} {fvs : List (Str × Str)} {body : List Stmt} (h : supBody self fvs body = true) : ∃ p0 p1 p2 p3 p4 p5 j msg ss, body = .Expr (supCall p0 p1 p2 p3 p4 j msg) p5 :: ss ∧ (p2.endLine == p4.line) = true ∧ fldStmts self fvs ss = true := by
  unfold supBody at h
  split at h
  · simp only [Bool.and_eq_true, decide_eq_true_eq] at h
    obtain ⟨rfl, rfl, h3, h4⟩ := h
    exact ⟨_, _, _, _, _, _, _, _, _, rfl, h3, h4⟩
  · cases h
theorem rev_lookup {ps : List Str} {us : List Value} (nd : ps.Nodup) (hl : us.length = ps.length) {i : Nat} {x : Str} {u : Value} (h1 : ps[i]? = some x) (h2 : us[i]? = some u) : (ps.zip us).reverse.lookup x = some u := by
  have key : ∀ (l : List (Str × Value)), (l.map (·.1)).Nodup → (x, u) ∈ l → l.lookup x = some u := fun l => by
    induction l with
    | nil => exact fun _ h => by cases h
    | cons a r ih =>
      obtain ⟨y, v⟩ := a
      intro nd h
      rw [List.lookup_cons]
      rcases List.mem_cons.mp h with e | e
      · cases e
        rw [beq_self_eq_true]
      · have ne : x ≠ y := fun z => (List.nodup_cons.mp nd).1 (List.mem_map.mpr ⟨(x, u), e, z⟩)
        rw [beq_eq_false_iff_ne.mpr ne]
        exact ih (List.nodup_cons.mp nd).2 e
  refine key _ ?_ ?_
  · rw [List.map_reverse, List.map_fst_zip (Nat.le_of_eq hl.symm)]
    exact List.pairwise_reverse.mpr (List.Pairwise.imp (fun h => Ne.symm h) nd)
  · rw [List.mem_reverse]
    refine List.mem_iff_getElem?.mpr ⟨i, ?_⟩
    rw [List.getElem?_zip_eq_some]
    exact ⟨h1, h2⟩
/-- the __init__'s form: Booleans of its text -/
def initB (fvs : List (Str × Str)) (self : Str) (params : Arguments) (body : List Stmt) (scope : Scope) : Bool :=
  plainPs params && (decide (namesPs params = self :: fvs.map (·.2)) && (decide (namesPs params).Nodup && (supBody self fvs body && ((scope.names.all fun y => !decide (y.2 = .cell)) && (!scope.isCoroutine && (!scope.isGenerator && (decide (scope.kind = .function) &&
    ((namesPs params).all (fun x => decide (scope.names.lookup x = some .local) && okName x) && (decide (scope.names.lookup ("super" : Str) = some .globalImplicit) && (decide (scope.names.lookup ("__class__" : Str) = some .free) && decide (fvs.length ≤ 900)))))))))))
theorem bind_plainX {x qual : Str} {params : Arguments} {body : List Stmt} {scope : Scope} {kV doc pm cdv ct : Value} {an : Option Addr} {cl : List (Str × Addr)} {us : List Value} (hp : plainPs params = true) (nd : (namesPs params).Nodup) (hl : us.length = (namesPs params).length) :
    bindArgs (fnX x qual params body scope cl .none kV doc pm an cdv ct) ⟨us, []⟩ = pure ((namesPs params).zip us) := by
  have z := bind_plain (x := x) (qual := qual) (params := params) (body := body) (scope := scope) (kV := kV) (doc := doc) (pm := pm) (cdv := cdv) (ct := ct) (an := an) (us := us) hp nd hl
  exact z
theorem init_code {hp : Heap} {a t0 : Addr} {mg : Str → Option Value} {fvs : List (Str × Str)} {self name qual : Str} {params : Arguments} {body : List Stmt} {scope : Scope} {us : List Value} {R : Result → Shared → Prop} {s : Shared}
    (ib : initB fvs self params body scope = true) (ik : IniK prog K C fI name qual params body scope) (rk : RecK K C) (kin : K.In hp) (md : ModH mg hp) (hsup : mg "super" = none) (htop : (prog.main.scope.names.lookup ("super" : Str)).isSome = false)
    (hno : ∀ p ∈ fvs, findIn K (.ref C) p.1 = some none) (hroom : A.depth < recursionLimit) (keep : ∀ b o, hp.get? b = some o → s.heap.get? b = some o) (ha : s.heap.get? a = some (excObj C t0 none .none)) (na : hp.get? a = none) (sz : hp.objs.size ≤ s.heap.objs.size) (hl : us.length = fvs.length)
    (h : ∀ L m h' tk', hp.objs.size ≤ L → RecS hp L m a C (putAll fvs us []) h' → R (.ok (.ret .none)) { s with heap := h', toks := tk' }) :
    codeAny (model prog w) A (.call (.ref fI) ⟨.ref a :: us, []⟩) R s := by
  obtain ⟨cc, cda, doc, pm, an, ct, kV, oc, od, osl, lk, hcd, hcode, hcell⟩ := ik.fn
  unfold initB at ib
  simp only [Bool.and_eq_true, decide_eq_true_eq, Bool.not_eq_true', List.all_eq_true] at ib
  obtain ⟨b1, b2, b3, b4, b5, b6, b7, b8, b9, b10, b11, b12⟩ := ib
  obtain ⟨p0, p1, p2, p3, p4, p5, j, msg, ss, rfl, hline, hss⟩ := supBody_of b4
  have hlen : (Value.ref a :: us).length = (namesPs params).length := by rw [b2]; simp [hl]
  have KX : K.In s.heap := kin.keeps keep
  have lim : s.heap.NoLimit := md.lim.keeps keep
  have bnd := bind_plainX (x := name) (qual := qual) (body := .Expr (supCall p0 p1 p2 p3 p4 j msg) p5 :: ss) (scope := scope) (kV := kV) (doc := doc) (pm := pm) (an := an) (cdv := .ref cda) (ct := ct) (cl := [("__class__", cc)]) b1 b3 hlen
  have selfIn : self ∈ namesPs params := by rw [b2]; exact List.mem_cons_self
  refine ks_codeAny_call_defAt (fd := ksFn name qual params (.Expr (supCall p0 p1 p2 p3 p4 j msg) p5 :: ss) scope .none kV doc pm an (.ref cda) ct cc) (body := .Expr (supCall p0 p1 p2 p3 p4 j msg) p5 :: ss) (binds := (namesPs params).zip (.ref a :: us))
    hroom (KX _ _ lk) rfl lim (codeRec_of KX hcd) rfl (.of_eq bnd) (fun x hx => by have := b5 x hx; simpa using this) (fun x hx => (b9 x.1 (List.of_mem_zip hx).1).1) (fun h1 hns hk1 => ?_) b6 b7 b8
  have laL : a ≠ s.heap.objs.size := Nat.ne_of_lt (Heap.lt_size ha)
  have F0 : Fr hp s.heap.objs.size h1 (fun x => ((namesPs params).zip (.ref a :: us)).reverse.lookup x) := ⟨hns, fun b o e => hk1 b o (keep b o e), sz⟩
  have N0 : News hp s.heap.objs.size h1 [(a, excObj C t0 none .none)] := fun p hp => by
    rw [List.mem_singleton] at hp
    subst hp
    exact ⟨hk1 _ _ ha, laL, na⟩
  have hvs : ((namesPs params).zip (.ref a :: us)).reverse.lookup self = some (.ref a) := rev_lookup b3 hlen (i := 0) (by rw [b2]; rfl) rfl
  have hhead : ∃ ar, (params.posonlyargs ++ params.args).head? = some ar ∧ ar.arg = self := by
    obtain ⟨po, as, va, ko, kd, ka, ds⟩ := params
    cases po with
    | cons _ _ => cases b1
    | nil =>
      cases as with
      | nil => cases b2
      | cons ar r =>
        have z : ar.arg :: r.map (·.arg) = self :: fvs.map (·.2) := b2
        exact ⟨ar, rfl, (List.cons.inj z).1⟩
  obtain ⟨ar, har1, har2⟩ := hhead
  refine ks_wpAt_execs_cons ?_
  refine sup_stmt (env := callEnv (ksFn name qual params (.Expr (supCall p0 p1 p2 p3 p4 j msg) p5 :: ss) scope .none kV doc pm an (.ref cda) ct cc) s.heap.objs.size fI) rfl ik lk hcode hcell kin md hsup F0 N0 har1 har2 hvs b10 b11 (b9 self selfIn).1 b8 htop hline ?_
  intro h2 tk2 t1 F2 ha2
  have S2 : RecS hp s.heap.objs.size (fun x => ((namesPs params).zip (.ref a :: us)).reverse.lookup x) a C [] h2 := ⟨F2.keep, F2.ns, ⟨t1, .inl ⟨rfl, ha2⟩⟩, fun dx t3 e => by rw [ha2] at e; cases e⟩
  refine wpAt_of_wpAny ?_
  refine wpAny_mono (rec_stores (env := callEnv (ksFn name qual params (.Expr (supCall p0 p1 p2 p3 p4 j msg) p5 :: ss) scope .none kV doc pm an (.ref cda) ct cc) s.heap.objs.size fI) (Q := fun fs s' => fs = putAll fvs us [] → ∀ z, z = Value.none → R (.ok (.ret z)) s') kin rk na laL.symm sz b8 rfl (b9 self selfIn).1 hvs (okName_of (b9 self selfIn).2).1 fvs ss us [] _ hss hl.symm (by simpa using b12) (fun p hp => ?_) (fun i p u e1 e2 => ?_) S2 fun h' tk' S' _ z ez => by subst ez; exact h _ _ h' tk' sz S') (fun f s' hf => ?_) fun e s' he => he
  · have m : p.2 ∈ namesPs params := by rw [b2]; exact List.mem_cons_of_mem _ (List.mem_map_of_mem hp)
    exact ⟨hno p hp, (b9 _ m).1, (okName_of (b9 _ m).2).1⟩
  · refine rev_lookup b3 hlen (i := i + 1) ?_ (by simpa using e2)
    rw [b2, List.getElem?_cons_succ, List.getElem?_map, e1]
    rfl
  · obtain ⟨rfl, hq⟩ := hf
    exact hq rfl _ rfl
end
end MX
end

section
set_option maxRecDepth 100000
set_option maxHeartbeats 2000000
namespace MX
open PySem PySem.Spec PyProof.Rows L2
/-- an exception class with such an __init__, as a place sees it -/
structure ExIni (X : Cx) (C : Addr) (fs : List String) : Prop where
  ex : ∃ (fI : Addr) (name qual : Str) (params : Arguments) (body : List Stmt) (scope : Scope) (self : Str) (fvs : List (Str × Str)), initB fvs self params body scope = true ∧ IniK X.prog X.K C fI name qual params body scope ∧
    fvs.map (·.1) = fs.map Str.ofString ∧ PySem.W.findIn X.K (.ref C) "__init__" = some (some (.ref fI)) ∧ PySem.W.typeIn X.K (.ref fI) = some (.type "function") ∧ fvs ≠ []
  oex : OexC X.K C
  no : ∀ f ∈ fs, PySem.W.findIn X.K (.ref C) (Str.ofString f) = some none
  few : fs.length ≤ 1000
  sup : X.mg "super" = none
  top : (X.prog.main.scope.names.lookup ("super" : Str)).isSome = false
theorem zip_lookup_rel : ∀ {fs : List Str} {vs : List V} {us : List Value}, Vals vs us → ∀ f, RelO ((fs.zip vs).lookup f) ((fs.zip us).lookup f)
  | [], _, _, _, f => trivial
  | x :: r, [], _, .nil, f => trivial
  | x :: r, v :: vs, u :: us, .cons a b, f => by
    show RelO (((x, v) :: r.zip vs).lookup f) (((x, u) :: r.zip us).lookup f)
    rw [List.lookup_cons, List.lookup_cons]
    by_cases e : f = x
    · rw [beq_iff_eq.mpr e]
      exact a
    · rw [beq_eq_false_iff_ne.mpr e]
      exact zip_lookup_rel b f
theorem vals_rev : ∀ {vs : List V} {us : List Value}, Vals vs us → Vals vs.reverse us.reverse
  | [], [], .nil => .nil
  | v :: vs, u :: us, .cons a b => by
    rw [List.reverse_cons, List.reverse_cons]
    exact (vals_rev b).append (.cons a .nil)
theorem zip_rev {α β : Type} : ∀ {xs : List α} {ys : List β}, xs.length = ys.length → (xs.zip ys).reverse = xs.reverse.zip ys.reverse
  | [], [], _ => rfl
  | x :: xs, y :: ys, h => by
    have h : xs.length = ys.length := by simpa using h
    rw [List.zip_cons_cons, List.reverse_cons, List.reverse_cons, List.reverse_cons, zip_rev h, List.zip_append (by simp [h])]
    rfl
section
variable {X : Cx} {C : Addr} {fs : List String} {x : Str} {e : Expr} {es : List Expr} {p pos : Pos} {t : TA}
theorem pmk_init (E : ExIni X C fs) (hr : Room 1 X.A) (hg : Gl X x) (hm : X.mg x = some (.ref C)) (ha : PA X (e :: es) t) (hdb : (x == ("__debug__" : Str)) = false)
    (he : starEach (e :: es) X.env = (false, eval e X.env) :: starEach es X.env) (hpl : (backTo pos (starEach es X.env)).any (·.1) = false) :
    PMk X (.Call (.Name x p) (e :: es) [] pos) (fun σ H Q => t σ H fun vs H1 => vs.length = fs.length ∧ vs.length ≤ 1000 ∧ ∀ d, H1 d = none → Q (.ref C) (some d) (upd H1 d (.xd ((fs.map Str.ofString).zip vs).reverse))) := by
  intro pins s σ H Q I h
  have T := E.oex
  obtain ⟨fI, name, qual, params, body, scope, self, fvs, hib, ik, hfv, iC, tI, fne⟩ := E.ex
  obtain ⟨nm, q, N, bs, bm, sn, sub, ab, col, dd, k0, k1, k2, k3, k5, hC, hbm⟩ := T.cls
  refine wpAny_Call_Name_kw (ld_glob I hg hm ?_ hdb)
  refine PySem.W.callWith_K (h₀ := X.base) I.ok.mod.kin T.kC (thn (ha.run pos pins s σ H _ I h) fun us s1 ⟨vs, H1, I1, r1, hl1, hz, q1⟩ => ⟨I1.kIn, ?_⟩) he hpl
  show wpAny _ _ (call (.ref C) us) _ _ _
  have mdl : ModH X.mg s1.heap := by
    have z := I1.mod
    exact ModH.keeps ⟨z.glob, z.blt, z.nolimit⟩ I1.bk
  have kin1 := I1.kIn
  obtain ⟨hp, g, dr, tk, os⟩ := s1
  have hcl : PySem.W.clsIn X.K C = some { name := nm, bases := bs, mro := .ref C :: bm, ns := N, qualname := q, hasDict := true, slotNames := sn, subclasses := sub, abstract := ab, collection := col, hasDel := false } := by unfold PySem.W.clsIn; rw [hC] <;> rfl
  have rk : RecK X.K C := ⟨⟨_, hcl, hbm, rfl⟩, T.sa⟩
  have hus : us.length ≤ sizeLine := by
    rw [← Paired.length r1, sizeLine_eq]
    omega
  have hlu : us.length = fvs.length := by
    have z := congrArg List.length hfv
    rw [List.length_map, List.length_map] at z
    rw [← Paired.length r1, hl1, z]
  have keep : ∀ b o, hp.get? b = some o → ((hp.push (PySem.W.kdv_tup us)).push (PySem.HandSPX.excO C hp.objs.size)).get? b = some o := fun b o e => Heap.get?_push_of_some _ (Heap.get?_push_of_some _ e)
  have hget : ((hp.push (PySem.W.kdv_tup us)).push (PySem.HandSPX.excO C hp.objs.size)).get? (hp.objs.size + 1) = some (PySem.HandSPX.excO C hp.objs.size) := by heap_get
  have na : hp.get? (hp.objs.size + 1) = none := by
    cases z : hp.get? (hp.objs.size + 1) with
    | none => rfl
    | some o => exact absurd (Heap.lt_size z) (Nat.not_lt.mpr (Nat.le_succ _))
  refine wpAny_call (PySem.HandSPX.call_own PySem.F.excBase_ValueError (fun Y => PySem.HandSPX.refsVE_contains Y bm hbm) (kin1 _ _ hC) (PySem.W.looks_findIn kin1 iC) (fun self => PySem.W.bind_fn kin1 self tI) hus ?_)
  refine init_code hib ik rk kin1 mdl E.sup E.top (fun p hp => ?_) (hr.make C us []).depth keep hget na (by show hp.objs.size ≤ _; rw [Heap.size_push, Heap.size_push]; exact Nat.le_succ_of_le (Nat.le_succ _)) hlu fun L m h' tk' hL S => ⟨rfl, ?_⟩
  · have z : p.1 ∈ fs.map Str.ofString := by rw [← hfv]; exact List.mem_map_of_mem hp
    obtain ⟨f, hf, ef⟩ := List.mem_map.mp z
    rw [← ef]
    exact E.no f hf
  · have une : putAll fvs us [] ≠ [] := fun z => by
      unfold putAll at z
      rw [List.append_nil, List.reverse_eq_nil_iff] at z
      cases fvs with
      | nil => exact fne rfl
      | cons a r =>
        cases us with
        | nil => cases hlu
        | cons u us => cases z
    obtain ⟨t1, ⟨ze, _⟩ | ⟨_, dx, dne, ho, hns⟩⟩ := S.rec_
    · exact absurd ze une
    obtain ⟨n1, n2⟩ := S.new dx t1 ho
    obtain ⟨G, g1, g2⟩ := restrict h' fun b => decide (b ≠ hp.objs.size + 1)
    have gk : ∀ b, b ≠ hp.objs.size + 1 → G.get? b = h'.get? b := fun b hb => g1 b (decide_eq_true hb)
    have ge : G.get? (hp.objs.size + 1) = none := g2 _ (by simp)
    have kG : ∀ b o, hp.get? b = some o → G.get? b = some o := fun b o e => by
      rw [gk b (fun z => by rw [z, na] at e; cases e)]
      exact S.keep b o e
    have nG : G.Ns1 dx (fun y => (putAll fvs us []).lookup y) := by
      obtain ⟨o, es, ep, e1, r⟩ := hns
      exact ⟨o, es, ep, by rw [gk dx dne]; exact e1, r⟩
    have eqv : (fun y => (putAll fvs us []).lookup y) = fun y => (((fs.map Str.ofString).zip us).reverse).lookup y := by
      unfold putAll
      rw [hfv, List.append_nil]
    have lfs : (fs.map Str.ofString).length = us.length := by rw [List.length_map, ← Paired.length r1, hl1]
    have rel : ∀ f, RelO ((((fs.map Str.ofString).zip vs).reverse).lookup f) ((fun y => (putAll fvs us []).lookup y) f) := fun f => by
      rw [eqv]
      show RelO _ ((((fs.map Str.ofString).zip us).reverse).lookup f)
      rw [zip_rev (by rw [List.length_map, hl1]), zip_rev lfs]
      exact zip_lookup_rel (vals_rev r1) f
    have hnd : H1 dx = none := I1.hok.fresh n1
    have J := I1.laid (h' := G) (t' := tk') (a := dx) (o := .xd ((fs.map Str.ofString).zip vs).reverse) kG n1 ⟨_, nG, rel⟩
    refine ⟨hp.objs.size + 1, _, _, ⟨G, g, dr, tk', os⟩, _, .ref C, some dx, rfl, J, fun b o e => ?_, ge, ho, ⟨rfl, rfl⟩, rfl, rfl, ?_, rfl, I1.bare, raises_own T.exC T.tyC, q1 dx hnd⟩
    · have e : G.get? b = some o := e
      by_cases hb : b = hp.objs.size + 1
      · rw [hb, ge] at e
        cases e
      · rw [gk b hb] at e
        exact e
    · rw [upd_ne (Ne.symm dne)]
      exact I1.hok.fresh (Nat.le_succ _)
end
end MX
end

section
set_option maxRecDepth 100000
set_option maxHeartbeats 2000000
namespace MX
open PySem PySem.Spec PyProof.Rows L2
/-! ### try with several clauses, each with a name or without -/
abbrev SuiteT := Addr → Value → Option Addr → TS
/-- the ends of a suite whose name goes behind it -/
def goneE (o : Option Nat) (D : Ends) : Ends := match o with
  | none => D
  | some i => { nx := fun σ H => D.nx (σ.set i none) H, rt := D.rt, bk := fun σ H => D.bk (σ.set i none) H, ct := fun σ H => D.ct (σ.set i none) H }
def heldS (o : Option Nat) (a : Addr) (σ : L2.St) : L2.St := match o with
  | none => σ
  | some i => σ.set i (some (.ref a))
/-- what the clauses wish of an exception -/
def wHs (K : PySem.W.Frag) (Wout : WX) (D : Ends) : List (Value × Option Nat × SuiteT) → WX
  | [] => Wout
  | (c, o, ts) :: r => fun cls d σ H => ∃ b, PySem.W.exmOne K cls c = some b ∧ (b = true → ∀ a, H a = none → ts a cls d (goneE o D) (heldS o a σ) H) ∧ (b = false → wHs K Wout D r cls d σ H)
/-- a clause's name -/
def NmH (X : Cx) (o : Option Nat) (n : Option Str) : Prop := match o, n with
  | none, none => True
  | some i, some x => X.N[i]? = some x ∧ X.env.kindOf x = some .local
  | _, _ => False
inductive HdsN (X : Cx) : List ExceptHandler → List (Value × Option Nat × SuiteT) → Prop
  | nil : HdsN X [] []
  | cons {x : Str} {c : Value} {o : Option Nat} {n : Option Str} {ts : SuiteT} {b₀ : Stmt} {suite : List Stmt} {np pos' : Pos} {hds : List ExceptHandler} {l : List (Value × Option Nat × SuiteT)} (hc : Names X x c) (hn : NmH X o n)
      (hsu : ∀ (a : Addr) (oe : Obj) (cls : Value) (d : Option Addr) (pn : List (Addr × Obj)), Zc cls d oe → (∃ vs, oe.data = .fields vs) → PSs (X.suite a ((a, oe) :: pn)) (b₀ :: suite) (ts a cls d)) (r : HdsN X hds l) :
      HdsN X (.ExceptHandler (some (.Name x np)) n (b₀ :: suite) pos' :: hds) ((c, o, ts) :: l)
section
variable {X : Cx} {body : List Stmt} {h₀ : ExceptHandler} {hds : List ExceptHandler} {l : List (Value × Option Nat × SuiteT)} {pos : Pos} {tb : WX → TS} {Wout : WX}
theorem ps_try_h (hs : X.stack = X.env :: X.outer) (hf : X.env.frame = some X.env.locals) (hN : X.N.Nodup) (tk : Takes X Wout)
    (hb : ∀ (W : WX) (pn : List (Addr × Obj)) (xe : Value → Shared → Prop), Takes (X.tr pn xe) W → PassesOwn (model X.prog X.w) X.A X.env xe → PSs (X.tr pn xe) body (tb W))
    (hh : HdsN X (h₀ :: hds) l) : PS X (.Try body (h₀ :: hds) [] [] pos) (fun D σ H => tb (wHs X.K Wout D l) D σ H) := by
  refine ⟨fun pins s σ H D I h => ?_⟩
  have ok := I.ok
  have frames : X.A.frames = some (X.env :: X.outer) := by rw [ok.frames, hs]
  refine wpAny_Try_except ?_
  let catch_ : Value → Shared → Prop := fun e s1 => wpAny (model X.prog X.w) X.A (noteFrame e X.env) (fun _ s2 => wpAny (model X.prog X.w) X.A (setFlight e none) (fun _ s3 =>
    wpAny (model X.prog X.w) X.A (handleBy e X.env (h₀ :: hds)) (SP X pins D) X.xe s3) X.xe s2) X.xe s1
  have run := (hb (wHs X.K Wout D l) (X.pn ++ pins) catch_ (fun u s' xx => ?c) PassesOwn.looking).run [] s σ H D (I.toTry _) h
  · refine wpAny_mono run (fun f s1 hsp => ?_) fun e s1 he => he
    cases f with
    | next =>
      obtain ⟨σ', H', J', q⟩ := hsp
      exact wpAny_execs_nil ⟨σ', H', J'.ofTry ok, q⟩
    | brk =>
      obtain ⟨σ', H', J', q⟩ := hsp
      exact ⟨σ', H', J'.ofTry ok, q⟩
    | cont =>
      obtain ⟨σ', H', J', q⟩ := hsp
      exact ⟨σ', H', J'.ofTry ok, q⟩
    | ret u =>
      obtain ⟨v, σ', H', J', r, q⟩ := hsp
      exact ⟨v, σ', H', J'.ofTry ok, r, q⟩
  case c =>
    obtain ⟨a, B, sI, pins', σ', H', cls, d, rfl, J', nb, up, sky, na, os, ag, wish⟩ := xx
    have J : Inv X pins σ' H' sI := J'.ofTry ok
    have sky2 : Sky B (X.env :: X.outer) a (Zc cls d) X.env.locals s'.heap := by rw [← hs]; exact sky
    show wpAny (model X.prog X.w) X.A (noteFrame (.ref a) X.env) _ _ _
    refine Sky.land Zc.steady frames hf sky2 fun h3 fl3 up3 => ?_
    have J3 : Inv X pins σ' H' { s' with heap := h3 } := J.landed nb fl3.1 (up.trans up3) os ag
    obtain ⟨oe3, vs3, he3, hz3, hd3⟩ := fl3.there
    have nfr : a ∉ frs (X.env :: X.outer) := fun hm => by
      obtain ⟨_, o', e', hnf⟩ := fl3.2.2.1.mem hm
      rw [he3] at e'
      cases e'
      exact hnf _ hd3
    have nL : a ≠ X.env.locals := fun z => nfr (List.mem_filterMap.mpr ⟨X.env, List.mem_cons_self, by rw [hf, z]⟩)
    have nF : a ∉ X.fs := fun hm => by
      obtain ⟨e, he, q⟩ := List.mem_filterMap.mp hm
      exact nfr (List.mem_filterMap.mpr ⟨e, List.mem_cons_of_mem _ he, q⟩)
    have S3 := J3.suite he3 hd3 na nL nF
    have go : ∀ {hds' : List ExceptHandler} {l' : List (Value × Option Nat × SuiteT)}, HdsN X hds' l' → wHs X.K Wout D l' cls d σ' H' →
        wpAny (model X.prog X.w) X.A (handleBy (.ref a) X.env hds') (SP X pins D) X.xe { s' with heap := h3 } := by
      intro hds' l' hk
      induction hk with
      | nil =>
        intro w
        refine wpAny_handleBy_nil ?_
        obtain ⟨k1, k2, k3, oe, vs, T, oT, ts', he, hz, hd, h1, hr⟩ := id fl3
        unfold PySem.passOn
        refine wpAny_bind (wpAny_field he hd h1 ?_)
        rw [if_neg (show ¬ ((Value.ref T == Value.none) = true) from by simp)]
        have fin : wpAny (model X.prog X.w) X.A (setFlight (.ref a) X.env.frame) (fun _ s4 => wpAny (model X.prog X.w) X.A (throw (.ref a) : Sem Flow) (SP X pins D) X.xe s4) X.xe { s' with heap := h3 } := by
          rw [hf]
          refine HandSPX.setFlight_upZ fl3 fun h4 hh4 up4 => wpAny_throw (tk _ _ ?_)
          exact ⟨a, B, sI, pins, σ', H', cls, d, rfl, J, nb, (up.trans up3).trans up4, .inr (.inr (by rw [hs]; exact hh4)), na, os, ag, w⟩
        first
          | exact wpAny_bind (wpAny_pure (wpAny_bind fin))
          | exact wpAny_bind fin
      | @cons x c o n ts b₀ suite np pos' hds2 l2 hc hn hsu r ih =>
        intro w
        obtain ⟨b, hb1, hyes, hno⟩ := w
        refine wpAny_handleBy_cons (codeAny_handlers_test ?_) (by intro q; cases q)
        have LT : PySem.W.Looks (model X.prog X.w) h3 (typeOf (.ref a)) cls := fun A Q E s k q => wpAny_typeOf_ref (k _ _ he3) (by rw [hz3.1]; exact q)
        have LM := PySem.W.exm_one (M := model X.prog X.w) (J3.kIn) LT hb1
        have test : ∀ {Q : Value → Shared → Prop} {E : Value → Shared → Prop}, Q c { s' with heap := h3 } → wpAny (model X.prog X.w) (X.A.mark (some (.ref a))) (eval (.Name x np) X.env) Q E { s' with heap := h3 } := fun {Q E} q => by
          obtain ⟨hg, hdbg, hm | ⟨hm, hv, hnn⟩⟩ := hc
          · exact ld_glob (X := X.suite a ((a, oe3) :: (X.pn ++ pins))) S3 hg hm q hdbg
          · exact ld_blt (X := X.suite a ((a, oe3) :: (X.pn ++ pins))) S3 hg hm hv q hnn hdbg
        refine test (LM.here ?_)
        cases b with
        | false =>
          show wpAny _ X.A (handleBy (.ref a) X.env hds2) _ _ _
          exact ih (hno rfl)
        | true =>
          have hy := hyes rfl a na
          cases o with
          | none =>
            cases n with
            | some x => exact hn.elim
            | none =>
              refine codeAny_handlers_suite ?_
              refine HandSPX.lands_againZ fl3 fun h4 fl4 up4 => ?_
              have J4 : Inv X pins σ' H' { s' with heap := h4 } := J.landed nb fl4.1 ((up.trans up3).trans up4) os ag
              obtain ⟨oe4, vs4, he4, hz4, hd4⟩ := fl4.there
              have S4 := J4.suite he4 hd4 na nL nF
              refine wpAny_mono ((hsu a oe4 cls d (X.pn ++ pins) hz4 ⟨_, hd4⟩).run [] _ _ H' _ S4 hy) (fun f s6 hsp => ?_) (fun _ _ z => False.elim z)
              cases f with
              | ret u =>
                obtain ⟨v6, σ6, H6, S6, r6, q6⟩ := hsp
                exact ⟨_, _, _, S6.unsuite ok, r6, q6⟩
              | _ =>
                obtain ⟨σ6, H6, S6, q6⟩ := hsp
                exact ⟨_, _, S6.unsuite ok, q6⟩
          | some i =>
            cases n with
            | none => exact hn.elim
            | some y =>
              obtain ⟨hi, hln⟩ := hn
              refine codeAny_handlers_suite_as ?_
              refine HandSPX.lands_againZ fl3 fun h4 fl4 up4 => ?_
              have J4 : Inv X pins σ' H' { s' with heap := h4 } := J.landed nb fl4.1 ((up.trans up3).trans up4) os ag
              obtain ⟨oe4, vs4, he4, hz4, hd4⟩ := fl4.there
              have S4 := J4.suite he4 hd4 na nL nF
              refine store_ok (X := X.suite a ((a, oe4) :: (X.pn ++ pins))) (v := .ref a) S4 hN hi (.inl hln) rfl (fun s5 S5 => ?_) (.inr hln)
              refine wpAny_mono ((hsu a oe4 cls d (X.pn ++ pins) hz4 ⟨_, hd4⟩).run [] s5 _ H' _ S5 hy) (fun f s6 hsp => ?_) (fun _ _ z => False.elim z)
              have end_ : ∀ {σ6 : L2.St} {H6 : Hp} {Q : Shared → Prop}, Inv (X.suite a ((a, oe4) :: (X.pn ++ pins))) [] σ6 H6 s6 → (∀ s7, Inv X pins (σ6.set i none) H6 s7 → Q s7) →
                  wpAny (model X.prog X.w) X.A (do bindName X.env y .none; unbindBehindTheSuite X.env y pos') (fun _ s7 => Q s7) X.xe s6 := fun {σ6 H6 Q} S6 hq => gone_ok (S6.unsuite ok) hN hi hln hq
              cases f with
              | ret u =>
                obtain ⟨v6, σ6, H6, S6, r6, q6⟩ := hsp
                exact end_ S6 fun s7 J7 => ⟨_, _, _, J7, r6, q6⟩
              | _ =>
                obtain ⟨σ6, H6, S6, q6⟩ := hsp
                exact end_ S6 fun s7 J7 => ⟨_, _, J7, q6⟩
    exact go hh wish
end
end MX
end

section
set_option maxRecDepth 100000
set_option maxHeartbeats 2000000
namespace MX
open PySem PySem.Spec PyProof.Rows
/-! ### isinstance of a caught exception, its dict there or not -/
section
open PySem.W PySem.Calls
variable {prog : Program} {w : World} {A : Around} {E : Value → Shared → Prop} {s : Shared} {K : Frag} {x D : Addr} {ox : Obj} {od : Option Obj}
theorem findObj_dataD {C : Addr} {name : Str} {a g : Value} (hc : (clsIn K C).isSome = true) (ha : findIn K (.ref C) name = some (some a)) (hg : specialIn K a "__get__" = some (some g)) (ht : takesIn K a = some true) : findObj K C od name = some (.bind g a) := by
  obtain ⟨cd, hc⟩ := Option.isSome_iff_exists.mp hc
  unfold findObj
  rw [hc, Option.bind_some, ha, Option.bind_some]
  simp [hg, ht]
theorem exc_class {Q : Option Value → Shared → Prop} (C : L2.ExcC K D) (X : K.In s.heap) (I : InstAt s.heap x ox D od) (h : Q (some (.ref D)) { s with toks := s.toks + 1 }) : wpAny (model prog w) A (getAttr? (.ref x) "__class__") Q E s := by
  have hf : findObj K D od "__class__" = some (.bind (.builtin "getset_descriptor.__get__") (.builtin "object.__class__")) := findObj_dataD (by obtain ⟨cd, hc, _⟩ := any_some C.hd; rw [hc]; rfl) C.ha C.hn C.ht
  obtain ⟨hp, g, d, t, os⟩ := s
  have k0 := I.type (M := model prog w)
  have k1 := looks_findIn (M := model prog w) X C.hg
  have k2 := looks_findIn (M := model prog w) X C.hk
  have k3 := looks_find (M := model prog w) X I hf
  have sub : Looks (model prog w) hp (isInstance (.ref x) (.type "BaseException")) true := k0.andThen (looks_subIn X C.hs)
  have n0 : (false && onTheHeap (Value.builtin "BaseException.__getattribute__")) = false := rfl
  have n2 : (Value.builtin "BaseException.__getattribute__" == Value.builtin "object.__getattribute__") = false := by decide +kernel
  have n1 : (onTheHeap (Value.ref D) && Value.builtin "BaseException.__getattribute__" == Value.builtin "object.__getattribute__") = false := by rw [n2]; rfl
  unfold getAttr? getAttrBy? getAttrBy
  refine wpAny_bind (wpAny_mkText (wpAny_bind (wpAny_attempt (wpAny_holding (wpAny_bind (k0.at (wpAny_bind (k1.at ?_))))))))
  show wpAny _ _ (if (onTheHeap (Value.ref D) && Value.builtin "BaseException.__getattribute__" == Value.builtin "object.__getattribute__") = true then _ else _) _ _ _
  rw [n1, if_neg Bool.false_ne_true]
  unfold getAttrByItsOwn hookBefore
  refine wpAny_bind ?_
  rw [if_pos (show onTheHeap (Value.ref D) = true from rfl)]
  refine k2.at ?_
  refine wpAny_bind (wpAny_attempt (wpAny_holding ?_))
  unfold callGetattribute
  rw [n0, if_neg Bool.false_ne_true]
  unfold boundAndCalled
  rw [PySem.F.excAttr_ValueError.ga.bind (.ref x)]
  refine wpAny_bind (wpAny_pure ?_)
  show wpAny _ _ (call (.builtin "BaseException.__getattribute__") [.ref x, .str "__class__" t]) _ _ _
  refine wpAny_call (codeAny_call_builtin PySem.F.excAttr_ValueError.ga.plain PySem.F.entry_bexc_ga ?_)
  refine @check_slot (model prog w) _ _ ⟨hp, g, d, t + 1, os⟩ "BaseException.__getattribute__" "BaseException" "__getattribute__" (.ref x) [.str "__class__" t] [] _ (by decide +kernel) (by decide +kernel) sub (PySem.F.args_bexc_ga (.ref x) (.str "__class__" t)) ?_
  unfold Builtin.«object.__getattribute__»
  refine wpAny_bind (wpAny_of_eq (a := ((Value.ref x : Value), [Value.str "__class__" t])) (by first | rfl | (simp only [slotArgs]; rfl)) ?_)
  refine wpAny_bind (wpAny_pure (wpAny_bind (k0.at (wpAny_bind (k3.at ?_)))))
  show wpAny _ _ (holding [Value.builtin "object.__class__"] (call (.builtin "getset_descriptor.__get__") [.builtin "object.__class__", .ref x, .ref D]) >>= ret) _ _ _
  refine wpAny_bind (wpAny_holding (wpAny_call (class_get (s := ⟨hp, g, d, t + 1, os⟩) (ox := ox) (od := od) X I C.hm ?_)))
  refine wpAny_pure ?_
  show wpAny _ _ (handedOut (.ref D)) _ _ _
  rw [handedOut_of (v := .ref D) rfl]
  first
    | exact wpAny_pure (wpAny_pure h)
    | exact wpAny_pure h
    | exact wpAny_pure (wpAny_bind (wpAny_pure (wpAny_pure h)))
theorem exc_kit (C : L2.ExcC K D) : KitX K (.ref x) (.ref D) (fun h => InstAt h x ox D od) where
  ty := fun _ _ _ I => I.type
  it := fun _ _ X _ => by
    obtain ⟨cdD, hcD, _⟩ := any_some C.hd
    unfold clsIn at hcD
    split at hcD
    · rename_i c' d' cd' sl' ho
      intro A' Q' E' s' k q
      unfold isType loadHead
      exact wpAny_bind (wpAny_loadPart (k _ _ (X _ _ ho)) (wpAny_pure q))
    · cases hcD
  ne := fun h tp dd its n sl X htp => by
    obtain ⟨cdD, hcD, _⟩ := any_some C.hd
    refine Bool.eq_false_iff.mpr fun q => ?_
    have e : D = tp := Value.ref.inj (beq_iff_eq.mp q)
    subst e
    unfold clsIn at hcD
    split at hcD
    · rename_i c' d' cd' sl' ho
      have z := (X _ _ ho).symm.trans htp
      cases z
    · cases hcD
  ca := fun X I k => exc_class C X I k
end
end MX
end

section
set_option maxRecDepth 100000
set_option maxHeartbeats 2000000
namespace MX
open PySem PySem.Spec PyProof.Rows L2
abbrev veB : List Value := [.type "ValueError", .type "Exception", .type "BaseException", .type "object"]
/-- a place's facts of the own exception classes -/
structure ExF (P : Prog) (fx : Fix) (X : Cx) : Prop where
  ini : ∀ c k l, P.xt c = some k → k.ini = some l → ExIni X (fx.ca c) l
  own : ∀ c k, P.xt c = some k → k.ini = none → PySem.W.excIn X.K (fx.ca c) veB "ValueError.__new__" = true
  rai : ∀ c k, P.xt c = some k → PySem.W.subIn X.K (.ref (fx.ca c)) (.type "BaseException") = some true ∧ PySem.W.typeIn X.K (.ref (fx.ca c)) = some (.type "type") ∧ PySem.W.keepIn X.K (.ref (fx.ca c)) = true
  fld : ∀ c k, P.xt c = some k → XfC X.K (fx.ca c) ∧ ExcC X.K (fx.ca c)
  exm : ∀ c k e k2, P.xt c = some k → P.xt e = some k2 → PySem.W.exmOne X.K (.ref (fx.ca c)) (.ref (fx.ca e)) = some (k.ups.contains e)
  kit : ∀ c k e k2, P.xt c = some k → P.xt e = some k2 → PySem.W.kitOne X.K (.ref (fx.ca c)) (.ref (fx.ca e)) = some (k.ups.contains e)
  kiv : ∀ c k, P.xt c = some k → PySem.W.kitOne X.K (.ref (fx.ca c)) (.type "ValueError") = some (k.ups.contains "ValueError")
theorem RelX.mono {fx : Fix} {g g' : Gh} {cls : Value} {d : Option Addr} {x : Exn} (h : RelX fx g cls d x) (l : g.le g') : RelX fx g' cls d x := by
  obtain ⟨h1, h2⟩ := h
  refine ⟨h1, ?_⟩
  rcases h2 with h2 | ⟨dd, vs, e1, e2, e3⟩
  · exact .inl h2
  · exact .inr ⟨dd, vs, e1, l.F _ _ e2, e3.mono l⟩
/-- the state of an except suite -/
structure SuP (fx : Fix) (x : Exn) (o : Option Nat) (a : Addr) (cls : Value) (d : Option Addr) (g : Gh) (dσ : DSt) (S : Store) (σ : L2.St) (H : Hp) : Prop where
  r : R fx g S H
  sl : Sl fx g dσ σ
  rx : RelX fx g cls d x
  at_ : ∀ j, o = some j → ∀ z, σ[j]? = some z → z = some (.ref a)
theorem SuP.up {fx : Fix} {x : Exn} {o : Option Nat} {a : Addr} {cls : Value} {d : Option Addr} {g g' : Gh} {dσ : DSt} {S : Store} {σ : L2.St} {H H' : Hp} (s : SuP fx x o a cls d g dσ S σ H) (l : g.le g') (r : R fx g' S H') : SuP fx x o a cls d g' dσ S σ H' :=
  ⟨r, s.sl.mono l, s.rx.mono l, s.at_⟩
/-- the reading of a suite's expression -/
def tXe (P : Prog) (fx : Fix) (o : Option Nat) (a : Addr) (cls : Value) (d : Option Addr) (c : XE) : TE := fun σ H Q => ∃ x k g dσ S, P.xt x.cls = some k ∧ SuP fx x o a cls d g dσ S σ H ∧ ∃ dv, xeD P x dσ c = some dv ∧ ∀ g' H' v, g.le g' → R fx g' S H' → RelD fx.K fx.ca g' v dv → Q v H'
def tXa (P : Prog) (fx : Fix) (o : Option Nat) (a : Addr) (cls : Value) (d : Option Addr) (c : XE) : TA := fun σ H Q => ∃ x k g dσ S, P.xt x.cls = some k ∧ SuP fx x o a cls d g dσ S σ H ∧ ∃ ds, xeD P x dσ c = some (.tup ds) ∧ ∀ g' H' vs, g.le g' → R fx g' S H' → RelL fx.K fx.ca g' vs ds → Q vs H'
section
variable {P : Prog} {fx : Fix} {X : Cx} {o : Option Nat} {a : Addr} {cls : Value} {d : Option Addr} {oe : Obj} {pn : List (Addr × Obj)} {e : Expr} {es : List Expr} {c c1 c2 : XE} {pos : Pos}
theorem x_const {Y : Cx} {v : V} {dv : D} (p : PE Y e (tC v)) (hc : ∀ x σ, xeD P x σ c = some dv) (hr : ∀ g, RelD fx.K fx.ca g v dv) : PE Y e (tXe P fx o a cls d c) :=
  pe_imp p fun σ H Q ⟨x, k, g, dσ, S, _, s, dv', h1, h2⟩ => by
    rw [hc] at h1
    cases h1
    exact h2 g H v (Gh.le.refl g) s.r (hr g)
theorem x_var {Y : Cx} {i : Nat} (p : PE Y e (tVar i)) : PE Y e (tXe P fx o a cls d (.var i)) :=
  pe_imp p fun σ H Q ⟨x, k, g, dσ, S, _, s, dv, h1, h2⟩ => by
    have h1 : (match dσ[i]? with
      | some (some d) => some d
      | _ => none) = some dv := h1
    cases e : dσ[i]? with
    | none => rw [e] at h1; cases h1
    | some z =>
      rw [e] at h1
      cases z with
      | none => cases h1
      | some z =>
        cases h1
        obtain ⟨v, e1, e2⟩ := s.sl.at_ i _ e
        exact ⟨v, e1, h2 g H v (Gh.le.refl g) s.r e2⟩
theorem SuP.slot {x : Exn} {g : Gh} {dσ : DSt} {S : Store} {σ : L2.St} {H : Hp} {i : Nat} (su : SuP fx x o a cls d g dσ S σ H) (ho : o = some i) (hl : i < σ.length) : σ[i]? = some (some (.ref a)) := by
  have e : σ[i]? = some σ[i] := List.getElem?_eq_getElem hl
  rw [e, su.at_ i ho _ e]
theorem x_fld {f : String} {y : Str} {i : Nat} (ef : ExF P fx X) (ho : o = some i) (hin : i < X.N.length) (hz : Zc cls d oe) (hf : ∃ vs, oe.data = .fields vs) (hy : y = Str.ofString f) (p : PE (X.suite a ((a, oe) :: pn)) e (tVar i)) (hb : attributeBase e y X.env (eval e X.env) = eval e X.env) :
    PE (X.suite a ((a, oe) :: pn)) (.Attribute e y pos) (tXe P fx o a cls d (.fld f)) := by
  subst hy
  refine ⟨fun pins s σ H Q I h => ?_⟩
  obtain ⟨x, k, g, dσ, S, hk, su, dv, h1, h2⟩ := h
  obtain ⟨rx1, rx2⟩ := su.rx
  have h1 : (match P.xt x.cls with
    | some k => match k.ini with
      | some l => if l.contains f then x.fs.lookup f else none
      | none => none
    | none => none) = some dv := h1
  rw [hk] at h1
  have h1 : (match k.ini with
      | some l => if l.contains f then x.fs.lookup f else none
      | none => none) = some dv := h1
  cases hi : k.ini with
  | none => rw [hi] at h1; cases h1
  | some l =>
    rw [hi] at h1
    have h1 : (if l.contains f then x.fs.lookup f else none) = some dv := h1
    by_cases hl : l.contains f = true
    · rw [if_pos hl] at h1
      have hno := (ef.ini x.cls k l hk hi).no f (List.contains_iff_mem.mp hl)
      refine (pe_xf (X := X) (cls := cls) (d := d) (C := fx.ca x.cls) (ef.fld x.cls k hk).1 hno hz hf p hb).run pins s σ H Q I ?_
      rcases rx2 with rx2 | ⟨dd, vs, e1, e2, e3⟩
      · rw [rx2.1] at h1
        cases h1
      · obtain ⟨v, e4, e5⟩ := e3.look h1
        exact ⟨.ref a, su.slot ho (by rw [I.len]; exact hin), rfl, rx1, dd, vs, v, e1, su.r.frz _ _ e2, e4, h2 g H v (Gh.le.refl g) su.r e5⟩
    · rw [if_neg hl] at h1
      cases h1
/-- isinstance(e, c) in the suite -/
theorem call_isX {D : Addr} (C : ExcC X.K D) (hz : Zc (.ref D) d oe) (hf : ∃ vs, oe.data = .fields vs) {pins : List (Addr × Obj)} {σ : L2.St} {H : Hp} {s : Shared} {Q : VK} {cv : Value} {b : Bool} (I : Inv (X.suite a ((a, oe) :: pn)) pins σ H s)
    (hd : d = none ∨ ∃ dd vs, d = some dd ∧ H dd = some (.xd vs)) (e : PySem.W.kitOne X.K (.ref D) cv = some b) (q : Q (.bl b) H) : wpAny (model X.prog X.w) (X.A.mark (some (.ref a))) (call (.builtin "isinstance") [.ref a, cv]) (EP (X.suite a ((a, oe) :: pn)) pins σ Q) (fun _ _ => False) s := by
  obtain ⟨hget, _⟩ := I.pin (a, oe) (List.mem_append.mpr (.inl List.mem_cons_self))
  obtain ⟨vs, hv⟩ := hf
  have J : ∃ od, PySem.W.InstAt s.heap a oe D od := by
    obtain ⟨oc, od, oda, osl⟩ := oe
    obtain ⟨h1, h2⟩ := hz
    dsimp only at h1 h2 hv
    subst h1 h2 hv
    rcases hd with rfl | ⟨dd, vs, rfl, hd⟩
    · exact ⟨none, hget, rfl, rfl, trivial⟩
    · have hx : ObjOk X.prog X.w H s.heap dd (.xd vs) := I.hok dd _ hd
      obtain ⟨mA, hns, hr⟩ := hx
      obtain ⟨od, ho, hl⟩ := lookIn_ns hns
      exact ⟨some od, hget, rfl, rfl, ho⟩
  obtain ⟨od, J⟩ := J
  exact PySem.W.kia_one (exc_kit C) I.kIn J e (fun z => nomatch z) fun tk => ⟨.bl b, H, I.kept (t' := tk) fun _ _ z => z, rfl, q⟩
theorem x_isi {c : String} {i : Nat} {y : Expr} {v2 : V} {p1 : Pos} (ef : ExF P fx X) (ho : o = some i) (hin : i < X.N.length) (hz : Zc cls d oe) (hf : ∃ vs, oe.data = .fields vs) (hg : Gl X "isinstance") (hm : X.mg "isinstance" = none)
    (p : PE (X.suite a ((a, oe) :: pn)) e (tVar i)) (py : PE (X.suite a ((a, oe) :: pn)) y (tC v2)) (hv : ∀ u, RelV v2 u → ∀ c0 k0, P.xt c0 = some k0 → PySem.W.kitOne X.K (.ref (fx.ca c0)) u = some (k0.ups.contains c))
    (he : starEach [e, y] X.env = (false, eval e X.env) :: starEach [y] X.env) (hy : starEach [y] X.env = (false, eval y X.env) :: starEach [] X.env) : PE (X.suite a ((a, oe) :: pn)) (.Call (.Name "isinstance" p1) [e, y] [] pos) (tXe P fx o a cls d (.isi c)) := by
  refine ⟨fun pins s σ H Q I h => ?_⟩
  obtain ⟨x, k, g, dσ, S, hk, su, dv, h1, h2⟩ := h
  obtain ⟨rx1, rx2⟩ := su.rx
  have h1 : (match P.xt x.cls with
    | some k => some (D.bl (k.ups.contains c))
    | none => none) = some dv := h1
  rw [hk] at h1
  cases h1
  subst rx1
  refine wpAny_Call_Name_kw (ld_blt (X := X.suite a ((a, oe) :: pn)) I hg hm PyProof.Rows.boot_isinstance ?_ (by decide) (by decide))
  have pa := pa_cons p (pa_cons py pa_nil hy) he
  refine PyProof.Rows.callWith_builtin1 (thn (pa.run pos pins _ σ H (fun vs H1 => vs = [.ref a, v2] ∧ H1 = H) I ⟨.ref a, su.slot ho (by rw [I.len]; exact hin), rfl, rfl⟩) fun us s1 ⟨vs, H1, I1, r, ev, eh⟩ => ?_) he (by show (backTo pos (starEach [y] X.env)).any (·.1) = false; rw [hy]; rfl)
  subst ev eh
  cases r with
  | cons ra r =>
    cases r with
    | cons rb r =>
      cases r
      cases ra
      refine call_isX (ef.fld x.cls k hk).2 hz hf I1 ?_ (hv _ rb x.cls k hk) (h2 g _ _ (Gh.le.refl g) su.r (.bl _))
      rcases rx2 with rx2 | ⟨dd, vs, e1, e2, e3⟩
      · exact .inl rx2.2
      · exact .inr ⟨dd, vs, e1, su.r.frz _ _ e2⟩
theorem x_not {Y : Cx} (p : PE Y e (tXe P fx o a cls d c)) : PE Y (.UnaryOp .Not e pos) (tXe P fx o a cls d (.not c)) :=
  pe_imp (pe_not p) fun σ H Q ⟨x, k, g, dσ, S, hk, su, dv, h1, h2⟩ => by
    have h1 : (match xeD P x dσ c with
      | some (.bl b) => some (D.bl (!b))
      | _ => none) = some dv := h1
    cases e : xeD P x dσ c with
    | none => rw [e] at h1; cases h1
    | some z =>
      rw [e] at h1
      cases z with
      | bl b =>
        cases h1
        exact ⟨x, k, g, dσ, S, hk, su, _, e, fun g' H' v l r rv => ⟨b, rv.iBl, h2 g' H' _ l r (.bl _)⟩⟩
      | _ => cases h1
theorem x_and {Y : Cx} {b : Expr} {rest : List Expr} (p : PE Y e (tXe P fx o a cls d c1)) (q : PE Y (.BoolOp .And (b :: rest) pos) (tXe P fx o a cls d c2)) : PE Y (.BoolOp .And (e :: b :: rest) pos) (tXe P fx o a cls d (.and c1 c2)) :=
  pe_imp (pe_and p q) fun σ H Q ⟨x, k, g, dσ, S, hk, su, dv, h1, h2⟩ => by
    have h1 : (match xeD P x dσ c1 with
      | some (.bl false) => some (.bl false)
      | some (.bl true) => match xeD P x dσ c2 with
        | some (.bl k) => some (.bl k)
        | _ => none
      | _ => none) = some dv := h1
    cases e : xeD P x dσ c1 with
    | none => rw [e] at h1; cases h1
    | some z =>
      rw [e] at h1
      cases z with
      | bl b =>
        refine ⟨x, k, g, dσ, S, hk, su, _, e, fun g' H' v l r rv => ⟨b, rv.iBl, ?_⟩⟩
        cases b with
        | false =>
          cases h1
          exact iteF (h2 g' H' _ l r (.bl _))
        | true =>
          have h1 : (match xeD P x dσ c2 with
            | some (.bl k) => some (D.bl k)
            | _ => none) = some dv := h1
          cases e2 : xeD P x dσ c2 with
          | none => rw [e2] at h1; cases h1
          | some z =>
            rw [e2] at h1
            cases z with
            | bl b2 =>
              cases h1
              exact iteT ⟨x, k, g', dσ, S, hk, su.up l r, _, e2, fun g2 H2 v l2 r2 rv => h2 g2 H2 v (l.trans l2) r2 rv⟩
            | _ => cases h1
      | _ => cases h1
theorem x_tup {Y : Cx} {x1} (p : PA Y es (tXa P fx o a cls d c)) : PE Y (.Tuple es x1 pos) (tXe P fx o a cls d (.tup c)) :=
  pe_imp (pe_tup p) fun σ H Q ⟨x, k, g, dσ, S, hk, su, dv, h1, h2⟩ => by
    have h1 : (match xeD P x dσ c with
      | some (.tup xs) => if xs.length ≤ sizeLine then some (D.tup xs) else none
      | _ => none) = some dv := h1
    cases e : xeD P x dσ c with
    | none => rw [e] at h1; cases h1
    | some z =>
      rw [e] at h1
      cases z with
      | tup xs =>
        have h1 : (if xs.length ≤ sizeLine then some (D.tup xs) else none) = some dv := h1
        by_cases hz : xs.length ≤ sizeLine
        · rw [if_pos hz] at h1
          cases h1
          refine ⟨x, k, g, dσ, S, hk, su, xs, e, fun g' H' vs l r rv => ⟨by rw [rv.length]; exact hz, fun p hp => ?_⟩⟩
          obtain ⟨r2, l2⟩ := r.laid (o := .tup vs) hp
          exact h2 _ _ _ (l.trans l2) r2 (.tup (show upd g'.F p (.tup vs) p = some (.tup vs) from upd_same) (rv.mono l2))
        · rw [if_neg hz] at h1
          cases h1
      | _ => cases h1
theorem x_anil {Y : Cx} : PA Y [] (tXa P fx o a cls d .anil) := pa_imp pa_nil fun σ H Q ⟨x, k, g, dσ, S, hk, su, ds, h1, h2⟩ => by
  cases h1
  exact h2 g H [] (Gh.le.refl g) su.r .nil
theorem x_acons {Y : Cx} (p : PE Y e (tXe P fx o a cls d c1)) (q : PA Y es (tXa P fx o a cls d c2)) (hs : starEach (e :: es) Y.env = (false, eval e Y.env) :: starEach es Y.env) : PA Y (e :: es) (tXa P fx o a cls d (.acons c1 c2)) :=
  pa_imp (pa_cons p q hs) fun σ H Q ⟨x, k, g, dσ, S, hk, su, ds, h1, h2⟩ => by
    have h1 : (match xeD P x dσ c1 with
      | some d => match xeD P x dσ c2 with
        | some (.tup xs) => some (D.tup (d :: xs))
        | _ => none
      | none => none) = some (.tup ds) := h1
    cases e : xeD P x dσ c1 with
    | none => rw [e] at h1; cases h1
    | some z =>
      rw [e] at h1
      have h1 : (match xeD P x dσ c2 with
        | some (.tup xs) => some (D.tup (z :: xs))
        | _ => none) = some (.tup ds) := h1
      cases e2 : xeD P x dσ c2 with
      | none => rw [e2] at h1; cases h1
      | some y =>
        rw [e2] at h1
        cases y with
        | tup xs =>
          cases h1
          exact ⟨x, k, g, dσ, S, hk, su, z, e, fun g' H' v l r rv => ⟨x, k, g', dσ, S, hk, su.up l r, xs, e2, fun g2 H2 vs l2 r2 rvs => h2 g2 H2 _ (l.trans l2) r2 (.cons (rv.mono l2) rvs)⟩⟩
        | _ => cases h1
end
end MX
end

section
set_option maxRecDepth 100000
set_option maxHeartbeats 4000000
namespace MX
open PySem PySem.Spec PyProof.Rows L2

def GOk (P : Prog) (n : Nat) (fx : Fix) (X : Cx) (x : Str) : GK → Prop
  | .blt => X.mg x = none
  | .int i => ∃ t, X.mg x = some (.int i t)
  | .fn f => CallOk P n fx.K fx.ca X x f
  | .cls c => X.mg x = some (.ref (fx.ca c)) ∧ PySem.W.keepIn X.K (.ref (fx.ca c)) = true ∧ P.kn c = true
  | .exc c => X.mg x = some (.ref (fx.ca c)) ∧ (P.xt c).isSome = true
structure XOk (P : Prog) (n : Nat) (Γ : Gam) (fx : Fix) (W : WX) (X : Cx) : Prop where
  hK : fx.K = X.K
  nd : X.N.Nodup
  N : X.N = Γ.N
  sc : X.env.scope = Γ.sc
  calm : X.calm = true
  tk : Takes X W
  un : X.A.units + 64 < cLine
  gl : ∀ x k, Γ.gl.lookup x = some k → GOk P n fx X x k
  ob : ObjF P n fx X
  xf : ExF P fx X
theorem isTrue_of {e : Expr} {env : Env} (h : plainT e = true) (whole : Sem Value) : isTrue e env whole = (do let v ← whole; standAt e.pos; holding [v] (truthy v)) := by
  cases e with
  | UnaryOp op x p => cases op <;> first | rfl | cases h
  | _ => first | rfl | cases h
theorem star_of {e : Expr} {es : List Expr} {env : Env} (h : notStar e = true) : starEach (e :: es) env = (false, eval e env) :: starEach es env := by
  cases e <;> first | rfl | cases h
theorem fold_of {e : Expr} {env : Env} (h : notSet e = true) (x : Value) : foldedSetIterable e env x = pure x := by
  cases e <;> first | rfl | cases h
theorem mark_of {e : Expr} (op : CmpOp) (h : notSet e = true) : behindInMarks op e = false := by
  cases e <;> first | rfl | cases h
theorem base_of {e : Expr} {attr : Str} {env : Env} (h : notCall e = true) : attributeBase e attr env (eval e env) = eval e env := by
  cases e <;> first | rfl | cases h
theorem plainIx_of {e : Expr} (h : notSlice e = true) : PlainIx e := fun o i => by
  cases e <;> first | rfl | cases h
section
variable {P : Prog} {n : Nat} {Γ : Gam} {fx : Fix} {W : WX} {X : Cx}
theorem XOk.glo (h : XOk P n Γ fx W X) {x : Str} {k : GK} (g : Γ.glo x k = true) : Gl X x ∧ GOk P n fx X x k := by
  unfold Gam.glo at g
  rw [Bool.and_eq_true] at g
  refine ⟨?_, h.gl x k (of_decide_eq_true g.2)⟩
  show X.env.scope.names.lookup x = _
  rw [h.sc]
  exact of_decide_eq_true g.1
theorem XOk.vis (h : XOk P n Γ fx W X) {x : Str} {i : Nat} (g : Γ.vis i x = true) : X.N[i]? = some x ∧ Vis X.env.scope x := by
  unfold Gam.vis at g
  rw [Bool.and_eq_true, Bool.or_eq_true, Bool.or_eq_true] at g
  refine ⟨by rw [h.N]; exact of_decide_eq_true g.1, ?_⟩
  unfold Vis
  rw [h.sc]
  rcases g.2 with e | e | e
  · exact .inl (of_decide_eq_true e)
  · exact .inr (.inl (of_decide_eq_true e))
  · exact .inr (.inr (of_decide_eq_true e))
theorem XOk.loc (h : XOk P n Γ fx W X) {x : Str} {i : Nat} (g : Γ.loc i x = true) : X.N[i]? = some x ∧ L2.Loc X.env.scope x := by
  unfold Gam.loc at g
  rw [Bool.and_eq_true, Bool.or_eq_true] at g
  refine ⟨by rw [h.N]; exact of_decide_eq_true g.1, ?_⟩
  unfold L2.Loc
  rw [h.sc]
  rcases g.2 with e | e
  · exact .inl (of_decide_eq_true e)
  · exact .inr (of_decide_eq_true e)
theorem takesF {X : Cx} : Takes X W0 := fun _ _ x => by
  obtain ⟨_, _, _, _, _, _, _, _, _, _, _, _, _, _, _, _, z⟩ := x
  exact z.elim
/-- a comprehension's block is such a place -/
theorem XOk.blk (h : XOk P n Γ fx W X) (s : Shared) (H : Hp) (scope : Scope) (C : Addr) (cl : List (Str × Addr)) (fp : List Addr) (fx' : Fix) (k1 : fx'.K = fx.K) (k2 : fx'.ca = fx.ca) : XOk P n (Γ.blk scope) fx' W0 (X.blk s H scope (compEnvC scope cl C X.env) fp) := by
  refine ⟨k1.trans h.hK, h.nd, h.N, ?_, h.calm, takesF, h.un, fun x k e => ?_, ?ob, ?xf⟩
  · show relabel scope X.env = relS' scope Γ.sc
    rw [← h.sc]
    rfl
  · have z := h.gl x k e
    cases k with
    | blt => exact z
    | int i => exact z
    | fn f =>
      have z : CallOk P n fx.K fx.ca X x f := z
      show CallOk P n fx'.K fx'.ca _ x f
      rw [k1, k2]
      exact ⟨z.ex⟩
    | cls c =>
      have z : X.mg x = some (.ref (fx.ca c)) ∧ PySem.W.keepIn X.K (.ref (fx.ca c)) = true ∧ P.kn c = true := z
      show X.mg x = some (.ref (fx'.ca c)) ∧ PySem.W.keepIn X.K (.ref (fx'.ca c)) = true ∧ P.kn c = true
      rw [k2]
      exact z
    | exc c =>
      have z : X.mg x = some (.ref (fx.ca c)) ∧ (P.xt c).isSome = true := z
      show X.mg x = some (.ref (fx'.ca c)) ∧ (P.xt c).isSome = true
      rw [k2]
      exact z
  case xf =>
    have o := h.xf
    refine ⟨fun c k l q1 q2 => ?_, fun c k q1 q2 => ?_, fun c k q => ?_, fun c k q => ?_, fun c k e k' q1 q2 => ?_, fun c k e k' q1 q2 => ?_, fun c k q => ?_⟩
    · rw [k2]
      have z := o.ini c k l q1 q2
      exact ⟨z.ex, z.oex, z.no, z.few, z.sup, z.top⟩
    · rw [k2]; exact o.own c k q1 q2
    · rw [k2]; exact o.rai c k q
    · rw [k2]; exact o.fld c k q
    · rw [k2]; exact o.exm c k e k' q1 q2
    · rw [k2]; exact o.kit c k e k' q1 q2
    · rw [k2]; exact o.kiv c k q
  case ob =>
    have o := h.ob
    refine ⟨fun c q => by rw [k2]; exact o.bits c q, fun c x q => by rw [k2]; exact o.lacks c x q, fun c x f m q => ?_, fun c k f m q1 q2 => ?_, fun q => by rw [k2]; exact o.own q⟩
    · rw [k1, k2]
      exact ⟨(o.meth c x f m q).ex⟩
    · rw [k1, k2]
      exact ⟨(o.mkk c k f m q1 q2).ex⟩
end
section
variable {P : Prog} {n : Nat} {Γ : Gam} {fx : Fix} {W : WX} {X : Cx}
theorem XOk.own1 (h : XOk P n Γ fx W X) : OwnK X.K fx.ca P.kn := by
  by_cases q : ∃ c, P.kn c = true
  · exact h.ob.own q
  · have no : ∀ {c : String} {α : Prop}, P.kn c = true → α := fun {c α} z => absurd ⟨c, z⟩ q
    exact ⟨fun c z => no z, fun c z => no z, by kernel_rfl, by kernel_rfl, fun c z => no z, fun c z => no z, fun c z => no z, fun c z => no z⟩
/-- o.y(..), as the machine walks it -/
theorem meth_ht {o : Expr} {y : Str} {ap pos : Pos} {es : List Expr} {env : Env} (hb : notCall o = true) (hl : (ap.endLine == pos.line) = true) (hs : (backTo pos (starEach es env)).all (!·.1) = true) (hn : es.length < 30) :
    eval (.Call (.Attribute o y ap) es [] pos) env = (do
      let z ← eval o env
      standAt ap.atName
      let (q, i) ← holding [z] (getMethod z y (do return (← importBound o env).getD true))
      callWith pos q i (backTo pos (starEach es env)) (backToKw pos (keywordEach [] env))) := by
  have e1 : eval (.Call (.Attribute o y ap) es [] pos) env = (do
      let ov ← attributeBase o y env (eval o env)
      standAt ap.atName
      methodCall o y ap pos env ov (es.length + 0) (backTo pos (starEach es env)) (backToKw pos (keywordEach [] env))) := rfl
  have few : methodCallForm (es.length + 0) (backTo pos (starEach es env)) (backToKw pos (keywordEach [] env)) = true := by
    unfold methodCallForm
    rw [hs]
    show (true && true && decide (es.length + 0 + 0 < 30)) = true
    rw [decide_eq_true (by omega)]
    rfl
  rw [e1, base_of hb]
  unfold methodCall calleeOf methodCallPos
  simp only [few, hl, if_true, Bool.not_true, Bool.false_or, pure_bind]
end
/-- what is shown of a code -/
structure Snd (P : Prog) (n : Nat) (c : E) (Γ : Gam) (fx : Fix) (W : WX) (X : Cx) : Prop where
  e : ∀ e, chkE Γ false c e = true → PE X e (tE fx W (evE P (run P n) c))
  t : ∀ e, chkE Γ false c e = true → notIf e = true → PT X e (tT fx W (evE P (run P n) c))
  w : ∀ e, chkE Γ false c e = true → isBool e = true → PW X e (tT fx W (evE P (run P n) c))
  i : ∀ tg e, chkE Γ true c e = true → PI X tg e (tI fx W .seq (evE P (run P n) c))
  a : ∀ es, chkA Γ c es = true → PA X es (tA fx W (evE P (run P n) c))
section
variable {P : Prog} {n : Nat} {c : E} {Γ : Gam} {fx : Fix} {W : WX} {X : Cx}
/-- a code whose expressions are plain tests -/
theorem Snd.plain (h : XOk P n Γ fx W X) (he : ∀ e, chkE Γ false c e = true → PE X e (tE fx W (evE P (run P n) c)) ∧ plainT e = true) (hm : ∀ e, chkE Γ true c e = true → chkE Γ false c e = true) (ha : ∀ es, chkA Γ c es = false) : Snd P n c Γ fx W X where
  e := fun e k => (he e k).1
  t := fun e k _ => t_truth h.hK (he e k).1 (isTrue_of (he e k).2)
  w := fun e k b => by
    have := (he e k).2
    cases e <;> first | (cases b; done) | (cases this; done)
  i := fun tg e k => i_seq h.hK (he e (hm e k)).1
  a := fun es k => by rw [ha es] at k; cases k
theorem snd_var {i : Nat} (h : XOk P n Γ fx W X) : Snd P n (.var i) Γ fx W X := by
  refine Snd.plain h (fun e k => ?_) (fun e k => ?_) (fun es => ?_)
  · cases e with
    | Name x p =>
      have k : (Γ.vis i x && okName x) = true := k
      rw [Bool.and_eq_true] at k
      obtain ⟨h1, h2⟩ := h.vis k.1
      obtain ⟨h3, h4⟩ := okName_of k.2
      exact ⟨s_var (pe_var h1 h2 h3 h4), rfl⟩
    | _ => cases k
  · cases e <;> first | (cases k; done) | exact k | (rename_i v _ _; cases v <;> first | (cases k; done) | exact k)
  · cases es <;> rfl
theorem snd_int {i : Int} (h : XOk P n Γ fx W X) : Snd P n (.int i) Γ fx W X := by
  refine Snd.plain h (fun e k => ?_) (fun e k => ?_) (fun es => ?_)
  · cases e with
    | Constant v j p =>
      cases v with
      | int j =>
        have k : decide (i = j) = true := k
        have := of_decide_eq_true k
        subst this
        exact ⟨s_const pe_int fun g => .int _, rfl⟩
      | _ => cases k
    | _ => cases k
  · cases e <;> first | (cases k; done) | exact k | (rename_i v _ _; cases v <;> first | (cases k; done) | exact k)
  · cases es <;> rfl
theorem snd_bl {i : Bool} (h : XOk P n Γ fx W X) : Snd P n (.bl i) Γ fx W X := by
  refine Snd.plain h (fun e k => ?_) (fun e k => ?_) (fun es => ?_)
  · cases e with
    | Constant v j p =>
      cases v with
      | bool j =>
        have k : (i == j) = true := k
        have := eq_of_beq k
        subst this
        exact ⟨s_const pe_bl fun g => .bl _, rfl⟩
      | _ => cases k
    | _ => cases k
  · cases e <;> first | (cases k; done) | exact k | (rename_i v _ _; cases v <;> first | (cases k; done) | exact k)
  · cases es <;> rfl
theorem snd_non (h : XOk P n Γ fx W X) : Snd P n .non Γ fx W X := by
  refine Snd.plain h (fun e k => ?_) (fun e k => ?_) (fun es => ?_)
  · cases e with
    | Constant v j p =>
      cases v with
      | none => exact ⟨s_const pe_non fun g => .non, rfl⟩
      | _ => cases k
    | _ => cases k
  · cases e <;> first | (cases k; done) | exact k | (rename_i v _ _; cases v <;> first | (cases k; done) | exact k)
  · cases es <;> rfl
theorem snd_str {s : String} (h : XOk P n Γ fx W X) : Snd P n (.str s) Γ fx W X := by
  refine Snd.plain h (fun e k => ?_) (fun e k => ?_) (fun es => ?_)
  · cases e with
    | Constant v j p =>
      cases v with
      | str j =>
        have k : decide (j = Str.ofString s) = true := k
        have := of_decide_eq_true k
        subst this
        exact ⟨s_const pe_str fun g => .str _, rfl⟩
      | _ => cases k
    | _ => cases k
  · cases e <;> first | (cases k; done) | exact k | (rename_i v _ _; cases v <;> first | (cases k; done) | exact k)
  · cases es <;> rfl
theorem snd_gint {x : String} {i : Int} (h : XOk P n Γ fx W X) : Snd P n (.gint x i) Γ fx W X := by
  refine Snd.plain h (fun e k => ?_) (fun e k => ?_) (fun es => ?_)
  · cases e with
    | Name y p =>
      have k : (decide (y = Str.ofString x) && (Γ.glo y (.int i) && okName y)) = true := k
      simp only [Bool.and_eq_true] at k
      obtain ⟨k1, k2, k3⟩ := k
      obtain ⟨h1, t, h2⟩ := h.glo k2
      exact ⟨s_const (v := .int i) (pe_glob h1 h2 ⟨t, rfl⟩ (okName_of k3).1) fun g => .int _, rfl⟩
    | _ => cases k
  · cases e <;> first | (cases k; done) | exact k | (rename_i v _ _; cases v <;> first | (cases k; done) | exact k)
  · cases es <;> rfl
theorem snd_bin {op : Bop} {a b : E} (h : XOk P n Γ fx W X) (sa : Snd P n a Γ fx W X) (sb : Snd P n b Γ fx W X) : Snd P n (.bin op a b) Γ fx W X := by
  refine Snd.plain h (fun e k => ?_) (fun e k => ?_) (fun es => ?_)
  · cases e with
    | BinOp l o r p =>
      have k : (decide (o = op.op) && (chkE Γ false a l && chkE Γ false b r)) = true := k
      simp only [Bool.and_eq_true] at k
      obtain ⟨k1, k2, k3⟩ := k
      have := of_decide_eq_true k1
      subst this
      exact ⟨s_bin (opD_own h.hK h.tk h.ob) (sa.e l k2) (sb.e r k3), rfl⟩
    | _ => cases k
  · cases e <;> first | (cases k; done) | exact k | (rename_i v _ _; cases v <;> first | (cases k; done) | exact k)
  · cases es <;> rfl
theorem snd_frz {a : E} (h : XOk P n Γ fx W X) (sa : Snd P n a Γ fx W X) : Snd P n (.frz a) Γ fx W X := by
  refine Snd.plain h (fun e k => ?_) (fun e k => k) (fun es => by cases es <;> rfl)
  have k : (plainT e && (notComp e && chkE Γ false a e)) = true := k
  simp only [Bool.and_eq_true] at k
  exact ⟨s_frz (sa.e e k.2.2), k.1⟩
theorem snd_catc {a b : E} (h : XOk P n Γ fx W X) (sa : Snd P n a Γ fx W X) (sb : Snd P n b Γ fx W X) : Snd P n (.catc a b) Γ fx W X := by
  refine Snd.plain h (fun e k => ?_) (fun e k => ?_) (fun es => ?_)
  · cases e with
    | BinOp l o r p =>
      cases o with
      | Add =>
        have k : (chkE Γ false a l && chkE Γ false b r) = true := k
        simp only [Bool.and_eq_true] at k
        exact ⟨s_bin opD_cat (sa.e l k.1) (sb.e r k.2), rfl⟩
      | _ => cases k
    | _ => cases k
  · cases e <;> first | (cases k; done) | exact k | (rename_i o _ _; cases o <;> first | (cases k; done) | exact k)
  · cases es <;> rfl
theorem snd_neg {a : E} (h : XOk P n Γ fx W X) (sa : Snd P n a Γ fx W X) : Snd P n (.neg a) Γ fx W X := by
  refine Snd.plain h (fun e k => ?_) (fun e k => ?_) (fun es => ?_)
  · cases e with
    | UnaryOp o x p =>
      cases o with
      | USub => exact ⟨s_nego h.hK h.tk h.ob (sa.e x k), rfl⟩
      | _ => cases k
    | _ => cases k
  · cases e with
    | UnaryOp o x p => cases o <;> first | (cases k; done) | exact k
    | _ => cases k
  · cases es <;> rfl
theorem snd_tup {a : E} (h : XOk P n Γ fx W X) (sa : Snd P n a Γ fx W X) : Snd P n (.tup a) Γ fx W X := by
  refine Snd.plain h (fun e k => ?_) (fun e k => ?_) (fun es => ?_)
  · cases e with
    | Tuple es x p => exact ⟨s_tup (sa.a es k), rfl⟩
    | _ => cases k
  · cases e <;> first | (cases k; done) | exact k | (rename_i v _ _; cases v <;> first | (cases k; done) | exact k)
  · cases es <;> rfl
theorem snd_lst {a : E} (h : XOk P n Γ fx W X) (sa : Snd P n a Γ fx W X) : Snd P n (.lst a) Γ fx W X := by
  refine Snd.plain h (fun e k => ?_) (fun e k => ?_) (fun es => ?_)
  · cases e with
    | List es p => exact ⟨s_lst (sa.a es k), rfl⟩
    | _ => cases k
  · cases e <;> first | (cases k; done) | exact k | (rename_i v _ _; cases v <;> first | (cases k; done) | exact k)
  · cases es <;> rfl
theorem snd_cell {a : E} (h : XOk P n Γ fx W X) (sa : Snd P n a Γ fx W X) : Snd P n (.cell a) Γ fx W X := by
  refine Snd.plain h (fun e k => ?_) (fun e k => ?_) (fun es => ?_)
  · cases e with
    | List es p => exact ⟨s_cell (sa.a es k), rfl⟩
    | _ => cases k
  · cases e <;> first | (cases k; done) | exact k | (rename_i v _ _; cases v <;> first | (cases k; done) | exact k)
  · cases es <;> rfl
theorem snd_idx {a b : E} (h : XOk P n Γ fx W X) (sa : Snd P n a Γ fx W X) (sb : Snd P n b Γ fx W X) : Snd P n (.idx a b) Γ fx W X := by
  refine Snd.plain h (fun e k => ?_) (fun e k => ?_) (fun es => ?_)
  · cases e with
    | Subscript x s p =>
      have k : (notSlice s && (chkE Γ false a x && chkE Γ false b s)) = true := k
      simp only [Bool.and_eq_true] at k
      obtain ⟨k1, k2, k3⟩ := k
      exact ⟨s_idx h.hK (sa.e x k2) (sb.e s k3) (plainIx_of k1), rfl⟩
    | _ => cases k
  · cases e <;> first | (cases k; done) | exact k | (rename_i v _ _; cases v <;> first | (cases k; done) | exact k)
  · cases es <;> rfl
theorem snd_cut {a lo hi : E} (h : XOk P n Γ fx W X) (sa : Snd P n a Γ fx W X) (sl : ∀ e, lo = .part e → Snd P n e Γ fx W X) (sh : ∀ e, hi = .part e → Snd P n e Γ fx W X) : Snd P n (.cut a lo hi) Γ fx W X := by
  refine Snd.plain h (fun e k => ?_) (fun e k => ?_) (fun es => ?_)
  · cases e with
    | Subscript x s p =>
      cases s with
      | Slice l u st p2 =>
        cases st with
        | some st => cases k
        | none =>
          have k : (chkE Γ false a x && (chkO Γ lo l && chkO Γ hi u)) = true := k
          simp only [Bool.and_eq_true] at k
          obtain ⟨k1, k2, k3⟩ := k
          have part : ∀ (c : E) (o : Option Expr), (∀ e, c = .part e → Snd P n e Γ fx W X) → chkO Γ c o = true → PO X o (tO fx W (evE P (run P n) c)) := fun c o sc kc => by
            cases c <;> cases o <;> first | (cases kc; done) | skip
            · exact o_none
            · exact o_some ((sc _ rfl).e _ kc)
          exact ⟨s_cut h.hK (sa.e x k1) (part lo l sl k2) (part hi u sh k3), rfl⟩
      | _ => cases k
    | _ => cases k
  · cases e with
    | Subscript x s p =>
      cases s with
      | Slice l u st p2 => cases st <;> first | (cases k; done) | exact k
      | _ => cases k
    | _ => cases k
  · cases es <;> rfl
theorem snd_rev {a : E} (h : XOk P n Γ fx W X) (sa : Snd P n a Γ fx W X) : Snd P n (.rev a) Γ fx W X := by
  refine Snd.plain h (fun e k => ?_) (fun e k => ?_) (fun es => ?_)
  · cases e with
    | Subscript x s p =>
      have k : (revB s && chkE Γ false a x) = true := k
      rw [Bool.and_eq_true] at k
      obtain ⟨kk, p1, p2, p3, rfl⟩ := rev_of k.1
      exact ⟨s_rev h.hK (sa.e x k.2), rfl⟩
    | _ => cases k
  · cases e <;> first | (cases k; done) | exact k
  · cases es <;> rfl
theorem star_none {es : List Expr} {pos : Pos} {env : Env} : ∀ {c : E}, chkA Γ c es = true → (backTo pos (starEach es env)).any (·.1) = false := by
  induction es with
  | nil => exact fun _ => rfl
  | cons x r ih =>
    intro c k
    cases c with
    | acons e q =>
      have k : (notStar x && (chkE Γ false e x && chkA Γ q r)) = true := k
      simp only [Bool.and_eq_true] at k
      rw [star_of k.1]
      exact ih k.2.2
    | _ => cases k
theorem args_of {e : Expr} {es : List Expr} {pos : Pos} {env : Env} {c : E} (k : chkA Γ c (e :: es) = true) : starEach (e :: es) env = (false, eval e env) :: starEach es env ∧ (backTo pos (starEach es env)).any (·.1) = false := by
  cases c with
  | acons u q =>
    have k : (notStar e && (chkE Γ false u e && chkA Γ q es)) = true := k
    simp only [Bool.and_eq_true] at k
    exact ⟨star_of k.1, star_none k.2.2⟩
  | _ => cases k
theorem snd_call {m : Mode} {f : String} {a : E} (h : XOk P n Γ fx W X) (sa : Snd P n a Γ fx W X) : Snd P n (.call m f a) Γ fx W X := by
  refine Snd.plain h (fun e k => ?_) (fun e k => ?_) (fun es => ?_)
  · cases e with
    | Call fn es kw p =>
      cases fn with
      | Name x p2 =>
        cases kw with
        | cons z zs => cases k
        | nil =>
          have k : (!es.isEmpty && (Γ.glo x (.fn f) && (okName x && chkA Γ a es))) = true := k
          simp only [Bool.and_eq_true] at k
          obtain ⟨k1, k2, k3, k4⟩ := k
          cases es with
          | nil => cases k1
          | cons e es =>
            obtain ⟨h1, h2⟩ := h.glo k2
            obtain ⟨h3, h4⟩ := args_of (pos := p) (env := X.env) k4
            exact ⟨s_call h.hK h.tk h1 h2 (sa.a _ k4) (okName_of k3).1 h3 h4, rfl⟩
      | _ => cases k
    | _ => cases k
  · cases e with
    | Call fn es kw p => cases fn <;> first | (cases k; done) | (cases kw <;> first | (cases k; done) | exact k)
    | _ => cases k
  · cases es <;> rfl
theorem snd_bi {b : Bi} {a : E} (h : XOk P n Γ fx W X) (sa : Snd P n a Γ fx W X) : Snd P n (.bi b a) Γ fx W X := by
  refine Snd.plain h (fun e k => ?_) (fun e k => ?_) (fun es => ?_)
  · cases e with
    | Call fn es kw p =>
      cases fn with
      | Name x p2 =>
        cases kw with
        | cons z zs => cases k
        | nil =>
          have k : (!es.isEmpty && (decide (x = Str.ofString b.nm) && (Γ.glo x .blt && chkA Γ a es))) = true := k
          simp only [Bool.and_eq_true] at k
          obtain ⟨k1, k2, k3, k4⟩ := k
          cases es with
          | nil => cases k1
          | cons e es =>
            obtain ⟨h1, h2⟩ := h.glo k3
            obtain ⟨h3, h4⟩ := args_of (pos := p) (env := X.env) k4
            exact ⟨s_biX h.hK h.calm h.tk h.ob (of_decide_eq_true k2) h1 h2 (sa.a _ k4) h3 h4, rfl⟩
      | _ => cases k
    | _ => cases k
  · cases e with
    | Call fn es kw p => cases fn <;> first | (cases k; done) | (cases kw <;> first | (cases k; done) | exact k)
    | _ => cases k
  · cases es <;> rfl
theorem names_of (h : XOk P n Γ fx W X) : ∀ {ts : List Ty}, nameArgs Γ ts = true → ∀ t ∈ ts, NmOk X fx.ca t ∧ (∀ c, t = .cls c → P.kn c = true)
  | t :: r, k, u, hu => by
    unfold nameArgs at k
    rw [Bool.and_eq_true, Bool.and_eq_true] at k
    rcases List.mem_cons.mp hu with e | e
    · subst e
      obtain ⟨g, q⟩ := h.glo k.1.1
      have d := (okName_of k.1.2).1
      cases u with
      | cls c =>
        have q : X.mg (Str.ofString c) = some (.ref (fx.ca c)) ∧ PySem.W.keepIn X.K (.ref (fx.ca c)) = true ∧ P.kn c = true := q
        exact ⟨⟨g, q.1, d⟩, fun c' z => by cases z; exact q.2.2⟩
      | _ => exact ⟨⟨g, q⟩, fun c' z => by cases z⟩
    · exact names_of h k.2 u e
theorem snd_isi {a : E} {cs : List Ty} (h : XOk P n Γ fx W X) (sa : Snd P n a Γ fx W X) : Snd P n (.isi a cs) Γ fx W X := by
  refine Snd.plain h (fun e k => ?_) (fun e k => ?_) (fun es => ?_)
  · cases e with
    | Call fn es kw p =>
      cases fn with
      | Name x p2 =>
        match es, kw, k with
        | [v, t], [], k =>
          have k : (decide (x = ("isinstance" : Str)) && (Γ.glo x .blt && (notStar v && (chkE Γ false a v && (!cs.isEmpty && (decide (cs.length ≤ sizeLine) && (nameArgs Γ cs && chkTy cs t))))))) = true := k
          simp only [Bool.and_eq_true] at k
          obtain ⟨k1, k2, k3, k4, k6, k7, k8, k9⟩ := k
          have := of_decide_eq_true k1
          subst this
          obtain ⟨h1, h2⟩ := h.glo k2
          have hn := names_of h k8
          have hst : starEach [v, t] X.env = (false, eval v X.env) :: starEach [t] X.env := star_of k3
          refine ⟨?_, rfl⟩
          cases t with
          | Name y p3 =>
            have k9 := of_decide_eq_true k9
            match cs, k9 with
            | [t0], k9 =>
              have ey : y = Str.ofString (nmX t0) := by
                have := List.cons.inj k9
                exact this.1.symm
              have hn0 := hn t0 List.mem_cons_self
              subst ey
              exact s_isio h.hK h.own1 h1 h2 hn0.1 (sa.e v k4) hst
          | Tuple es x1 p3 =>
            refine s_isioT h.hK h.own1 (fun z => ?_) (of_decide_eq_true k7) k9 h1 h2 (fun t ht => (hn t ht).1) (sa.e v k4) hst
            subst z
            cases k6
          | _ => cases k9
        | [], [], k => cases k
        | [_], [], k => cases k
        | _ :: _ :: _ :: _, [], k => cases k
        | [], _ :: _, k => cases k
        | [_], _ :: _, k => cases k
        | [_, _], _ :: _, k => cases k
        | _ :: _ :: _ :: _, _ :: _, k => cases k
      | _ => cases k
    | _ => cases k
  · cases e with
    | Call fn es kw p =>
      cases fn with
      | Name x p2 =>
        match es, kw, k with
        | [v, t], [], k => exact k
        | [], [], k => cases k
        | [_], [], k => cases k
        | _ :: _ :: _ :: _, [], k => cases k
        | [], _ :: _, k => cases k
        | [_], _ :: _, k => cases k
        | [_, _], _ :: _, k => cases k
        | _ :: _ :: _ :: _, _ :: _, k => cases k
      | _ => cases k
    | _ => cases k
  · cases es <;> rfl
theorem snd_not {a : E} (h : XOk P n Γ fx W X) (sa : Snd P n a Γ fx W X) : Snd P n (.not a) Γ fx W X where
  e := fun e k => by
    cases e with
    | UnaryOp o x p =>
      cases o with
      | Not =>
        have k : (notIf x && chkE Γ false a x) = true := k
        rw [Bool.and_eq_true] at k
        exact s_not h.hK (sa.e x k.2)
      | _ => cases k
    | _ => cases k
  t := fun e k _ => by
    cases e with
    | UnaryOp o x p =>
      cases o with
      | Not =>
        have k : (notIf x && chkE Γ false a x) = true := k
        rw [Bool.and_eq_true] at k
        exact t_not (sa.t x k.2 k.1)
      | _ => cases k
    | _ => cases k
  w := fun e k b => by
    cases e <;> first | (cases b; done) | (cases k; done)
  i := fun tg e k => by
    cases e with
    | UnaryOp o x p =>
      cases o with
      | Not =>
        have k : (notIf x && chkE Γ false a x) = true := k
        rw [Bool.and_eq_true] at k
        exact i_seq h.hK (s_not h.hK (sa.e x k.2))
      | _ => cases k
    | _ => cases k
  a := fun es k => by cases es <;> cases k
theorem snd_cmp {op : Cop} {a b : E} (h : XOk P n Γ fx W X) (sa : Snd P n a Γ fx W X) (sb : Snd P n b Γ fx W X) : Snd P n (.cmp op a b) Γ fx W X := by
  have key : ∀ m e, chkE Γ m (.cmp op a b) e = true → ∃ l r p, e = .Compare l [op.op] [r] p ∧ notSet r = true ∧ chkE Γ false a l = true ∧ chkE Γ false b r = true := fun m e k => by
    cases e with
    | Compare l ops rs p =>
      match ops, rs, k with
      | [o], [r], k =>
        have k : (decide (o = op.op) && (notSet r && (chkE Γ false a l && chkE Γ false b r))) = true := k
        simp only [Bool.and_eq_true] at k
        obtain ⟨k1, k2, k3, k4⟩ := k
        have := of_decide_eq_true k1
        subst this
        exact ⟨l, r, p, rfl, k2, k3, k4⟩
      | [], [], k => cases k
      | [], [_], k => cases k
      | [], _ :: _ :: _, k => cases k
      | [_], [], k => cases k
      | [_], _ :: _ :: _, k => cases k
      | _ :: _ :: _, [], k => cases k
      | _ :: _ :: _, [_], k => cases k
      | _ :: _ :: _, _ :: _ :: _, k => cases k
    | _ => cases k
  have he : ∀ m e, chkE Γ m (.cmp op a b) e = true → PE X e (tE fx W (evE P (run P n) (.cmp op a b))) := fun m e k => by
    obtain ⟨l, r, p, rfl, h1, h2, h3⟩ := key m e k
    exact s_cmp (opD_cmpX h.hK h.tk h.un h.ob (opD_cmp op h.hK h.un)) (sa.e l h2) (sb.e r h3) (mark_of _ h1)
  exact ⟨fun e k => he _ e k, fun e k _ => (by
    obtain ⟨l, r, p, rfl, h1, h2, h3⟩ := key _ e k
    exact s_cmpTX (opD_cmpX h.hK h.tk h.un h.ob (opD_cmp op h.hK h.un)) (fun e => cmpX_bl e) (sa.e l h2) (sb.e r h3) (mark_of _ h1)), fun e k b => (by
    obtain ⟨l, r, p, rfl, _⟩ := key _ e k
    cases b), fun tg e k => i_seq h.hK (he _ e k), fun es k => (by cases es <;> cases k)⟩
theorem snd_and {a b : E} (h : XOk P n Γ fx W X) (sa : Snd P n a Γ fx W X) (sb : Snd P n b Γ fx W X) : Snd P n (.and a b) Γ fx W X := by
  have key : ∀ m e, chkE Γ m (.and a b) e = true → ∃ x y rest p, e = .BoolOp .And (x :: y :: rest) p ∧ notIf x = true ∧ chkE Γ false a x = true ∧ chkE Γ false b (tailB .And y rest p) = true ∧ notIf (tailB .And y rest p) = true := fun m e k => by
    cases e with
    | BoolOp o vs p =>
      cases o with
      | Or => cases k
      | And =>
        match vs, k with
        | x :: y :: rest, k =>
          have k : (notIf x && (chkE Γ false a x && chkE Γ false b (tailB .And y rest p) && notIf (tailB .And y rest p))) = true := k
          simp only [Bool.and_eq_true] at k
          obtain ⟨k1, ⟨k2, k3⟩, k4⟩ := k
          exact ⟨x, y, rest, p, rfl, k1, k2, k3, k4⟩
        | [], k => cases k
        | [_], k => cases k
    | _ => cases k
  have he : ∀ m e, chkE Γ m (.and a b) e = true → PE X e (tE fx W (evE P (run P n) (.and a b))) := fun m e k => by
    obtain ⟨x, y, rest, p, rfl, h1, h2, h3, h4⟩ := key m e k
    refine s_and h.hK (sa.e x h2) ?_
    cases rest with
    | nil => exact pe_one (sb.e y h3)
    | cons z zs => exact sb.e _ h3
  have hw : ∀ e, chkE Γ false (.and a b) e = true → PW X e (tT fx W (evE P (run P n) (.and a b))) := fun e k => by
    obtain ⟨x, y, rest, p, rfl, h1, h2, h3, h4⟩ := key _ e k
    refine w_and (sa.t x h2 h1) ?_
    cases rest with
    | nil => exact pw_and1 (sb.t y h3 h4)
    | cons z zs => exact sb.w _ h3 rfl
  exact ⟨fun e k => he _ e k, fun e k _ => (hw e k).pt, fun e k _ => hw e k, fun tg e k => i_seq h.hK (he _ e k), fun es k => by cases es <;> cases k⟩
theorem snd_or {a b : E} (h : XOk P n Γ fx W X) (sa : Snd P n a Γ fx W X) (sb : Snd P n b Γ fx W X) : Snd P n (.or a b) Γ fx W X := by
  have key : ∀ m e, chkE Γ m (.or a b) e = true → ∃ x y rest p, e = .BoolOp .Or (x :: y :: rest) p ∧ notIf x = true ∧ chkE Γ false a x = true ∧ chkE Γ false b (tailB .Or y rest p) = true ∧ notIf (tailB .Or y rest p) = true := fun m e k => by
    cases e with
    | BoolOp o vs p =>
      cases o with
      | And => cases k
      | Or =>
        match vs, k with
        | x :: y :: rest, k =>
          have k : (notIf x && (chkE Γ false a x && chkE Γ false b (tailB .Or y rest p) && notIf (tailB .Or y rest p))) = true := k
          simp only [Bool.and_eq_true] at k
          obtain ⟨k1, ⟨k2, k3⟩, k4⟩ := k
          exact ⟨x, y, rest, p, rfl, k1, k2, k3, k4⟩
        | [], k => cases k
        | [_], k => cases k
    | _ => cases k
  have he : ∀ m e, chkE Γ m (.or a b) e = true → PE X e (tE fx W (evE P (run P n) (.or a b))) := fun m e k => by
    obtain ⟨x, y, rest, p, rfl, h1, h2, h3, h4⟩ := key m e k
    refine s_or h.hK (sa.e x h2) ?_
    cases rest with
    | nil => exact pe_one (sb.e y h3)
    | cons z zs => exact sb.e _ h3
  have hw : ∀ e, chkE Γ false (.or a b) e = true → PW X e (tT fx W (evE P (run P n) (.or a b))) := fun e k => by
    obtain ⟨x, y, rest, p, rfl, h1, h2, h3, h4⟩ := key _ e k
    refine w_or (sa.t x h2 h1) ?_
    cases rest with
    | nil => exact pw_or1 (sb.t y h3 h4)
    | cons z zs => exact sb.w _ h3 rfl
  exact ⟨fun e k => he _ e k, fun e k _ => (hw e k).pt, fun e k _ => hw e k, fun tg e k => i_seq h.hK (he _ e k), fun es k => by cases es <;> cases k⟩
theorem snd_ife {c a b : E} (h : XOk P n Γ fx W X) (sc : Snd P n c Γ fx W X) (sa : Snd P n a Γ fx W X) (sb : Snd P n b Γ fx W X) : Snd P n (.ife c a b) Γ fx W X := by
  have key : ∀ m e, chkE Γ m (.ife c a b) e = true → ∃ t x y p, e = .IfExp t x y p ∧ notIf t = true ∧ chkE Γ false c t = true ∧ chkE Γ false a x = true ∧ chkE Γ false b y = true := fun m e k => by
    cases e with
    | IfExp t x y p =>
      have k : (notIf t && (chkE Γ false c t && (chkE Γ false a x && chkE Γ false b y))) = true := k
      simp only [Bool.and_eq_true] at k
      obtain ⟨k1, k2, k3, k4⟩ := k
      exact ⟨t, x, y, p, rfl, k1, k2, k3, k4⟩
    | _ => cases k
  have he : ∀ m e, chkE Γ m (.ife c a b) e = true → PE X e (tE fx W (evE P (run P n) (.ife c a b))) := fun m e k => by
    obtain ⟨t, x, y, p, rfl, h1, h2, h3, h4⟩ := key m e k
    exact s_ife (sc.t t h2 h1) (sa.e x h3) (sb.e y h4)
  exact ⟨fun e k => he _ e k, fun e k z => (by
    obtain ⟨t, x, y, p, rfl, _⟩ := key _ e k
    cases z), fun e k z => (by
    obtain ⟨t, x, y, p, rfl, _⟩ := key _ e k
    cases z), fun tg e k => i_seq h.hK (he _ e k), fun es k => by cases es <;> cases k⟩
theorem snd_app {a b : E} (h : XOk P n Γ fx W X) (sa : Snd P n a Γ fx W X) (sb : Snd P n b Γ fx W X) : Snd P n (.app a b) Γ fx W X := by
  have key : ∀ m e, chkE Γ m (.app a b) e = true → ∃ x ap v cp, e = .Call (.Attribute x "append" ap) [v] [] cp ∧ (ap.endLine == cp.line) = true ∧ notStar v = true ∧ notCall x = true ∧ chkE Γ false a x = true ∧ chkE Γ false b v = true := fun m e k => by
    cases e with
    | Call fn es kw cp =>
      cases fn with
      | Attribute x mt ap =>
        match es, kw, k with
        | [v], [], k =>
          have k : (decide (mt = ("append" : Str)) && ((ap.endLine == cp.line) && (notStar v && (notCall x && (chkE Γ false a x && chkE Γ false b v))))) = true := k
          simp only [Bool.and_eq_true] at k
          obtain ⟨k1, k2, k3, k4, k5, k6⟩ := k
          have := of_decide_eq_true k1
          subst this
          exact ⟨x, ap, v, cp, rfl, k2, k3, k4, k5, k6⟩
        | [], [], k => cases k
        | _ :: _ :: _, [], k => cases k
        | [], _ :: _, k => cases k
        | [_], _ :: _, k => cases k
        | _ :: _ :: _, _ :: _, k => cases k
      | _ => cases k
    | _ => cases k
  refine Snd.plain h (fun e k => ?_) (fun e k => ?_) (fun es => by cases es <;> rfl)
  · obtain ⟨x, ap, v, cp, rfl, h1, h2, h3, h4, h5⟩ := key _ e k
    exact ⟨s_app h.hK (sa.e x h4) (sb.e v h5) (base_of h3) h1 (star_of h2), rfl⟩
  · obtain ⟨x, ap, v, cp, rfl, h1, h2, h3, h4, h5⟩ := key _ e k
    exact k
theorem snd_rng1 {a : E} (h : XOk P n Γ fx W X) (sa : Snd P n a Γ fx W X) : Snd P n (.irng1 a) Γ fx W X := by
  have key : ∀ m e, chkE Γ m (.irng1 a) e = true → m = true ∧ ∃ p x cp, e = .Call (.Name "range" p) [x] [] cp ∧ Γ.glo "range" .blt = true ∧ notStar x = true ∧ chkE Γ false a x = true := fun m e k => by
    cases e with
    | Call fn es kw cp =>
      cases fn with
      | Name r p =>
        match es, kw, k with
        | [x], [], k =>
          have k : (m && (decide (r = ("range" : Str)) && (Γ.glo r .blt && (notStar x && chkE Γ false a x)))) = true := k
          simp only [Bool.and_eq_true] at k
          obtain ⟨k0, k1, k2, k3, k4⟩ := k
          have := of_decide_eq_true k1
          subst this
          exact ⟨k0, p, x, cp, rfl, k2, k3, k4⟩
        | [], [], k => cases k
        | _ :: _ :: _, [], k => cases k
        | [], _ :: _, k => cases k
        | [_], _ :: _, k => cases k
        | _ :: _ :: _, _ :: _, k => cases k
      | _ => cases k
    | _ => cases k
  exact ⟨fun e k => (by cases (key _ e k).1), fun e k _ => (by cases (key _ e k).1), fun e k _ => (by cases (key _ e k).1), fun tg e k => (by
    obtain ⟨_, p, x, cp, rfl, h1, h2, h3⟩ := key _ e k
    obtain ⟨h4, h5⟩ := h.glo h1
    exact i_rng1 h4 h5 (sa.e x h3) (star_of h2)), fun es k => (by cases es <;> cases k)⟩
theorem snd_rng2 {a b : E} (h : XOk P n Γ fx W X) (sa : Snd P n a Γ fx W X) (sb : Snd P n b Γ fx W X) : Snd P n (.irng2 a b) Γ fx W X := by
  have key : ∀ m e, chkE Γ m (.irng2 a b) e = true → m = true ∧ ∃ p x y cp, e = .Call (.Name "range" p) [x, y] [] cp ∧ Γ.glo "range" .blt = true ∧ notStar x = true ∧ notStar y = true ∧ chkE Γ false a x = true ∧ chkE Γ false b y = true := fun m e k => by
    cases e with
    | Call fn es kw cp =>
      cases fn with
      | Name r p =>
        match es, kw, k with
        | [x, y], [], k =>
          have k : (m && (decide (r = ("range" : Str)) && (Γ.glo r .blt && (notStar x && (notStar y && (chkE Γ false a x && chkE Γ false b y)))))) = true := k
          simp only [Bool.and_eq_true] at k
          obtain ⟨k0, k1, k2, k3, k4, k5, k6⟩ := k
          have := of_decide_eq_true k1
          subst this
          exact ⟨k0, p, x, y, cp, rfl, k2, k3, k4, k5, k6⟩
        | [], [], k => cases k
        | [_], [], k => cases k
        | _ :: _ :: _ :: _, [], k => cases k
        | [], _ :: _, k => cases k
        | [_], _ :: _, k => cases k
        | [_, _], _ :: _, k => cases k
        | _ :: _ :: _ :: _, _ :: _, k => cases k
      | _ => cases k
    | _ => cases k
  exact ⟨fun e k => (by cases (key _ e k).1), fun e k _ => (by cases (key _ e k).1), fun e k _ => (by cases (key _ e k).1), fun tg e k => (by
    obtain ⟨_, p, x, y, cp, rfl, h1, h2, h3, h4, h5⟩ := key _ e k
    obtain ⟨h6, h7⟩ := h.glo h1
    exact i_rng2 h6 h7 (sa.e x h4) (sb.e y h5) (by rw [star_of h2, star_of h3]; rfl) (star_of h3)), fun es k => (by cases es <;> cases k)⟩
theorem snd_fld {x : String} {o : E} (h : XOk P n Γ fx W X) (so : Snd P n o Γ fx W X) : Snd P n (.fld x o) Γ fx W X := by
  refine Snd.plain h (fun e k => ?_) (fun e k => ?_) (fun es => by cases es <;> rfl)
  · cases e with
    | Attribute e y p =>
      have k : (decide (y = Str.ofString x) && (notCall e && chkE Γ false o e)) = true := k
      simp only [Bool.and_eq_true, decide_eq_true_eq] at k
      exact ⟨s_fld k.1 h.ob (so.e e k.2.2) (base_of k.2.1), rfl⟩
    | _ => cases k
  · cases e <;> first | (cases k; done) | exact k
theorem snd_mk {c : String} {a : E} (h : XOk P n Γ fx W X) (sa : Snd P n a Γ fx W X) : Snd P n (.mk c a) Γ fx W X := by
  refine Snd.plain h (fun e k => ?_) (fun e k => ?_) (fun es => by cases es <;> rfl)
  · cases e with
    | Call fn es kw p =>
      cases fn with
      | Name y p2 =>
        cases kw with
        | cons z zs => cases k
        | nil =>
          have k : (decide (y = Str.ofString c) && (Γ.glo y (.cls c) && (okName y && chkA Γ a es))) = true := k
          simp only [Bool.and_eq_true, decide_eq_true_eq] at k
          obtain ⟨k1, k2, k3, k4⟩ := k
          obtain ⟨h1, h2, h3, h4⟩ := h.glo k2
          cases es with
          | nil =>
            cases a with
            | anil => exact ⟨s_mk0 k1 h.tk h1 h2 h.ob h3 (okName_of k3).1, rfl⟩
            | _ => cases k4
          | cons e es =>
            obtain ⟨h5, h6⟩ := args_of (pos := p) (env := X.env) k4
            exact ⟨s_mk k1 h.tk h1 h2 h.ob h3 (sa.a _ k4) (okName_of k3).1 h5 h6, rfl⟩
      | _ => cases k
    | _ => cases k
  · cases e with
    | Call fn es kw p => cases fn <;> first | (cases k; done) | (cases kw <;> first | (cases k; done) | exact k)
    | _ => cases k
theorem star_all {es : List Expr} {pos : Pos} {env : Env} {c : E} (k : chkA Γ c es = true) : (backTo pos (starEach es env)).all (!·.1) = true := by
  have z := star_none (pos := pos) (env := env) k
  rw [List.all_eq_true]
  intro x hx
  rw [List.any_eq_false] at z
  have := z x hx
  cases hq : x.1 with
  | true => exact absurd hq this
  | false => rfl
theorem snd_meth {x : String} {o a : E} (h : XOk P n Γ fx W X) (so : Snd P n o Γ fx W X) (sa : Snd P n a Γ fx W X) : Snd P n (.meth x o a) Γ fx W X := by
  refine Snd.plain h (fun e k => ?_) (fun e k => ?_) (fun es => by cases es <;> rfl)
  · cases e with
    | Call fn es kw cp =>
      cases fn with
      | Attribute e y ap =>
        cases kw with
        | cons z zs => cases k
        | nil =>
          have k : (decide (y = Str.ofString x) && ((ap.endLine == cp.line) && (decide (es.length < 30) && (notCall e && (chkE Γ false o e && chkA Γ a es))))) = true := by
            cases es with
            | nil => exact k
            | cons e1 es1 => cases es1 <;> exact k
          simp only [Bool.and_eq_true] at k
          obtain ⟨k1, k2, k3, k4, k5, k6⟩ := k
          have ht := meth_ht (env := X.env) (y := y) k4 k2 (star_all (pos := cp) (env := X.env) k6) (of_decide_eq_true k3)
          cases es with
          | nil =>
            cases a with
            | anil => exact ⟨s_meth0 (of_decide_eq_true k1) h.hK h.tk h.ob (so.e e k5) ht, rfl⟩
            | _ => cases k6
          | cons e1 es =>
            obtain ⟨h5, h6⟩ := args_of (pos := cp) (env := X.env) k6
            exact ⟨s_meth (of_decide_eq_true k1) h.hK h.tk h.ob (so.e e k5) (sa.a _ k6) h5 h6 ht, rfl⟩
      | _ => cases k
    | _ => cases k
  · cases e with
    | Call fn es kw p => cases fn <;> first | (cases k; done) | (cases kw <;> first | (cases k; done) | (cases es with
      | nil => exact k
      | cons e1 es1 => cases es1 <;> exact k))
    | _ => cases k
theorem last_marks {o1 o2 : CmpOp} {b c : Expr} (hc : notSet c = true) : lastMarks [o1, o2] [b, c] = false := by
  cases c <;> first | rfl | cases hc
theorem snd_chain {o1 o2 : Cop} {a b c : E} (h : XOk P n Γ fx W X) (sa : Snd P n a Γ fx W X) (sb : Snd P n b Γ fx W X) (sc : Snd P n c Γ fx W X) : Snd P n (.chain o1 o2 a b c) Γ fx W X := by
  have key : ∀ m e, chkE Γ m (.chain o1 o2 a b c) e = true → ∃ l r1 r2 p, e = .Compare l [o1.op, o2.op] [r1, r2] p ∧ notSet r2 = true ∧ chkE Γ false a l = true ∧ chkE Γ false b r1 = true ∧ chkE Γ false c r2 = true := fun m e k => by
    cases e with
    | Compare l ops rs p =>
      match ops, rs, k with
      | [p1, p2], [r1, r2], k =>
        have k : (decide (p1 = o1.op) && (decide (p2 = o2.op) && (notSet r2 && (chkE Γ false a l && (chkE Γ false b r1 && chkE Γ false c r2))))) = true := k
        simp only [Bool.and_eq_true] at k
        obtain ⟨k1, k2, k3, k4, k5, k6⟩ := k
        have := of_decide_eq_true k1
        subst this
        have := of_decide_eq_true k2
        subst this
        exact ⟨l, r1, r2, p, rfl, k3, k4, k5, k6⟩
      | [], _, k => cases k
      | [_], _, k => cases k
      | _ :: _ :: _ :: _, _, k => cases k
      | [_, _], [], k => cases k
      | [_, _], [_], k => cases k
      | [_, _], _ :: _ :: _ :: _, k => cases k
    | _ => cases k
  have he : ∀ m e, chkE Γ m (.chain o1 o2 a b c) e = true → PE X e (tE fx W (evE P (run P n) (.chain o1 o2 a b c))) := fun m e k => by
    obtain ⟨l, r1, r2, p, rfl, h0, h1, h2, h3⟩ := key m e k
    exact s_chain (opD_cmp o1 h.hK h.un) (opD_cmp o2 h.hK h.un) (sa.e l h1) (sb.e r1 h2) (sc.e r2 h3) (last_marks h0)
  have ht : ∀ m e, chkE Γ m (.chain o1 o2 a b c) e = true → PT X e (tT fx W (evE P (run P n) (.chain o1 o2 a b c))) := fun m e k => by
    obtain ⟨l, r1, r2, p, rfl, h0, h1, h2, h3⟩ := key m e k
    exact t_chain (opD_cmp o1 h.hK h.un) (opD_cmp o2 h.hK h.un) (sa.e l h1) (sb.e r1 h2) (sc.e r2 h3) (last_marks h0)
  exact ⟨fun e k => he _ e k, fun e k _ => ht _ e k, fun e k b => (by
    obtain ⟨l, r1, r2, p, rfl, _⟩ := key _ e k
    cases b), fun tg e k => i_seq h.hK (he _ e k), fun es k => (by cases es <;> cases k)⟩
/-- what a comprehension's block needs -/
structure LcOk (P : Prog) (n : Nat) (Γ : Gam) (fx : Fix) (W : WX) (X : Cx) (own : List Nat) (k : ItK) (G : TG) (sg : DSt → D → Option DSt) (fi : DSt → Store → Res D) (c elt : E) (el tg iter : Expr) (ifs : List Expr) (scope : Scope) : Prop where
  ok : BlkOk X.N X.env.scope scope (ownN Γ own)
  ht : TgOk fx.K fx.ca G sg own
  hi : PI X tg iter (tI fx W k fi)
  hg : ∀ (s : Shared) (H : Hp) (C : Addr) (cl : List (Str × Addr)) (fp : List Addr), PG (X.blk s H scope (compEnvC scope cl C X.env) fp) tg G
  hs : ∀ x, foldedSetIterable iter X.env x = pure x
  he : ∀ (s : Shared) (H : Hp) (C : Addr) (cl : List (Str × Addr)) (fp : List Addr), PE (X.blk s H scope (compEnvC scope cl C X.env) fp) el (tE' fx W0 (evE P (run P n) elt))
  ht' : ∃ tt, (tt = tT' fx W0 (evE P (run P n) c) ∨ (tt = tYes ∧ evE P (run P n) c = fun _ S => .ok (.bl true) S)) ∧ ∀ (s : Shared) (H : Hp) (C : Addr) (cl : List (Str × Addr)) (fp : List Addr), PTs (X.blk s H scope (compEnvC scope cl C X.env) fp) ifs tt
theorem ownN_snd {own : List Nat} : (ownN Γ own).map (·.2) = own := by
  unfold ownN
  rw [List.map_map]
  exact (List.map_congr_left fun x _ => rfl).trans (List.map_id own)
/-- what is walked, by its text -/
theorem chkI_ok {k : ItK} {tg : Tg} {it : E} {iter te : Expr} {p : Nat → Str → Bool} (h : XOk P n Γ fx W X) (si : Snd P n it Γ fx W X) (hc : chkI Γ k tg (chkE Γ true it) (chkA Γ it) iter = true) (ht : chkT p tg te = true) : PI X te iter (tI fx W k (evE P (run P n) it)) ∧ ∀ x, foldedSetIterable iter X.env x = pure x := by
  have two : tg.isT = true → ∃ es kk q, te = .Tuple es kk q := fun z => by
    cases tg with
    | n i => cases z
    | t is =>
      cases te with
      | Tuple es kk q => exact ⟨es, kk, q, rfl⟩
      | _ => cases ht
  have plain : k = .seq → notSet iter = true → chkE Γ true it iter = true → PI X te iter (tI fx W k (evE P (run P n) it)) ∧ ∀ x, foldedSetIterable iter X.env x = pure x := fun e1 e2 e3 => by
    subst e1
    exact ⟨si.i _ _ e3, fold_of e2⟩
  have key : ∀ {z : Str} {q : Pos} {es : List Expr} {kw : List Keyword} {cp : Pos}, iter = .Call (.Name z q) es kw cp → k ≠ .seq → (decide (z = k.nm) && (Γ.glo z .blt && (k.tgOk tg && (decide (es.length = k.ar) && (kw.isEmpty && chkA Γ it es))))) = true → PI X te iter (tI fx W k (evE P (run P n) it)) ∧ ∀ x, foldedSetIterable iter X.env x = pure x := fun {z q es kw cp} ei nk hc2 => by
    subst ei
    simp only [Bool.and_eq_true, decide_eq_true_eq, List.isEmpty_iff] at hc2
    obtain ⟨rfl, h2, h3, h4, rfl, h6⟩ := hc2
    obtain ⟨g1, g2⟩ := h.glo h2
    have pa := si.a es h6
    refine ⟨?_, fun x => rfl⟩
    have h4 : es.length = k.ar := h4
    have star : ∀ {e : Expr} {r : List Expr} {c : E}, chkA Γ c (e :: r) = true → starEach (e :: r) X.env = (false, eval e X.env) :: starEach r X.env ∧ ∃ c', chkA Γ c' r = true := fun {e r c} z => by
      cases c with
      | acons a b =>
        have z : (notStar e && (chkE Γ false a e && chkA Γ b r)) = true := z
        simp only [Bool.and_eq_true] at z
        exact ⟨star_of z.1, _, z.2.2⟩
      | _ => cases z
    cases k with
    | seq => exact absurd rfl nk
    | zip =>
      obtain ⟨es2, kk, q2, rfl⟩ := two h3
      match es, h4, h6, pa with
      | [a, b], _, h6, pa =>
        obtain ⟨s1, c', h7⟩ := star h6
        obtain ⟨s2, _⟩ := star h7
        exact i_zip h.hK g1 g2 pa s1 s2
    | enum =>
      obtain ⟨es2, kk, q2, rfl⟩ := two h3
      match es, h4, h6, pa with
      | [a], _, h6, pa => exact i_enum h.hK g1 g2 pa (star h6).1
    | rev =>
      match es, h4, h6, pa with
      | [a], _, h6, pa => exact i_rev h.hK g1 g2 pa (star h6).1
  have other : (∀ z q es kw cp, iter ≠ .Call (.Name z q) es kw cp) → chkI Γ k tg (chkE Γ true it) (chkA Γ it) iter = (match k with
      | .seq => notSet iter && chkE Γ true it iter
      | _ => false) := fun no => by
    cases iter with
    | Call f es kw cp =>
      cases f with
      | Name z q => exact absurd rfl (no z q es kw cp)
      | _ => cases k <;> rfl
    | _ => cases k <;> rfl
  by_cases nc : ∃ z q es kw cp, iter = .Call (.Name z q) es kw cp
  · obtain ⟨z, q, es, kw, cp, rfl⟩ := nc
    cases k with
    | seq => exact plain rfl rfl hc
    | zip => exact key rfl (by decide) hc
    | enum => exact key rfl (by decide) hc
    | rev => exact key rfl (by decide) hc
  · rw [other (fun z q es kw cp e => nc ⟨z, q, es, kw, cp, e⟩)] at hc
    cases k with
    | seq =>
      have hc : (notSet iter && chkE Γ true it iter) = true := hc
      rw [Bool.and_eq_true] at hc
      exact plain rfl hc.1 hc.2
    | _ => cases hc
theorem lc_key {nw : Bool} {own : List Nat} {k0 : ItK} {tg0 : Tg} {it c elt : E} (h : XOk P n Γ fx W X) (si : Snd P n it Γ fx W X) (sc : ∀ {X Γ fx W}, XOk P n Γ fx W X → ∀ e, c = .cnd e → Snd P n e Γ fx W X) (se : ∀ {X Γ fx W}, XOk P n Γ fx W X → Snd P n elt Γ fx W X) :
    ∀ m e, chkE Γ m (.comp nw own k0 tg0 it c elt) e = true → ∃ el tg iter ifs scope p, e = .ListComp el [⟨tg, iter, ifs, 0⟩] scope p ∧ LcOk P n Γ fx W X own k0 (gT fx.K tg0) (fun σ x => setT tg0 σ x) (evE P (run P n) it) c elt el tg iter ifs scope := fun m e k => by
  cases e with
  | ListComp el gens scope p =>
    have k : (genOk gens && (tg0.slots.all own.contains && (blkC Γ.N Γ.sc scope (ownN Γ own) && (chkT (Γ.own scope) tg0 (genT gens) && (chkI Γ k0 tg0 (chkE Γ true it) (chkA Γ it) (genI gens) && (chkC (Γ.blk scope) c (genF gens) && chkE (Γ.blk scope) false elt el)))))) = true := k
    simp only [Bool.and_eq_true] at k
    obtain ⟨k0', k1, k3, k4, k7, k8, k9⟩ := k
    have eg := gen_of k0'
    generalize genT gens = tx at *
    generalize genI gens = iter at *
    generalize genF gens = ifs at *
    subst eg
    obtain ⟨pi, fo⟩ := chkI_ok h si k7 k4
    refine ⟨el, _, iter, ifs, scope, p, rfl, ⟨?_, ?_, pi, fun s H C cl fp => ?_, fo, fun s H C cl fp => pe_all fun fx' e1 e2 => (se (h.blk s H scope C cl fp fx' e1 e2)).e el k9, ?_⟩⟩
    · rw [h.N, h.sc]
      exact blkOk_by k3
    · exact tg_ok fun i hi => List.contains_iff_mem.mp (List.all_eq_true.mp k1 i hi)
    · have hb := h.blk s H scope C cl fp fx rfl rfl
      have z := pg_of (X := X.blk s H scope (compEnvC scope cl C X.env) fp) h.calm (fun i x q hq => ?_) k4
      · rw [h.hK]
        exact z
      · unfold Gam.own at hq
        rw [Bool.and_eq_true] at hq
        obtain ⟨k4, k5⟩ := hq
        obtain ⟨h1, h2⟩ := hb.loc k4
        refine pg_name h.nd h1 h2 ?_
        rw [Bool.or_eq_true] at k5
        rcases k5 with k5 | k5
        · refine .inr ?_
          have e3 := of_decide_eq_true k5
          rw [hb.sc]
          exact e3
        · refine .inl ?_
          have e3 := of_decide_eq_true k5
          show (scope.names.lookup x == some .cell) = true
          rw [e3]
          rfl
    · cases c with
      | bl b =>
        cases b with
        | true =>
          cases ifs with
          | nil => exact ⟨tYes, .inr ⟨rfl, rfl⟩, fun s H C cl fp => pts_nil⟩
          | cons z zs => cases zs <;> cases k8
        | false => cases ifs with
          | nil => cases k8
          | cons z zs => cases zs <;> cases k8
      | cnd e =>
        match ifs, k8 with
        | [i], k8 =>
          have k8 : (notIf i && chkE (Γ.blk scope) false e i) = true := k8
          rw [Bool.and_eq_true] at k8
          exact ⟨_, .inl rfl, fun s H C cl fp => pts_one (pt_all fun fx' e1 e2 => (sc (h.blk s H scope C cl fp fx' e1 e2) e rfl).t i k8.2 k8.1)⟩
        | [], k8 => cases k8
        | _ :: _ :: _, k8 => cases k8
      | _ =>
        cases ifs with
        | nil => cases k8
        | cons z zs => cases zs <;> cases k8
  | _ => cases k
theorem snd_comp {nw : Bool} {own : List Nat} {k0 : ItK} {tg0 : Tg} {it c elt : E} (h : XOk P n Γ fx W X) (si : Snd P n it Γ fx W X) (sc : ∀ {X Γ fx W}, XOk P n Γ fx W X → ∀ e, c = .cnd e → Snd P n e Γ fx W X) (se : ∀ {X Γ fx W}, XOk P n Γ fx W X → Snd P n elt Γ fx W X) : Snd P n (.comp nw own k0 tg0 it c elt) Γ fx W X := by
  have key := lc_key (nw := nw) (own := own) (k0 := k0) (tg0 := tg0) h si sc se
  refine Snd.plain h (fun e k => ?_) (fun e k => ?_) (fun es => by cases es <;> rfl)
  · obtain ⟨el, tg, iter, ifs, scope, p, rfl, L⟩ := key _ e k
    obtain ⟨tt, h1, h2⟩ := L.ht'
    have z := pe_lc (own := ownN Γ own) h.calm h.nd L.hi L.ok L.hg h2 L.he L.hs (pos := p)
    rw [ownN_snd] at z
    exact ⟨pe_imp z (lc_readG (nw := nw) L.ht h1), rfl⟩
  · cases e <;> first | (cases k; done) | exact k
end
/-- THE CODE IS SOUND -/
theorem snd {P : Prog} {n : Nat} : ∀ (c : E) {Γ : Gam} {fx : Fix} {W : WX} {X : Cx}, XOk P n Γ fx W X → Snd P n c Γ fx W X ∧ (∀ e, c = .part e → Snd P n e Γ fx W X) ∧ (∀ e, c = .cnd e → Snd P n e Γ fx W X) := by
  have none : ∀ (c : E) {Γ : Gam} {fx : Fix} {W : WX} {X : Cx}, XOk P n Γ fx W X → (∀ m e, chkE Γ m c e = false) → (∀ es, chkA Γ c es = false) → Snd P n c Γ fx W X := fun c Γ fx W X h h1 h2 =>
    ⟨fun e k => (by rw [h1] at k; cases k), fun e k => (by rw [h1] at k; cases k), fun e k => (by rw [h1] at k; cases k), fun tg e k => (by rw [h1] at k; cases k), fun es k => (by rw [h2] at k; cases k)⟩
  intro c
  induction c with
  | var i => exact fun h => ⟨snd_var h, fun _ z => (by cases z), fun _ z => (by cases z)⟩
  | int i => exact fun h => ⟨snd_int h, fun _ z => (by cases z), fun _ z => (by cases z)⟩
  | bl i => exact fun h => ⟨snd_bl h, fun _ z => (by cases z), fun _ z => (by cases z)⟩
  | non => exact fun h => ⟨snd_non h, fun _ z => (by cases z), fun _ z => (by cases z)⟩
  | str i => exact fun h => ⟨snd_str h, fun _ z => (by cases z), fun _ z => (by cases z)⟩
  | gint x i => exact fun h => ⟨snd_gint h, fun _ z => (by cases z), fun _ z => (by cases z)⟩
  | bin op a b iha ihb => exact fun h => ⟨snd_bin h (iha h).1 (ihb h).1, fun _ z => (by cases z), fun _ z => (by cases z)⟩
  | frz a iha => exact fun h => ⟨snd_frz h (iha h).1, fun _ z => (by cases z), fun _ z => (by cases z)⟩
  | catc a b iha ihb => exact fun h => ⟨snd_catc h (iha h).1 (ihb h).1, fun _ z => (by cases z), fun _ z => (by cases z)⟩
  | neg a iha => exact fun h => ⟨snd_neg h (iha h).1, fun _ z => (by cases z), fun _ z => (by cases z)⟩
  | not a iha => exact fun h => ⟨snd_not h (iha h).1, fun _ z => (by cases z), fun _ z => (by cases z)⟩
  | cmp op a b iha ihb => exact fun h => ⟨snd_cmp h (iha h).1 (ihb h).1, fun _ z => (by cases z), fun _ z => (by cases z)⟩
  | chain o1 o2 a b c iha ihb ihc => exact fun h => ⟨snd_chain h (iha h).1 (ihb h).1 (ihc h).1, fun _ z => (by cases z), fun _ z => (by cases z)⟩
  | stuck => exact fun h => ⟨none _ h (fun m e => by cases e <;> rfl) (fun es => by cases es <;> rfl), fun _ z => (by cases z), fun _ z => (by cases z)⟩
  | fld x o iho => exact fun h => ⟨snd_fld h (iho h).1, fun _ z => (by cases z), fun _ z => (by cases z)⟩
  | mk c a iha => exact fun h => ⟨snd_mk h (iha h).1, fun _ z => (by cases z), fun _ z => (by cases z)⟩
  | meth x o a iho iha => exact fun h => ⟨snd_meth h (iho h).1 (iha h).1, fun _ z => (by cases z), fun _ z => (by cases z)⟩
  | and a b iha ihb => exact fun h => ⟨snd_and h (iha h).1 (ihb h).1, fun _ z => (by cases z), fun _ z => (by cases z)⟩
  | or a b iha ihb => exact fun h => ⟨snd_or h (iha h).1 (ihb h).1, fun _ z => (by cases z), fun _ z => (by cases z)⟩
  | ife c a b ihc iha ihb => exact fun h => ⟨snd_ife h (ihc h).1 (iha h).1 (ihb h).1, fun _ z => (by cases z), fun _ z => (by cases z)⟩
  | tup a iha => exact fun h => ⟨snd_tup h (iha h).1, fun _ z => (by cases z), fun _ z => (by cases z)⟩
  | lst a iha => exact fun h => ⟨snd_lst h (iha h).1, fun _ z => (by cases z), fun _ z => (by cases z)⟩
  | cell a iha => exact fun h => ⟨snd_cell h (iha h).1, fun _ z => (by cases z), fun _ z => (by cases z)⟩
  | anil => exact fun h => ⟨⟨fun e k => (by cases e <;> cases k), fun e k => (by cases e <;> cases k), fun e k => (by cases e <;> cases k), fun tg e k => (by cases e <;> cases k), fun es k => by
      cases es with
      | nil => exact s_anil
      | cons x xs => cases k⟩, fun _ z => (by cases z), fun _ z => (by cases z)⟩
  | acons a b iha ihb => exact fun h => ⟨⟨fun e k => (by cases e <;> cases k), fun e k => (by cases e <;> cases k), fun e k => (by cases e <;> cases k), fun tg e k => (by cases e <;> cases k), fun es k => by
      cases es with
      | nil => cases k
      | cons x xs =>
        have k : (notStar x && (chkE _ false a x && chkA _ b xs)) = true := k
        simp only [Bool.and_eq_true] at k
        exact s_acons ((iha h).1.e x k.2.1) ((ihb h).1.a xs k.2.2) (star_of k.1)⟩, fun _ z => (by cases z), fun _ z => (by cases z)⟩
  | idx a b iha ihb => exact fun h => ⟨snd_idx h (iha h).1 (ihb h).1, fun _ z => (by cases z), fun _ z => (by cases z)⟩
  | rev a iha => exact fun h => ⟨snd_rev h (iha h).1, fun _ z => (by cases z), fun _ z => (by cases z)⟩
  | cut a lo hi iha ihl ihh => exact fun h => ⟨snd_cut h (iha h).1 (ihl h).2.1 (ihh h).2.1, fun _ z => (by cases z), fun _ z => (by cases z)⟩
  | nopart => exact fun h => ⟨none _ h (fun m e => by cases e <;> rfl) (fun es => by cases es <;> rfl), fun _ z => (by cases z), fun _ z => (by cases z)⟩
  | part e ihe => exact fun h => ⟨none _ h (fun m e => by cases e <;> rfl) (fun es => by cases es <;> rfl), fun _ z => (by cases z; exact (ihe h).1), fun _ z => (by cases z)⟩
  | call m f a iha => exact fun h => ⟨snd_call h (iha h).1, fun _ z => (by cases z), fun _ z => (by cases z)⟩
  | bi b a iha => exact fun h => ⟨snd_bi h (iha h).1, fun _ z => (by cases z), fun _ z => (by cases z)⟩
  | isi a cs iha => exact fun h => ⟨snd_isi h (iha h).1, fun _ z => (by cases z), fun _ z => (by cases z)⟩
  | app a b iha ihb => exact fun h => ⟨snd_app h (iha h).1 (ihb h).1, fun _ z => (by cases z), fun _ z => (by cases z)⟩
  | comp nw own k tg it c elt ihi ihc ihe => exact fun h => ⟨snd_comp h (ihi h).1 (fun h2 => (ihc h2).2.2) (fun h2 => (ihe h2).1), fun _ z => (by cases z), fun _ z => (by cases z)⟩
  | irng1 a iha => exact fun h => ⟨snd_rng1 h (iha h).1, fun _ z => (by cases z), fun _ z => (by cases z)⟩
  | irng2 a b iha ihb => exact fun h => ⟨snd_rng2 h (iha h).1 (ihb h).1, fun _ z => (by cases z), fun _ z => (by cases z)⟩
  | cnd e ihe => exact fun h => ⟨none _ h (fun m e => by cases e <;> rfl) (fun es => by cases es <;> rfl), fun _ z => (by cases z), fun _ z => (by cases z; exact (ihe h).1)⟩
end MX
end

section
set_option maxRecDepth 100000
set_option maxHeartbeats 4000000
namespace MX
open PySem PySem.Spec PyProof.Rows L2

/-- name = [..] that is stored within the comprehension's frame -/
def swB (Γ : Gam) (y : Str) (py : Pos) (scope : Scope) (pos : Pos) : Bool :=
  decide (Γ.sc.names.lookup y = some .local) && ((py.line == pos.line) && !(scope.names.any fun (n, k) => n == y && (k == .local || k == .cell)))
def augOk (op : Bop) : Bool := match op with
  | .add => true
  | .sub => true
  | _ => false
/-- a suite's expression; o, n: the exception's slot and name -/
def isExcName (Γ : Gam) (o : Option Nat) : Expr → Bool
  | .Name n _ => match o with
    | some i => Γ.vis i n && okName n
    | none => false
  | _ => false
mutual
def chkX (Γ : Gam) (o : Option Nat) : XE → Expr → Bool
  | .str s, .Constant (.str x) _ _ => decide (x = Str.ofString s)
  | .int i, .Constant (.int j) _ _ => decide (i = j)
  | .bl b, .Constant (.bool c) _ _ => b == c
  | .non, .Constant .none _ _ => true
  | .var i, .Name x _ => Γ.vis i x && okName x
  | .fld f, .Attribute e y _ => decide (y = Str.ofString f) && (notCall e && isExcName Γ o e)
  | .isi c, .Call (.Name g _) [e, .Name y _] [] _ => decide (g = ("isinstance" : Str)) && (Γ.glo g .blt && (notStar e && (isExcName Γ o e && (okName y && (decide (y = Str.ofString c) && (Γ.glo y (.exc c) || (decide (c = "ValueError") && Γ.glo y .blt)))))))
  | .not a, .UnaryOp .Not x _ => chkX Γ o a x
  | .and a b, .BoolOp .And (x :: y :: rest) p => chkX Γ o a x && chkX Γ o b (tailB .And y rest p)
  | .tup as, .Tuple es _ _ => chkXa Γ o as es
  | _, _ => false
def chkXa (Γ : Gam) (o : Option Nat) : XE → List Expr → Bool
  | .anil, [] => true
  | .acons e r, x :: xs => notStar x && (chkX Γ o e x && chkXa Γ o r xs)
  | _, _ => false
end
/-- a suite: stores, then a return -/
def chkXs (Γ : Gam) (o : Option Nat) : List (Nat × XE) → XE → List Stmt → Bool
  | [], r, [.Return (some e) _] => chkX Γ o r e
  | (i, c) :: l, r, .Assign [.Name x _] v _ :: ss => (Γ.loc i x && (!decide (o = some i) && (notComp v && chkX Γ o c v))) && chkXs Γ o l r ss
  | _, _, _ => false
def nmB (Γ : Gam) : Option Nat → Option Str → Bool
  | none, none => true
  | some i, some x => decide (Γ.N[i]? = some x) && decide (Γ.sc.names.lookup x = some .local)
  | _, _ => false
def chkH (Γ : Gam) : Sx → List ExceptHandler → Bool
  | .hnil, [] => true
  | .hcons c o as r h, .ExceptHandler (some (.Name x _)) n (b :: suite) _ :: hs => (Γ.glo x (.exc c) && okName x) && (nmB Γ o n && (chkXs Γ o as r (b :: suite) && chkH Γ h hs))
  | _, _ => false
/-- an exception, made: C('..') or C(e, ..) -/
def chkR (Γ : Gam) (as : E) (es : List Expr) : Bool := match as, es with
  | .anil, [.Constant (.str _) _ _] => true
  | .acons _ _, _ => chkA Γ as es
  | _, _ => false
def hCons : Sx → Bool
  | .hcons _ _ _ _ _ => true
  | _ => false
mutual
def chkS (Γ : Gam) : Sx → Stmt → Bool
  | .pass, .Pass _ => true
  | .pass, .Expr (.Constant (.str _) _ _) _ => true
  | .brk, .Break _ => true
  | .cont, .Continue _ => true
  | .asg i e, .Assign [.Name x _] v _ => Γ.loc i x && chkE Γ false e v
  | .sfld x o e, .Assign [.Attribute t y _] v _ => decide (y = Str.ofString x) && (notComp v && (chkE Γ false o t && chkE Γ false e v))
  | .sidx o i e, .Assign [.Subscript t s _] v _ => notComp v && (notSlice s && (chkE Γ false o t && (chkE Γ false i s && chkE Γ false e v)))
  | .stuck, _ => true
  | .raise c as, .Raise (some (.Call (.Name x _) es [] _)) none _ => (Γ.glo x (.exc c) && okName x) && chkR Γ as es
  | .try_ b h, .Try body hs [] [] _ => chkSs Γ b body && (hCons h && chkH Γ h hs)
  | .aug op i e, .AugAssign (.Name x _) o v _ => augOk op && (decide (o = op.op) && (Γ.loc i x && chkE Γ false e v))
  | .ex e, .Expr v _ => notComp v && chkE Γ false e v
  | .ret e, .Return (some v) _ => chkE Γ false e v
  | .retN, .Return none _ => true
  | .ifs c a b, .If t x y _ => notIf t && (chkE Γ false c t && (chkSs Γ a x && chkSs Γ b y))
  | .whl _ c b, .While t x [] _ => notIf t && (chkE Γ false c t && chkSs Γ b x)
  | .for_ k tg it b, .For te iter body [] _ => chkT Γ.loc tg te && (chkI Γ k tg (chkE Γ true it) (chkA Γ it) iter && chkSs Γ b body)
  | _, _ => false
def chkSs (Γ : Gam) : Sx → List Stmt → Bool
  | .nil, [] => true
  | .seq a b, s :: r => chkS Γ a s && chkSs Γ b r
  | _, _ => false
end
/-- a def's body: exceptions may leave it, names may be stored -/
structure SOk (P : Prog) (n : Nat) (Γ : Gam) (fx : Fix) (W : WX) (X : Cx) : Prop where
  x : XOk P n Γ fx W X
  fn : ∀ y, X.fn y = true
  po : PassesOwn (model X.prog X.w) X.A X.env X.xe
  kind : X.env.scope.kind = .function
  hs : X.stack = X.env :: X.outer
  hf : X.env.frame = some X.env.locals
  room : Room 1 X.A
section
variable {P : Prog} {n : Nat} {Γ : Gam} {fx : Fix} {W : WX} {X : Cx}
theorem swaps_no {e : Expr} {t : Option Expr} {l : Nat} {env : Env} (h : notComp e = true) : swapsWith e t l env = pure false := by
  cases e <;> first | rfl | cases h
theorem asg_sub {o i : Expr} {sp : Pos} {env : Env} (h : notSlice i = true) : ∀ u, assign (.Subscript o i sp) env u = (do
      let ov ← holding [u] (eval o env)
      let iv ← holding [u, ov] (eval i env)
      standAt sp
      holding [u, ov, iv] (setItem ov iv u)
      release [u, ov, iv] []) := fun u => by
  cases i <;> first | rfl | cases h
theorem swaps_lc {el : Expr} {gs : List Comprehension} {scope : Scope} {pos py : Pos} {y : Str} {l : Nat} {env : Env} (hk : env.scope.kind = .function) {Γ : Gam} (hs : env.scope = Γ.sc) (h : swB Γ y py scope pos = false) : swapsWith (.ListComp el gs scope pos) (some (.Name y py)) l env = pure false := by
  have hb : env.blockKind = .function := by unfold Env.blockKind; rw [hk]; rfl
  have e : swapsWith (.ListComp el gs scope pos) (some (.Name y py)) l env = pure (env.blockKind == .function && env.kindOf y == some .local && py.line == pos.line && !(scope.names.any fun (n, k) => n == y && (k == .local || k == .cell))) := rfl
  rw [e, hb]
  unfold swB at h
  have ek : env.kindOf y = Γ.sc.names.lookup y := by unfold Env.kindOf; rw [hs]
  rw [ek]
  have : (Γ.sc.names.lookup y == some NameKind.local) = decide (Γ.sc.names.lookup y = some .local) := by
    cases hd : decide (Γ.sc.names.lookup y = some .local) with
    | true => exact beq_iff_eq.mpr (of_decide_eq_true hd)
    | false => exact beq_eq_false_iff_ne.mpr (of_decide_eq_false hd)
  rw [this]
  congr 1
  rw [show (ScopeKind.function == ScopeKind.function) = true from rfl, Bool.true_and, Bool.and_assoc]
  exact h
theorem isLC (e : Expr) : (∃ el gs sc p, e = .ListComp el gs sc p) ∨ notComp e = true ∨ (∃ a b c d, e = .SetComp a b c d) ∨ (∃ a b c d f, e = .DictComp a b c d f) := by
  cases e <;> first | exact .inr (.inl rfl) | exact .inl ⟨_, _, _, _, rfl⟩ | exact .inr (.inr (.inl ⟨_, _, _, _, rfl⟩)) | exact .inr (.inr (.inr ⟨_, _, _, _, _, rfl⟩))
theorem not_setc {c : E} {a b c' d} : chkE Γ false c (.SetComp a b c' d) = false := by cases c <;> rfl
theorem not_dictc {c : E} {a b c' d f} : chkE Γ false c (.DictComp a b c' d f) = false := by cases c <;> rfl
theorem lc_only {c : E} {el gs sc p} (k : chkE Γ false c (.ListComp el gs sc p) = true) : ∃ nw own kk tg it cc elt, c = .comp nw own kk tg it cc elt := by
  cases c <;> first | (cases k; done) | exact ⟨_, _, _, _, _, _, _, rfl⟩
/-- x = e -/
theorem asg_ok {i : Nat} {e : E} {x : Str} {p pos : Pos} {v : Expr} (h : SOk P n Γ fx W X) (hl : Γ.loc i x = true) (k : chkE Γ false e v = true) : PS X (.Assign [.Name x p] v pos) (tS fx W fun σ S => (evE P (run P n) e σ S).sr σ fun d S1 => .nx (σ.set i (some d)) S1) := by
  obtain ⟨h1, h2⟩ := h.x.loc hl
  have he := (snd e h.x).1.e v k
  rcases isLC v with ⟨el, gs, sc, p3, rfl⟩ | hn | ⟨_, _, _, _, rfl⟩ | ⟨_, _, _, _, _, rfl⟩
  · cases hsw : swB Γ x p sc p3 with
    | false => exact ss_asg h.x.nd h1 h2 he (swaps_lc h.kind h.x.sc hsw) (.inl (h.fn _))
    | true =>
      obtain ⟨nw, own, kk, tg0, it, c, elt, rfl⟩ := lc_only k
      · obtain ⟨el', tg, iter, ifs, sc', p', eq, L⟩ := lc_key h.x (snd it h.x).1 (fun h2 => (snd c h2).2.2) (fun h2 => (snd elt h2).1) _ _ k
        cases eq
        obtain ⟨tt, ht1, ht2⟩ := L.ht'
        unfold swB at hsw
        simp only [Bool.and_eq_true, Bool.not_eq_true'] at hsw
        obtain ⟨w1, w2, w3⟩ := hsw
        have hyl : X.env.scope.names.lookup x = some .local := by
          rw [h.x.sc]
          exact of_decide_eq_true w1
        have z := ps_setLc (own := ownN Γ own) (i := i) (py := p) (spos := pos) h.x.calm h.x.nd h1 hyl (sw_true h.kind hyl w2 w3) L.hi L.ok L.hg ht2 L.he L.hs
        rw [ownN_snd] at z
        refine ps_imp z fun D σ H ⟨g, dσ, S, r, sl, q⟩ => ?_
        refine lc_readG (W := W) (nw := nw) L.ht ht1 σ H _ ?_
        refine tE.sr q r sl fun d S1 v g1 H1 _ l1 r1 rv q1 => ?_
        exact q1 g1 H1 _ (Gh.le.refl g1) r1 ((sl.mono l1).set i rv)
  · exact ss_asg h.x.nd h1 h2 he (swaps_no hn) (.inl (h.fn _))
  · rw [not_setc] at k
    cases k
  · rw [not_dictc] at k
    cases k
theorem ss_stuck {st : Stmt} : PS X st (tS fx W (exS P (run P n) .stuck)) := ⟨fun pins s σ H D I ⟨g, dσ, S, r, sl, q⟩ => q.elim⟩
theorem relF_zip {K : PySem.W.Frag} {ca : String → Addr} {g : Gh} : ∀ {l : List String} {vs : List V} {ds : List D}, RelL K ca g vs ds → RelF K ca g ((l.map Str.ofString).zip vs) (l.zip ds)
  | [], _, _, _ => .nil
  | _ :: _, _, _, .nil => .nil
  | x :: l, v :: vs, d :: ds, .cons a b => .cons a (relF_zip b)
theorem relF_app {K : PySem.W.Frag} {ca : String → Addr} {g : Gh} : ∀ {vs ws : List (Str × V)} {ds es : List (String × D)}, RelF K ca g vs ds → RelF K ca g ws es → RelF K ca g (vs ++ ws) (ds ++ es)
  | _, _, _, _, .nil, h => h
  | _, _, _, _, .cons a b, h => .cons a (relF_app b h)
theorem relF_rev {K : PySem.W.Frag} {ca : String → Addr} {g : Gh} : ∀ {vs : List (Str × V)} {ds : List (String × D)}, RelF K ca g vs ds → RelF K ca g vs.reverse ds.reverse
  | _, _, .nil => .nil
  | _, _, .cons a b => by
    rw [List.reverse_cons, List.reverse_cons]
    exact relF_app (relF_rev b) (.cons a .nil)
theorem tA.sr {W : WX} {g : Gh} {D : Ends} {dσ : DSt} {σ : L2.St} {H : Hp} {S : Store} {f : DSt → Store → Res MX.D} {k : MX.D → Store → SR} (h : sPost fx W g D ((f dσ S).sr dσ k)) (r : R fx g S H) (sl : Sl fx g dσ σ) {Q' : List V → Hp → Prop}
    (hq : ∀ x S' vs g' H', f dσ S = .ok x S' → g.le g' → R fx g' S' H' → RelL fx.K fx.ca g' vs (unT x) → sPost fx W g' D (k x S') → Q' vs H') : tA fx W f σ H Q' := by
  refine ⟨g, dσ, S, r, sl, ?_⟩
  cases e : f dσ S with
  | ok x S' =>
    rw [e] at h
    intro g' H' l r' v rv
    exact hq x S' v g' H' e l r' rv (sPost.up h l)
  | ex x S' =>
    rw [e] at h
    intro c d g' H' l r' rx
    exact h c d g' H' σ l r' (sl.mono l) rx
  | bad =>
    rw [e] at h
    exact h
/-- raise C(..) -/
theorem raise_ok {c : String} {as : E} {x : Str} {p pos pos2 : Pos} {es : List Expr} (h : SOk P n Γ fx W X) (hg : Γ.glo x (.exc c) = true) (hn : okName x = true) (k : chkR Γ as es = true) : PS X (.Raise (some (.Call (.Name x p) es [] pos)) none pos2) (tS fx W (exS P (run P n) (.raise c as))) := by
  obtain ⟨g1, g2, g3⟩ := h.x.glo hg
  obtain ⟨kx, ek⟩ := Option.isSome_iff_exists.mp g3
  have dbg := (okName_of hn).1
  obtain ⟨ra1, ra2, ra3⟩ := h.x.xf.rai c kx ek
  have xn : ∀ ds, exnD P c ds = match kx.ini with
      | some l => if l.length = ds.length then some (Exn.mk c (l.zip ds).reverse) else none
      | none => if ds.isEmpty then some ⟨c, []⟩ else none := fun ds => by
    unfold exnD
    simp only [ek] <;> (cases kx.ini <;> rfl)
  have hs : ∀ {dσ : DSt} {S : Store}, exS P (run P n) (.raise c as) dσ S = if raB P c as then (evE P (run P n) as dσ S).sr dσ fun x S1 => (match exnD P c (unT x) with
      | some y => SR.ex y dσ S1
      | none => .bad) else .bad := rfl
  by_cases hra : ¬ raB P c as = true
  · refine ⟨fun pins s σ H D I ⟨g, dσ, S, r, sl, q⟩ => ?_⟩
    rw [hs, if_neg hra] at q
    exact q.elim
  have hra := Decidable.not_not.mp hra
  have hs2 : ∀ {dσ : DSt} {S : Store}, exS P (run P n) (.raise c as) dσ S = (evE P (run P n) as dσ S).sr dσ fun x S1 => (match exnD P c (unT x) with
      | some y => SR.ex y dσ S1
      | none => .bad) := fun {dσ S} => by rw [hs, if_pos hra]
  have ra : raQ kx.ini as = true := by
    unfold raB at hra
    rw [ek] at hra
    exact hra
  cases as with
  | anil =>
    match es, k with
    | [.Constant (.str m) j p2], k =>
      cases hi : kx.ini with
      | none =>
        have ow := h.x.xf.own c kx ek hi
        refine ps_imp (ps_raise h.x.calm h.x.tk (pmk_own PySem.F.excBase_ValueError ow g2 ra3 (raises_own ra1 ra2) g1 dbg)) fun D σ H ⟨g, dσ, S, r, sl, q⟩ => ?_
        rw [hs2] at q
        have q : sPost fx W g D (match exnD P c [] with
          | some y => .ex y dσ S
          | none => .bad) := q
        rw [xn, hi] at q
        exact q _ none g H σ (Gh.le.refl g) r sl ⟨rfl, .inl ⟨rfl, rfl⟩⟩
      | some l =>
        rw [hi] at ra
        cases ra
    | [.Constant (.int _) _ _], k => cases k
  | acons a b =>
    have ka : chkA Γ (.acons a b) es = true := by cases es <;> exact k
    cases es with
    | nil => cases ka
    | cons e es =>
      obtain ⟨h5, h6⟩ := args_of (pos := pos) (env := X.env) ka
      have pa := (snd (.acons a b) h.x).1.a _ ka
      cases hi : kx.ini with
      | none =>
        rw [hi] at ra
        cases ra
      | some l =>
        refine ps_imp (ps_raise h.x.calm h.x.tk (pmk_init (h.x.xf.ini c kx l ek hi) h.room g1 g2 pa dbg h5 h6)) fun D σ H ⟨g, dσ, S, r, sl, q⟩ => ?_
        rw [hs2] at q
        refine tA.sr q r sl fun x S1 vs g1 H1 _ l1 r1 rv q1 => ?_
        rw [xn, hi] at q1
        have q1 : sPost fx W g1 D (match (if l.length = (unT x).length then some (Exn.mk c (l.zip (unT x)).reverse) else none) with
          | some y => .ex y dσ S1
          | none => .bad) := q1
        by_cases hl : l.length = (unT x).length
        · rw [if_pos hl] at q1
          have lz : l.length ≤ 1000 := (h.x.xf.ini c kx l ek hi).few
          refine ⟨by rw [rv.length, hl], by rw [rv.length, ← hl]; exact lz, fun dd hd => ?_⟩
          obtain ⟨r2, l2⟩ := r1.laid (o := .xd ((l.map Str.ofString).zip vs).reverse) hd
          exact q1 _ (some dd) _ _ σ l2 r2 ((sl.mono l1).mono l2) ⟨rfl, .inr ⟨dd, _, rfl, (show upd g1.F dd _ dd = some _ from upd_same), (relF_rev (relF_zip rv)).mono l2⟩⟩
        · rw [if_neg hl] at q1
          exact q1.elim
  | _ => cases es <;> cases k
/-- the clauses as the rule wants them -/
def hdL (P : Prog) (fx : Fix) : Sx → List (Value × Option Nat × SuiteT)
  | .hcons c o as r h => (.ref (fx.ca c), o, fun a cls d D σ H => ∃ x k g dσ S, P.xt x.cls = some k ∧ SuP fx x o a cls d g dσ S σ H ∧ ∃ dσ1 dv, xeL P x as dσ = some dσ1 ∧ xeD P x dσ1 r = some dv ∧ ∀ g' H' v, g.le g' → R fx g' S H' → RelD fx.K fx.ca g' v dv → D.rt v H') :: hdL P fx h
  | _ => []
theorem hd_wish {c : Sx} {x : Exn} {D : Ends} : ∀ {hs : List ExceptHandler} {g : Gh} {dσ : DSt} {σ : L2.St} {S : Store} {H : Hp} {cls : Value} {d : Option Addr}, XOk P n Γ fx W X → chkH Γ c hs = true → R fx g S H → Sl fx g dσ σ → RelX fx g cls d x → sPost fx W g D (hdS P x dσ S c) → wHs X.K W D (hdL P fx c) cls d σ H := by
  induction c with
  | hnil => exact fun {hs g dσ σ S H cls d} h k r sl rx q => q cls d g H σ (Gh.le.refl g) r sl rx
  | hcons c o as rr hh ih =>
    intro hs g dσ σ S H cls d h k r sl rx q
    match hs, k with
    | .ExceptHandler (some (.Name y _)) nm (b :: suite) _ :: hs, k =>
      have k : ((Γ.glo y (.exc c) && okName y) && (nmB Γ o nm && (chkXs Γ o as rr (b :: suite) && chkH Γ hh hs))) = true := k
      simp only [Bool.and_eq_true] at k
      obtain ⟨⟨k1, _⟩, _, _, k4⟩ := k
      obtain ⟨_, _, g3⟩ := h.glo k1
      obtain ⟨k2, ek2⟩ := Option.isSome_iff_exists.mp g3
      have q : sPost fx W g D (match P.xt x.cls with
        | some k => if k.ups.contains c then
            match xeL P x as (unO o dσ) with
            | some σ1 => match xeD P x σ1 rr with
              | some d => .rt d S
              | none => .bad
            | none => .bad
          else hdS P x dσ S hh
        | none => .bad) := q
      cases ek : P.xt x.cls with
      | none => rw [ek] at q; exact q.elim
      | some kx =>
        rw [ek] at q
        obtain ⟨rx1, rx2⟩ := id rx
        refine ⟨kx.ups.contains c, by rw [rx1]; exact h.xf.exm x.cls kx c k2 ek ek2, fun hb a ha => ?_, fun hb => ?_⟩
        · have q : sPost fx W g D (if kx.ups.contains c then
            match xeL P x as (unO o dσ) with
            | some σ1 => match xeD P x σ1 rr with
              | some d => .rt d S
              | none => .bad
            | none => .bad
          else hdS P x dσ S hh) := q
          rw [if_pos hb] at q
          have q5 := q
          clear q
          cases e1 : xeL P x as (unO o dσ) with
          | none => rw [e1] at q5; exact q5.elim
          | some σ1 =>
            rw [e1] at q5
            have q6 : sPost fx W g D (match xeD P x σ1 rr with
              | some d => .rt d S
              | none => .bad) := q5
            cases e2 : xeD P x σ1 rr with
            | none => rw [e2] at q6; exact q6.elim
            | some dv =>
              rw [e2] at q6
              refine ⟨x, kx, g, _, S, ek, ?_, σ1, dv, e1, e2, fun g' H' v l r rv => ?_⟩
              · cases o with
                | none => exact ⟨r, sl, rx, fun j z => by cases z⟩
                | some i =>
                  refine ⟨r, ?_, rx, fun j z y hy => ?_⟩
                  · have z := sl.unset i
                    refine ⟨by show (dσ.set i none).length = (σ.set i _).length; rw [List.length_set, List.length_set]; exact sl.len, fun j e hj => ?_⟩
                    obtain ⟨v, h1, h2⟩ := z.at_ j e hj
                    refine ⟨v, ?_, h2⟩
                    by_cases hij : i = j
                    · subst hij
                      by_cases hlt : i < σ.length
                      · rw [List.getElem?_set_self hlt] at h1
                        cases h1
                      · rw [List.getElem?_eq_none (by rw [List.length_set]; omega)] at h1
                        cases h1
                    · rw [List.getElem?_set_ne hij] at h1
                      show (σ.set i _)[j]? = _
                      rw [List.getElem?_set_ne hij]
                      exact h1
                  · cases z
                    have hy : (σ.set i (some (.ref a)))[i]? = some y := hy
                    by_cases hlt : i < σ.length
                    · rw [List.getElem?_set_self hlt] at hy
                      cases hy
                      rfl
                    · rw [List.getElem?_eq_none (by rw [List.length_set]; omega)] at hy
                      cases hy
              · cases o with
                | none => exact q6 g' H' v l r rv
                | some i => exact q6 g' H' v l r rv
        · have q : sPost fx W g D (if kx.ups.contains c then
            match xeL P x as (unO o dσ) with
            | some σ1 => match xeD P x σ1 rr with
              | some d => .rt d S
              | none => .bad
            | none => .bad
          else hdS P x dσ S hh) := q
          rw [if_neg (by rw [hb]; exact Bool.false_ne_true)] at q
          exact ih h k4 r sl rx q
    | [], k => cases k
  | _ => exact fun {hs g dσ σ S H cls d} h k r sl rx q => q.elim
theorem names_exc (h : XOk P n Γ fx W X) {c : String} {x : Str} (k1 : Γ.glo x (.exc c) = true) (k2 : okName x = true) : Names X x (.ref (fx.ca c)) := by
  obtain ⟨g1, g2, g3⟩ := h.glo k1
  exact ⟨g1, (okName_of k2).1, .inl g2⟩
theorem chkX_ok {o : Option Nat} {a : Addr} {cls : Value} {d : Option Addr} {oe : Obj} {pn : List (Addr × Obj)} (h : XOk P n Γ fx W X) (hz : Zc cls d oe) (hf : ∃ vs, oe.data = .fields vs) :
    ∀ (c : XE), (∀ e, chkX Γ o c e = true → PE (X.suite a ((a, oe) :: pn)) e (tXe P fx o a cls d c)) ∧ (∀ es, chkXa Γ o c es = true → PA (X.suite a ((a, oe) :: pn)) es (tXa P fx o a cls d c)) := by
  have vis : ∀ {i : Nat} {x : Str} {p : Pos}, Γ.vis i x = true → okName x = true → PE (X.suite a ((a, oe) :: pn)) (.Name x p) (tVar i) := fun {i x p} k1 k2 => by
    obtain ⟨h1, h2⟩ := h.vis k1
    obtain ⟨h3, h4⟩ := okName_of k2
    exact pe_var (X := X.suite a ((a, oe) :: pn)) h1 h2 h3 h4
  have exn : ∀ {e : Expr}, isExcName Γ o e = true → ∃ i, o = some i ∧ i < X.N.length ∧ PE (X.suite a ((a, oe) :: pn)) e (tVar i) := fun {e} k => by
    cases e with
    | Name x p =>
      cases o with
      | none => cases k
      | some i =>
        have k : (Γ.vis i x && okName x) = true := k
        rw [Bool.and_eq_true] at k
        exact ⟨i, rfl, (List.getElem?_eq_some_iff.mp (h.vis k.1).1).1, vis k.1 k.2⟩
    | _ => cases k
  have noA : ∀ {c : XE} {es : List Expr}, (∀ es, chkXa Γ o c es = false) → chkXa Γ o c es = true → PA (X.suite a ((a, oe) :: pn)) es (tXa P fx o a cls d c) := fun {c es} h1 h2 => by rw [h1] at h2; cases h2
  intro c
  induction c with
  | str s => exact ⟨fun e k => by
      cases e with
      | Constant v j p =>
        cases v with
        | str x =>
          have k : decide (x = Str.ofString s) = true := k
          have := of_decide_eq_true k
          subst this
          exact x_const pe_str (fun _ _ => rfl) fun g => .str _
        | _ => cases k
      | _ => (cases k), fun es => noA fun es => by cases es <;> rfl⟩
  | int i => exact ⟨fun e k => by
      cases e with
      | Constant v j p =>
        cases v with
        | int x =>
          have k : decide (i = x) = true := k
          have := of_decide_eq_true k
          subst this
          exact x_const pe_int (fun _ _ => rfl) fun g => .int _
        | _ => cases k
      | _ => (cases k), fun es => noA fun es => by cases es <;> rfl⟩
  | bl i => exact ⟨fun e k => by
      cases e with
      | Constant v j p =>
        cases v with
        | bool x =>
          have k : (i == x) = true := k
          have := eq_of_beq k
          subst this
          exact x_const pe_bl (fun _ _ => rfl) fun g => .bl _
        | _ => cases k
      | _ => (cases k), fun es => noA fun es => by cases es <;> rfl⟩
  | non => exact ⟨fun e k => by
      cases e with
      | Constant v j p =>
        cases v with
        | none => exact x_const pe_non (fun _ _ => rfl) fun g => .non
        | _ => cases k
      | _ => (cases k), fun es => noA fun es => by cases es <;> rfl⟩
  | var i => exact ⟨fun e k => by
      cases e with
      | Name x p =>
        have k : (Γ.vis i x && okName x) = true := k
        rw [Bool.and_eq_true] at k
        exact x_var (vis k.1 k.2)
      | _ => (cases k), fun es => noA fun es => by cases es <;> rfl⟩
  | fld f => exact ⟨fun e k => by
      cases e with
      | Attribute e y p =>
        have k : (decide (y = Str.ofString f) && (notCall e && isExcName Γ o e)) = true := k
        simp only [Bool.and_eq_true, decide_eq_true_eq] at k
        obtain ⟨i, h1, h2, h3⟩ := exn k.2.2
        exact x_fld h.xf h1 h2 hz hf k.1 h3 (base_of k.2.1)
      | _ => (cases k), fun es => noA fun es => by cases es <;> rfl⟩
  | isi c => exact ⟨fun e k => by
      cases e with
      | Call fn es kw p =>
        cases fn with
        | Name g p2 =>
          match es, kw, k with
          | [e, .Name y _], [], k =>
            have k : (decide (g = ("isinstance" : Str)) && (Γ.glo g .blt && (notStar e && (isExcName Γ o e && (okName y && (decide (y = Str.ofString c) && (Γ.glo y (.exc c) || (decide (c = "ValueError") && Γ.glo y .blt)))))))) = true := k
            simp only [Bool.and_eq_true, decide_eq_true_eq, Bool.or_eq_true] at k
            obtain ⟨rfl, k2, k3, k4, k5, rfl, k7⟩ := k
            obtain ⟨i, h1, h2, h3⟩ := exn k4
            obtain ⟨g1, g2⟩ := h.glo k2
            have dbg := (okName_of k5).1
            rcases k7 with k7 | ⟨rfl, k7⟩
            · obtain ⟨m1, m2, m3⟩ := h.glo k7
              obtain ⟨k0, ek0⟩ := Option.isSome_iff_exists.mp m3
              refine x_isi (v2 := .ref (fx.ca c)) h.xf h1 h2 hz hf g1 g2 h3 (pe_glob (X := X.suite a ((a, oe) :: pn)) m1 m2 rfl dbg) (fun u ru c0 k0' e0 => ?_) (star_of k3) rfl
              obtain rfl : u = .ref (fx.ca c) := ru
              exact h.xf.kit c0 k0' c k0 e0 ek0
            · obtain ⟨m1, m2⟩ := h.glo k7
              refine x_isi (v2 := .ty "ValueError") h.xf h1 h2 hz hf g1 g2 h3 (pe_bltn (X := X.suite a ((a, oe) :: pn)) m1 m2 PyProof.Rows.Boot.«ValueError» rfl (by decide) dbg) (fun u ru c0 k0' e0 => ?_) (star_of k3) rfl
              obtain rfl : u = .type "ValueError" := ru
              exact h.xf.kiv c0 k0' e0
          | [], [], k => cases k
          | [_], [], k => cases k
          | _ :: y :: _ :: _, [], k => cases y <;> cases k
          | [], _ :: _, k => cases k
          | [_], _ :: _, k => cases k
          | [_, y], _ :: _, k => cases y <;> cases k
          | _ :: y :: _ :: _, _ :: _, k => cases y <;> cases k
        | _ => cases k
      | _ => (cases k), fun es => noA fun es => by cases es <;> rfl⟩
  | not c ih => exact ⟨fun e k => by
      cases e with
      | UnaryOp op e p =>
        cases op with
        | Not => exact x_not (ih.1 e k)
        | _ => cases k
      | _ => (cases k), fun es => noA fun es => by cases es <;> rfl⟩
  | and c1 c2 ih1 ih2 => exact ⟨fun e k => by
      cases e with
      | BoolOp op vs p =>
        cases op with
        | Or => cases k
        | And =>
          match vs, k with
          | x :: y :: rest, k =>
            have k : (chkX Γ o c1 x && chkX Γ o c2 (tailB .And y rest p)) = true := k
            rw [Bool.and_eq_true] at k
            refine x_and (ih1.1 x k.1) ?_
            cases rest with
            | nil => exact pe_one (ih2.1 y k.2)
            | cons z zs => exact ih2.1 _ k.2
          | [], k => cases k
          | [_], k => cases k
      | _ => (cases k), fun es => noA fun es => by cases es <;> rfl⟩
  | tup c ih => exact ⟨fun e k => by
      cases e with
      | Tuple es x p => exact x_tup (ih.2 es k)
      | _ => (cases k), fun es => noA fun es => by cases es <;> rfl⟩
  | anil => exact ⟨fun e k => (by cases e <;> cases k), fun es k => by
      cases es with
      | nil => exact x_anil
      | cons _ _ => cases k⟩
  | acons c1 c2 ih1 ih2 => exact ⟨fun e k => (by cases e <;> cases k), fun es k => by
      cases es with
      | nil => cases k
      | cons x xs =>
        have k : (notStar x && (chkX Γ o c1 x && chkXa Γ o c2 xs)) = true := k
        simp only [Bool.and_eq_true] at k
        exact x_acons (ih1.1 x k.2.1) (ih2.2 xs k.2.2) (star_of k.1)⟩
theorem xs_nil {o : Option Nat} {r : XE} {ss : List Stmt} (k : chkXs Γ o [] r ss = true) : ∃ e p, ss = [.Return (some e) p] ∧ chkX Γ o r e = true := by
  unfold chkXs at k
  split at k
  · exact ⟨_, _, rfl, k⟩
  · exact absurd ‹[] = _ :: _› (by simp)
  · cases k
theorem xs_cons {o : Option Nat} {r : XE} {i : Nat} {c : XE} {l : List (Nat × XE)} {ss : List Stmt} (k : chkXs Γ o ((i, c) :: l) r ss = true) : ∃ y py v p tl, ss = .Assign [.Name y py] v p :: tl ∧ ((Γ.loc i y && (!decide (o = some i) && (notComp v && chkX Γ o c v))) && chkXs Γ o l r tl) = true := by
  generalize hl : (i, c) :: l = ll at k
  unfold chkXs at k
  split at k
  · cases hl
  · cases hl
    exact ⟨_, _, _, _, _, rfl, k⟩
  · cases k
/-- a suite is sound -/
theorem suite_ok {o : Option Nat} {a : Addr} {cls : Value} {d : Option Addr} {oe : Obj} {pn : List (Addr × Obj)} (h : SOk P n Γ fx W X) (hz : Zc cls d oe) (hf : ∃ vs, oe.data = .fields vs) {rr : XE} :
    ∀ (as : List (Nat × XE)) (ss : List Stmt), chkXs Γ o as rr ss = true → PSs (X.suite a ((a, oe) :: pn)) ss (fun D σ H => ∃ x k g dσ S, P.xt x.cls = some k ∧ SuP fx x o a cls d g dσ S σ H ∧ ∃ dσ1 dv, xeL P x as dσ = some dσ1 ∧ xeD P x dσ1 rr = some dv ∧ ∀ g' H' v, g.le g' → R fx g' S H' → RelD fx.K fx.ca g' v dv → D.rt v H')
  | [], ss, k => by
      obtain ⟨e, p, rfl, k⟩ := xs_nil k
      refine pss_imp (pss_one (ps_ret ((chkX_ok h.x hz hf rr).1 e k))) fun D σ H ⟨x, kx, g, dσ, S, ek, su, dσ1, dv, e1, e2, q⟩ => ?_
      cases e1
      exact ⟨x, kx, g, dσ, S, ek, su, dv, e2, q⟩
  | (i, c) :: l, ss, k => by
      obtain ⟨y, py, v, p, ss2, e0, k0⟩ := xs_cons k
      subst e0
      simp only [Bool.and_eq_true, Bool.not_eq_true', decide_eq_false_iff_not] at k0
      obtain ⟨⟨k1, k2, k3, k4⟩, k5⟩ := k0
      obtain ⟨h1, h2⟩ := h.x.loc k1
      refine pss_imp (pss_cons (ps_set (X := X.suite a ((a, oe) :: pn)) (i := i) h.x.nd h1 h2 ((chkX_ok h.x hz hf c).1 v k4) (swaps_no k3) (.inl (h.fn _))) (suite_ok h hz hf l ss2 k5)) fun D σ H ⟨x, kx, g, dσ, S, ek, su, dσ1, dv, e1, e2, q⟩ => ?_
      have e1 : (match xeD P x dσ c with
        | some d => xeL P x l (dσ.set i (some d))
        | none => none) = some dσ1 := e1
      cases e3 : xeD P x dσ c with
      | none => rw [e3] at e1; cases e1
      | some dc =>
        rw [e3] at e1
        refine ⟨x, kx, g, dσ, S, ek, su, dc, e3, fun g' H' v l' r' rv => ⟨x, kx, g', dσ.set i (some dc), S, ek, ⟨r', (su.sl.mono l').set i rv, su.rx.mono l', fun j ej z hz => ?_⟩, dσ1, dv, e1, e2, fun g2 H2 v2 l2 r2 rv2 => q g2 H2 v2 (l'.trans l2) r2 rv2⟩⟩
        rw [List.getElem?_set_ne (fun e => k2 (by rw [e]; exact ej))] at hz
        exact su.at_ j ej z hz
theorem hds_ok (h : SOk P n Γ fx W X) : ∀ {c : Sx} {hs : List ExceptHandler}, chkH Γ c hs = true → HdsN X hs (hdL P fx c) := by
  intro c
  induction c with
  | hnil => exact fun {hs} k => (by
      cases hs with
      | nil => exact .nil
      | cons _ _ => cases k)
  | hcons c o as rr hh ih =>
    intro hs k
    match hs, k with
    | .ExceptHandler (some (.Name y _)) nm (b :: suite) _ :: hs, k =>
      have k : ((Γ.glo y (.exc c) && okName y) && (nmB Γ o nm && (chkXs Γ o as rr (b :: suite) && chkH Γ hh hs))) = true := k
      simp only [Bool.and_eq_true] at k
      obtain ⟨⟨k1, k2⟩, k3, k4, k5⟩ := k
      refine .cons (names_exc h.x k1 k2) ?_ (fun a oe cls d pn hz hf => suite_ok h hz hf as (b :: suite) k4) (ih k5)
      cases o with
      | none =>
        cases nm with
        | none => trivial
        | some z => cases k3
      | some i =>
        cases nm with
        | none => cases k3
        | some z =>
          have k3 : (decide (Γ.N[i]? = some z) && decide (Γ.sc.names.lookup z = some .local)) = true := k3
          rw [Bool.and_eq_true, decide_eq_true_eq, decide_eq_true_eq] at k3
          refine ⟨by rw [h.x.N]; exact k3.1, ?_⟩
          show X.env.scope.names.lookup z = _
          rw [h.x.sc]
          exact k3.2
    | [], k => cases k
  | _ => exact fun {hs} k => (by cases hs <;> cases k)
/-- a try's body stands in such a place -/
theorem SOk.tr {W2 : WX} {pn : List (Addr × Obj)} {xe : Value → Shared → Prop} (h : SOk P n Γ fx W X) (tk : Takes (X.tr pn xe) W2) (po : PassesOwn (model X.prog X.w) X.A X.env xe) : SOk P n Γ fx W2 (X.tr pn xe) := by
  obtain ⟨⟨a1, a2, a3, a4, a5, a6, a7, a8, a9, a10⟩, b1, b2, b3, b4, b5, b6⟩ := h
  refine ⟨⟨a1, a2, a3, a4, a5, tk, a7, fun x k e => ?_, ⟨a9.bits, a9.lacks, fun c x f m q => ⟨(a9.meth c x f m q).ex⟩, fun c k f m q1 q2 => ⟨(a9.mkk c k f m q1 q2).ex⟩, a9.own⟩, ⟨fun c k l q1 q2 => ?_, a10.own, a10.rai, a10.fld, a10.exm, a10.kit, a10.kiv⟩⟩, b1, po, b3, b4, b5, b6⟩
  · have z := a8 x k e
    cases k with
    | fn f =>
      have z : CallOk P n fx.K fx.ca X x f := z
      exact ⟨z.ex⟩
    | _ => exact z
  · have z := a10.ini c k l q1 q2
    exact ⟨z.ex, z.oex, z.no, z.few, z.sup, z.top⟩
theorem try_ok {b hh : Sx} {body : List Stmt} {hs : List ExceptHandler} {pos : Pos} (h : SOk P n Γ fx W X) (hb : ∀ {W2 : WX} {X2 : Cx}, SOk P n Γ fx W2 X2 → PSs X2 body (tS fx W2 (exS P (run P n) b))) (hc : hCons hh = true) (hk : chkH Γ hh hs = true) : PS X (.Try body hs [] [] pos) (tS fx W (exS P (run P n) (.try_ b hh))) := by
  have hok := hds_ok h hk
  cases hs with
  | nil =>
    cases hh <;> first | (cases hc; done) | (cases hk; done)
  | cons h0 hs =>
    refine ps_imp (ps_try_h h.hs h.hf h.x.nd h.x.tk (fun W2 pn xe tk po => hb (h.tr tk po)) hok) fun D σ H ⟨g, dσ, S, r, sl, q⟩ => ⟨g, dσ, S, r, sl, ?_⟩
    have q : sPost fx W g D (match exS P (run P n) b dσ S with
      | .ex x σ1 S1 => hdS P x σ1 S1 hh
      | r => r) := q
    cases e : exS P (run P n) b dσ S with
    | ex x σ1 S1 =>
      rw [e] at q
      exact fun cls d g' H' σ' l r' sl' rx => hd_wish h.x hk r' sl' rx (sPost.up q l)
    | nx σ1 S1 => rw [e] at q; exact q
    | rt d S1 => rw [e] at q; exact q
    | bk σ1 S1 => rw [e] at q; exact q
    | ct σ1 S1 => rw [e] at q; exact q
    | bad => rw [e] at q; exact q
structure SndS (P : Prog) (n : Nat) (c : Sx) (Γ : Gam) (fx : Fix) (W : WX) (X : Cx) : Prop where
  s : ∀ st, chkS Γ c st = true → PS X st (tS fx W (exS P (run P n) c))
  ss : ∀ st, chkSs Γ c st = true → PSs X st (tS fx W (exS P (run P n) c))
theorem one_only {c : Sx} (h1 : ∀ st, chkS Γ c st = true → PS X st (tS fx W (exS P (run P n) c))) (h2 : ∀ st, chkSs Γ c st = false) : SndS P n c Γ fx W X := ⟨h1, fun st k => by rw [h2] at k; cases k⟩
end
/-- the statements are sound -/
theorem sndS {P : Prog} {n : Nat} : ∀ (c : Sx) {Γ : Gam} {fx : Fix} {W : WX} {X : Cx}, SOk P n Γ fx W X → SndS P n c Γ fx W X := by
  intro c
  induction c with
  | nil => exact fun {Γ fx W X} h => ⟨fun st k => (by cases st <;> cases k), fun st k => by
      cases st with
      | nil => exact ss_next (f := fun _ _ _ => False)
      | cons x xs => cases k⟩
  | pass => exact fun {Γ fx W X} h => one_only (fun st k => by
      cases st with
      | Pass p => exact ss_pass
      | Expr v p =>
        cases v with
        | Constant c j p2 =>
          cases c with
          | str x => exact ss_doc
          | _ => cases k
        | _ => cases k
      | _ => cases k) fun st => by cases st <;> rfl
  | brk => exact fun {Γ fx W X} h => one_only (fun st k => by
      cases st with
      | Break p => exact ss_brk
      | _ => cases k) fun st => by cases st <;> rfl
  | cont => exact fun {Γ fx W X} h => one_only (fun st k => by
      cases st with
      | Continue p => exact ss_cont
      | _ => cases k) fun st => by cases st <;> rfl
  | seq a b iha ihb => exact fun {Γ fx W X} h => ⟨fun st k => (by cases st <;> cases k), fun st k => by
      cases st with
      | nil => cases k
      | cons x xs =>
        have k : (chkS Γ a x && chkSs Γ b xs) = true := k
        rw [Bool.and_eq_true] at k
        exact ss_seq ((iha h).s x k.1) ((ihb h).ss xs k.2)⟩
  | asg i e => exact fun {Γ fx W X} h => one_only (fun st k => by
      cases st with
      | Assign ts v p =>
        cases ts with
        | nil => cases k
        | cons t ts =>
          cases ts with
          | cons _ _ => cases t <;> cases k
          | nil =>
            cases t with
            | Name x p2 =>
              have k : (Γ.loc i x && chkE Γ false e v) = true := k
              rw [Bool.and_eq_true] at k
              exact asg_ok h k.1 k.2
            | _ => cases k
      | _ => cases k) fun st => by cases st <;> rfl
  | stuck => exact fun {Γ fx W X} h => one_only (fun st k => ss_stuck) fun st => by cases st <;> rfl
  | raise c a => exact fun {Γ fx W X} h => one_only (fun st k => by
      cases st with
      | Raise e cz p =>
        cases cz with
        | some z => cases e <;> first | (cases k; done) | (rename_i e; cases e <;> first | (cases k; done) | (rename_i f as kw p; cases f <;> first | (cases k; done) | (cases kw <;> cases k)))
        | none =>
          cases e with
          | none => cases k
          | some e =>
            cases e with
            | Call f es kw p2 =>
              cases f with
              | Name x p3 =>
                cases kw with
                | cons _ _ => cases k
                | nil =>
                  have k : ((Γ.glo x (.exc c) && okName x) && chkR Γ a es) = true := k
                  rw [Bool.and_eq_true, Bool.and_eq_true] at k
                  exact raise_ok h k.1.1 k.1.2 k.2
              | _ => cases k
            | _ => cases k
      | _ => cases k) fun st => by cases st <;> rfl
  | try_ b hh ihb ihh =>
    exact fun {Γ fx W X} h => one_only (fun st k => by
      cases st with
      | Try body hs oe fe p =>
        cases oe with
        | cons _ _ => cases k
        | nil =>
          cases fe with
          | cons _ _ => cases k
          | nil =>
            have k : (chkSs Γ b body && (hCons hh && chkH Γ hh hs)) = true := k
            simp only [Bool.and_eq_true] at k
            exact try_ok h (fun h2 => (ihb h2).ss body k.1) k.2.1 k.2.2
      | _ => cases k) (fun st => by cases st <;> rfl)
  | hnil => exact fun {Γ fx W X} h => one_only (fun st k => by cases st <;> cases k) fun st => by cases st <;> rfl
  | hcons c i l r b ihb => exact fun {Γ fx W X} h => one_only (fun st k => by cases st <;> cases k) fun st => by cases st <;> rfl
  | sfld x o e => exact fun {Γ fx W X} h => one_only (fun st k => by
      cases st with
      | Assign ts v p =>
        cases ts with
        | nil => cases k
        | cons t ts =>
          cases ts with
          | cons _ _ => cases t <;> cases k
          | nil =>
            cases t with
            | Attribute t y p2 =>
              have k : (decide (y = Str.ofString x) && (notComp v && (chkE Γ false o t && chkE Γ false e v))) = true := k
              simp only [Bool.and_eq_true, decide_eq_true_eq] at k
              exact s_sfld k.1 h.x.ob ((snd e h.x).1.e v k.2.2.2) ((snd o h.x).1.e t k.2.2.1) (swaps_no k.2.1)
            | _ => cases k
      | _ => cases k) fun st => by cases st <;> rfl
  | sidx o i e => exact fun {Γ fx W X} h => one_only (fun st k => by
      cases st with
      | Assign ts v p =>
        cases ts with
        | nil => cases k
        | cons t ts =>
          cases ts with
          | cons _ _ => cases t <;> cases k
          | nil =>
            cases t with
            | Subscript t s p2 =>
              have k : (notComp v && (notSlice s && (chkE Γ false o t && (chkE Γ false i s && chkE Γ false e v)))) = true := k
              simp only [Bool.and_eq_true] at k
              exact s_sidx ((snd e h.x).1.e v k.2.2.2.2) ((snd o h.x).1.e t k.2.2.1) ((snd i h.x).1.e s k.2.2.2.1) (swaps_no k.1) (asg_sub k.2.1)
            | _ => cases k
      | _ => cases k) fun st => by cases st <;> rfl
  | aug op i e => exact fun {Γ fx W X} h => one_only (fun st k => by
      cases st with
      | AugAssign t o v p =>
        cases t with
        | Name x p2 =>
          have k : (augOk op && (decide (o = op.op) && (Γ.loc i x && chkE Γ false e v))) = true := k
          simp only [Bool.and_eq_true] at k
          obtain ⟨k1, k2, k3, k4⟩ := k
          have := of_decide_eq_true k2
          subst this
          obtain ⟨h1, h2⟩ := h.x.loc k3
          refine ss_aug h.x.nd h1 h2 ((snd e h.x).1.e v k4) ?_ (.inl (h.fn _))
          cases op <;> first | exact .inl rfl | exact .inr rfl | cases k1
        | _ => cases k
      | _ => cases k) fun st => by cases st <;> rfl
  | ex e => exact fun {Γ fx W X} h => one_only (fun st k => by
      cases st with
      | Expr v p =>
        have k : (notComp v && chkE Γ false e v) = true := by
          cases v <;> first | exact k | (rename_i c _ _; cases c <;> exact k)
        rw [Bool.and_eq_true] at k
        exact ss_ex ((snd e h.x).1.e v k.2) (swaps_no k.1)
      | _ => cases k) fun st => by cases st <;> rfl
  | ret e => exact fun {Γ fx W X} h => one_only (fun st k => by
      cases st with
      | Return v p =>
        cases v with
        | none => cases k
        | some v => exact ss_ret ((snd e h.x).1.e v k)
      | _ => cases k) fun st => by cases st <;> rfl
  | retN => exact fun {Γ fx W X} h => one_only (fun st k => by
      cases st with
      | Return v p =>
        cases v with
        | none => exact ss_retN
        | some v => cases k
      | _ => cases k) fun st => by cases st <;> rfl
  | ifs c a b iha ihb =>
    intro Γ fx W X h
    refine ⟨fun st k => ?_, fun st k => ?_⟩
    · cases st with
      | If t x y p =>
        have k : (notIf t && (chkE Γ false c t && (chkSs Γ a x && chkSs Γ b y))) = true := k
        simp only [Bool.and_eq_true] at k
        obtain ⟨k1, k2, k3, k4⟩ := k
        exact ss_if ((snd c h.x).1.t t k2 k1) ((iha h).ss x k3) ((ihb h).ss y k4)
      | _ => cases k
    · cases st <;> cases k
  | whl m c b ihb => exact fun {Γ fx W X} h => one_only (fun st k => by
      cases st with
      | While t x y p =>
        cases y with
        | cons _ _ => cases k
        | nil =>
          have k : (notIf t && (chkE Γ false c t && chkSs Γ b x)) = true := k
          simp only [Bool.and_eq_true] at k
          obtain ⟨k1, k2, k3⟩ := k
          exact ss_whl h.po ((snd c h.x).1.t t k2 k1) ((ihb h).ss x k3)
      | _ => cases k) fun st => by cases st <;> rfl
  | for_ kk tg it b ihb =>
    intro Γ fx W X h
    refine ⟨fun st k => ?_, fun st k => ?_⟩
    · cases st with
      | For te iter body oe p =>
        cases oe with
        | cons _ _ => cases k
        | nil =>
            have k : (chkT Γ.loc tg te && (chkI Γ kk tg (chkE Γ true it) (chkA Γ it) iter && chkSs Γ b body)) = true := k
            simp only [Bool.and_eq_true] at k
            obtain ⟨k1, k2, k3⟩ := k
            obtain ⟨pi, fo⟩ := chkI_ok h.x (snd it h.x).1 k2 k1
            have pg := pg_of (X := X) h.x.calm (fun i x q hq => (by
              obtain ⟨h1, h2⟩ := h.x.loc hq
              exact pg_name h.x.nd h1 h2 (.inl (h.fn _)))) k1
            exact ss_forG (own := tg.slots) h.po h.x.calm pi pg (by rw [h.x.hK]; exact tg_ok fun i hi => hi) ((ihb h).ss body k3) fo
      | _ => cases k
    · cases st <;> cases k
end MX
end

section
set_option maxRecDepth 100000
set_option maxHeartbeats 1000000
namespace MX
open PySem PySem.Spec PyProof.Rows L2
/-- an exception class's __init__ in the text: the class, the qualified name, the def, self's name, fields and parameters -/
structure XI where
  c : String
  qual : Str
  st : Stmt
  self : Str
  fvs : List (Str × Str)
/-- where C's __init__ stands -/
def iniAd (K : PySem.W.Frag) (c : String) : Addr := He.ma K (caOf K c) "__init__"
abbrev FnC : Type := Option (Str × Str × Arguments × FuncBody × Scope × Addr × List Str × Addr)
def fnC (K : PySem.W.Frag) (c : String) : FnC := match K.lookup (iniAd K c) with
  | some ⟨_, _, .func fd, _⟩ => some (fd.name, fd.qualname, fd.params, fd.body, fd.scope, fd.globals, fd.closure.map (·.1), fd.builtins)
  | _ => none
def XI.val (x : XI) : FnC := some ("__init__", x.qual, defArgs x.st, .stmts (defBody x.st), defScope x.st, mainGlobals, ["__class__"], builtinsNs)
def strAt (vs : Array Value) (file : Str) : Bool := match (vs[2]? : Option Value) with
  | some (.str f _) => decide (f = file)
  | _ => false
def codeB (K : PySem.W.Frag) (file : Str) : Value → Bool
  | .ref cda => (match K.lookup cda with
    | some ⟨_, _, .fields vs, _⟩ => strAt vs file
    | _ => false)
  | _ => false
def cellB (K : PySem.W.Frag) (C : Addr) : List (Str × Addr) → Bool
  | [(_, cc)] => (match K.lookup cc with
    | some ⟨_, _, .cell (some (.ref D)), _⟩ => decide (D = C)
    | _ => false)
  | _ => false
def nonB : Value → Bool
  | .none => true
  | _ => false
/-- the bits of an __init__ over super() -/
def iniB (K : PySem.W.Frag) (file : Str) (x : XI) : Bool :=
  (match K.lookup (iniAd K x.c) with
    | some ⟨_, _, .func fd, _⟩ => cellB K (caOf K x.c) fd.closure && (nonB fd.defaults && (PySem.W.codeIn K fd.code x.qual && codeB K file fd.code))
    | _ => false) &&
  ((PySem.W.clsIn K (caOf K x.c)).isSome && (He.eqO (PySem.W.ks_superIn K (caOf K x.c) (caOf K x.c) "__init__") (some (some (.builtin "ValueError.__init__"))) && (PySem.W.excInitIn K (caOf K x.c) veB "ValueError.__new__" &&
    (decide (PySem.W.subIn K (.ref (caOf K x.c)) (.type "ValueError") = some true) && (decide (PySem.W.mroIn K (caOf K x.c) (.ref (caOf K x.c)) = some true) && (He.eqO (PySem.W.nsIn K cStatics "thirdparty.any") (some none) &&
    (He.eqO (PySem.W.findIn K (.ref (caOf K x.c)) "__init__") (some (some (.ref (iniAd K x.c)))) && decide (PySem.W.typeIn K (.ref (iniAd K x.c)) = some (.type "function")))))))))
theorem ini_of {prog : Program} {K : PySem.W.Frag} {file : Str} {x : XI} (hf : (prog.main.file == file) = true) (e : fnC K x.c = x.val) (b : iniB K file x = true) :
    IniK prog K (caOf K x.c) (iniAd K x.c) "__init__" x.qual (defArgs x.st) (defBody x.st) (defScope x.st) ∧ PySem.W.findIn K (.ref (caOf K x.c)) "__init__" = some (some (.ref (iniAd K x.c))) ∧ PySem.W.typeIn K (.ref (iniAd K x.c)) = some (.type "function") := by
  unfold iniB at b
  simp only [Bool.and_eq_true, decide_eq_true_eq] at b
  obtain ⟨b1, b2, b3, b4, b5, b6, b7, b8, b9⟩ := b
  refine ⟨⟨?_, b2, He.eqO_ok b3, ⟨_, b4, rfl⟩, b5, b6, He.eqO_ok b7⟩, He.eqO_ok b8, b9⟩
  unfold fnC at e
  cases q : K.lookup (iniAd K x.c) with
  | none => rw [q] at b1; cases b1
  | some o =>
    obtain ⟨oc, od, dt, osl⟩ := o
    rw [q] at b1 e
    cases dt with
    | func fd =>
      obtain ⟨n1, n2, n3, n4, n5, n6, n7, n8, n9, n10, n11, n12, n13, n14, n15⟩ := fd
      have e2 : (some (n1, n2, n3, n4, n5, n6, n7.map (·.1), n15) : FnC) = x.val := e
      unfold XI.val at e2
      simp only [Option.some.injEq, Prod.mk.injEq] at e2
      obtain ⟨h1, h2, h3, h4, h5, h6, h7, h9⟩ := e2
      have b1 : (cellB K (caOf K x.c) n7 && (nonB n8 && (PySem.W.codeIn K n13 x.qual && codeB K file n13))) = true := b1
      simp only [Bool.and_eq_true] at b1
      obtain ⟨c1, c2, c3, c4⟩ := b1
      subst h1 h2 h3 h4 h5 h6 h9
      match n7, h7, c1 with
      | [(y, cc)], h7, c1 =>
        obtain rfl : y = ("__class__" : Str) := (List.cons.inj h7).1
        cases n8 with
        | none =>
          cases n13 with
          | ref cda =>
            refine ⟨cc, cda, n10, n11, n12, n14, n9, oc, od, osl, rfl, c3, ?_, ?_⟩
            · have c4 : (match K.lookup cda with
                | some ⟨_, _, .fields vs, _⟩ => strAt vs file
                | _ => false) = true := c4
              cases q2 : K.lookup cda with
              | none => rw [q2] at c4; cases c4
              | some o2 =>
                obtain ⟨o1, o2, dt2, o4⟩ := o2
                rw [q2] at c4
                cases dt2 with
                | fields vs =>
                  have c4 : strAt vs file = true := c4
                  unfold strAt at c4
                  cases q3 : vs[2]? with
                  | none => rw [q3] at c4; cases c4
                  | some z =>
                    rw [q3] at c4
                    cases z with
                    | str f tf =>
                      obtain rfl : f = file := of_decide_eq_true c4
                      exact ⟨_, _, vs, _, f, tf, rfl, q3, hf⟩
                    | _ => cases c4
                | _ => cases c4
            · have c1 : (match K.lookup cc with
                | some ⟨_, _, .cell (some (.ref D)), _⟩ => decide (D = caOf K x.c)
                | _ => false) = true := c1
              cases q2 : K.lookup cc with
              | none => rw [q2] at c1; cases c1
              | some o2 =>
                obtain ⟨o1, o2, dt2, o4⟩ := o2
                rw [q2] at c1
                cases dt2 with
                | cell v =>
                  cases v with
                  | none => cases c1
                  | some v =>
                    cases v with
                    | ref D =>
                      obtain rfl : D = caOf K x.c := of_decide_eq_true c1
                      exact ⟨_, _, _, rfl⟩
                    | _ => cases c1
                | _ => cases c1
          | _ => cases c4
        | _ => cases c2
      | [], h7, c1 => cases c1
      | _ :: _ :: _, h7, c1 => cases c1
    | _ => cases b1
/-- an exception class as OexC has it -/
def oexB (K : PySem.W.Frag) (C : Addr) : Bool :=
  (match K.lookup C with
    | some ⟨.type "type", _, .cls cd, sl⟩ => (match cd.mro, sl.toList with
      | .ref C' :: bm, [_, _, _, _, some (.builtin n), _] => decide (C' = C) && (decide (n = "ValueError.__new__") && (!cd.hasDel && (cd.hasDict && PySem.HandSPX.refsVE bm)))
      | _, _ => false)
    | _ => false) && He.eqO (PySem.W.findIn K (.ref C) "__setattr__") (some (some (.builtin "object.__setattr__")))
theorem oex_of {K : PySem.W.Frag} {C : Addr} (h : oexB K C = true) (h3 : PySem.W.subIn K (.ref C) (.type "BaseException") = some true) (h4 : PySem.W.typeIn K (.ref C) = some (.type "type")) (h5 : PySem.W.keepIn K (.ref C) = true) : OexC K C := by
  unfold oexB at h
  rw [Bool.and_eq_true] at h
  obtain ⟨h1, h2⟩ := h
  refine ⟨?_, He.eqO_ok h2, h3, h4, h5⟩
  split at h1
  · rename_i dd cd sl ho
    split at h1
    · rename_i C' bm k0 k1 k2 k3 n k5 hm hs
      simp only [Bool.and_eq_true, decide_eq_true_eq, Bool.not_eq_true'] at h1
      obtain ⟨rfl, rfl, hdel, hdct, ht⟩ := h1
      obtain ⟨nm, bs, mro, ns, qn, hd, sn, sub, ab, col, del⟩ := cd
      dsimp only at hm hdel hdct
      subst hm hdel hdct
      have hsl : sl = #[k0, k1, k2, k3, some (.builtin "ValueError.__new__"), k5] := by
        obtain ⟨l⟩ := sl
        simp only at hs
        rw [hs]
      subst hsl
      exact ⟨_, _, _, _, _, _, _, _, _, _, _, _, _, _, _, ho, ht⟩
    · cases h1
  · cases h1
def excB (K : PySem.W.Frag) (D : Addr) : Bool := He.eqO (PySem.W.findIn K (.ref D) "__getattribute__") (some (some (.builtin "BaseException.__getattribute__"))) && (He.eqO (PySem.W.findIn K (.ref D) "__getattr__") (some none) && (decide (PySem.W.subIn K (.ref D) (.type "BaseException") = some true) && (PySem.W.hasDictIn K D &&
  (He.eqO (PySem.W.findIn K (.ref D) "__class__") (some (some (.builtin "object.__class__"))) && (He.eqO (PySem.W.specialIn K (.builtin "object.__class__") "__get__") (some (some (.builtin "getset_descriptor.__get__"))) && (decide (PySem.W.takesIn K (.builtin "object.__class__") = some true) && decide (PySem.W.mroIn K D (.type "object") = some true)))))))
theorem exc_of {K : PySem.W.Frag} {D : Addr} (h : excB K D = true) : XfC K D ∧ ExcC K D := by
  unfold excB at h
  simp only [Bool.and_eq_true, decide_eq_true_eq] at h
  obtain ⟨h1, h2, h3, h4, h5, h6, h7, h8⟩ := h
  exact ⟨⟨He.eqO_ok h1, He.eqO_ok h2, h3, h4⟩, ⟨He.eqO_ok h1, He.eqO_ok h2, h3, h4, He.eqO_ok h5, He.eqO_ok h6, h7, h8⟩⟩
/-- the bits of one exception class -/
def exOne (K : PySem.W.Frag) (exs : List (String × ExD)) (p : String × ExD) : Bool :=
  He.Fa.ok K (.glo (Str.ofString p.1)) && (decide (PySem.W.subIn K (.ref (caOf K p.1)) (.type "BaseException") = some true) && (decide (PySem.W.typeIn K (.ref (caOf K p.1)) = some (.type "type")) && (PySem.W.keepIn K (.ref (caOf K p.1)) && (excB K (caOf K p.1) &&
    (exs.all (fun q => decide (PySem.W.exmOne K (.ref (caOf K p.1)) (.ref (caOf K q.1)) = some (p.2.ups.contains q.1)) && decide (PySem.W.kitOne K (.ref (caOf K p.1)) (.ref (caOf K q.1)) = some (p.2.ups.contains q.1))) &&
    (decide (PySem.W.kitOne K (.ref (caOf K p.1)) (.type "ValueError") = some (p.2.ups.contains "ValueError")) &&
    (match p.2.ini with
      | none => PySem.W.excIn K (caOf K p.1) veB "ValueError.__new__"
      | some l => oexB K (caOf K p.1) && (l.all (fun f => He.Fa.ok K (.noat (Str.ofString p.1) (Str.ofString f))) && decide (l.length ≤ 1000)))))))))
/-- what the table says of the written part's exception classes -/
def exTab (K : PySem.W.Frag) (file : Str) (exs : List (String × ExD)) (xis : List XI) : Bool :=
  exs.all (exOne K exs) && (xis.all (iniB K file) && (exs.isEmpty || He.Fa.ok K (.free "super")))
/-- the __init__s of the table, by Booleans of their text -/
def exDefs (exs : List (String × ExD)) (xis : List XI) : Bool := exs.all fun p => match p.2.ini with
  | none => true
  | some l => xis.any fun x => (x.c == p.1) && (initB x.fvs x.self (defArgs x.st) (defBody x.st) (defScope x.st) && (decide (x.fvs.map (·.1) = l.map Str.ofString) && !l.isEmpty))
/-! ### the Hook, with the __init__s -/
abbrev AlY : Type := Bool × He.AlD × List FnC
def obsY (bk : PySem.W.Frag → Bool) (fa : List He.Fa) (fn : List He.DefD) (xs : List XI) (K : PySem.W.Frag) : AlY := (bk K, He.obsD fa fn K, xs.map fun x => fnC K x.c)
def obsYG (n : Nat) (bk : PySem.W.Frag → Bool) (fa : List He.Fa) (fn : List He.DefD) (xs : List XI) (g : Addr → Option Obj) : AlY := obsY bk fa fn xs (He.frG g (He.asD g n ++ [cStatics]))
def hookY (n : Nat) (bk : PySem.W.Frag → Bool) (fa : List He.Fa) (fn : List He.DefD) (xs : List XI) : PySem.W.Hook where
  α := AlY
  obs := fun s => obsYG n bk fa fn xs s.heap.get?
  val := fun _ => (true, He.valD fn, xs.map XI.val)
  says := fun _ h => ∃ K : PySem.W.Frag, K.In h ∧ bk K = true ∧ He.SaysD fa fn K ∧ xs.map (fun x => fnC K x.c) = xs.map XI.val
  of := fun _ _ e => ⟨_, He.frG_in, congrArg Prod.fst e, congrArg (fun z : AlY => z.2.1) e, congrArg (fun z : AlY => z.2.2) e⟩
  keeps := fun _ _ _ ⟨K, h1, h2, h3, h4⟩ k => ⟨K, PySem.W.Frag.In.keeps h1 k, h2, h3, h4⟩
theorem obsYG_eq {n : Nat} {bk : PySem.W.Frag → Bool} {fa : List He.Fa} {fn : List He.DefD} {xs : List XI} {g : Addr → Option Obj} {s : Shared} (h : ∀ a, g a = s.heap.get? a) : obsYG n bk fa fn xs g = (hookY n bk fa fn xs).obs s := by
  have e : g = s.heap.get? := funext h
  rw [e] <;> rfl
end MX
end

section
set_option maxRecDepth 100000
set_option maxHeartbeats 4000000
namespace MX
open PySem PySem.Spec PyProof.Rows L2

/-! ### the table of the defs -/
structure Ent where
  id : String
  at_ : Str × Option Str
  name : Str
  qual : Str
  st : Stmt
  N : List Str
  fn : Fn
def Ent.ps (e : Ent) : List Str := namesPs (defArgs e.st)
/-- a def's scope, by Booleans -/
def scopeB (N P : List Str) (sc : Scope) : Bool :=
  decide (sc.kind = .function) && (!sc.isCoroutine && (!sc.isGenerator && (decide N.Nodup && (decide (N.take P.length = P) &&
    ((P.all fun x => decide (sc.names.lookup x = some .local) || decide (sc.names.lookup x = some .cell)) && sc.names.all fun y => !decide (y.2 = .free))))))
theorem scope_of {N P : List Str} {sc : Scope} (h : scopeB N P sc = true) : FnScope N P sc := by
  unfold scopeB at h
  simp only [Bool.and_eq_true, Bool.not_eq_true', decide_eq_true_eq, List.all_eq_true, Bool.or_eq_true, decide_eq_false_iff_not] at h
  obtain ⟨h1, h2, h3, h4, h5, h6, h7⟩ := h
  exact ⟨h1, h2, h3, h4, h5, h6, h7⟩
def Ent.ok (gl : List (Str × GK)) (e : Ent) : Bool :=
  plainPs (defArgs e.st) && (scopeB e.N e.ps (defScope e.st) && (decide (e.fn.np = e.ps.length) && (decide (e.fn.ns = e.N.length) && chkSs ⟨e.N, defScope e.st, gl⟩ e.fn.body (defBody e.st))))
/-- a law's table: defs, classes, exception classes -/
structure Tab where
  defs : List Ent
  cls : List (String × ClsD) := []
  exs : List (String × ExD) := []
  xis : List XI := []
  file : Str := Str.empty
def progOf (T : Tab) : Prog := ⟨fun s => (T.defs.find? fun e => e.id == s).map (·.fn), fun c => T.cls.lookup c, fun c => T.exs.lookup c⟩
theorem prog_at {T : Tab} (nd : (T.defs.map (·.id)).Nodup) {e : Ent} (h : e ∈ T.defs) : (progOf T).fn e.id = some e.fn := by
  have key : ∀ l : List Ent, (l.map (·.id)).Nodup → e ∈ l → l.find? (fun z => z.id == e.id) = some e := fun l => by
    induction l with
    | nil => exact fun _ h => by cases h
    | cons a r ih =>
      intro nd h
      rw [List.find?_cons]
      by_cases ha : a.id = e.id
      · rw [beq_iff_eq.mpr ha]
        rcases List.mem_cons.mp h with z | z
        · rw [z]
        · exact absurd (show a.id ∈ r.map (·.id) by rw [ha]; exact List.mem_map_of_mem z) (List.nodup_cons.mp nd).1
      · rw [beq_eq_false_iff_ne.mpr ha]
        rcases List.mem_cons.mp h with z | z
        · rw [z] at ha
          exact absurd rfl ha
        · exact ih (List.nodup_cons.mp nd).2 z
  show (T.defs.find? fun z => z.id == e.id).map (·.fn) = _
  rw [key T.defs nd h]
  rfl
/-- what the table says of the written part's classes -/
def clsTab (K : PySem.W.Frag) (T : Tab) : Bool := ownBits K (T.cls.map (·.1)) && T.cls.all fun p =>
  p.2.flds.all (fun x => He.Fa.ok K (.noat (Str.ofString p.1) (Str.ofString x))) && (p.2.meths.all (fun q => He.Fa.ok K (.meth (Str.ofString p.1) (Str.ofString q.1))) &&
    (He.Fa.ok K (.glo (Str.ofString p.1)) && (He.Fa.ok K (.keep (Str.ofString p.1)) && (p.2.init.isNone || He.Fa.ok K (.mkr (Str.ofString p.1))))))
/-- the methods stand among the defs -/
def clsDefs (T : Tab) : Bool := T.cls.all fun p => p.2.meths.all (fun q => T.defs.any fun e => (e.id == q.2.1) && decide (e.at_ = (Str.ofString p.1, some (Str.ofString q.1)))) &&
  (match p.2.init with
    | some f => T.defs.any fun e => (e.id == f.1) && decide (e.at_ = (Str.ofString p.1, some ("__init__" : Str)))
    | none => true)
/-- what the module's names are -/
def GlobOk (T : Tab) (K : PySem.W.Frag) (mg : Str → Option Value) (x : Str) : GK → Prop
  | .blt => mg x = none
  | .int i => ∃ t, mg x = some (.int i t)
  | .fn f => ∃ e ∈ T.defs, e.id = f ∧ mg x = some (.ref (He.fAd K e.at_))
  | .cls c => x = Str.ofString c ∧ mg x = some (.ref (He.ga K x)) ∧ (T.cls.lookup c).isSome = true
  | .exc c => mg x = some (.ref (caOf K c)) ∧ (T.exs.lookup c).isSome = true
section
variable {T : Tab} {gl : List (Str × GK)} {Pr : Program} {w : World} {K : PySem.W.Frag} {mg : Str → Option Value} {base : Heap}
theorem start_sl {fx : Fix} {g : Gh} {N : List Str} {vs : List V} {ds : List D} {m : Nat} (hm : m = N.length) (hl : vs.length ≤ N.length) (r : RelL fx.K fx.ca g vs ds) : Sl fx g (startD m ds) (L2.start N vs) := by
  subst hm
  refine ⟨?_, fun i d e => ?_⟩
  · unfold startD L2.start
    rw [List.length_append, List.length_append, List.length_map, List.length_map, List.length_replicate, List.length_replicate, r.length]
  · unfold startD at e
    by_cases hi : i < ds.length
    · rw [List.getElem?_append_left (by rw [List.length_map]; exact hi), List.getElem?_map] at e
      cases q : ds[i]? with
      | none => rw [q] at e; cases e
      | some d' =>
        rw [q] at e
        cases e
        obtain ⟨v, h1, h2⟩ := r.get q
        refine ⟨v, ?_, h2⟩
        unfold L2.start
        rw [List.getElem?_append_left (by rw [List.length_map, r.length]; exact hi), List.getElem?_map, h1]
        rfl
    · rw [List.getElem?_append_right (by rw [List.length_map]; omega), List.getElem?_replicate] at e
      split at e <;> cases e
theorem mem_lk {α : Type} : ∀ {l : List (String × α)} {c : String} {k : α}, l.lookup c = some k → (c, k) ∈ l
  | [], _, _, h => by cases h
  | (a, z) :: r, c, k, h => by
    rw [List.lookup_cons] at h
    by_cases e : c = a
    · rw [beq_iff_eq.mpr e] at h
      cases h
      rw [e]
      exact List.mem_cons_self
    · rw [beq_eq_false_iff_ne.mpr e] at h
      exact List.mem_cons_of_mem _ (mem_lk h)
theorem ent_binds {e : Ent} {fd : FuncData} {gl : List (Str × GK)} (ho : Ent.ok gl e = true) (F : FunD K e.name e.qual (defArgs e.st) (defBody e.st) (defScope e.st) [] [] (He.fAd K e.at_) fd) : Binds K fd e.ps [] := by
  unfold Ent.ok at ho
  simp only [Bool.and_eq_true, decide_eq_true_eq] at ho
  obtain ⟨p1, p2, _⟩ := ho
  have S2 := scope_of p2
  have ndp : (namesPs (defArgs e.st)).Nodup := by
    have z := S2.pre
    have z2 : e.ps = e.N.take e.ps.length := z.symm
    show e.ps.Nodup
    rw [z2]
    exact S2.nd.sublist (List.take_sublist _ _)
  exact F.bindsN fun kV doc pm an cdv ct us hus => bind_plain p1 ndp hus
theorem contains_of {T : Tab} {c : String} (h : (progOf T).kn c = true) : (T.cls.map (·.1)).contains c = true := by
  obtain ⟨k, e⟩ := Option.isSome_iff_exists.mp (show (T.cls.lookup c).isSome = true from h)
  exact List.contains_iff_mem.mpr (List.mem_map.mpr ⟨(c, k), mem_lk e, rfl⟩)
theorem lookup_mem : ∀ {l : List (String × ClsD)} {c : String}, c ∈ l.map (·.1) → (l.lookup c).isSome = true
  | [], _, h => by cases h
  | (a, k) :: r, c, h => by
    rw [List.lookup_cons]
    by_cases e : c = a
    · rw [beq_iff_eq.mpr e]; rfl
    · rw [beq_eq_false_iff_ne.mpr e]
      rw [List.map_cons] at h
      exact lookup_mem ((List.mem_cons.mp h).resolve_left e)
theorem kn_eq {T : Tab} : (progOf T).kn = (T.cls.map (·.1)).contains := by
  funext c
  cases h : (T.cls.map (·.1)).contains c with
  | true => exact lookup_mem (List.contains_iff_mem.mp h)
  | false =>
    cases q : (progOf T).kn c with
    | false => rfl
    | true => rw [contains_of q] at h; cases h
/-- the classes' facts, where the defs below are sound -/
theorem objF_of {n : Nat} {fx : Fix} {X : Cx} {k : Nat} (hK : X.K = K) (hk : fx.K = K) (hc : fx.ca = caOf K) (hm : X.mg = mg) (hp : X.prog = Pr) (hw : X.w = w) (hb : X.base = base) (hr : Room (k + 2) X.A) (hok : T.defs.all (Ent.ok gl) = true)
    (hF : ∀ e ∈ T.defs, ∃ fd, FunD K e.name e.qual (defArgs e.st) (defBody e.st) (defScope e.st) [] [] (He.fAd K e.at_) fd) (ht : clsTab K T = true) (hd : clsDefs T = true) (hglo : ∀ c, (T.cls.lookup c).isSome = true → mg (Str.ofString c) = some (.ref (caOf K c)))
    (ih : ∀ (e : Ent), e ∈ T.defs → ∀ fd, FunD K e.name e.qual (defArgs e.st) (defBody e.st) (defScope e.st) [] [] (He.fAd K e.at_) fd → FnOk Pr w K mg base (L2.CX Pr w) k (He.fAd K e.at_) fd e.ps (spI (progOf T) n K (caOf K) e.id)) :
    ObjF (progOf T) n fx X := by
  subst hK hm hp hw hb
  obtain ⟨fK, fca, fB, fF0⟩ := fx
  obtain rfl : fK = X.K := hk
  obtain rfl : fca = caOf X.K := hc
  unfold clsTab at ht
  rw [Bool.and_eq_true] at ht
  obtain ⟨t1, t2⟩ := ht
  obtain ⟨o1, o2⟩ := ownK_of t1
  have t2 := List.all_eq_true.mp t2
  unfold clsDefs at hd
  have hd := List.all_eq_true.mp hd
  have bits : ∀ p ∈ T.cls, _ := fun p hp => by
    have z := t2 p hp
    simp only [Bool.and_eq_true, List.all_eq_true] at z
    exact z
  refine ⟨fun c q => o2 c (List.contains_iff_mem.mp (contains_of q)), fun c x q => ?_, fun c x f m q => ?_, fun c kd f m q1 q2 => ?_, fun _ => by rw [kn_eq]; exact o1⟩
  · unfold Prog.lacks at q
    cases e : (progOf T).ct c with
    | none => rw [e] at q; cases q
    | some kd =>
      rw [e] at q
      exact He.noat_ok ((bits _ (mem_lk e)).1 x (List.contains_iff_mem.mp q))
  · unfold Prog.meth at q
    cases e : (progOf T).ct c with
    | none => rw [e] at q; cases q
    | some kd =>
      rw [e] at q
      have m1 := mem_lk e
      have m2 := mem_lk (show kd.meths.lookup x = some (f, m) from q)
      have z := hd _ m1
      rw [Bool.and_eq_true] at z
      obtain ⟨en, me, h2⟩ := List.any_eq_true.mp (List.all_eq_true.mp z.1 _ m2)
      rw [Bool.and_eq_true, decide_eq_true_eq, beq_iff_eq] at h2
      obtain ⟨fd, F⟩ := hF en me
      have M := He.meth_ok ((bits _ m1).2.1 _ m2)
      have g := ih en me fd F
      have id1 : en.id = f := h2.1
      rw [id1] at g
      refine ⟨k, He.fAd X.K en.at_, fd, en.ps, ?_, hr, ent_binds (List.all_eq_true.mp hok en me) F, g⟩
      rw [h2.2]
      exact M
  · have m1 := mem_lk (show T.cls.lookup c = some kd from q1)
    have z := hd _ m1
    rw [Bool.and_eq_true] at z
    have z2 := z.2
    simp only [q2] at z2
    obtain ⟨en, me, h2⟩ := List.any_eq_true.mp z2
    rw [Bool.and_eq_true, decide_eq_true_eq, beq_iff_eq] at h2
    obtain ⟨fd, F⟩ := hF en me
    have b5 := (bits _ m1).2.2.2.2
    simp only [q2] at b5
    have M := He.mkr_ok (by simpa using b5)
    have g := ih en me fd F
    have id1 : en.id = f := h2.1
    rw [id1] at g
    refine ⟨k, He.fAd X.K en.at_, fd, en.ps, ?_, hglo c (by rw [show T.cls.lookup c = some kd from q1]; rfl), hr.mono (Nat.le_succ _), ent_binds (List.all_eq_true.mp hok en me) F, g⟩
    rw [h2.2]
    exact M
/-- the exception classes' facts -/
theorem exF_of {fx : Fix} {X : Cx} (hK : X.K = K) (hk : fx.K = K) (hc : fx.ca = caOf K) (hm : X.mg = mg) (hp : X.prog = Pr) (ht : exTab K T.file T.exs T.xis = true) (hd : exDefs T.exs T.xis = true) (hv : ∀ x ∈ T.xis, fnC K x.c = x.val) (hfile : (Pr.main.file == T.file) = true) (htop : (Pr.main.scope.names.lookup ("super" : Str)).isSome = false)
    (hsup : T.exs.isEmpty = false → mg "super" = none) : ExF (progOf T) fx X := by
  subst hK hm hp
  obtain ⟨fK, fca, fB, fF0⟩ := fx
  obtain rfl : fK = X.K := hk
  obtain rfl : fca = caOf X.K := hc
  unfold exTab at ht
  simp only [Bool.and_eq_true] at ht
  obtain ⟨t1, t2, t3⟩ := ht
  have one : ∀ c k, (progOf T).xt c = some k → exOne X.K T.exs (c, k) = true := fun c k e => List.all_eq_true.mp t1 _ (mem_lk e)
  have parts : ∀ c k, (progOf T).xt c = some k → _ := fun c k e => by
    have z := one c k e
    unfold exOne at z
    simp only [Bool.and_eq_true, decide_eq_true_eq] at z
    exact z
  have sup : ∀ c k, (progOf T).xt c = some k → X.mg "super" = none := fun c k e => hsup (by
    have m := mem_lk e
    cases h : T.exs with
    | nil => rw [h] at m; cases m
    | cons a r => rfl)
  refine ⟨fun c k l e hi => ?_, fun c k e hi => ?_, fun c k e => ?_, fun c k e => exc_of (parts c k e).2.2.2.2.1, fun c k c2 k2 e e2 => ?_, fun c k c2 k2 e e2 => ?_, fun c k e => (parts c k e).2.2.2.2.2.2.1⟩
  · have p := parts c k e
    have q := p.2.2.2.2.2.2.2
    simp only [hi] at q
    have q : (oexB X.K (caOf X.K c) && (l.all (fun f => He.Fa.ok X.K (.noat (Str.ofString c) (Str.ofString f))) && decide (l.length ≤ 1000))) = true := by simpa using q
    simp only [Bool.and_eq_true, decide_eq_true_eq, List.all_eq_true] at q
    unfold exDefs at hd
    have d := List.all_eq_true.mp hd _ (mem_lk e)
    simp only [hi] at d
    obtain ⟨xi, mx, h2⟩ := List.any_eq_true.mp d
    simp only [Bool.and_eq_true, decide_eq_true_eq, beq_iff_eq, Bool.not_eq_true'] at h2
    obtain ⟨rfl, h3, h4, h5⟩ := h2
    obtain ⟨i1, i2, i3⟩ := ini_of hfile (hv xi mx) (List.all_eq_true.mp t2 xi mx)
    refine ⟨⟨_, _, _, _, _, _, xi.self, xi.fvs, h3, i1, h4, i2, i3, fun z => ?_⟩, oex_of q.1 p.2.1 p.2.2.1 p.2.2.2.1, fun f hf => He.noat_ok (q.2.1 f hf), q.2.2, sup _ _ e, htop⟩
    rw [z] at h4
    cases l with
    | nil => cases h5
    | cons a r => cases h4
  · have q := (parts c k e).2.2.2.2.2.2.2
    simp only [hi] at q
    exact q
  · have p := parts c k e
    exact ⟨p.2.1, p.2.2.1, p.2.2.2.1⟩
  · exact ((parts c k e).2.2.2.2.2.1 |> fun z => by
      have z2 := List.all_eq_true.mp z _ (mem_lk e2)
      simp only [Bool.and_eq_true, decide_eq_true_eq] at z2
      exact z2.1)
  · exact ((parts c k e).2.2.2.2.2.1 |> fun z => by
      have z2 := List.all_eq_true.mp z _ (mem_lk e2)
      simp only [Bool.and_eq_true, decide_eq_true_eq] at z2
      exact z2.2)
/-- THE DEFS ARE SOUND: each keeps its run as a promise -/
theorem fns_ok (nd : (T.defs.map (·.id)).Nodup) (hok : T.defs.all (Ent.ok gl) = true)
    (hF : ∀ e ∈ T.defs, ∃ fd, FunD K e.name e.qual (defArgs e.st) (defBody e.st) (defScope e.st) [] [] (He.fAd K e.at_) fd) (hG : ∀ x k, gl.lookup x = some k → GlobOk T K mg x k)
    (ht : clsTab K T = true) (hd : clsDefs T = true) (hglo : ∀ c, (T.cls.lookup c).isSome = true → mg (Str.ofString c) = some (.ref (caOf K c)))
    (htx : exTab K T.file T.exs T.xis = true) (hdx : exDefs T.exs T.xis = true) (hv : ∀ x ∈ T.xis, fnC K x.c = x.val) (hfile : (Pr.main.file == T.file) = true) (htop : (Pr.main.scope.names.lookup ("super" : Str)).isSome = false) (hsup : T.exs.isEmpty = false → mg "super" = none) :
    ∀ (n : Nat) (e : Ent), e ∈ T.defs → ∀ fd, FunD K e.name e.qual (defArgs e.st) (defBody e.st) (defScope e.st) [] [] (He.fAd K e.at_) fd →
      FnOk Pr w K mg base (L2.CX Pr w) (3 * n) (He.fAd K e.at_) fd e.ps (spI (progOf T) n K (caOf K) e.id) := by
  intro n
  induction n with
  | zero =>
    intro e he fd F
    have no : ∀ vs H Q E, ¬ spI (progOf T) 0 K (caOf K) e.id vs H Q E := fun vs H Q E h => by
      obtain ⟨_, fx, g, ds, S, _, _, _, _, q⟩ := h
      exact q
    exact ⟨fun vs H Q E h => (no _ _ _ _ h).elim, fun _ _ _ _ _ _ _ _ _ _ _ _ _ h => (no _ _ _ _ h).elim⟩
  | succ n ih =>
    intro e he fd F
    have ho := List.all_eq_true.mp hok e he
    unfold Ent.ok at ho
    simp only [Bool.and_eq_true, decide_eq_true_eq] at ho
    obtain ⟨o1, o2, o3, o4, o5⟩ := ho
    have S := scope_of o2
    have pe := prog_at nd he
    have len : ∀ vs H Q E, spI (progOf T) (n + 1) K (caOf K) e.id vs H Q E → vs.length = e.ps.length := fun vs H Q E h => by
      obtain ⟨⟨G, h1, h2⟩, _⟩ := h
      rw [pe] at h1
      cases h1
      rw [h2, o3]
    show FnOk Pr w K mg base (L2.CX Pr w) (3 * n + 2 + 1) (He.fAd K e.at_) fd e.ps (spI (progOf T) (n + 1) K (caOf K) e.id)
    refine F.ok S len fun cdv A outer s H vs Q E hr h => ?_
    have hl := len _ _ _ _ h
    obtain ⟨_, fx, g, ds, St, hk, hc, r, rv, q⟩ := h
    obtain ⟨fK, fca, fB, fF0⟩ := fx
    obtain rfl : fK = K := hk
    obtain rfl : fca = caOf fK := hc
    refine ⟨tS ⟨fK, caOf fK, fB, fF0⟩ (fun cls d _ H => E cls d H) (exS (progOf T) (run (progOf T) n) e.fn.body), ?_, ?_⟩
    · have sok : SOk (progOf T) n ⟨e.N, defScope e.st, gl⟩ ⟨fK, caOf fK, fB, fF0⟩ (fun cls d _ H => E cls d H) (cxOf (L2.CX Pr w) Pr w fK mg base e.N e.qual (defScope e.st) (He.fAd fK e.at_) cdv A outer s H E) := by
        refine ⟨⟨rfl, S.nd, rfl, rfl, rfl, takes_of rfl rfl rfl rfl, hr.units, fun x k z => ?_, ?_, exF_of rfl rfl rfl rfl rfl htx hdx hv hfile htop hsup⟩, fun _ => rfl, passes_of (K := fun e' s'' => L2.CX Pr w outer H s E e' s'') (E₁ := fun e' s'' => L2.CX Pr w outer H s E e' s'') rfl, S.kind, rfl, rfl, hr.mono (by omega)⟩
        · have gk := hG x k z
          cases k with
          | blt => exact gk
          | int i => exact gk
          | fn f =>
            obtain ⟨e2, m2, id2, g2⟩ := gk
            obtain ⟨fd2, F2⟩ := hF e2 m2
            subst id2
            exact ⟨_, _, fd2, e2.ps, g2, F2.kp, hr.mono (Nat.le_add_right _ 2), ent_binds (List.all_eq_true.mp hok e2 m2) F2, ih e2 m2 fd2 F2⟩
          | cls c =>
            obtain ⟨ex, g2, g3⟩ := gk
            subst ex
            have b := ht
            unfold clsTab at b
            rw [Bool.and_eq_true] at b
            obtain ⟨kd, ek⟩ := Option.isSome_iff_exists.mp g3
            have z := List.all_eq_true.mp b.2 _ (mem_lk ek)
            simp only [Bool.and_eq_true] at z
            exact ⟨g2, He.keep_ok z.2.2.2.1, g3⟩
          | exc c => exact gk
        · exact objF_of (k := 3 * n) rfl rfl rfl rfl rfl rfl rfl hr hok hF ht hd hglo ih
      exact (sndS e.fn.body sok).ss _ o5
    · have hN : vs.length ≤ e.N.length := by
        have z := congrArg List.length S.pre
        rw [List.length_take] at z
        omega
      refine ⟨g, startD e.fn.ns ds, St, r, start_sl o4 hN rv, ?_⟩
      have q : ePost ⟨fK, caOf fK, fB, fF0⟩ (fun c d _ H => E c d H) g [] (tOf ⟨fK, caOf fK, fB, fF0⟩ Q) (match (progOf T).fn e.id with
        | some F => if ds.length = F.np then endR (exS (progOf T) (run (progOf T) n) F.body (startD F.ns ds) St) else .bad
        | none => .bad) := q
      rw [pe] at q
      have q : ePost ⟨fK, caOf fK, fB, fF0⟩ (fun c d _ H => E c d H) g [] (tOf ⟨fK, caOf fK, fB, fF0⟩ Q) (if ds.length = e.fn.np then endR (exS (progOf T) (run (progOf T) n) e.fn.body (startD e.fn.ns ds) St) else .bad) := q
      rw [if_pos (by rw [← rv.length, hl, o3])] at q
      cases z : exS (progOf T) (run (progOf T) n) e.fn.body (startD e.fn.ns ds) St with
      | nx dσ S1 =>
        rw [z] at q
        exact fun g' H' σ' l' r' s' => q g' H' l' r' .non .non
      | rt d S1 =>
        rw [z] at q
        exact fun g' H' v l' r' rv' => q g' H' l' r' v rv'
      | bk dσ S1 => rw [z] at q; exact q.elim
      | ct dσ S1 => rw [z] at q; exact q.elim
      | ex x dσ S1 =>
        rw [z] at q
        exact fun cls dx g' H' σ' l' r' s' rx => q cls dx g' H' l' r' rx
      | bad => rw [z] at q; exact q.elim
end
end MX
end

section
set_option maxRecDepth 100000
set_option maxHeartbeats 4000000
namespace MX
open PySem PySem.Spec PyProof.Rows L2

/-- the j-th statement of a class -/
def inCls (s : Stmt) (j : Nat) : Stmt := match s with
  | .ClassDef _ _ _ body _ _ _ _ _ _ _ => body.getD j (.Pass ⟨0, 0, 0, 0⟩)
  | s => s
def Ent.dd (e : Ent) : He.DefD := ⟨e.at_, e.name, e.qual, defArgs e.st, defBody e.st, defScope e.st, [], []⟩
def faOf : Str × GK → He.Fa
  | (x, .blt) => .free x
  | (x, .int i) => .int x i
  | (x, .fn _) => .glo x
  | (x, .cls _) => .glo x
  | (x, .exc _) => .glo x
/-- the names' kinds fit the table -/
def glB (T : Tab) (gl : List (Str × GK)) : Bool := gl.all fun p => match p.2 with
  | .fn f => T.defs.any fun e => (e.id == f) && decide (e.at_ = (p.1, none))
  | .cls c => decide (p.1 = Str.ofString c) && (T.cls.lookup c).isSome
  | .exc c => decide (p.1 = Str.ofString c) && (T.exs.lookup c).isSome
  | _ => true
section
variable {T : Tab} {gl : List (Str × GK)} {more : List He.Fa} {K : PySem.W.Frag} {h : Heap} {mg : Str → Option Value}
theorem facts_defs (c : He.SaysD (gl.map faOf ++ more) (T.defs.map Ent.dd) K) : ∀ e ∈ T.defs, ∃ fd, FunD K e.name e.qual (defArgs e.st) (defBody e.st) (defScope e.st) [] [] (He.fAd K e.at_) fd := fun e he => by
  obtain ⟨i, hi, e1⟩ := List.getElem_of_mem he
  exact c.def_ i (d := e.dd) (by rw [List.getElem?_map, List.getElem?_eq_getElem hi, e1]; rfl)
theorem facts_glob (c : He.SaysD (gl.map faOf ++ more) (T.defs.map Ent.dd) K) (X : K.In h) (G : h.Ns mainGlobals mg) (hg : glB T gl = true) : ∀ x k, gl.lookup x = some k → GlobOk T K mg x k := fun x k hx => by
  have hm : (x, k) ∈ gl := PySem.mem_of_lookup hx
  obtain ⟨i, hi, e1⟩ := List.getElem_of_mem hm
  have fact := c.fact i (f := faOf (x, k)) (by rw [List.getElem?_append_left (by rw [List.length_map]; exact hi), List.getElem?_map, List.getElem?_eq_getElem hi, e1]; rfl)
  cases k with
  | blt => exact He.free_ok X G fact
  | int j => exact He.int_ok X G fact
  | fn f =>
    have z := He.glo_ok X G fact
    have q := List.all_eq_true.mp hg (x, .fn f) hm
    have q : (T.defs.any fun e => (e.id == f) && decide (e.at_ = (x, none))) = true := q
    obtain ⟨e, me, h2⟩ := List.any_eq_true.mp q
    rw [Bool.and_eq_true] at h2
    have ea := of_decide_eq_true h2.2
    refine ⟨e, me, beq_iff_eq.mp h2.1, ?_⟩
    rw [z, ea]
    rfl
  | cls c =>
    have z := He.glo_ok X G fact
    have q := List.all_eq_true.mp hg (x, .cls c) hm
    have q : (decide (x = Str.ofString c) && (T.cls.lookup c).isSome) = true := q
    rw [Bool.and_eq_true, decide_eq_true_eq] at q
    exact ⟨q.1, z, q.2⟩
  | exc c =>
    have z := He.glo_ok X G fact
    have q := List.all_eq_true.mp hg (x, .exc c) hm
    have q : (decide (x = Str.ofString c) && (T.exs.lookup c).isSome) = true := q
    rw [Bool.and_eq_true, decide_eq_true_eq] at q
    obtain ⟨rfl, q2⟩ := q
    exact ⟨z, q2⟩
theorem facts_cls (X : K.In h) (G : h.Ns mainGlobals mg) (ht : clsTab K T = true) : ∀ c, (T.cls.lookup c).isSome = true → mg (Str.ofString c) = some (.ref (caOf K c)) := fun c hc => by
  obtain ⟨kd, ek⟩ := Option.isSome_iff_exists.mp hc
  unfold clsTab at ht
  rw [Bool.and_eq_true] at ht
  have z := List.all_eq_true.mp ht.2 _ (mem_lk ek)
  simp only [Bool.and_eq_true] at z
  exact He.glo_ok X G z.2.2.1
end
/-- what a law's run says -/
def LawTrue (T : Tab) (n : Nat) : Prop := ∀ ns : List Int, ns.length ≤ 63 → ∃ S, run (progOf T) n "law" [.scr ns] [] = .ok (.bl true) S
theorem law_sp {T : Tab} {n : Nat} (ht : LawTrue T n) {K : PySem.W.Frag} {H : Hp} {a : Addr} {ns : List Int} (hl : ns.length ≤ 63) (hS : SqL K H a (ns.map V.int)) :
    spI (progOf T) n K (caOf K) "law" [.ref a] H (fun v _ => v = .bl true) fun _ _ _ => False := by
  obtain ⟨S, e⟩ := ht ns hl
  have hn := run_np (P := progOf T) (n := n) (f := "law") (ds := [.scr ns]) (S := []) (by rw [e]; exact fun z => by cases z)
  obtain ⟨F, h1, h2⟩ := hn
  refine ⟨⟨F, h1, h2⟩, ⟨K, caOf K, H, H⟩, ⟨H, fun _ => 0, 0⟩, [.scr ns], [], rfl, rfl, ⟨fun _ _ e => e, fun _ _ e => e, fun _ _ e => .inl e, fun _ _ e => e, rfl, fun _ _ e => by simp at e, fun _ _ _ _ e => by simp at e⟩, .cons (.scr hS) .nil, ?_⟩
  rw [e]
  exact fun g' H' l r v rv => rv.iBl
/-- the walk of a law's row -/
theorem walk_mx {l : PySem.W.OpenLaw} {T : Tab} {gl : List (Str × GK)} {more : List He.Fa} {n : Nat} {m : Nat} {q : Program} {loose : List Str} {XP : (Str → Option Value) → Heap → Prop} {d : DefRec} {x : Str}
    (hn : l.most = some 63) (hdf : d.params.defaults = []) (hr : Room (3 * n) callerA) (hdn : d.name = ("law" : Str))
    (nd : (T.defs.map (·.id)).Nodup) (hok : T.defs.all (Ent.ok gl) = true) (hg : glB T gl = true) (hcd : clsDefs T = true) (hxd : exDefs T.exs T.xis = true) (hfile : (l.prog.main.file == T.file) = true) (htop : (l.prog.main.scope.names.lookup ("super" : Str)).isSome = false) (hlaw : T.defs.any (fun e => (e.id == "law") && (decide (e.at_ = (("law" : Str), none)) && decide (e.ps = [x]))) = true) (hgl : gl.lookup ("law" : Str) = some (.fn "law")) (ht : LawTrue T n) :
    PySem.W.WalkO q loose XP (fun w => (hookY m (fun K => clsTab K T && exTab K T.file T.exs T.xis) (gl.map faOf ++ more) (T.defs.map Ent.dd) T.xis).says w) l.row.toRowW d [] (fun f vs => PySem.call f vs) := by
  refine Att.attach_call hn hdf fun w s₀ s₁ mg mb fa o pm cd doc a vs ns G Y ho hd hcd2 hmg hobj hints hlen hgens => ?_
  obtain ⟨K, KX, tabs, c, hvx⟩ := Y
  have tabs : (clsTab K T && exTab K T.file T.exs T.xis) = true := tabs
  rw [Bool.and_eq_true] at tabs
  obtain ⟨ctab, xtab⟩ := tabs
  have hv : ∀ x ∈ T.xis, fnC K x.c = x.val := fun x hx => by
    obtain ⟨i, hi, e⟩ := List.getElem_of_mem hx
    have z := congrArg (fun l => l[i]?) hvx
    simp only [List.getElem?_map, List.getElem?_eq_getElem hi, Option.map_some, Option.some.injEq, e] at z
    exact z
  have hsup : T.exs.isEmpty = false → mg "super" = none := fun h => by
    have z := xtab
    unfold exTab at z
    rw [Bool.and_eq_true, Bool.and_eq_true, Bool.or_eq_true, h] at z
    exact He.free_ok KX G.T.g (z.2.2.resolve_left (by simp))
  have hF := facts_defs c
  have hG := facts_glob c KX G.T.g hg
  have hC := facts_cls KX G.T.g ctab
  rw [hdn] at hmg
  obtain ⟨e, me, h2⟩ := List.any_eq_true.mp hlaw
  simp only [Bool.and_eq_true, decide_eq_true_eq, beq_iff_eq] at h2
  obtain ⟨e1, e2, e3⟩ := h2
  have g := hG _ _ hgl
  obtain ⟨e', me', f1, f2⟩ := g
  obtain rfl : e' = e := by
    have key : ∀ l : List Ent, (l.map (·.id)).Nodup → e' ∈ l → e ∈ l → e' = e := fun l => by
      induction l with
      | nil => exact fun _ h => by cases h
      | cons z r ih =>
        intro nd h1 h2
        have nd := List.nodup_cons.mp nd
        rcases List.mem_cons.mp h1 with q1 | q1 <;> rcases List.mem_cons.mp h2 with q2 | q2
        · rw [q1, q2]
        · exact absurd (show z.id ∈ r.map (·.id) by rw [← q1, f1, ← e1]; exact List.mem_map_of_mem q2) nd.1
        · exact absurd (show z.id ∈ r.map (·.id) by rw [← q2, e1, ← f1]; exact List.mem_map_of_mem q1) nd.1
        · exact ih nd.2 q1 q2
    exact key T.defs nd me' me
  have ea : fa = He.fAd K e'.at_ := by
    have z := hmg.symm.trans f2
    cases z
    rfl
  subst ea
  obtain ⟨fd, F⟩ := hF e' me
  have b := FunD.bindsA (ps := e'.ps) F fun kV doc pm an cdv ct us hus => by
    have ho2 := List.all_eq_true.mp hok e' me
    unfold Ent.ok at ho2
    simp only [Bool.and_eq_true, decide_eq_true_eq] at ho2
    obtain ⟨p1, p2, _⟩ := ho2
    have S2 := scope_of p2
    have z2 : e'.ps = e'.N.take e'.ps.length := S2.pre.symm
    have ndp : (namesPs (defArgs e'.st)).Nodup := by
      show e'.ps.Nodup
      rw [z2]
      exact S2.nd.sublist (List.take_sublist _ _)
    exact bind_plain p1 ndp hus
  have fin := fun base (_ : K.In base) (_ : base.Ns mainGlobals mg) => fns_ok (Pr := l.prog) (w := w) (base := base) nd hok hF hG ctab hcd hC xtab hxd hv hfile htop hsup n e' me fd F
  rw [e1, e3] at fin
  rw [e3] at b
  exact law_call KX G.T.g G.T.b G.T.builtins G.T.nolimit hgens hobj hints (Nat.le_trans hlen (by decide)) hr fin (fun s u => b s [u] rfl) (fun H hO hS => law_sp ht hlen hS) fun H e' s' z => by
    obtain ⟨_, _, _, _, _, _, _, _, _, _, _, _, z⟩ := z
    exact z
end MX
end

section
set_option maxRecDepth 100000
set_option maxHeartbeats 1000000
namespace MX
open PySem
/-! ### laws of the evaluator, for simp -/
section
variable {α β : Type} {pr : Prog} {cb : Cb} {σ : DSt} {S : Store} {a b c e r as : E}
@[simp] theorem bind_ok (x : α) (f : α → Store → Res β) : (Res.ok x S).bind f = f x S := (rfl)
@[simp] theorem bind_ex (x : Exn) (f : α → Store → Res β) : (Res.ex x S).bind f = .ex x S := (rfl)
@[simp] theorem bind_bad (f : α → Store → Res β) : (Res.bad).bind f = .bad := (rfl)
@[simp] theorem sr_ok (x : α) (f : α → Store → SR) : (Res.ok x S).sr σ f = f x S := (rfl)
@[simp] theorem sr_ex (x : Exn) (f : α → Store → SR) : (Res.ex x S).sr σ f = .ex x σ S := (rfl)
@[simp] theorem sr_bad (f : α → Store → SR) : (Res.bad).sr σ f = .bad := (rfl)
theorem bind_ite {p : Prop} [Decidable p] (x y : Res α) (f : α → Store → Res β) : (if p then x else y).bind f = if p then x.bind f else y.bind f := by split <;> rfl
theorem sr_ite {p : Prop} [Decidable p] (x y : Res α) (f : α → Store → SR) : (if p then x else y).sr σ f = if p then x.sr σ f else y.sr σ f := by split <;> rfl
@[simp high] theorem get_zero (x : α) (l : List α) : (x :: l)[0]? = some x := (rfl)
def slot (S : Store) : Option (Option D) → Res D
  | some (some d) => .ok d S
  | _ => .bad
@[simp] theorem slot_some (d : D) : slot S (some (some d)) = .ok d S := (rfl)
@[simp] theorem ev_var (i : Nat) : evE pr cb (.var i) σ S = slot S σ[i]? := by
  show (match σ[i]? with | some (some d) => Res.ok d S | _ => .bad) = _
  unfold slot
  rfl
@[simp] theorem ev_int (i : Int) : evE pr cb (.int i) σ S = .ok (.int i) S := (rfl)
@[simp] theorem ev_bl (i : Bool) : evE pr cb (.bl i) σ S = .ok (.bl i) S := (rfl)
@[simp] theorem ev_non : evE pr cb .non σ S = .ok .non S := (rfl)
@[simp] theorem ev_nopart : evE pr cb .nopart σ S = .ok .non S := (rfl)
@[simp] theorem ev_str (s : String) : evE pr cb (.str s) σ S = .ok (.str (Str.ofString s)) S := (rfl)
@[simp] theorem ev_gint (x : String) (i : Int) : evE pr cb (.gint x i) σ S = .ok (.int i) S := (rfl)
@[simp] theorem ev_bin (op : Bop) : evE pr cb (.bin op a b) σ S = (evE pr cb a σ S).bind fun x S1 => (evE pr cb b σ S1).bind fun y S2 => binX pr cb op S2 x y := (rfl)
@[simp] theorem ev_neg : evE pr cb (.neg a) σ S = (evE pr cb a σ S).bind fun x S1 => negX pr cb S1 x := (rfl)
def partI (S : Store) : D → Res D
  | .int i => .ok (.int i) S
  | _ => .bad
@[simp] theorem partI_int (i : Int) : partI S (.int i) = .ok (.int i) S := (rfl)
@[simp] theorem ev_part : evE pr cb (.part a) σ S = (evE pr cb a σ S).bind fun x S1 => partI S1 x := (rfl)
@[simp] theorem ev_not : evE pr cb (.not a) σ S = (evE pr cb a σ S).bind fun x S1 => tru S1 x fun b => .ok (.bl (!b)) S1 := (rfl)
@[simp] theorem ev_cmp (op : Cop) : evE pr cb (.cmp op a b) σ S = (evE pr cb a σ S).bind fun x S1 => (evE pr cb b σ S1).bind fun y S2 => cmpX pr cb op S2 x y := (rfl)
@[simp] theorem ev_and : evE pr cb (.and a b) σ S = (evE pr cb a σ S).bind fun x S1 => tru S1 x fun t => if t then evE pr cb b σ S1 else .ok x S1 := (rfl)
@[simp] theorem ev_or : evE pr cb (.or a b) σ S = (evE pr cb a σ S).bind fun x S1 => tru S1 x fun t => if t then .ok x S1 else evE pr cb b σ S1 := (rfl)
@[simp] theorem ev_ife : evE pr cb (.ife c a b) σ S = (evE pr cb c σ S).bind fun x S1 => tru S1 x fun t => if t then evE pr cb a σ S1 else evE pr cb b σ S1 := (rfl)
@[simp] theorem ev_tup : evE pr cb (.tup a) σ S = (evE pr cb a σ S).bind fun x S1 => if (unT x).length ≤ sizeLine then .ok (.tup (unT x)) S1 else .bad := (rfl)
@[simp] theorem ev_lst : evE pr cb (.lst a) σ S = (evE pr cb a σ S).bind fun x S1 => if (unT x).length ≤ sizeLine then .ok (.lst (unT x)) S1 else .bad := (rfl)
@[simp] theorem ev_cell : evE pr cb (.cell a) σ S = (evE pr cb a σ S).bind fun x S1 => if (unT x).length ≤ sizeLine then .ok (.ptr S1.length) (S1 ++ [.lst (unT x)]) else .bad := (rfl)
@[simp] theorem ev_anil : evE pr cb .anil σ S = .ok (.tup []) S := (rfl)
@[simp] theorem ev_acons : evE pr cb (.acons e r) σ S = (evE pr cb e σ S).bind fun x S1 => (evE pr cb r σ S1).bind fun y S2 => .ok (.tup (x :: unT y)) S2 := (rfl)
@[simp] theorem ev_idx : evE pr cb (.idx a b) σ S = (evE pr cb a σ S).bind fun x S1 => (evE pr cb b σ S1).bind fun y S2 => idxD S2 x y := (rfl)
@[simp] theorem ev_cut : evE pr cb (.cut a b c) σ S = (evE pr cb a σ S).bind fun x S1 => (evE pr cb b σ S1).bind fun y S2 => withPart y fun l => (evE pr cb c σ S2).bind fun z S3 => withPart z fun h => cutD S3 x l h := (rfl)
@[simp] theorem ev_callp (f : String) : evE pr cb (.call .pure f as) σ S = (evE pr cb as σ S).bind fun x S1 => callP cb f (unT x) S1 := (rfl)
@[simp] theorem ev_callst (f : String) : evE pr cb (.call .st f as) σ S = (evE pr cb as σ S).bind fun x S1 => cb f (unT x) S1 := (rfl)
@[simp] theorem ev_bi (b : Bi) : evE pr cb (.bi b as) σ S = (evE pr cb as σ S).bind fun x S1 => biX pr cb b S1 (unT x) := (rfl)
@[simp] theorem ev_isi (cs : List Ty) : evE pr cb (.isi a cs) σ S = (evE pr cb a σ S).bind fun x S1 => ofB S1 (isiXs pr.kn S1 x cs) := (rfl)
@[simp] theorem ev_cnd : evE pr cb (.cnd a) σ S = evE pr cb a σ S := (rfl)
@[simp] theorem ev_frz : evE pr cb (.frz a) σ S = (evE pr cb a σ S).bind fun x S1 => frzE S1 x := (rfl)
@[simp] theorem ev_catc : evE pr cb (.catc a b) σ S = (evE pr cb a σ S).bind fun x S1 => (evE pr cb b σ S1).bind fun y S2 => catD S2 x y := (rfl)
def rngR (S : Store) : Option (List D) → Res D
  | some xs => .ok (.lst xs) S
  | none => .bad
@[simp] theorem rngR_some (xs : List D) : rngR S (some xs) = .ok (.lst xs) S := (rfl)
@[simp] theorem ev_irng1 : evE pr cb (.irng1 a) σ S = (evE pr cb a σ S).bind fun x S1 => rngR S1 (rngD [x]) := (rfl)
@[simp] theorem ev_irng2 : evE pr cb (.irng2 a b) σ S = (evE pr cb a σ S).bind fun x S1 => (evE pr cb b σ S1).bind fun y S2 => rngR S2 (rngD [x, y]) := (rfl)
/-- o.append(e) -/
def appR (S : Store) (n : Nat) (y : D) : Option Cell → Res D
  | some (.lst xs) => if xs.length < sizeLine then .ok .non (S.set n (.lst (xs ++ [y]))) else .bad
  | _ => .bad
@[simp] theorem appR_lst (n : Nat) (y : D) (xs : List D) : appR S n y (some (.lst xs)) = if xs.length < sizeLine then .ok .non (S.set n (.lst (xs ++ [y]))) else .bad := (rfl)
def appP (n : Nat) (k : Res D) : Option Cell → Res D
  | some (.lst _) => k
  | _ => .bad
@[simp] theorem appP_lst (n : Nat) (k : Res D) (xs : List D) : appP n k (some (.lst xs)) = k := (rfl)
def appO (S : Store) (k : Store → Res D) : D → Res D
  | .ptr n => appP n ((k S).bind fun y S2 => appR S2 n y S2[n]?) S[n]?
  | _ => .bad
@[simp] theorem appO_ptr (k : Store → Res D) (n : Nat) : appO S k (.ptr n) = appP n ((k S).bind fun y S2 => appR S2 n y S2[n]?) S[n]? := (rfl)
@[simp] theorem ev_app : evE pr cb (.app a e) σ S = (evE pr cb a σ S).bind fun x S1 => appO S1 (evE pr cb e σ) x := (rfl)
/-- a comprehension's turn -/
def compR (k : Res (Option D)) (n : Res (Option D)) : Option Bool → Res (Option D)
  | some true => k
  | some false => n
  | none => .bad
@[simp] theorem compR_some (k n : Res (Option D)) (b : Bool) : compR k n (some b) = if b then k else n := by cases b <;> rfl
def compF (pr : Prog) (cb : Cb) (own : List Nat) (t : Nat) (c e : E) (σ : DSt) (x : D) (S : Store) : Res (Option D) :=
  noEx ((evE pr cb c ((wipeD σ own).set t (some x)) S).bind fun y S2 => compR ((evE pr cb e ((wipeD σ own).set t (some x)) S2).bind fun z S3 => .ok (some z) S3) (.ok none S2) (truD (look S2 y)))
/-- a walk's source -/
@[simp] theorem seqG_t (d : D) (xs : List D) : seqG true d (some xs) = some ⟨xs, fun _ => true⟩ := (rfl)
theorem seqG_f (d : D) (xs : List D) : seqG false d (some xs) = some ⟨xs, fun S => sameSrc S d xs⟩ := (rfl)
@[simp] theorem srcD_seq (d : D) : srcD .seq S d = seqG (still S d) d (itemsD S d) := by
  cases d <;> rfl
@[simp] theorem srcD_zip' (a b : D) : srcD .zip S (.tup [a, b]) = zipG (alikeS S a b) (seqG (still S a) a (itemsD S a)) (seqG (still S b) b (itemsD S b)) := (rfl)
@[simp] theorem srcD_enum' (a : D) : srcD .enum S (.tup [a]) = enumG (isLst S a) (seqG (still S a) a (itemsD S a)) := (rfl)
@[simp] theorem srcD_rev' (a : D) : srcD .rev S (.tup [a]) = revG (isLst S a) (seqG (still S a) a (itemsD S a)) := (rfl)
@[simp] theorem zipG_t (xs ys : List D) : zipG true (some ⟨xs, fun _ => true⟩) (some ⟨ys, fun _ => true⟩) = some ⟨(List.zip xs ys).map fun p => .tup [p.1, p.2], fun _ => true⟩ := (rfl)
@[simp] theorem enumG_t (s : Src) : enumG true (some s) = some ⟨enumL 0 s.xs, s.ok⟩ := (rfl)
@[simp] theorem revG_t (s : Src) : revG true (some s) = some ⟨s.xs.reverse, s.ok⟩ := (rfl)
@[simp] theorem alikeS_lst (xs ys : List D) : alikeS S (.lst xs) (.lst ys) = true := (rfl)
@[simp] theorem alikeS_tup (xs ys : List D) : alikeS S (.tup xs) (.tup ys) = true := (rfl)
@[simp] theorem isLst_lst (xs : List D) : isLst S (.lst xs) = true := (rfl)
@[simp] theorem compK_true (f : D → Store → Res (Option D)) : ∀ (xs : List D) (S : Store), compK (fun _ => true) f xs S = compL f xs S
  | [], _ => rfl
  | x :: r, S => by
    show (if true = true then (f x S).bind fun o S1 => (compK (fun _ => true) f r S1).bind fun ys S2 => .ok (o.toList ++ ys) S2 else .bad) = (f x S).bind fun o S1 => (compL f r S1).bind fun ys S2 => .ok (o.toList ++ ys) S2
    rw [if_pos rfl]
    congr
    funext o S1
    rw [compK_true f r S1]
@[simp] theorem newL_f (xs : List D) : newL false S xs = .ok (.lst xs) S := (rfl)
@[simp] theorem newL_t (xs : List D) : newL true S xs = .ok (.ptr S.length) (S ++ [.lst xs]) := (rfl)
def compG (nw : Bool) (f : D → Store → Res (Option D)) (S : Store) : Option Src → Res D
  | some s => (compK s.ok f s.xs S).bind fun ys S2 => if ys.length ≤ sizeLine then newL nw S2 ys else .bad
  | none => .bad
@[simp] theorem compG_ok (nw : Bool) (f : D → Store → Res (Option D)) (s : Src) : compG nw f S (some s) = (compK s.ok f s.xs S).bind fun ys S2 => if ys.length ≤ sizeLine then newL nw S2 ys else .bad := (rfl)
@[simp] theorem ev_comp (nw : Bool) (own : List Nat) (k : ItK) (t : Nat) : evE pr cb (.comp nw own k (.n t) a c e) σ S = (evE pr cb a σ S).bind fun d S1 => compG nw (compF pr cb own t c e σ) S1 (srcD k S1 d) := (rfl)
/-- a turn over a tuple of names -/
def compT (pr : Prog) (cb : Cb) (own ts : List Nat) (c e : E) (σ : DSt) (x : D) (S : Store) : Res (Option D) :=
  match setT (.t ts) (wipeD σ own) x with
  | some σ1 => noEx ((evE pr cb c σ1 S).bind fun y S2 => compR ((evE pr cb e σ1 S2).bind fun z S3 => .ok (some z) S3) (.ok none S2) (truD (look S2 y)))
  | none => .bad
theorem compT_ok {own ts : List Nat} {x : D} {σ1 : DSt} (h : setT (.t ts) (wipeD σ own) x = some σ1) : compT pr cb own ts c e σ x S = noEx ((evE pr cb c σ1 S).bind fun y S2 => compR ((evE pr cb e σ1 S2).bind fun z S3 => .ok (some z) S3) (.ok none S2) (truD (look S2 y))) := by
  unfold compT
  rw [h]
@[simp] theorem ev_compT (nw : Bool) (own : List Nat) (k : ItK) (ts : List Nat) : evE pr cb (.comp nw own k (.t ts) a c e) σ S = (evE pr cb a σ S).bind fun d S1 => compG nw (compT pr cb own ts c e σ) S1 (srcD k S1 d) := (rfl)
@[simp] theorem setT_n (i : Nat) (x : D) : setT (.n i) σ x = some (σ.set i (some x)) := (rfl)
@[simp] theorem setT_t (is : List Nat) (xs : List D) : setT (.t is) σ (.tup xs) = setL is xs σ := (rfl)
@[simp] theorem setL_nil : setL [] [] σ = some σ := (rfl)
@[simp] theorem setL_cons (i : Nat) (is : List Nat) (x : D) (xs : List D) : setL (i :: is) (x :: xs) σ = setL is xs (σ.set i (some x)) := (rfl)
@[simp] theorem noEx_ok (x : α) : noEx (Res.ok x S) = .ok x S := (rfl)
theorem compL_map {f : D → Store → Res (Option D)} {g : D → D} {S : Store} : ∀ {xs : List D}, (∀ x ∈ xs, f x S = .ok (some (g x)) S) → compL f xs S = .ok (xs.map g) S
  | [], _ => rfl
  | x :: r, h => by
    unfold compL
    rw [h x (List.mem_cons_self ..), bind_ok, compL_map fun y hy => h y (List.mem_cons_of_mem _ hy)]
    rfl
theorem compL_filt {f : D → Store → Res (Option D)} {g : D → Option D} {S : Store} : ∀ {xs : List D}, (∀ x ∈ xs, f x S = .ok (g x) S) → compL f xs S = .ok (xs.filterMap g) S
  | [], _ => rfl
  | x :: r, h => by
    unfold compL
    rw [h x (List.mem_cons_self ..), bind_ok, compL_filt fun y hy => h y (List.mem_cons_of_mem _ hy)]
    show Res.ok ((g x).toList ++ _) S = _
    cases q : g x with
    | none => rw [List.filterMap_cons_none q]; rfl
    | some y => rw [List.filterMap_cons_some q]; rfl
/-! statements -/
def sqS (r : SR) (k : DSt → Store → SR) : SR :=
  match r with
  | .nx σ S => k σ S
  | r => r
@[simp] theorem sqS_nx (k : DSt → Store → SR) : sqS (.nx σ S) k = k σ S := (rfl)
@[simp] theorem sqS_rt (k : DSt → Store → SR) (d : D) : sqS (.rt d S) k = .rt d S := (rfl)
@[simp] theorem sqS_bk (k : DSt → Store → SR) : sqS (.bk σ S) k = .bk σ S := (rfl)
@[simp] theorem sqS_ct (k : DSt → Store → SR) : sqS (.ct σ S) k = .ct σ S := (rfl)
@[simp] theorem sqS_ex (k : DSt → Store → SR) (x : Exn) : sqS (.ex x σ S) k = .ex x σ S := (rfl)
@[simp] theorem sqS_bad (k : DSt → Store → SR) : sqS .bad k = .bad := (rfl)
theorem sqS_ite {p : Prop} [Decidable p] (x y : SR) (k : DSt → Store → SR) : sqS (if p then x else y) k = if p then sqS x k else sqS y k := by split <;> rfl
def selS : Option Bool → SR → SR → SR
  | some b, x, y => if b then x else y
  | none, _, _ => .bad
@[simp] theorem selS_some (b : Bool) (x y : SR) : selS (some b) x y = if b then x else y := (rfl)
variable {s t : Sx}
@[simp] theorem ex_nil : exS pr cb .nil σ S = .nx σ S := (rfl)
@[simp] theorem ex_pass : exS pr cb .pass σ S = .nx σ S := (rfl)
@[simp] theorem ex_brk : exS pr cb .brk σ S = .bk σ S := (rfl)
@[simp] theorem ex_cont : exS pr cb .cont σ S = .ct σ S := (rfl)
@[simp] theorem ex_seq : exS pr cb (.seq s t) σ S = sqS (exS pr cb s σ S) fun σ S => exS pr cb t σ S := by
  show (match exS pr cb s σ S with
    | .nx σ1 S1 => exS pr cb t σ1 S1
    | r => r) = _
  cases exS pr cb s σ S <;> rfl
@[simp] theorem ex_asg (i : Nat) : exS pr cb (.asg i e) σ S = (evE pr cb e σ S).sr σ fun d S1 => .nx (σ.set i (some d)) S1 := (rfl)
@[simp] theorem ex_ex : exS pr cb (.ex e) σ S = (evE pr cb e σ S).sr σ fun _ S1 => .nx σ S1 := (rfl)
@[simp] theorem ex_ret : exS pr cb (.ret e) σ S = (evE pr cb e σ S).sr σ fun d S1 => .rt d S1 := (rfl)
@[simp] theorem ex_retN : exS pr cb .retN σ S = .rt .non S := (rfl)
@[simp] theorem ex_ifs : exS pr cb (.ifs c s t) σ S = (evE pr cb c σ S).sr σ fun x S1 => selS (truD (look S1 x)) (exS pr cb s σ S1) (exS pr cb t σ S1) := by
  show ((evE pr cb c σ S).sr σ fun x S1 => match truD (look S1 x) with
    | some true => exS pr cb s σ S1
    | some false => exS pr cb t σ S1
    | none => .bad) = _
  congr
  funext x S1
  cases truD (look S1 x) with
  | none => rfl
  | some b => cases b <;> rfl
def augR (σ : DSt) (i : Nat) (S : Store) : Option Int → SR
  | some k => .nx (σ.set i (some (.int k))) S
  | none => .bad
@[simp] theorem augR_some (i : Nat) (k : Int) : augR σ i S (some k) = .nx (σ.set i (some (.int k))) S := (rfl)
def augS (op : Bop) (σ : DSt) (i : Nat) (r : Res D) : Option (Option D) → SR
  | some (some x) => r.sr σ fun y S1 => augR σ i S1 (augI op x y)
  | _ => .bad
@[simp] theorem augS_some (op : Bop) (i : Nat) (r : Res D) (x : D) : augS op σ i r (some (some x)) = r.sr σ fun y S1 => augR σ i S1 (augI op x y) := (rfl)
@[simp] theorem ex_aug (op : Bop) (i : Nat) : exS pr cb (.aug op i e) σ S = augS op σ i (evE pr cb e σ S) σ[i]? := (rfl)
@[simp] theorem augI_add (i j : Int) : augI .add (.int i) (.int j) = some (i + j) := (rfl)
@[simp] theorem augI_sub (i j : Int) : augI .sub (.int i) (.int j) = some (i - j) := (rfl)
@[simp] theorem ex_whl (n : Nat) : exS pr cb (.whl n c s) σ S = whlL (evE pr cb c) (exS pr cb s) n σ S := (rfl)
def loopR (r : SR) (k : DSt → Store → SR) : SR :=
  match r with
  | .nx σ S => k σ S
  | .ct σ S => k σ S
  | .bk σ S => .nx σ S
  | r => r
@[simp] theorem loopR_nx (k : DSt → Store → SR) : loopR (.nx σ S) k = k σ S := (rfl)
@[simp] theorem loopR_ct (k : DSt → Store → SR) : loopR (.ct σ S) k = k σ S := (rfl)
@[simp] theorem loopR_bk (k : DSt → Store → SR) : loopR (.bk σ S) k = .nx σ S := (rfl)
@[simp] theorem loopR_rt (k : DSt → Store → SR) (d : D) : loopR (.rt d S) k = .rt d S := (rfl)
@[simp] theorem loopR_ex (k : DSt → Store → SR) (x : Exn) : loopR (.ex x σ S) k = .ex x σ S := (rfl)
@[simp] theorem loopR_bad (k : DSt → Store → SR) : loopR .bad k = .bad := (rfl)
theorem loopR_ite {p : Prop} [Decidable p] (x y : SR) (k : DSt → Store → SR) : loopR (if p then x else y) k = if p then loopR x k else loopR y k := by split <;> rfl
theorem whl_succ {c : DSt → Store → Res D} {f : DSt → Store → SR} {n : Nat} : whlL c f (n + 1) σ S = (c σ S).sr σ fun x S1 => selS (truD (look S1 x)) (loopR (f σ S1) fun σ S => whlL c f n σ S) (.nx σ S1) := by
  show ((c σ S).sr σ fun x S1 => match truD (look S1 x) with
    | some true => match f σ S1 with
      | .nx σ1 S2 => whlL c f n σ1 S2
      | .ct σ1 S2 => whlL c f n σ1 S2
      | .bk σ1 S2 => .nx σ1 S2
      | .rt d S2 => .rt d S2
      | .ex x σ1 S2 => .ex x σ1 S2
      | .bad => .bad
    | some false => .nx σ S1
    | none => .bad) = _
  congr
  funext x S1
  cases truD (look S1 x) with
  | none => rfl
  | some b =>
    cases b
    · rfl
    · cases q : f σ S1 <;> simp [q, loopR]
@[simp] theorem for_nil {f : D → DSt → Store → SR} : forL f [] σ S = .nx σ S := (rfl)
theorem for_cons {f : D → DSt → Store → SR} {x : D} {xs : List D} : forL f (x :: xs) σ S = loopR (f x σ S) fun σ S => forL f xs σ S := by
  show (match f x σ S with
    | .nx σ1 S1 => forL f xs σ1 S1
    | .ct σ1 S1 => forL f xs σ1 S1
    | .bk σ1 S1 => .nx σ1 S1
    | .rt d S1 => .rt d S1
    | .ex x σ1 S1 => .ex x σ1 S1
    | .bad => .bad) = _
  cases f x σ S <;> rfl
@[simp] theorem forK_true (f : D → DSt → Store → SR) : ∀ (xs : List D) (σ : DSt) (S : Store), forK (fun _ => true) f xs σ S = forL f xs σ S
  | [], _, _ => rfl
  | x :: r, σ, S => by
    show (if true = true then (match f x σ S with
    | .nx σ1 S1 => forK (fun _ => true) f r σ1 S1
    | .ct σ1 S1 => forK (fun _ => true) f r σ1 S1
    | .bk σ1 S1 => .nx σ1 S1
    | .rt d S1 => .rt d S1
    | .ex x σ1 S1 => .ex x σ1 S1
    | .bad => .bad) else .bad) = (match f x σ S with
    | .nx σ1 S1 => forL f r σ1 S1
    | .ct σ1 S1 => forL f r σ1 S1
    | .bk σ1 S1 => .nx σ1 S1
    | .rt d S1 => .rt d S1
    | .ex x σ1 S1 => .ex x σ1 S1
    | .bad => .bad)
    rw [if_pos rfl]
    cases f x σ S with
    | nx σ1 S1 => exact forK_true f r σ1 S1
    | ct σ1 S1 => exact forK_true f r σ1 S1
    | _ => rfl
def forG (f : D → DSt → Store → SR) (σ : DSt) (S : Store) : Option Src → SR
  | some s => forK s.ok f s.xs σ S
  | none => .bad
@[simp] theorem forG_ok (f : D → DSt → Store → SR) (xs : List D) : forG f σ S (some ⟨xs, fun _ => true⟩) = forL f xs σ S := forK_true f xs σ S
theorem forG_src (f : D → DSt → Store → SR) (s : Src) : forG f σ S (some s) = forK s.ok f s.xs σ S := (rfl)
@[simp] theorem ex_for (k : ItK) (t : Nat) : exS pr cb (.for_ k (.n t) e s) σ S = (evE pr cb e σ S).sr σ fun d S1 => forG (fun x σ S => exS pr cb s (σ.set t (some x)) S) σ S1 (srcD k S1 d) := (rfl)
/-- a turn over a tuple of names -/
def onT (o : Option DSt) (k : DSt → SR) : SR :=
  match o with
  | some σ => k σ
  | none => .bad
@[simp] theorem onT_some (k : DSt → SR) : onT (some σ) k = k σ := (rfl)
@[simp] theorem ex_forT (k : ItK) (ts : List Nat) : exS pr cb (.for_ k (.t ts) e s) σ S = (evE pr cb e σ S).sr σ fun d S1 => forG (fun x σ S => onT (setT (.t ts) σ x) fun σ1 => exS pr cb s σ1 S) σ S1 (srcD k S1 d) := (rfl)
theorem forK_cons {ok : Store → Bool} {f : D → DSt → Store → SR} {x : D} {xs : List D} (h : ok S = true) : forK ok f (x :: xs) σ S = loopR (f x σ S) fun σ S => forK ok f xs σ S := by
  show (if ok S then (match f x σ S with
    | .nx σ1 S1 => forK ok f xs σ1 S1
    | .ct σ1 S1 => forK ok f xs σ1 S1
    | .bk σ1 S1 => .nx σ1 S1
    | .rt d S1 => .rt d S1
    | .ex x σ1 S1 => .ex x σ1 S1
    | .bad => .bad) else .bad) = _
  rw [if_pos h]
  cases f x σ S <;> rfl
theorem forK_nil {ok : Store → Bool} {f : D → DSt → Store → SR} (h : ok S = true) : forK ok f [] σ S = .nx σ S := if_pos h
/-- a loop whose turns all go on -/
theorem for_inv {f : D → DSt → Store → SR} (Inv : Nat → DSt → Store → Prop) : ∀ {xs : List D} {i : Nat} {σ : DSt} {S : Store}, (∀ (j : Nat) x σ S, xs[j]? = some x → Inv (i + j) σ S → ∃ σ' S', (f x σ S = .nx σ' S' ∨ f x σ S = .ct σ' S') ∧ Inv (i + j + 1) σ' S') → Inv i σ S → ∃ σ' S', forL f xs σ S = .nx σ' S' ∧ Inv (i + xs.length) σ' S'
  | [], _, σ, S, _, h0 => ⟨σ, S, rfl, h0⟩
  | x :: xs, i, σ, S, h, h0 => by
    obtain ⟨σ1, S1, e, h1⟩ := h 0 x σ S rfl h0
    obtain ⟨σ2, S2, e2, h2⟩ := for_inv Inv (f := f) (xs := xs) (i := i + 1) (σ := σ1) (S := S1) (fun j y σ' S' hj hi => by
      have z := h (j + 1) y σ' S' (by simpa using hj) (by rw [show i + (j + 1) = i + 1 + j by omega]; exact hi)
      rw [show i + (j + 1) + 1 = i + 1 + j + 1 by omega] at z
      exact z) h1
    refine ⟨σ2, S2, ?_, by rw [List.length_cons, show i + (xs.length + 1) = i + 1 + xs.length by omega]; exact h2⟩
    rw [for_cons]
    rcases e with e | e <;> rw [e] <;> exact e2
/-! values -/
@[simp] theorem look_int (i : Int) : look S (.int i) = .int i := (rfl)
@[simp] theorem look_bl (i : Bool) : look S (.bl i) = .bl i := (rfl)
@[simp] theorem look_non : look S .non = .non := (rfl)
@[simp] theorem look_str (s : Str) : look S (.str s) = .str s := (rfl)
@[simp] theorem look_lst (xs : List D) : look S (.lst xs) = .lst xs := (rfl)
@[simp] theorem look_tup (xs : List D) : look S (.tup xs) = .tup xs := (rfl)
@[simp] theorem look_scr (xs : List Int) : look S (.scr xs) = .scr xs := (rfl)
theorem look_ptr_lst {n : Nat} {xs : List D} (h : S[n]? = some (.lst xs)) : look S (.ptr n) = .lst xs := by
  show (match S[n]? with
    | some (.lst xs) => D.lst xs
    | some (.ins c fs) => D.ins c fs
    | some (.frz d) => d
    | none => D.ptr n) = _
  rw [h]
theorem look_ptr_frz {n : Nat} {d : D} (h : S[n]? = some (.frz d)) : look S (.ptr n) = d := by
  show (match S[n]? with
    | some (.lst xs) => D.lst xs
    | some (.ins c fs) => D.ins c fs
    | some (.frz d) => d
    | none => D.ptr n) = _
  rw [h]
@[simp] theorem still_int (i : Int) : still S (.int i) = true := (rfl)
@[simp] theorem still_lst (xs : List D) : still S (.lst xs) = true := (rfl)
@[simp] theorem still_tup (xs : List D) : still S (.tup xs) = true := (rfl)
@[simp] theorem still_scr (xs : List Int) : still S (.scr xs) = true := (rfl)
@[simp] theorem items_lst (xs : List D) : itemsD S (.lst xs) = some xs := (rfl)
@[simp] theorem items_tup (xs : List D) : itemsD S (.tup xs) = some xs := (rfl)
@[simp] theorem items_scr (xs : List Int) : itemsD S (.scr xs) = some (xs.map .int) := (rfl)
@[simp] theorem tru_bl (b : Bool) (k : Bool → Res D) : tru S (.bl b) k = k b := (rfl)
@[simp] theorem tru_int (i : Int) (k : Bool → Res D) : tru S (.int i) k = k (i != 0) := (rfl)
@[simp] theorem truD_bl (b : Bool) : truD (.bl b) = some b := (rfl)
@[simp] theorem truD_int (i : Int) : truD (.int i) = some (i != 0) := (rfl)
@[simp] theorem truD_non : truD .non = some false := (rfl)
@[simp] theorem truD_lst (xs : List D) : truD (.lst xs) = some (!xs.isEmpty) := (rfl)
@[simp] theorem truD_tup (xs : List D) : truD (.tup xs) = some (!xs.isEmpty) := (rfl)
@[simp] theorem ofB_some (b : Bool) : ofB S (some b) = .ok (.bl b) S := (rfl)
@[simp] theorem unT_tup (xs : List D) : unT (.tup xs) = xs := (rfl)
@[simp] theorem part_non : partD .non = some none := (rfl)
@[simp] theorem part_int (i : Int) : partD (.int i) = some (some i) := (rfl)
@[simp] theorem withPart_non (k : Option Int → Res α) : withPart .non k = k none := (rfl)
@[simp] theorem withPart_int (i : Int) (k : Option Int → Res α) : withPart (.int i) k = k (some i) := (rfl)
@[simp] theorem bin_add (i j : Int) : binD .add S (.int i) (.int j) = .ok (.int (i + j)) S := (rfl)
@[simp] theorem bin_sub (i j : Int) : binD .sub S (.int i) (.int j) = .ok (.int (i - j)) S := (rfl)
theorem bin_mul {i j : Int} (h : (-(2 ^ 64) < i ∧ i < 2 ^ 64) ∨ (-(2 ^ 64) < j ∧ j < 2 ^ 64)) : binD .mul S (.int i) (.int j) = .ok (.int (i * j)) S := by
  show (match (if ((-(2 ^ 64) < i ∧ i < 2 ^ 64) ∨ (-(2 ^ 64) < j ∧ j < 2 ^ 64)) ∨ wideM i j = true then some (i * j) else none) with | some k => Res.ok (D.int k) S | none => .bad) = _
  rw [if_pos (.inl h)]
theorem bin_mulW {i j : Int} (h : wideM i j = true) : binD .mul S (.int i) (.int j) = .ok (.int (i * j)) S := by
  show (match (if ((-(2 ^ 64) < i ∧ i < 2 ^ 64) ∨ (-(2 ^ 64) < j ∧ j < 2 ^ 64)) ∨ wideM i j = true then some (i * j) else none) with | some k => Res.ok (D.int k) S | none => .bad) = _
  rw [if_pos (.inr h)]
theorem bin_fdiv {i j : Int} (h : 0 < j ∧ j < 1073741824) : binD .fdiv S (.int i) (.int j) = .ok (.int (i / j)) S := by
  show (match (if (0 < j ∧ j < 1073741824) ∨ (0 < j ∧ wideM i j = true) then some (i / j) else none) with | some k => Res.ok (D.int k) S | none => .bad) = _
  rw [if_pos (.inl h)]
theorem bin_mod {i j : Int} (h : 0 < j) : binD .mod S (.int i) (.int j) = .ok (.int (i % j)) S := by
  show (match (if 0 < j then some (i % j) else none) with | some k => Res.ok (D.int k) S | none => .bad) = _
  rw [if_pos h]
theorem bin_pow {i j : Int} (h : 0 ≤ j ∧ j ≤ 1000000 ∧ i.natAbs < 2 ^ 64) : binD .pow S (.int i) (.int j) = .ok (.int (i ^ j.toNat)) S := by
  show (match (if 0 ≤ j ∧ j ≤ 1000000 ∧ i.natAbs < 2 ^ 64 then some (i ^ j.toNat) else none) with | some k => Res.ok (D.int k) S | none => .bad) = _
  rw [if_pos h]
theorem bin_cat {a b : D} {xs ys : List D} (h1 : look S a = .lst xs) (h2 : look S b = .lst ys) (h : xs.length + ys.length ≤ sizeLine) : binD .add S a b = .ok (.lst (xs ++ ys)) S := by
  unfold binD
  rw [h1, h2]
  exact if_pos h
theorem catD_ok {a b : D} {xs ys : List D} (h1 : look S a = .lst xs) (h2 : look S b = .lst ys) (h : xs.length + ys.length ≤ sizeLine) : catD S a b = .ok (.ptr S.length) (S ++ [.lst (xs ++ ys)]) := by
  unfold catD
  rw [h1, h2]
  exact if_pos h
@[simp] theorem dp_int (n : Nat) (i : Int) : dpD n (.int i) = true := by cases n <;> rfl
@[simp] theorem dp_bl (n : Nat) (i : Bool) : dpD n (.bl i) = true := by cases n <;> rfl
@[simp] theorem dp_non (n : Nat) : dpD n .non = true := by cases n <;> rfl
@[simp] theorem dp_lst (n : Nat) (xs : List D) : dpD (n + 1) (.lst xs) = xs.all (dpD n) := (rfl)
@[simp] theorem dp_tup (n : Nat) (xs : List D) : dpD (n + 1) (.tup xs) = xs.all (dpD n) := (rfl)
@[simp] theorem eqB_int (i j : Int) : eqB (.int i) (.int j) = (i == j) := by unfold eqB; rfl
@[simp] theorem eqB_bl (i j : Bool) : eqB (.bl i) (.bl j) = (i == j) := by unfold eqB; rfl
@[simp] theorem eqO_int (i j : Int) : eqO (.int i) (.int j) = some (i == j) := by unfold eqO; simp
@[simp] theorem eqO_bl (i j : Bool) : eqO (.bl i) (.bl j) = some (i == j) := by unfold eqO; simp
@[simp] theorem notO_some' (b : Bool) : notO (some b) = some (!b) := (rfl)
@[simp] theorem cmp_eq (a b : D) : cmpB .eq S a b = eqO (look S a) (look S b) := (rfl)
@[simp] theorem cmp_ne (a b : D) : cmpB .ne S a b = notO (eqO (look S a) (look S b)) := (rfl)
@[simp] theorem al_int (i j : Int) : alB (.int i) (.int j) = true := by unfold alB; rfl
@[simp] theorem ltB_int (i j : Int) : ltB (.int i) (.int j) = decide (i < j) := by unfold ltB; rfl
@[simp] theorem cmp_lt (i j : Int) : cmpB .lt S (.int i) (.int j) = some (decide (i < j)) := by
  show ltO (.int i) (.int j) = _
  unfold ltO
  simp
@[simp] theorem leB_int (i j : Int) : leB (.int i) (.int j) = decide (i ≤ j) := by unfold leB; rfl
@[simp] theorem cmp_le (i j : Int) : cmpB .le S (.int i) (.int j) = some (decide (i ≤ j)) := by
  show leO (.int i) (.int j) = _
  unfold leO
  simp
@[simp] theorem cmp_gt (i j : Int) : cmpB .gt S (.int i) (.int j) = some (decide (j < i)) := (rfl)
@[simp] theorem cmp_ge (i j : Int) : cmpB .ge S (.int i) (.int j) = some (decide (j ≤ i)) := (rfl)
@[simp] theorem bi_abs (i : Int) : biD .abs S [.int i] = .ok (.int (if i < 0 then -i else i)) S := (rfl)
@[simp] theorem bi_int (i : Int) : biD .int S [.int i] = .ok (.int i) S := (rfl)
@[simp] theorem bi_max (i j : Int) : biD .max2 S [.int i, .int j] = .ok (.int (if j > i then j else i)) S := (rfl)
@[simp] theorem bi_min (i j : Int) : biD .min2 S [.int i, .int j] = .ok (.int (if j < i then j else i)) S := (rfl)
def lenR (S : Store) : Option Nat → Res D
  | some n => .ok (.int n) S
  | none => .bad
@[simp] theorem lenR_some (n : Nat) : lenR S (some n) = .ok (.int n) S := (rfl)
@[simp] theorem bi_len (d : D) : biD .len S [d] = lenR S (lenD S d) := by
  show (match lenD S d with
    | some n => Res.ok (D.int n) S
    | none => Res.bad) = _
  cases lenD S d <;> rfl
@[simp] theorem len_lst (xs : List D) : lenD S (.lst xs) = some xs.length := (rfl)
@[simp] theorem len_tup (xs : List D) : lenD S (.tup xs) = some xs.length := (rfl)
@[simp] theorem len_scr (xs : List Int) : lenD S (.scr xs) = some xs.length := (rfl)
theorem len_ptr {n : Nat} {xs : List D} (h : S[n]? = some (.lst xs)) : lenD S (.ptr n) = some xs.length := by unfold lenD; rw [look_ptr_lst h]
theorem ints_map : ∀ ns : List Int, intsD (ns.map .int) = some ns
  | [] => rfl
  | n :: ns => by
    show (intsD (ns.map .int)).map (n :: ·) = _
    rw [ints_map ns]
    rfl
@[simp] theorem bi_sum (ns : List Int) : biD .sum S [.lst (ns.map .int)] = .ok (.int ns.sum) S := by
  show (match intsD (ns.map .int) with
      | some ns => Res.ok (D.int ns.sum) S
      | none => Res.bad) = _
  rw [ints_map]
@[simp] theorem bi_sumT (ns : List Int) : biD .sum S [.tup (ns.map .int)] = .ok (.int ns.sum) S := by
  show (match intsD (ns.map .int) with
      | some ns => Res.ok (D.int ns.sum) S
      | none => Res.bad) = _
  rw [ints_map]
@[simp] theorem isi_nil (d : D) : isiAny S d [] = some false := (rfl)
@[simp] theorem isi_int_int (i : Int) : isiD S (.int i) .int = some true := (rfl)
@[simp] theorem isi_int_bool (i : Int) : isiD S (.int i) .bool = some false := (rfl)
@[simp] theorem isi_bl_bool (i : Bool) : isiD S (.bl i) .bool = some true := (rfl)
@[simp] theorem isi_bl_int (i : Bool) : isiD S (.bl i) .int = some true := (rfl)
def isiO (k : Option Bool) : Option Bool → Option Bool
  | some true => some true
  | some false => k
  | none => none
@[simp] theorem isiO_t (k : Option Bool) : isiO k (some true) = some true := (rfl)
@[simp] theorem isiO_f (k : Option Bool) : isiO k (some false) = k := (rfl)
@[simp] theorem isi_cons (d : D) (t : Ty) (r : List Ty) : isiAny S d (t :: r) = isiO (isiAny S d r) (isiD S d t) := by
  show (match isiD S d t with
    | some true => some true
    | some false => isiAny S d r
    | none => none) = _
  cases isiD S d t with
  | none => rfl
  | some b => cases b <;> rfl
theorem rng1_ok {n : Int} (h : -(2 ^ 62) ≤ n ∧ n < 2 ^ 62) : rngD [.int n] = some ((List.range n.toNat).map fun (k : Nat) => D.int (k : Int)) := by
  have z : rngD [.int n] = some ((List.range n.toNat).map fun (k : Nat) => D.int (0 + (k : Int))) := if_pos h
  rw [z]
  simp
theorem rng2_ok {a b : Int} (h : -(2 ^ 62) ≤ a ∧ a < 2 ^ 62 ∧ -(2 ^ 62) ≤ b ∧ b < 2 ^ 62) : rngD [.int a, .int b] = some ((List.range (b - a).toNat).map fun (k : Nat) => D.int (a + (k : Int))) := if_pos h
/-! ### instances -/
@[simp] theorem ins_int (i : Int) : insD S (.int i) = none := (rfl)
@[simp] theorem ins_bl (i : Bool) : insD S (.bl i) = none := (rfl)
@[simp] theorem ins_non : insD S .non = none := (rfl)
@[simp] theorem ins_str (s : Str) : insD S (.str s) = none := (rfl)
@[simp] theorem ins_lst (xs : List D) : insD S (.lst xs) = none := (rfl)
@[simp] theorem ins_tup (xs : List D) : insD S (.tup xs) = none := (rfl)
@[simp] theorem ins_scr (xs : List Int) : insD S (.scr xs) = none := (rfl)
@[simp] theorem ins_ins (c : String) (fs : List (String × D)) : insD S (.ins c fs) = some (c, fs) := (rfl)
@[simp] theorem look_ins (c : String) (fs : List (String × D)) : look S (.ins c fs) = .ins c fs := (rfl)
theorem ins_ptr {n : Nat} {c : String} {fs : List (String × D)} (h : S[n]? = some (.ins c fs)) : insD S (.ptr n) = some (c, fs) := by
  unfold insD look
  simp only [h]
theorem ins_ptr_lst {n : Nat} {xs : List D} (h : S[n]? = some (.lst xs)) : insD S (.ptr n) = none := by
  unfold insD look
  simp only [h]
theorem binX_n {op : Bop} {a b : D} (h1 : insD S a = none) (h2 : insD S b = none) : binX pr cb op S a b = binD op S a b := by
  unfold binX
  rw [h1, h2]
@[simp] theorem binX_int (op : Bop) (i j : Int) : binX pr cb op S (.int i) (.int j) = binD op S (.int i) (.int j) := (rfl)
@[simp] theorem negX_int (i : Int) : negX pr cb S (.int i) = .ok (.int (-i)) S := (rfl)
theorem cmpX_n {op : Cop} {a b : D} (h : insD S a = none) : cmpX pr cb op S a b = ofB S (cmpB op S a b) := by
  unfold cmpX
  rw [h]
@[simp] theorem cmpX_int (op : Cop) (i : Int) (b : D) : cmpX pr cb op S (.int i) b = ofB S (cmpB op S (.int i) b) := (rfl)
@[simp] theorem cmpX_blb (op : Cop) (i : Bool) (b : D) : cmpX pr cb op S (.bl i) b = ofB S (cmpB op S (.bl i) b) := (rfl)
@[simp] theorem cmpX_non (op : Cop) (b : D) : cmpX pr cb op S .non b = ofB S (cmpB op S .non b) := (rfl)
@[simp] theorem cmpX_str (op : Cop) (s : Str) (b : D) : cmpX pr cb op S (.str s) b = ofB S (cmpB op S (.str s) b) := (rfl)
@[simp] theorem cmpX_lst (op : Cop) (xs : List D) (b : D) : cmpX pr cb op S (.lst xs) b = ofB S (cmpB op S (.lst xs) b) := (rfl)
@[simp] theorem cmpX_tup (op : Cop) (xs : List D) (b : D) : cmpX pr cb op S (.tup xs) b = ofB S (cmpB op S (.tup xs) b) := (rfl)
@[simp] theorem biX_abs (ds : List D) : biX pr cb .abs S ds = biD .abs S ds := (rfl)
@[simp] theorem biX_int (ds : List D) : biX pr cb .int S ds = biD .int S ds := (rfl)
@[simp] theorem biX_len (ds : List D) : biX pr cb .len S ds = biD .len S ds := (rfl)
@[simp] theorem biX_sum (ds : List D) : biX pr cb .sum S ds = biD .sum S ds := (rfl)
@[simp] theorem biX_list (ds : List D) : biX pr cb .list S ds = biD .list S ds := (rfl)
@[simp] theorem biX_listc (ds : List D) : biX pr cb .listc S ds = biD .listc S ds := (rfl)
@[simp] theorem biX_tuple (ds : List D) : biX pr cb .tuple S ds = biD .tuple S ds := (rfl)
@[simp] theorem biX_max2 (ds : List D) : biX pr cb .max2 S ds = biD .max2 S ds := (rfl)
@[simp] theorem biX_min2 (ds : List D) : biX pr cb .min2 S ds = biD .min2 S ds := (rfl)
@[simp] theorem biX_any (ds : List D) : biX pr cb .any S ds = biD .any S ds := (rfl)
@[simp] theorem biX_all (ds : List D) : biX pr cb .all S ds = biD .all S ds := (rfl)
@[simp] theorem biX_bool_int (i : Int) : biX pr cb .bool S [.int i] = .ok (.bl (i != 0)) S := (rfl)
@[simp] theorem biX_bool_bl (i : Bool) : biX pr cb .bool S [.bl i] = .ok (.bl i) S := (rfl)
@[simp] theorem biX_bool_ins (c : String) (fs : List (String × D)) : biX pr cb .bool S [.ins c fs] = asBl (callO cb (pr.meth c "__bool__") [.ins c fs] S) id := (rfl)
@[simp] theorem isXs_nil (kn : String → Bool) (d : D) : isiXs kn S d [] = some false := (rfl)
@[simp] theorem isXs_cons (kn : String → Bool) (d : D) (t : Ty) (r : List Ty) : isiXs kn S d (t :: r) = isiO (isiXs kn S d r) (isiX kn S d t) := by
  show (match isiX kn S d t with
    | some true => some true
    | some false => isiXs kn S d r
    | none => none) = _
  cases isiX kn S d t with
  | none => rfl
  | some b => cases b <;> rfl
@[simp] theorem isX_int (kn : String → Bool) (i : Int) : isiX kn S (.int i) .int = some true := (rfl)
@[simp] theorem isX_int_bool (kn : String → Bool) (i : Int) : isiX kn S (.int i) .bool = some false := (rfl)
@[simp] theorem isX_int_str (kn : String → Bool) (i : Int) : isiX kn S (.int i) .str = some false := (rfl)
@[simp] theorem isX_int_tup (kn : String → Bool) (i : Int) : isiX kn S (.int i) .tuple = some false := (rfl)
@[simp] theorem isX_int_lst (kn : String → Bool) (i : Int) : isiX kn S (.int i) .list = some false := (rfl)
@[simp] theorem isX_int_cls (kn : String → Bool) (i : Int) (c : String) : isiX kn S (.int i) (.cls c) = if kn c then some false else none := (rfl)
@[simp] theorem isX_bl_int (kn : String → Bool) (i : Bool) : isiX kn S (.bl i) .int = some true := (rfl)
@[simp] theorem isX_bl_bool (kn : String → Bool) (i : Bool) : isiX kn S (.bl i) .bool = some true := (rfl)
@[simp] theorem isX_bl_str (kn : String → Bool) (i : Bool) : isiX kn S (.bl i) .str = some false := (rfl)
@[simp] theorem isX_bl_tup (kn : String → Bool) (i : Bool) : isiX kn S (.bl i) .tuple = some false := (rfl)
@[simp] theorem isX_bl_lst (kn : String → Bool) (i : Bool) : isiX kn S (.bl i) .list = some false := (rfl)
@[simp] theorem isX_str_str (kn : String → Bool) (i : Str) : isiX kn S (.str i) .str = some true := (rfl)
@[simp] theorem isX_str_int (kn : String → Bool) (i : Str) : isiX kn S (.str i) .int = some false := (rfl)
@[simp] theorem isX_str_bool (kn : String → Bool) (i : Str) : isiX kn S (.str i) .bool = some false := (rfl)
@[simp] theorem isX_str_tup (kn : String → Bool) (i : Str) : isiX kn S (.str i) .tuple = some false := (rfl)
@[simp] theorem isX_str_lst (kn : String → Bool) (i : Str) : isiX kn S (.str i) .list = some false := (rfl)
@[simp] theorem isX_tup_tup (kn : String → Bool) (xs : List D) : isiX kn S (.tup xs) .tuple = some true := (rfl)
@[simp] theorem isX_tup_lst (kn : String → Bool) (xs : List D) : isiX kn S (.tup xs) .list = some false := (rfl)
@[simp] theorem isX_tup_int (kn : String → Bool) (xs : List D) : isiX kn S (.tup xs) .int = some false := (rfl)
@[simp] theorem isX_tup_bool (kn : String → Bool) (xs : List D) : isiX kn S (.tup xs) .bool = some false := (rfl)
@[simp] theorem isX_tup_str (kn : String → Bool) (xs : List D) : isiX kn S (.tup xs) .str = some false := (rfl)
@[simp] theorem isX_lst_lst (kn : String → Bool) (xs : List D) : isiX kn S (.lst xs) .list = some true := (rfl)
@[simp] theorem isX_lst_tup (kn : String → Bool) (xs : List D) : isiX kn S (.lst xs) .tuple = some false := (rfl)
@[simp] theorem isX_lst_int (kn : String → Bool) (xs : List D) : isiX kn S (.lst xs) .int = some false := (rfl)
@[simp] theorem isX_lst_bool (kn : String → Bool) (xs : List D) : isiX kn S (.lst xs) .bool = some false := (rfl)
@[simp] theorem isX_lst_str (kn : String → Bool) (xs : List D) : isiX kn S (.lst xs) .str = some false := (rfl)
@[simp] theorem isX_ins_int (kn : String → Bool) (c : String) (fs : List (String × D)) : isiX kn S (.ins c fs) .int = if kn c then some false else none := (rfl)
@[simp] theorem isX_ins_bool (kn : String → Bool) (c : String) (fs : List (String × D)) : isiX kn S (.ins c fs) .bool = if kn c then some false else none := (rfl)
@[simp] theorem isX_ins_cls (kn : String → Bool) (c e : String) (fs : List (String × D)) : isiX kn S (.ins c fs) (.cls e) = if kn c && kn e then some (c == e) else none := (rfl)
@[simp] theorem isInt_int (i : Int) : isInt (.int i) = true := (rfl)
@[simp] theorem isInt_ins (c : String) (fs : List (String × D)) : isInt (.ins c fs) = false := (rfl)
@[simp] theorem ev_fld (x : String) : evE pr cb (.fld x a) σ S = (evE pr cb a σ S).bind fun d S1 => fldD pr x S1 d := (rfl)
@[simp] theorem ev_mk (c : String) : evE pr cb (.mk c as) σ S = (evE pr cb as σ S).bind fun x S1 => mkX pr cb c (unT x) S1 := (rfl)
def methG (cb : Cb) (d : D) (k : Res D) : Option (String × Mode) → Res D
  | some (f, m) => k.bind fun y S2 => callM cb m f (d :: unT y) S2
  | none => .bad
@[simp] theorem methG_some (d : D) (k : Res D) (f : String) (m : Mode) : methG cb d k (some (f, m)) = k.bind fun y S2 => callM cb m f (d :: unT y) S2 := (rfl)
@[simp] theorem ev_meth (x : String) : evE pr cb (.meth x a as) σ S = (evE pr cb a σ S).bind fun d S1 => methG cb d (evE pr cb as σ S1) (methD pr x S1 d) := by
  show ((evE pr cb a σ S).bind fun d S1 => match methD pr x S1 d with
    | some (f, m) => (evE pr cb as σ S1).bind fun y S2 => callM cb m f (d :: unT y) S2
    | none => .bad) = _
  congr
@[simp] theorem callM_pure (f : String) (ds : List D) : callM cb .pure f ds S = callP cb f ds S := (rfl)
@[simp] theorem callM_st (f : String) (ds : List D) : callM cb .st f ds S = cb f ds S := (rfl)
@[simp] theorem callO_some (f : String) (m : Mode) (ds : List D) : callO cb (some (f, m)) ds S = callM cb m f ds S := (rfl)
theorem fld_ins {x c : String} {fs : List (String × D)} {e : D} (h1 : pr.lacks c x = true) (h2 : fs.lookup x = some e) : fldD pr x S (.ins c fs) = .ok e S := by
  unfold fldD
  rw [ins_ins]
  show (if pr.lacks c x then match fs.lookup x with
    | some e => Res.ok e S
    | none => Res.bad
    else Res.bad) = _
  rw [if_pos h1, h2]
theorem meth_ins {x c : String} {fs : List (String × D)} (h : fs.lookup x = none) : methD pr x S (.ins c fs) = pr.meth c x := by
  unfold methD
  rw [ins_ins]
  show (if (fs.lookup x).isNone then pr.meth c x else none) = _
  rw [h]
  rfl
@[simp] theorem ex_sfld (x : String) : exS pr cb (.sfld x a e) σ S = (evE pr cb e σ S).sr σ fun d S1 => (evE pr cb a σ S1).sr σ fun p S2 => (match sfldD pr x S2 p d with
    | some S3 => SR.nx σ S3
    | none => .bad) := (rfl)
theorem sfld_ptr {x c : String} {fs : List (String × D)} {n : Nat} {d : D} (h : S[n]? = some (.ins c fs)) (h1 : pr.lacks c x = true) (h2 : fs.length < 1000) : sfldD pr x S (.ptr n) d = some (S.set n (.ins c (putD x d fs))) := by
  show (match S[n]? with
    | some (.ins c fs) => if pr.lacks c x = true ∧ fs.length < 1000 then some (S.set n (.ins c (putD x d fs))) else none
    | _ => none) = _
  rw [h]
  exact if_pos ⟨h1, h2⟩
@[simp] theorem asBl_ok (k : Bool → Bool) (b : Bool) : asBl (.ok (.bl b) S) k = .ok (.bl (k b)) S := (rfl)
@[simp] theorem ev_chain (o1 o2 : Cop) : evE pr cb (.chain o1 o2 a b c) σ S = (evE pr cb a σ S).bind fun x S1 => (evE pr cb b σ S1).bind fun y S2 => (match cmpB o1 S2 x y with
    | some true => (evE pr cb c σ S2).bind fun z S3 => ofB S3 (cmpB o2 S3 y z)
    | some false => .ok (.bl false) S2
    | none => .bad) := (rfl)
@[simp] theorem ex_sidx {i : E} : exS pr cb (.sidx a i e) σ S = (evE pr cb e σ S).sr σ fun d S1 => (evE pr cb a σ S1).sr σ fun p S2 => (evE pr cb i σ S2).sr σ fun k S3 => (match sidxD S3 p k d with
    | some S4 => SR.nx σ S4
    | none => .bad) := (rfl)
def revR (S : Store) : D → Res D
  | .lst xs => .ok (.lst xs.reverse) S
  | _ => .bad
@[simp] theorem revR_lst (xs : List D) : revR S (.lst xs) = .ok (.lst xs.reverse) S := (rfl)
@[simp] theorem ev_rev : evE pr cb (.rev a) σ S = (evE pr cb a σ S).bind fun x S1 => revR S1 (look S1 x) := (rfl)
/-! ### calls -/
@[simp] theorem pf_int (i : Int) : (D.int i).pf = true := by unfold D.pf; rfl
@[simp] theorem pf_bl (i : Bool) : (D.bl i).pf = true := by unfold D.pf; rfl
@[simp] theorem pf_non : D.non.pf = true := by unfold D.pf; rfl
@[simp] theorem pf_str (s : Str) : (D.str s).pf = true := by unfold D.pf; rfl
@[simp] theorem pf_scr (s : List Int) : (D.scr s).pf = true := by unfold D.pf; rfl
@[simp] theorem pf_lst (xs : List D) : (D.lst xs).pf = pfL xs := by rw [D.pf]
@[simp] theorem pf_tup (xs : List D) : (D.tup xs).pf = pfL xs := by rw [D.pf]
@[simp] theorem pfL_nil : pfL [] = true := by unfold pfL; rfl
@[simp] theorem pfL_cons (d : D) (r : List D) : pfL (d :: r) = (d.pf && pfL r) := by rw [pfL]
theorem pfL_all : ∀ {xs : List D}, (∀ d ∈ xs, d.pf = true) → pfL xs = true
  | [], _ => pfL_nil
  | x :: r, h => by rw [pfL_cons, h x (List.mem_cons_self ..), pfL_all fun y hy => h y (List.mem_cons_of_mem _ hy)]; rfl
@[simp] theorem pfL_ints (ns : List Int) : pfL (ns.map .int) = true := pfL_all fun d hd => by
  obtain ⟨n, _, rfl⟩ := List.mem_map.mp hd
  exact pf_int n
theorem frzD_pf {k : Nat} {d : D} (h : d.pf = true) : frzD k S d = some (d, S) := by
  cases k <;> unfold frzD <;> rw [if_pos h]
theorem frzL_pf {k : Nat} : ∀ {ds : List D}, pfL ds = true → frzL (frzD k) S ds = some (ds, S)
  | [], _ => rfl
  | d :: r, h => by
    rw [pfL_cons, Bool.and_eq_true] at h
    unfold frzL
    rw [frzD_pf h.1]
    show (match frzL (frzD k) S r with
      | some (q, S2) => some (d :: q, S2)
      | none => none) = _
    rw [frzL_pf h.2]
theorem frzE_pf {d : D} (h : d.pf = true) : frzE S d = .ok d S := by
  unfold frzE
  rw [frzD_pf h]
theorem callP_ok {f : String} {ds : List D} {d : D} {S2 : Store} (h1 : pfL ds = true) (h2 : cb f ds [] = .ok d S2) (h3 : d.pf = true) : callP cb f ds S = .ok d S := by
  unfold callP pureK
  rw [frzL_pf h1]
  show (match cb f ds [] with
    | .ok d S2 => match frzD frzK S2 d with
      | some (d', _) => Res.ok d' S
      | none => .bad
    | .ex x _ => if pfF x.fs then .ex x S else .bad
    | .bad => .bad) = _
  rw [h2]
  show (match frzD frzK S2 d with
      | some (d', _) => Res.ok d' S
      | none => .bad) = _
  rw [frzD_pf h3]
@[simp] theorem pf_ins (c : String) (fs : List (String × D)) : (D.ins c fs).pf = pfF fs := by rw [D.pf]
@[simp] theorem pfF_nil : pfF [] = true := by unfold pfF; rfl
@[simp] theorem pfF_cons (x : String) (d : D) (r : List (String × D)) : pfF ((x, d) :: r) = (d.pf && pfF r) := by rw [pfF]
/-- a pure call that raises -/
theorem callP_ex {f : String} {ds : List D} {x : Exn} {S2 : Store} (h1 : pfL ds = true) (h2 : cb f ds [] = .ex x S2) (h3 : pfF x.fs = true) : callP cb f ds S = .ex x S := by
  unfold callP pureK
  rw [frzL_pf h1]
  show (match cb f ds [] with
    | .ok d S2 => match frzD frzK S2 d with
      | some (d', _) => Res.ok d' S
      | none => .bad
    | .ex x _ => if pfF x.fs then .ex x S else .bad
    | .bad => .bad) = _
  rw [h2]
  exact if_pos h3
theorem run_fn {P : Prog} {n : Nat} {f : String} {F : Fn} {ds : List D} (h : P.fn f = some F) (hl : ds.length = F.np) : run P (n + 1) f ds S = endR (exS P (run P n) F.body (startD F.ns ds) S) := by
  show (match P.fn f with
    | some F => if ds.length = F.np then endR (exS P (run P n) F.body (startD F.ns ds) S) else .bad
    | none => .bad) = _
  rw [h]
  exact if_pos hl
@[simp] theorem endR_rt (d : D) : endR (.rt d S) = .ok d S := (rfl)
@[simp] theorem endR_nx : endR (.nx σ S) = .ok .non S := (rfl)
@[simp] theorem endR_ex (x : Exn) : endR (.ex x σ S) = .ex x S := (rfl)
theorem endR_ite {p : Prop} [Decidable p] (x y : SR) : endR (if p then x else y) = if p then endR x else endR y := by split <;> rfl
end
end MX
end

section
set_option maxRecDepth 100000
set_option maxHeartbeats 4000000
namespace MX
open PySem
def c__law_mixed : Fn := ⟨2, 3, (.seq (.asg 2 (.bin .mod (.bi .int (.acons (.bin .add (.bin .add (.bin .mul (.var 0) (.int 48271)) (.bin .mul (.var 1) (.int 69621))) (.int 12345)) .anil)) (.int 2147483647)))
  (.seq (.ret (.bin .mod (.bin .fdiv (.bin .mod (.bi .int (.acons (.bin .mul (.var 2) (.bin .add (.bin .add (.var 2) (.int 40692)) (.var 1))) .anil)) (.int 2147483629)) (.int 64)) (.int 5040)))
  .nil))⟩
def c__law_pool : Fn := ⟨2, 10, (.seq (.asg 2 (.cell .anil))
  (.seq (.for_ .seq (.n 3) (.var 0) (.seq (.asg 7 (.bi .abs (.acons (.bi .int (.acons (.var 3) .anil)) .anil)))
  (.seq (.ifs (.cmp .lt (.var 7) (.bin .pow (.int 10) (.int 18))) (.seq (.asg 8 (.bin .mul (.int 7919) (.bi .len (.acons (.var 2) .anil))))
  (.seq (.asg 2 (.catc (.var 2) (.comp false [6] .seq (.n 6) (.irng1 (.int 4)) (.bl true) (.call .pure "_law_mixed" (.acons (.bin .add (.var 7) (.var 8)) (.acons (.var 6) .anil))))))
  (.seq (.asg 7 (.int 0))
  .nil))) .nil)
  (.seq (.for_ .seq (.n 6) (.irng1 (.int 60)) (.seq (.ifs (.cmp .gt (.var 7) (.int 0)) (.seq (.ex (.app (.var 2) (.bin .mod (.bi .int (.acons (.var 7) .anil)) (.int 5040))))
  (.seq (.asg 7 (.bin .fdiv (.var 7) (.int 5040)))
  .nil)) .nil)
  .nil))
  .nil))))
  (.seq (.asg 4 (.bin .add (.bin .mod (.bi .int (.acons (.bi .sum (.acons (.comp false [9] .seq (.n 9) (.var 0) (.bl true) (.bi .int (.acons (.var 9) .anil))) .anil)) .anil)) (.int 1000003)) (.bi .len (.acons (.var 0) .anil))))
  (.seq (.asg 5 (.cell .anil))
  (.seq (.for_ .seq (.n 6) (.irng1 (.var 1)) (.seq (.ex (.app (.var 5) (.bin .mod (.bi .int (.acons (.bin .add (.bin .mul (.var 4) (.bin .add (.var 6) (.int 1))) (.bin .fdiv (.bin .add (.bin .sub (.bin .mul (.bin .mul (.int 17) (.var 6)) (.var 6)) (.bin .mul (.int 12) (.var 6))) (.int 8)) (.int 4))) .anil)) (.int 5040))))
  .nil))
  (.seq (.ret (.cut (.bin .add (.var 2) (.var 5)) .nopart (.part (.var 1))))
  .nil))))))⟩
def mixF (c k : Int) : Int := ((((c * 48271 + k * 69621 + 12345) % 2147483647) * (((c * 48271 + k * 69621 + 12345) % 2147483647) + 40692 + k)) % 2147483629) / 64 % 5040
theorem mix_run {P : Prog} (h : P.fn "_law_mixed" = some c__law_mixed) (n : Nat) (c k : Int) (S : Store) : run P (n + 1) "_law_mixed" [.int c, .int k] S = .ok (.int (mixF c k)) S := by
  rw [run_fn h rfl]
  simp (disch := omega) [List.getElem?_cons_zero, c__law_mixed, startD, bin_mul, bin_mod, bin_fdiv, mixF]
theorem mix_bd (c k : Int) : 0 ≤ mixF c k ∧ mixF c k < 5040 := by
  unfold mixF
  omega
def Small (xs : List Int) : Prop := ∀ x ∈ xs, 0 ≤ x ∧ x < 5040
theorem Small.append {xs ys : List Int} (h : Small xs) (k : Small ys) : Small (xs ++ ys) := fun x hx => by
  rcases List.mem_append.mp hx with z | z
  · exact h x z
  · exact k x z
theorem Small.one {x : Int} (h : 0 ≤ x ∧ x < 5040) : Small [x] := fun y hy => by
  rw [List.mem_singleton] at hy
  rw [hy]
  exact h
theorem call_int1 {cb : Cb} {S : Store} {f : String} {ds : List D} {d : D} {S2 : Store} (h1 : pfL ds = true) (h2 : cb f ds [] = .ok d S2) (h3 : d.pf = true) : callP cb f ds S = .ok d S := callP_ok h1 h2 h3
/-- the pool's comprehension -/
theorem pool_mix {P : Prog} (h : P.fn "_law_mixed" = some c__law_mixed) (n : Nat) (a b : Int) {o0 o1 o2 o3 o4 o5 o6 o9 : Option D} (S : Store) :
    evE P (run P (n + 1)) (.comp false [6] .seq (.n 6) (.irng1 (.int 4)) (.bl true) (.call .pure "_law_mixed" (.acons (.bin .add (.var 7) (.var 8)) (.acons (.var 6) .anil)))) [o0, o1, o2, o3, o4, o5, o6, some (.int a), some (.int b), o9] S
      = .ok (.lst [.int (mixF (a + b) 0), .int (mixF (a + b) 1), .int (mixF (a + b) 2), .int (mixF (a + b) 3)]) S := by
  have e : ∀ k : Int, compF P (run P (n + 1)) [6] 6 (.bl true) (.call .pure "_law_mixed" (.acons (.bin .add (.var 7) (.var 8)) (.acons (.var 6) .anil))) [o0, o1, o2, o3, o4, o5, o6, some (.int a), some (.int b), o9] (.int k) S = .ok (some (.int (mixF (a + b) k))) S := fun k => by
    unfold compF
    have c := callP_ok (cb := run P (n + 1)) (S := S) (f := "_law_mixed") (ds := [.int (a + b), .int k]) (by simp) (mix_run h n (a + b) k []) (by simp)
    simp [wipeD, c]
  have r : rngD [.int 4] = some [.int 0, .int 1, .int 2, .int 3] := by
    rw [rng1_ok (by omega)]
    rfl
  simp [r, compL, e, sizeLine]
/-- the pool's long draws -/
def poolIn (pr : Prog) (cb : Cb) (x : D) (σ : DSt) (S : Store) : SR := exS pr cb (.seq (.ifs (.cmp .gt (.var 7) (.int 0)) (.seq (.ex (.app (.var 2) (.bin .mod (.bi .int (.acons (.var 7) .anil)) (.int 5040)))) (.seq (.asg 7 (.bin .fdiv (.var 7) (.int 5040))) .nil)) .nil) .nil) (σ.set 6 (some x)) S
theorem lt_of_get {S : Store} {p : Nat} {c : Cell} (h : S[p]? = some c) : p < S.length := (List.getElem?_eq_some_iff.mp h).1
section
variable {pr : Prog} {cb : Cb} {o0 o1 o3 o4 o5 o8 o9 : Option D} {p : Nat}
theorem poolIn_pos {o6 : Option D} {S : Store} {l : Int} {ys : List Int} (k : Int) (hl : 0 < l) (h : S[p]? = some (.lst (ys.map .int))) (hz : ys.length < sizeLine) :
    poolIn pr cb (.int k) [o0, o1, some (.ptr p), o3, o4, o5, o6, some (.int l), o8, o9] S = .nx [o0, o1, some (.ptr p), o3, o4, o5, some (.int k), some (.int (l / 5040)), o8, o9] (S.set p (.lst ((ys ++ [l % 5040]).map .int))) := by
  unfold poolIn
  simp [hl, h, bin_mod, bin_fdiv, hz]
theorem poolIn_neg {o6 : Option D} {S : Store} {l : Int} (k : Int) (hl : ¬ 0 < l) :
    poolIn pr cb (.int k) [o0, o1, some (.ptr p), o3, o4, o5, o6, some (.int l), o8, o9] S = .nx [o0, o1, some (.ptr p), o3, o4, o5, some (.int k), some (.int l), o8, o9] S := by
  unfold poolIn
  simp [hl]
theorem pool_in : ∀ (xs : List D) {o6 : Option D} {S : Store} {l : Int} {ys : List Int}, (∀ x ∈ xs, ∃ k : Int, x = .int k) → 0 ≤ l → S[p]? = some (.lst (ys.map .int)) → Small ys → ys.length + xs.length ≤ sizeLine →
    ∃ (o6' : Option D) (S' : Store) (l' : Int) (zs : List Int), forL (poolIn pr cb) xs [o0, o1, some (.ptr p), o3, o4, o5, o6, some (.int l), o8, o9] S = .nx [o0, o1, some (.ptr p), o3, o4, o5, o6', some (.int l'), o8, o9] S' ∧ S'[p]? = some (.lst (zs.map .int)) ∧ Small zs ∧ zs.length ≤ ys.length + xs.length
  | [], o6, S, l, ys, _, _, h, hs, _ => ⟨o6, S, l, ys, rfl, h, hs, by simp⟩
  | x :: xs, o6, S, l, ys, h2, h3, h, hs, h5 => by
    obtain ⟨k, rfl⟩ := h2 x (List.mem_cons_self ..)
    have h2 := fun y hy => h2 y (List.mem_cons_of_mem _ hy)
    rw [List.length_cons] at h5
    rw [for_cons]
    by_cases hl : 0 < l
    · obtain ⟨o6', S', l', zs, e, a, b, c⟩ := pool_in xs (o6 := some (.int k)) (S := S.set p (.lst ((ys ++ [l % 5040]).map .int))) (l := l / 5040) (ys := ys ++ [l % 5040]) h2 (by omega) (by rw [List.getElem?_set_self (lt_of_get h)]) (hs.append (.one (by omega))) (by simp; omega)
      refine ⟨o6', S', l', zs, ?_, a, b, by simp at c; simp; omega⟩
      rw [poolIn_pos k hl h (by omega), loopR_nx, e]
    · obtain ⟨o6', S', l', zs, e, a, b, c⟩ := pool_in xs (o6 := some (.int k)) (S := S) (l := l) (ys := ys) h2 h3 h hs (by omega)
      refine ⟨o6', S', l', zs, ?_, a, b, by simp; omega⟩
      rw [poolIn_neg k hl, loopR_nx, e]
end
/-- the pool's outer loop -/
def poolOut (pr : Prog) (cb : Cb) (x : D) (σ : DSt) (S : Store) : SR := exS pr cb (.seq (.asg 7 (.bi .abs (.acons (.bi .int (.acons (.var 3) .anil)) .anil)))
  (.seq (.ifs (.cmp .lt (.var 7) (.bin .pow (.int 10) (.int 18))) (.seq (.asg 8 (.bin .mul (.int 7919) (.bi .len (.acons (.var 2) .anil))))
  (.seq (.asg 2 (.catc (.var 2) (.comp false [6] .seq (.n 6) (.irng1 (.int 4)) (.bl true) (.call .pure "_law_mixed" (.acons (.bin .add (.var 7) (.var 8)) (.acons (.var 6) .anil))))))
  (.seq (.asg 7 (.int 0))
  .nil))) .nil)
  (.seq (.for_ .seq (.n 6) (.irng1 (.int 60)) (.seq (.ifs (.cmp .gt (.var 7) (.int 0)) (.seq (.ex (.app (.var 2) (.bin .mod (.bi .int (.acons (.var 7) .anil)) (.int 5040))))
  (.seq (.asg 7 (.bin .fdiv (.var 7) (.int 5040)))
  .nil)) .nil)
  .nil))
  .nil))) (σ.set 3 (some x)) S
theorem rng60 : ∃ xs : List D, rngD [.int 60] = some xs ∧ xs.length = 60 ∧ ∀ x ∈ xs, ∃ k : Int, x = .int k := by
  refine ⟨_, rng1_ok (by omega), by simp, fun x hx => ?_⟩
  obtain ⟨k, _, rfl⟩ := List.mem_map.mp hx
  exact ⟨_, rfl⟩
theorem poolOut_a {P : Prog} (hP : P.fn "_law_mixed" = some c__law_mixed) (n : Nat) (c : Int) {o0 o1 o3 o4 o5 o6 o7 o8 o9 : Option D} {p : Nat} {S : Store} {ys : List Int} (h : S[p]? = some (.lst (ys.map .int))) (hz : ys.length + 64 ≤ sizeLine)
    (hc : (if c < 0 then -c else c) < 1000000000000000000) : ∃ zs : List Int, Small zs ∧ zs.length = 4 ∧ poolOut P (run P (n + 1)) (.int c) [o0, o1, some (.ptr p), o3, o4, o5, o6, o7, o8, o9] S = sqS (exS P (run P (n + 1)) (.for_ .seq (.n 6) (.irng1 (.int 60)) (.seq (.ifs (.cmp .gt (.var 7) (.int 0)) (.seq (.ex (.app (.var 2) (.bin .mod (.bi .int (.acons (.var 7) .anil)) (.int 5040)))) (.seq (.asg 7 (.bin .fdiv (.var 7) (.int 5040))) .nil)) .nil) .nil)) [o0, o1, some (.ptr S.length), some (.int c), o4, o5, o6, some (.int 0), some (.int (7919 * ys.length)), o9] (S ++ [.lst ((ys ++ zs).map .int)])) fun σ S => .nx σ S := by
  refine ⟨[mixF ((if c < 0 then -c else c) + 7919 * ys.length) 0, mixF ((if c < 0 then -c else c) + 7919 * ys.length) 1, mixF ((if c < 0 then -c else c) + 7919 * ys.length) 2, mixF ((if c < 0 then -c else c) + 7919 * ys.length) 3], ?_, rfl, ?_⟩
  · intro x hx
    simp only [List.mem_cons, List.not_mem_nil, or_false] at hx
    rcases hx with rfl | rfl | rfl | rfl <;> exact mix_bd _ _
  have pw : binD .pow S (.int 10) (.int 18) = .ok (.int 1000000000000000000) S := bin_pow (i := 10) (j := 18) (by decide)
  have m1 : binD .mul S (.int 7919) (.int ys.length) = .ok (.int (7919 * ys.length)) S := bin_mul (by omega)
  have cm := fun (a b : Int) => pool_mix hP n a b (o0 := o0) (o1 := o1) (o2 := some (.ptr p)) (o3 := some (.int c)) (o4 := o4) (o5 := o5) (o6 := o6) (o9 := o9) S
  have ct := fun (a b c d : Int) => catD_ok (S := S) (a := .ptr p) (b := .lst [.int a, .int b, .int c, .int d]) (xs := ys.map .int) (ys := [.int a, .int b, .int c, .int d]) (look_ptr_lst h) rfl (by simp; omega)
  unfold poolOut
  simp [pw, hc, len_ptr h, m1, ct, cm, -ev_comp, -ex_for]
theorem poolOut_b {P : Prog} (n : Nat) (c : Int) {o0 o1 o3 o4 o5 o6 o7 o8 o9 : Option D} {p : Nat} {S : Store}
    (hc : ¬ (if c < 0 then -c else c) < 1000000000000000000) : poolOut P (run P (n + 1)) (.int c) [o0, o1, some (.ptr p), o3, o4, o5, o6, o7, o8, o9] S = sqS (exS P (run P (n + 1)) (.for_ .seq (.n 6) (.irng1 (.int 60)) (.seq (.ifs (.cmp .gt (.var 7) (.int 0)) (.seq (.ex (.app (.var 2) (.bin .mod (.bi .int (.acons (.var 7) .anil)) (.int 5040)))) (.seq (.asg 7 (.bin .fdiv (.var 7) (.int 5040))) .nil)) .nil) .nil)) [o0, o1, some (.ptr p), some (.int c), o4, o5, o6, some (.int (if c < 0 then -c else c)), o8, o9] S) fun σ S => .nx σ S := by
  have pw : binD .pow S (.int 10) (.int 18) = .ok (.int 1000000000000000000) S := bin_pow (i := 10) (j := 18) (by decide)
  unfold poolOut
  simp [pw, hc, -ev_comp, -ex_for]
theorem pool_turn {P : Prog} (hP : P.fn "_law_mixed" = some c__law_mixed) (n : Nat) (c : Int) {o0 o1 o3 o4 o5 o6 o7 o8 o9 : Option D} {p : Nat} {S : Store} {ys : List Int} (h : S[p]? = some (.lst (ys.map .int))) (hs : Small ys) (hz : ys.length + 64 ≤ sizeLine) :
    ∃ (o6' o7' o8' : Option D) (p' : Nat) (S' : Store) (zs : List Int), poolOut P (run P (n + 1)) (.int c) [o0, o1, some (.ptr p), o3, o4, o5, o6, o7, o8, o9] S = .nx [o0, o1, some (.ptr p'), some (.int c), o4, o5, o6', o7', o8', o9] S' ∧ S'[p']? = some (.lst (zs.map .int)) ∧ Small zs ∧ zs.length ≤ ys.length + 64 := by
  obtain ⟨r60, e60, l60, m60⟩ := rng60
  by_cases hc : (if c < 0 then -c else c) < 1000000000000000000
  · obtain ⟨zs, sz, lz, e⟩ := poolOut_a hP n c (o0 := o0) (o1 := o1) (o3 := o3) (o4 := o4) (o5 := o5) (o6 := o6) (o7 := o7) (o8 := o8) (o9 := o9) h hz hc
    obtain ⟨o6', S', l', us, e2, a, b, c⟩ := pool_in (pr := P) (cb := run P (n + 1)) (o0 := o0) (o1 := o1) (o3 := some (.int c)) (o4 := o4) (o5 := o5) (o8 := some (.int (7919 * ys.length))) (o9 := o9) (p := S.length) r60 (o6 := o6) (S := S ++ [.lst ((ys ++ zs).map .int)]) (l := 0) (ys := ys ++ zs) m60 (by omega) (by simp) (hs.append sz) (by simp; omega)
    refine ⟨o6', some (.int l'), some (.int (7919 * ys.length)), S.length, S', us, ?_, a, b, by simp at c; omega⟩
    rw [e]
    rw [ex_for, ev_irng1, ev_int, bind_ok, e60, rngR_some, sr_ok, srcD_seq, still_lst, items_lst, seqG_t, forG_ok]
    exact congrArg (fun z => sqS z fun σ S => .nx σ S) e2
  · have e := poolOut_b (P := P) n c (o0 := o0) (o1 := o1) (o3 := o3) (o4 := o4) (o5 := o5) (o6 := o6) (o7 := o7) (o8 := o8) (o9 := o9) (p := p) (S := S) hc
    obtain ⟨o6', S', l', us, e2, a, b, c2⟩ := pool_in (pr := P) (cb := run P (n + 1)) (o0 := o0) (o1 := o1) (o3 := some (.int c)) (o4 := o4) (o5 := o5) (o8 := o8) (o9 := o9) (p := p) r60 (o6 := o6) (S := S) (l := if c < 0 then -c else c) (ys := ys) m60 (by omega) h hs (by omega)
    refine ⟨o6', some (.int l'), o8, p, S', us, ?_, a, b, by omega⟩
    rw [e]
    rw [ex_for, ev_irng1, ev_int, bind_ok, e60, rngR_some, sr_ok, srcD_seq, still_lst, items_lst, seqG_t, forG_ok]
    exact congrArg (fun z => sqS z fun σ S => .nx σ S) e2
theorem pool_out {P : Prog} (hP : P.fn "_law_mixed" = some c__law_mixed) (n : Nat) {o0 o1 o4 o5 o9 : Option D} : ∀ (ns : List Int) {o3 o6 o7 o8 : Option D} {p : Nat} {S : Store} {ys : List Int}, S[p]? = some (.lst (ys.map .int)) → Small ys → ys.length + 64 * ns.length ≤ sizeLine →
    ∃ (o3' o6' o7' o8' : Option D) (p' : Nat) (S' : Store) (zs : List Int), forL (poolOut P (run P (n + 1))) (ns.map .int) [o0, o1, some (.ptr p), o3, o4, o5, o6, o7, o8, o9] S = .nx [o0, o1, some (.ptr p'), o3', o4, o5, o6', o7', o8', o9] S' ∧ S'[p']? = some (.lst (zs.map .int)) ∧ Small zs ∧ zs.length ≤ ys.length + 64 * ns.length
  | [], o3, o6, o7, o8, p, S, ys, h, hs, _ => ⟨o3, o6, o7, o8, p, S, ys, rfl, h, hs, by simp⟩
  | c :: ns, o3, o6, o7, o8, p, S, ys, h, hs, hz => by
    rw [List.length_cons] at hz
    obtain ⟨b6, b7, b8, p1, S1, z1, e1, h1, s1, l1⟩ := pool_turn hP n c (o0 := o0) (o1 := o1) (o3 := o3) (o4 := o4) (o5 := o5) (o6 := o6) (o7 := o7) (o8 := o8) (o9 := o9) h hs (by omega)
    obtain ⟨c3, c6, c7, c8, p2, S2, z2, e2, h2, s2, l2⟩ := pool_out hP n ns (o3 := some (.int c)) (o6 := b6) (o7 := b7) (o8 := b8) h1 s1 (by omega)
    refine ⟨c3, c6, c7, c8, p2, S2, z2, ?_, h2, s2, by rw [List.length_cons]; omega⟩
    rw [List.map_cons, for_cons, e1, loopR_nx, e2]
theorem set_get {S : Store} {p : Nat} {c : Cell} (h : S[p]? = some c) : S.set p c = S := by
  apply List.ext_getElem?
  intro i
  by_cases e : p = i
  · subst e
    rw [List.getElem?_set_self (lt_of_get h), h]
  · rw [List.getElem?_set_ne e]
/-- the pool's tail -/
def poolTail (pr : Prog) (cb : Cb) (x : D) (σ : DSt) (S : Store) : SR := exS pr cb (.seq (.ex (.app (.var 5) (.bin .mod (.bi .int (.acons (.bin .add (.bin .mul (.var 4) (.bin .add (.var 6) (.int 1))) (.bin .fdiv (.bin .add (.bin .sub (.bin .mul (.bin .mul (.int 17) (.var 6)) (.var 6)) (.bin .mul (.int 12) (.var 6))) (.int 8)) (.int 4))) .anil)) (.int 5040))))
  .nil) (σ.set 6 (some x)) S
theorem tail_turn {pr : Prog} {cb : Cb} {o0 o1 o2 o3 o6 o7 o8 o9 : Option D} {p : Nat} {S : Store} {ys : List Int} {sd k : Int} (hk : 0 ≤ k ∧ k < 16777216) (hsd : 0 ≤ sd ∧ sd < 2000000) (h : S[p]? = some (.lst (ys.map .int))) (hz : ys.length < sizeLine) :
    ∃ y : Int, (0 ≤ y ∧ y < 5040) ∧ poolTail pr cb (.int k) [o0, o1, o2, o3, some (.int sd), some (.ptr p), o6, o7, o8, o9] S = .nx [o0, o1, o2, o3, some (.int sd), some (.ptr p), some (.int k), o7, o8, o9] (S.set p (.lst ((ys ++ [y]).map .int))) := by
  refine ⟨(sd * (k + 1) + (17 * k * k - 12 * k + 8) / 4) % 5040, by omega, ?_⟩
  have m1 := fun S => bin_mul (S := S) (i := sd) (j := k + 1) (by omega)
  have m2 := fun S => bin_mul (S := S) (i := 17) (j := k) (by omega)
  have m3 := fun S => bin_mul (S := S) (i := 17 * k) (j := k) (by omega)
  have m4 := fun S => bin_mul (S := S) (i := 12) (j := k) (by omega)
  unfold poolTail
  simp [h, hz, m1, m2, m3, m4, bin_mod, bin_fdiv]
theorem pool_tail {pr : Prog} {cb : Cb} {o0 o1 o2 o3 o7 o8 o9 : Option D} {p : Nat} {sd : Int} (hsd : 0 ≤ sd ∧ sd < 2000000) : ∀ (xs : List D) {o6 : Option D} {S : Store} {ys : List Int}, (∀ x ∈ xs, ∃ k : Int, x = .int k ∧ 0 ≤ k ∧ k < 16777216) → S[p]? = some (.lst (ys.map .int)) → Small ys → ys.length + xs.length ≤ sizeLine →
    ∃ (o6' : Option D) (zs : List Int), forL (poolTail pr cb) xs [o0, o1, o2, o3, some (.int sd), some (.ptr p), o6, o7, o8, o9] S = .nx [o0, o1, o2, o3, some (.int sd), some (.ptr p), o6', o7, o8, o9] (S.set p (.lst (zs.map .int))) ∧ Small zs ∧ zs.length = ys.length + xs.length
  | [], o6, S, ys, _, h, hs, _ => ⟨o6, ys, by rw [for_nil, set_get h], hs, by simp⟩
  | x :: xs, o6, S, ys, h2, h, hs, hz => by
    obtain ⟨k, rfl, hk⟩ := h2 x (List.mem_cons_self ..)
    rw [List.length_cons] at hz
    obtain ⟨y, hy, e1⟩ := tail_turn (cb := cb) (o0 := o0) (o1 := o1) (o2 := o2) (o3 := o3) (o6 := o6) (o7 := o7) (o8 := o8) (o9 := o9) hk hsd h (by omega)
    obtain ⟨c6, zs, e2, s2, l2⟩ := pool_tail (cb := cb) (o0 := o0) (o1 := o1) (o2 := o2) (o3 := o3) (o7 := o7) (o8 := o8) (o9 := o9) (p := p) hsd xs (o6 := some (.int k)) (S := S.set p (.lst ((ys ++ [y]).map .int))) (ys := ys ++ [y]) (fun z hz => h2 z (List.mem_cons_of_mem _ hz)) (by rw [List.getElem?_set_self (lt_of_get h)]) (hs.append (.one hy)) (by simp; omega)
    refine ⟨c6, zs, ?_, s2, by rw [l2]; simp; omega⟩
    rw [for_cons, e1, loopR_nx, e2, List.set_set]
theorem cutL_take {xs : List D} {m : Nat} (h : m ≤ xs.length) : cutL xs none (some (m : Int)) = xs.take m := by
  have z : HT.sIx xs.length 0 none = 0 := rfl
  have y : HT.sIx xs.length xs.length (some (m : Int)) = m := by
    rw [HT.sIx_nat]
    omega
  unfold cutL
  rw [z, y]
  rfl
/-- THE POOL: this many small numbers -/
theorem pool_run {P : Prog} (hM : P.fn "_law_mixed" = some c__law_mixed) (hP : P.fn "_law_pool" = some c__law_pool) (n : Nat) (ns : List Int) (hl : ns.length ≤ 63) (m : Nat) (hm : m ≤ 1000000) :
    ∃ (xs : List Int) (S' : Store), run P (n + 2) "_law_pool" [.scr ns, .int m] [] = .ok (.lst (xs.map .int)) S' ∧ xs.length = m ∧ Small xs := by
  have sz : sizeLine = 16777216 := rfl
  obtain ⟨o3, o6, o7, o8, p, S1, z1, e1, h1, s1, l1⟩ := pool_out hM n (o0 := some (.scr ns)) (o1 := some (.int m)) (o4 := none) (o5 := none) (o9 := none) ns (o3 := none) (o6 := none) (o7 := none) (o8 := none) (p := 0) (S := [.lst []]) (ys := []) rfl (fun x hx => by cases hx) (by simp; omega)
  have hsd : 0 ≤ ns.sum % 1000003 + (ns.length : Int) ∧ ns.sum % 1000003 + (ns.length : Int) < 2000000 := by omega
  have hp := lt_of_get h1
  obtain ⟨b6, z2, e2, s2, l2⟩ := pool_tail (pr := P) (cb := run P (n + 1)) (o0 := some (.scr ns)) (o1 := some (.int m)) (o2 := some (.ptr p)) (o3 := o3) (o7 := o7) (o8 := o8) (o9 := none) (p := S1.length) hsd ((List.range m).map fun (k : Nat) => D.int (k : Int)) (o6 := o6) (S := S1 ++ [.lst []]) (ys := []) (fun x hx => by
    obtain ⟨k, hk, rfl⟩ := List.mem_map.mp hx
    have := List.mem_range.mp hk
    exact ⟨k, rfl, by omega, by omega⟩) (by simp) (fun x hx => by cases hx) (by simp; omega)
  have e3 : evE P (run P (n + 1)) (.comp false [9] .seq (.n 9) (.var 0) (.bl true) (.bi .int (.acons (.var 9) .anil))) [some (.scr ns), some (.int m), some (.ptr p), o3, none, none, o6, o7, o8, none] S1 = .ok (.lst (ns.map .int)) S1 := by
    have c : ∀ x ∈ ns.map D.int, compF P (run P (n + 1)) [9] 9 (.bl true) (.bi .int (.acons (.var 9) .anil)) [some (.scr ns), some (.int m), some (.ptr p), o3, none, none, o6, o7, o8, none] x S1 = .ok (some (id x)) S1 := fun x hx => by
      obtain ⟨k, _, rfl⟩ := List.mem_map.mp hx
      unfold compF
      simp [wipeD]
    have q := compL_map (f := compF P (run P (n + 1)) [9] 9 (.bl true) (.bi .int (.acons (.var 9) .anil)) [some (.scr ns), some (.int m), some (.ptr p), o3, none, none, o6, o7, o8, none]) (S := S1) c
    rw [ev_comp, ev_var]
    simp [q]
    omega
  have er : rngD [.int m] = some ((List.range m).map fun (k : Nat) => D.int (k : Int)) := by
    rw [rng1_ok (by omega), Int.toNat_natCast]
  have len2 : z2.length = m := by simpa using l2
  have lS : (S1 ++ [Cell.lst []]).set S1.length (.lst (z2.map .int)) = S1 ++ [.lst (z2.map .int)] := by
    simp
  rw [lS] at e2
  refine ⟨(z1 ++ z2).take m, S1 ++ [.lst (z2.map .int)], ?_, by simp; omega, fun x hx => (s1.append s2) x (List.mem_of_mem_take hx)⟩
  rw [run_fn hP rfl]
  have st0 : startD 10 [D.scr ns, .int m] = [some (.scr ns), some (.int m), none, none, none, none, none, none, none, none] := rfl
  show endR (exS P (run P (n + 1)) c__law_pool.body (startD 10 [D.scr ns, .int m]) []) = _
  rw [st0]
  unfold c__law_pool
  simp only [ex_seq]
  have a1 : exS P (run P (n + 1)) (.asg 2 (.cell .anil)) [some (.scr ns), some (.int m), none, none, none, none, none, none, none, none] [] = .nx [some (.scr ns), some (.int m), some (.ptr 0), none, none, none, none, none, none, none] [.lst []] := by simp
  rw [a1, sqS_nx, ex_for, ev_var, get_zero, slot_some, sr_ok, srcD_seq, still_scr, items_scr, seqG_t, forG_ok]
  have e1' : forL (fun x σ S => exS P (run P (n + 1)) (.seq (.asg 7 (.bi .abs (.acons (.bi .int (.acons (.var 3) .anil)) .anil)))
  (.seq (.ifs (.cmp .lt (.var 7) (.bin .pow (.int 10) (.int 18))) (.seq (.asg 8 (.bin .mul (.int 7919) (.bi .len (.acons (.var 2) .anil))))
  (.seq (.asg 2 (.catc (.var 2) (.comp false [6] .seq (.n 6) (.irng1 (.int 4)) (.bl true) (.call .pure "_law_mixed" (.acons (.bin .add (.var 7) (.var 8)) (.acons (.var 6) .anil))))))
  (.seq (.asg 7 (.int 0))
  .nil))) .nil)
  (.seq (.for_ .seq (.n 6) (.irng1 (.int 60)) (.seq (.ifs (.cmp .gt (.var 7) (.int 0)) (.seq (.ex (.app (.var 2) (.bin .mod (.bi .int (.acons (.var 7) .anil)) (.int 5040))))
  (.seq (.asg 7 (.bin .fdiv (.var 7) (.int 5040)))
  .nil)) .nil)
  .nil))
  .nil))) (σ.set 3 (some x)) S) (ns.map .int) [some (.scr ns), some (.int m), some (.ptr 0), none, none, none, none, none, none, none] [.lst []] = _ := e1
  rw [e1', sqS_nx]
  have e2' : forL (fun x σ S => exS P (run P (n + 1)) (.seq (.ex (.app (.var 5) (.bin .mod (.bi .int (.acons (.bin .add (.bin .mul (.var 4) (.bin .add (.var 6) (.int 1))) (.bin .fdiv (.bin .add (.bin .sub (.bin .mul (.bin .mul (.int 17) (.var 6)) (.var 6)) (.bin .mul (.int 12) (.var 6))) (.int 8)) (.int 4))) .anil)) (.int 5040)))) .nil) (σ.set 6 (some x)) S) ((List.range m).map fun (k : Nat) => D.int (k : Int)) [some (.scr ns), some (.int m), some (.ptr p), o3, some (.int (ns.sum % 1000003 + (ns.length : Int))), some (.ptr S1.length), o6, o7, o8, none] (S1 ++ [.lst []]) = _ := e2
  have c1 : binD .mod S1 (.int ns.sum) (.int 1000003) = .ok (.int (ns.sum % 1000003)) S1 := bin_mod (by omega)
  have a2 : exS P (run P (n + 1)) (.asg 4 (.bin .add (.bin .mod (.bi .int (.acons (.bi .sum (.acons (.comp false [9] .seq (.n 9) (.var 0) (.bl true) (.bi .int (.acons (.var 9) .anil))) .anil)) .anil)) (.int 1000003)) (.bi .len (.acons (.var 0) .anil)))) [some (.scr ns), some (.int m), some (.ptr p), o3, none, none, o6, o7, o8, none] S1 = .nx [some (.scr ns), some (.int m), some (.ptr p), o3, some (.int (ns.sum % 1000003 + (ns.length : Int))), none, o6, o7, o8, none] S1 := by
    rw [ex_asg, ev_bin, ev_bin, ev_bi, ev_acons, ev_bi, ev_acons, e3]
    simp [c1]
  have a3 : exS P (run P (n + 1)) (.asg 5 (.cell .anil)) [some (.scr ns), some (.int m), some (.ptr p), o3, some (.int (ns.sum % 1000003 + (ns.length : Int))), none, o6, o7, o8, none] S1 = .nx [some (.scr ns), some (.int m), some (.ptr p), o3, some (.int (ns.sum % 1000003 + (ns.length : Int))), some (.ptr S1.length), o6, o7, o8, none] (S1 ++ [.lst []]) := by
    simp
  rw [a2, sqS_nx, a3, sqS_nx, ex_for, ev_irng1, ev_var, List.getElem?_cons_succ, get_zero, slot_some, bind_ok, er, rngR_some, sr_ok, srcD_seq, still_lst, items_lst, seqG_t, forG_ok, e2', sqS_nx]
  have hg1 : (S1 ++ [Cell.lst (z2.map .int)])[p]? = some (.lst (z1.map .int)) := by rw [List.getElem?_append_left hp]; exact h1
  have hg2 : (S1 ++ [Cell.lst (z2.map .int)])[S1.length]? = some (.lst (z2.map .int)) := by simp
  have cc := (binX_n (pr := P) (cb := run P (n + 1)) (op := .add) (ins_ptr_lst hg1) (ins_ptr_lst hg2)).trans (bin_cat (S := S1 ++ [Cell.lst (z2.map .int)]) (a := .ptr p) (b := .ptr S1.length) (look_ptr_lst hg1) (look_ptr_lst hg2) (by simp at l1; simp; omega))
  have ct : cutD (S1 ++ [Cell.lst (z2.map .int)]) (.lst (z1.map D.int ++ z2.map D.int)) none (some (m : Int)) = .ok (.lst ((z1.map D.int ++ z2.map D.int).take m)) (S1 ++ [Cell.lst (z2.map .int)]) := by
    show Res.ok (D.lst (cutL (z1.map D.int ++ z2.map D.int) none (some (m : Int)))) _ = _
    rw [cutL_take (by simp; omega)]
  simp only [ex_ret, ev_cut, ev_bin, ev_var, List.getElem?_cons_succ, get_zero, slot_some, bind_ok, cc, ev_nopart, withPart_non, ev_part, partI_int, withPart_int, ct, sr_ok, sqS_rt, endR_rt]
  rw [List.map_take, List.map_append]
end MX
end

section
set_option maxRecDepth 100000
set_option maxHeartbeats 4000000
namespace MX
open PySem
/-! ### stepping -/
theorem seq_stp {pr : Prog} {cb : Cb} {a b : Sx} {σ σ1 : DSt} {S S1 : Store} {r : SR} (h : exS pr cb a σ S = .nx σ1 S1) (k : exS pr cb b σ1 S1 = r) : exS pr cb (.seq a b) σ S = r := by
  rw [ex_seq, h]
  exact k
theorem seq_end {pr : Prog} {cb : Cb} {a b : Sx} {σ : DSt} {S S1 : Store} {d : D} (h : exS pr cb a σ S = .rt d S1) : exS pr cb (.seq a b) σ S = .rt d S1 := by
  rw [ex_seq, h]
  rfl
theorem seq_exn {pr : Prog} {cb : Cb} {a b : Sx} {σ σ1 : DSt} {S S1 : Store} {x : Exn} (h : exS pr cb a σ S = .ex x σ1 S1) : exS pr cb (.seq a b) σ S = .ex x σ1 S1 := by
  rw [ex_seq, h]
  rfl
theorem run_by {P : Prog} {n : Nat} {f : String} {F : Fn} {ds : List D} {S S1 : Store} {d : D} (h : P.fn f = some F) (hl : ds.length = F.np) (k : exS P (run P n) F.body (startD F.ns ds) S = .rt d S1) : run P (n + 1) f ds S = .ok d S1 := by
  rw [run_fn h hl, k]
  rfl
theorem run_byN {P : Prog} {n : Nat} {f : String} {F : Fn} {ds : List D} {S S1 : Store} {σ : DSt} (h : P.fn f = some F) (hl : ds.length = F.np) (k : exS P (run P n) F.body (startD F.ns ds) S = .nx σ S1) : run P (n + 1) f ds S = .ok .non S1 := by
  rw [run_fn h hl, k]
  rfl
theorem run_byX {P : Prog} {n : Nat} {f : String} {F : Fn} {ds : List D} {S S1 : Store} {σ : DSt} {x : Exn} (h : P.fn f = some F) (hl : ds.length = F.np) (k : exS P (run P n) F.body (startD F.ns ds) S = .ex x σ S1) : run P (n + 1) f ds S = .ex x S1 := by
  rw [run_fn h hl, k]
  rfl
-- one statement, by simp
/-! parts of a body -/
def Sx.hd : Sx → Sx
  | .seq a _ => a
  | s => s
def Sx.tl : Sx → Sx
  | .seq _ b => b
  | s => s
def Sx.bd : Sx → Sx
  | .for_ _ _ _ b => b
  | .whl _ _ b => b
  | .try_ b _ => b
  | s => s
/-- what is known of an end: it goes on, it returns -/
def pst (r : SR) (N : DSt → Store → Prop) (R : D → Store → Prop) : Prop :=
  match r with
  | .nx σ S => N σ S
  | .rt d S => R d S
  | _ => False
section
variable {pr : Prog} {cb : Cb} {a b : Sx} {σ σ1 : DSt} {S S1 : Store} {N M : DSt → Store → Prop} {R : D → Store → Prop}
theorem pst_stp (h : exS pr cb a σ S = .nx σ1 S1) (k : pst (exS pr cb b σ1 S1) N R) : pst (exS pr cb (.seq a b) σ S) N R := by
  rw [ex_seq, h]
  exact k
theorem pst_ret {d : D} (h : exS pr cb a σ S = .rt d S1) (k : R d S1) : pst (exS pr cb (.seq a b) σ S) N R := by
  rw [ex_seq, h]
  exact k
theorem pst_seq (h : pst (exS pr cb a σ S) M R) (k : ∀ σ1 S1, M σ1 S1 → pst (exS pr cb b σ1 S1) N R) : pst (exS pr cb (.seq a b) σ S) N R := by
  rw [ex_seq]
  cases e : exS pr cb a σ S with
  | nx σ1 S1 => rw [e] at h; exact k σ1 S1 h
  | rt d S1 => rw [e] at h; exact h
  | bk σ1 S1 => rw [e] at h; exact h.elim
  | ct σ1 S1 => rw [e] at h; exact h.elim
  | ex x σ1 S1 => rw [e] at h; exact h.elim
  | bad => rw [e] at h; exact h.elim
theorem pst_nil (h : N σ S) : pst (exS pr cb .nil σ S) N R := h
theorem pst_nx {r : SR} (e : r = .nx σ S) (h : N σ S) : pst r N R := by rw [e]; exact h
theorem pst_rt {r : SR} {d : D} (e : r = .rt d S) (h : R d S) : pst r N R := by rw [e]; exact h
theorem pst_imp {r : SR} {N' : DSt → Store → Prop} {R' : D → Store → Prop} (h : pst r N R) (n : ∀ σ S, N σ S → N' σ S) (q : ∀ d S, R d S → R' d S) : pst r N' R' := by
  cases r with
  | nx σ1 S1 => exact n _ _ h
  | rt d S1 => exact q _ _ h
  | bk σ1 S1 => exact h.elim
  | ct σ1 S1 => exact h.elim
  | ex x σ1 S1 => exact h.elim
  | bad => exact h.elim
theorem pst_forL {f : D → DSt → Store → SR} (I : Nat → DSt → Store → Prop) : ∀ {xs : List D} {i : Nat} {σ : DSt} {S : Store}, (∀ (j : Nat) x σ S, xs[j]? = some x → I (i + j) σ S → pst (f x σ S) (I (i + j + 1)) R) → I i σ S → pst (forL f xs σ S) (I (i + xs.length)) R
  | [], i, σ, S, _, h0 => h0
  | x :: xs, i, σ, S, h, h0 => by
    have z := h 0 x σ S rfl h0
    rw [for_cons]
    cases e : f x σ S with
    | nx σ1 S1 =>
      rw [e] at z
      have q := pst_forL I (f := f) (xs := xs) (i := i + 1) (σ := σ1) (S := S1) (fun j y σ S hy hi => by
        have z := h (j + 1) y σ S (by simpa using hy) (by rw [show i + (j + 1) = i + 1 + j by omega]; exact hi)
        rw [show i + (j + 1) + 1 = i + 1 + j + 1 by omega] at z
        exact z) z
      rw [show i + 1 + xs.length = i + (x :: xs).length by rw [List.length_cons]; omega] at q
      exact q
    | rt d S1 => rw [e] at z; exact z
    | bk σ1 S1 => rw [e] at z; exact z.elim
    | ct σ1 S1 => rw [e] at z; exact z.elim
    | ex x σ1 S1 => rw [e] at z; exact z.elim
    | bad => rw [e] at z; exact z.elim
theorem run_pst {P : Prog} {n : Nat} {f : String} {F : Fn} {ds : List D} {Q : D → Store → Prop} (h : P.fn f = some F) (hl : ds.length = F.np) (k : pst (exS P (run P n) F.body (startD F.ns ds) S) N R) (n1 : ∀ σ S, N σ S → Q .non S) (r1 : ∀ d S, R d S → Q d S) : ∃ d S', run P (n + 1) f ds S = .ok d S' ∧ Q d S' := by
  rw [run_fn h hl]
  cases e : exS P (run P n) F.body (startD F.ns ds) S with
  | nx σ1 S1 => rw [e] at k; exact ⟨_, _, rfl, n1 _ _ k⟩
  | rt d S1 => rw [e] at k; exact ⟨_, _, rfl, r1 _ _ k⟩
  | bk σ1 S1 => rw [e] at k; exact k.elim
  | ct σ1 S1 => rw [e] at k; exact k.elim
  | ex x σ1 S1 => rw [e] at k; exact k.elim
  | bad => rw [e] at k; exact k.elim
end
-- one statement, by simp
def tryR (pr : Prog) (h : Sx) : SR → SR
  | .ex x σ S => hdS pr x σ S h
  | r => r
@[simp] theorem ex_try {pr : Prog} {cb : Cb} {σ : DSt} {S : Store} {b h : Sx} : exS pr cb (.try_ b h) σ S = tryR pr h (exS pr cb b σ S) := by
  show (match exS pr cb b σ S with
    | .ex x σ1 S1 => hdS pr x σ1 S1 h
    | r => r) = _
  cases exS pr cb b σ S <;> rfl
@[simp] theorem tryR_nx {pr : Prog} {h : Sx} {σ : DSt} {S : Store} : tryR pr h (.nx σ S) = .nx σ S := rfl
@[simp] theorem tryR_ex {pr : Prog} {h : Sx} {x : Exn} {σ : DSt} {S : Store} : tryR pr h (.ex x σ S) = hdS pr x σ S h := rfl
@[simp] theorem tryR_rt {pr : Prog} {h : Sx} {d : D} {S : Store} : tryR pr h (.rt d S) = .rt d S := rfl
/-! ### values -/
def tx (s : String) : D := .str (Str.ofString s)
@[simp] theorem pf_tx (s : String) : (tx s).pf = true := pf_str _
@[simp] theorem ev_tx {pr : Prog} {cb : Cb} {σ : DSt} {S : Store} (s : String) : evE pr cb (.str s) σ S = .ok (tx s) S := rfl
theorem dp_tx {n : Nat} {s : String} (h : PySem.PyData.canLay0 (.str (Str.ofString s)) = true) : dpD n (tx s) = true := by cases n <;> exact h
@[simp] theorem eqB_tx (s : String) : eqB (tx s) (tx s) = true := by unfold tx eqB; simp
@[simp] theorem eqBL_nil : eqBL [] [] = true := by unfold eqBL; rfl
@[simp] theorem eqBL_cons (a b : D) (r q : List D) : eqBL (a :: r) (b :: q) = (eqB a b && eqBL r q) := by rw [eqBL]
@[simp] theorem eqBL_nc (b : D) (q : List D) : eqBL [] (b :: q) = false := by unfold eqBL; rfl
@[simp] theorem eqBL_cn (b : D) (q : List D) : eqBL (b :: q) [] = false := by unfold eqBL; rfl
@[simp] theorem eqB_tup (xs ys : List D) : eqB (.tup xs) (.tup ys) = eqBL xs ys := by rw [eqB]
@[simp] theorem eqB_lst (xs ys : List D) : eqB (.lst xs) (.lst ys) = eqBL xs ys := by rw [eqB]
theorem eqBL_ints : ∀ xs ys : List Int, eqBL (xs.map .int) (ys.map .int) = decide (xs = ys)
  | [], [] => by simp
  | [], _ :: _ => by simp
  | _ :: _, [] => by simp
  | x :: xs, y :: ys => by
    simp only [List.map_cons, eqBL_cons, eqB_int, eqBL_ints xs ys, List.cons.injEq, Bool.decide_and]
    rfl
theorem dp_ints (n : Nat) (xs : List Int) : (xs.map D.int).all (dpD n) = true := by
  rw [List.all_map]
  exact List.all_eq_true.mpr fun x _ => dp_int n x
/-! the same plain data -/
mutual
theorem eqB_refl : ∀ (n : Nat) (d : D), dpD n d = true → eqB d d = true
  | _, .non, _ => by unfold eqB; rfl
  | _, .bl b, _ => by simp
  | _, .int i, _ => by simp
  | _, .str s, _ => by unfold eqB; simp
  | 0, .lst xs, h => by cases h
  | n + 1, .lst xs, h => by rw [eqB_lst]; exact eqBL_refl n xs (List.all_eq_true.mp h)
  | 0, .tup xs, h => by cases h
  | n + 1, .tup xs, h => by rw [eqB_tup]; exact eqBL_refl n xs (List.all_eq_true.mp h)
  | n, .ins c fs, h => by cases n <;> cases h
  | n, .ptr c, h => by cases n <;> cases h
  | n, .scr c, h => by cases n <;> cases h
theorem eqBL_refl : ∀ (n : Nat) (xs : List D), (∀ d ∈ xs, dpD n d = true) → eqBL xs xs = true
  | _, [], _ => eqBL_nil
  | n, x :: xs, h => by rw [eqBL_cons, eqB_refl n x (h x List.mem_cons_self), eqBL_refl n xs fun d hd => h d (List.mem_cons_of_mem _ hd)]; rfl
end
theorem eqO_refl {d : D} (h : dpD 8 d = true) : eqO d d = some true := by
  unfold eqO
  rw [h, eqB_refl 8 d h]
  rfl
theorem eqO_of {a b : D} (h1 : dpD 8 a = true) (h2 : dpD 8 b = true) : eqO a b = some (eqB a b) := by
  unfold eqO
  rw [h1, h2]
  rfl
/-! ### reading a list -/
theorem atD_get {xs : List D} {i : Int} {d : D} (h0 : 0 ≤ i) (h : xs[i.toNat]? = some d) : atD xs i = some d := by
  have hl : i.toNat < xs.length := (List.getElem?_eq_some_iff.mp h).1
  unfold atD L2.atI L2.ixN
  rw [if_pos h0, if_pos (by omega)]
  exact h
theorem idx_lst {S : Store} {xs : List D} {i : Int} {d : D} (h0 : 0 ≤ i) (h : xs[i.toNat]? = some d) : idxD S (.lst xs) (.int i) = .ok d S := by
  show (match atD xs i with
    | some d => Res.ok d S
    | none => .bad) = _
  rw [atD_get h0 h]
theorem idx_tup {S : Store} {xs : List D} {i : Int} {d : D} (h0 : 0 ≤ i) (h : xs[i.toNat]? = some d) : idxD S (.tup xs) (.int i) = .ok d S := by
  show (match atD xs i with
    | some d => Res.ok d S
    | none => .bad) = _
  rw [atD_get h0 h]
theorem idx_ptr {S : Store} {n : Nat} {xs : List D} {i : Int} {d : D} (hS : S[n]? = some (.lst xs)) (h0 : 0 ≤ i) (h : xs[i.toNat]? = some d) : idxD S (.ptr n) (.int i) = .ok d S := by
  unfold idxD
  rw [look_ptr_lst hS]
  show (match atD xs i with
    | some d => Res.ok d S
    | none => .bad) = _
  rw [atD_get h0 h]
/-- at an index, an int of the list -/
theorem idx_int {S : Store} {xs : List Int} {i : Int} (h0 : 0 ≤ i) (h : i < xs.length) : ∃ v, v ∈ xs ∧ xs[i.toNat]? = some v ∧ idxD S (.lst (xs.map .int)) (.int i) = .ok (.int v) S := by
  have hl : i.toNat < xs.length := by omega
  refine ⟨xs[i.toNat], List.getElem_mem hl, List.getElem?_eq_getElem hl, idx_lst h0 ?_⟩
  rw [List.getElem?_map, List.getElem?_eq_getElem hl]
  rfl
theorem getD_idx {S : Store} {xs : List Int} {i : Int} (h0 : 0 ≤ i) (h : i < xs.length) : idxD S (.lst (xs.map .int)) (.int i) = .ok (.int (xs.getD i.toNat 0)) S := by
  have hl : i.toNat < xs.length := by omega
  refine idx_lst h0 ?_
  rw [List.getElem?_map, List.getElem?_eq_getElem hl, List.getD_eq_getElem?_getD, List.getElem?_eq_getElem hl]
  rfl
theorem small_getD {xs : List Int} (h : Small xs) (i : Nat) : 0 ≤ xs.getD i 0 ∧ xs.getD i 0 < 5040 := by
  rw [List.getD_eq_getElem?_getD]
  cases e : xs[i]? with
  | none => simp
  | some x => exact h x (List.mem_of_getElem? e)
theorem sidx_ok {S : Store} {n : Nat} {xs : List D} {i : Int} {d : D} (h : S[n]? = some (.lst xs)) (h0 : 0 ≤ i) (h1 : i < xs.length) : sidxD S (.ptr n) (.int i) d = some (S.set n (.lst (xs.set i.toNat d))) := by
  have e : L2.ixN xs.length i = some i.toNat := by
    unfold L2.ixN
    rw [if_pos h0, if_pos h1]
  unfold sidxD
  simp only [h, e]
theorem cmp_ptr {pr : Prog} {cb : Cb} {op : Cop} {S : Store} {n : Nat} {xs : List D} {b : D} (h : S[n]? = some (.lst xs)) : cmpX pr cb op S (.ptr n) b = ofB S (cmpB op S (.ptr n) b) := cmpX_n (ins_ptr_lst h)
/-! ### loops -/
section
variable {pr : Prog} {cb : Cb} {σ : DSt} {S S1 : Store} {e : E} {b : Sx} {t : Nat}
theorem for_lst {xs : List D} (he : evE pr cb e σ S = .ok (.lst xs) S1) : exS pr cb (.for_ .seq (.n t) e b) σ S = forL (fun x σ S => exS pr cb b (σ.set t (some x)) S) xs σ S1 := by
  rw [ex_for, he, sr_ok, srcD_seq, still_lst, items_lst, seqG_t, forG_ok]
theorem for_tup {xs : List D} (he : evE pr cb e σ S = .ok (.tup xs) S1) : exS pr cb (.for_ .seq (.n t) e b) σ S = forL (fun x σ S => exS pr cb b (σ.set t (some x)) S) xs σ S1 := by
  rw [ex_for, he, sr_ok, srcD_seq, still_tup, items_tup, seqG_t, forG_ok]
theorem ev_rng1 {n : Int} (he : evE pr cb e σ S = .ok (.int n) S1) (hn : -(2 ^ 62) ≤ n ∧ n < 2 ^ 62) : evE pr cb (.irng1 e) σ S = .ok (.lst ((List.range n.toNat).map fun (k : Nat) => D.int (k : Int))) S1 := by
  rw [ev_irng1, he, bind_ok, rng1_ok hn, rngR_some]
theorem for_rng1 {n : Int} (he : evE pr cb e σ S = .ok (.int n) S1) (hn : -(2 ^ 62) ≤ n ∧ n < 2 ^ 62) : exS pr cb (.for_ .seq (.n t) (.irng1 e) b) σ S = forL (fun x σ S => exS pr cb b (σ.set t (some x)) S) ((List.range n.toNat).map fun (k : Nat) => D.int (k : Int)) σ S1 := for_lst (ev_rng1 he hn)
end
theorem callP_frz {cb : Cb} {S : Store} {f : String} {ds : List D} {d d' : D} {S2 S3 : Store} (h1 : pfL ds = true) (h2 : cb f ds [] = .ok d S2) (h3 : frzD frzK S2 d = some (d', S3)) : callP cb f ds S = .ok d' S := by
  unfold callP pureK
  rw [frzL_pf h1]
  show (match cb f ds [] with
    | .ok d S2 => match frzD frzK S2 d with
      | some (d', _) => Res.ok d' S
      | none => .bad
    | .ex x _ => if pfF x.fs then .ex x S else .bad
    | .bad => .bad) = _
  rw [h2]
  show (match frzD frzK S2 d with
      | some (d', _) => Res.ok d' S
      | none => .bad) = _
  rw [h3]
/-- a live list of data, frozen -/
theorem frz_lst {S : Store} {n : Nat} {xs : List D} (k : Nat) (hS : S[n]? = some (.lst xs)) (hx : pfL xs = true) : frzD (k + 1) S (.ptr n) = some (.lst xs, S.set n (.frz (.lst xs))) := by
  unfold frzD
  rw [if_neg (by unfold D.pf; decide)]
  simp only [hS, frzL_pf hx]
/-! ### comprehensions, slices -/
theorem comp_map {pr : Prog} {cb : Cb} {σ : DSt} {S S1 : Store} {own : List Nat} {t : Nat} {it elt : E} {xs : List D} {g : D → D} (hi : evE pr cb it σ S = .ok (.lst xs) S1) (he : ∀ x ∈ xs, evE pr cb elt ((wipeD σ own).set t (some x)) S1 = .ok (g x) S1) (hl : xs.length ≤ sizeLine) :
    evE pr cb (.comp false own .seq (.n t) it (.bl true) elt) σ S = .ok (.lst (xs.map g)) S1 := by
  have e : compL (compF pr cb own t (.bl true) elt σ) xs S1 = .ok (xs.map g) S1 := compL_map fun x hx => by
    unfold compF
    simp [he x hx]
  rw [ev_comp, hi, bind_ok, srcD_seq, still_lst, items_lst, seqG_t, compG_ok]
  show (compK (fun _ => true) (compF pr cb own t (.bl true) elt σ) xs S1).bind _ = _
  rw [compK_true, e, bind_ok, if_pos (by rw [List.length_map]; exact hl), newL_f]
theorem comp_ints {pr : Prog} {cb : Cb} {σ : DSt} {S S1 : Store} {own : List Nat} {t : Nat} {it elt : E} {xs : List Int} {g : Int → Int} (hi : evE pr cb it σ S = .ok (.lst (xs.map .int)) S1) (he : ∀ x ∈ xs, evE pr cb elt ((wipeD σ own).set t (some (.int x))) S1 = .ok (.int (g x)) S1) (hl : xs.length ≤ sizeLine) :
    evE pr cb (.comp false own .seq (.n t) it (.bl true) elt) σ S = .ok (.lst ((xs.map g).map .int)) S1 := by
  have z := comp_map (g := fun d => match d with | .int x => .int (g x) | d => d) hi (fun d hd => by
    obtain ⟨x, hx, rfl⟩ := List.mem_map.mp hd
    exact he x hx) (by rw [List.length_map]; exact hl)
  rw [z, List.map_map, List.map_map]
  rfl
theorem cutL_ok {xs : List D} {a b : Int} (h0 : 0 ≤ a) (h1 : a ≤ b) (h2 : b ≤ xs.length) : cutL xs (some a) (some b) = (xs.drop a.toNat).take (b - a).toNat := by
  unfold cutL HT.sIx
  simp only [Option.getD_some]
  rw [if_neg (by omega), if_neg (by omega)]
  congr 1
  · omega
  · congr 1
    omega
theorem cut_to {xs : List D} {b : Int} (h0 : 0 ≤ b) : cutL xs none (some b) = xs.take b.toNat := by
  unfold cutL HT.sIx
  simp only
  rw [if_neg (by omega), List.drop_zero, Nat.sub_zero]
  by_cases q : b.toNat ≤ xs.length
  · rw [Nat.min_eq_left q]
  · rw [Nat.min_eq_right (by omega), List.take_of_length_le (Nat.le_refl _), List.take_of_length_le (by omega)]
theorem cut_from {xs : List D} {a : Int} (h0 : 0 ≤ a) : cutL xs (some a) none = xs.drop a.toNat := by
  unfold cutL HT.sIx
  simp only
  rw [if_neg (by omega)]
  by_cases q : a.toNat ≤ xs.length
  · rw [Nat.min_eq_left q, List.take_of_length_le (by rw [List.length_drop]; exact Nat.le_refl _)]
  · rw [Nat.min_eq_right (by omega), List.drop_of_length_le (Nat.le_refl _), List.drop_of_length_le (by omega), List.take_nil]
theorem cut_lst {S : Store} {xs : List D} {l h : Option Int} : cutD S (.lst xs) l h = .ok (.lst (cutL xs l h)) S := rfl
theorem pst_rng {pr : Prog} {cb : Cb} {b : Sx} {e : E} {t : Nat} {σ : DSt} {S S1 : Store} {N : DSt → Store → Prop} {R : D → Store → Prop} {n : Nat} (he : evE pr cb e σ S = .ok (.int (n : Int)) S1) (hn : n < 2 ^ 62) (I : Nat → DSt → Store → Prop) (h0 : I 0 σ S1)
    (turn : ∀ k, k < n → ∀ σ S, I k σ S → pst (exS pr cb b (σ.set t (some (.int (k : Int)))) S) (I (k + 1)) R) (hN : ∀ σ S, I n σ S → N σ S) : pst (exS pr cb (.for_ .seq (.n t) (.irng1 e) b) σ S) N R := by
  rw [for_rng1 he (by omega)]
  have z := pst_forL (R := R) (f := fun x σ S => exS pr cb b (σ.set t (some x)) S) I (xs := (List.range (n : Int).toNat).map fun (k : Nat) => D.int (k : Int)) (i := 0) (σ := σ) (S := S1) (fun j x σ S hx hi => by
    rw [Int.toNat_natCast, List.getElem?_map] at hx
    obtain ⟨k, hk, rfl⟩ := Option.map_eq_some_iff.mp hx
    have hj : j < n := by
      have := (List.getElem?_eq_some_iff.mp hk).1
      simpa using this
    rw [List.getElem?_range hj] at hk
    cases hk
    rw [Nat.zero_add] at hi ⊢
    exact turn j hj σ S hi) h0
  refine pst_imp z (fun σ S q => hN σ S ?_) fun _ _ q => q
  rw [List.length_map, List.length_range, Int.toNat_natCast, Nat.zero_add] at q
  exact q
theorem pst_lst {pr : Prog} {cb : Cb} {b : Sx} {e : E} {t : Nat} {σ : DSt} {S S1 : Store} {N : DSt → Store → Prop} {R : D → Store → Prop} {xs : List D} (he : evE pr cb e σ S = .ok (.lst xs) S1) (I : Nat → DSt → Store → Prop) (h0 : I 0 σ S1)
    (turn : ∀ k x, xs[k]? = some x → ∀ σ S, I k σ S → pst (exS pr cb b (σ.set t (some x)) S) (I (k + 1)) R) (hN : ∀ σ S, I xs.length σ S → N σ S) : pst (exS pr cb (.for_ .seq (.n t) e b) σ S) N R := by
  rw [for_lst he]
  have z := pst_forL (R := R) (f := fun x σ S => exS pr cb b (σ.set t (some x)) S) I (xs := xs) (i := 0) (σ := σ) (S := S1) (fun j x σ S hx hi => by
    rw [Nat.zero_add] at hi ⊢
    exact turn j x hx σ S hi) h0
  refine pst_imp z (fun σ S q => hN σ S ?_) fun _ _ q => q
  rw [Nat.zero_add] at q
  exact q
/-! ### _law_same -/
def c__law_same : Fn := ⟨2, 3, (.seq (.ifs (.cmp .is_ (.var 1) .non) (.seq (.ret (.cmp .is_ (.var 0) .non))
  .nil) .nil)
  (.seq (.ifs (.isi (.var 1) [.bool]) (.seq (.ret (.and (.isi (.var 0) [.bool]) (.cmp .eq (.var 0) (.var 1))))
  .nil) .nil)
  (.seq (.ifs (.isi (.var 1) [.int]) (.seq (.ret (.and (.isi (.var 0) [.int]) (.and (.not (.isi (.var 0) [.bool])) (.cmp .eq (.var 0) (.var 1)))))
  .nil) .nil)
  (.seq (.ifs (.isi (.var 1) [.str]) (.seq (.ret (.and (.isi (.var 0) [.str]) (.cmp .eq (.var 0) (.var 1))))
  .nil) .nil)
  (.seq (.ifs (.and (.isi (.var 1) [.tuple]) (.not (.isi (.var 0) [.tuple]))) (.seq (.ret (.bl false))
  .nil) .nil)
  (.seq (.ifs (.and (.isi (.var 1) [.list]) (.not (.isi (.var 0) [.list]))) (.seq (.ret (.bl false))
  .nil) .nil)
  (.seq (.ifs (.cmp .ne (.bi .len (.acons (.var 0) .anil)) (.bi .len (.acons (.var 1) .anil))) (.seq (.ret (.bl false))
  .nil) .nil)
  (.seq (.for_ .seq (.n 2) (.irng1 (.bi .len (.acons (.var 1) .anil))) (.seq (.ifs (.not (.call .pure "_law_same" (.acons (.idx (.var 0) (.var 2)) (.acons (.idx (.var 1) (.var 2)) .anil)))) (.seq (.ret (.bl false))
  .nil) .nil)
  .nil))
  (.seq (.ret (.bl true))
  .nil)))))))))⟩
/-- plain data with lists of a size that range takes -/
def szD : Nat → D → Bool
  | n + 1, .lst xs => decide (xs.length < 2 ^ 62) && xs.all (szD n)
  | n + 1, .tup xs => decide (xs.length < 2 ^ 62) && xs.all (szD n)
  | _, .lst _ => false
  | _, .tup _ => false
  | _, d => flatS d
@[simp] theorem cmp_is (a : D) {S : Store} : cmpB .is_ S a .non = some (match a with
    | .non => true
    | _ => false) := by cases a <;> rfl
@[simp] theorem cmp_isn (a : D) {S : Store} : cmpB .isn S a .non = some (match a with
    | .non => false
    | _ => true) := by cases a <;> rfl
@[simp] theorem isX_non (kn : String → Bool) (t : Ty) {S : Store} (h : ∀ c, t ≠ .cls c) : isiX kn S .non t = some false := by
  cases t <;> first | rfl | exact absurd rfl (h _)
theorem sz_pf : ∀ (n : Nat) (d : D), szD n d = true → d.pf = true
  | _, .non, _ => pf_non
  | _, .bl _, _ => pf_bl _
  | _, .int _, _ => pf_int _
  | _, .str _, _ => pf_str _
  | 0, .lst xs, h => by cases h
  | n + 1, .lst xs, h => by
    have h : (decide (xs.length < 2 ^ 62) && xs.all (szD n)) = true := h
    rw [Bool.and_eq_true] at h
    rw [pf_lst]
    exact pfL_all fun d hd => sz_pf n d (List.all_eq_true.mp h.2 d hd)
  | 0, .tup xs, h => by cases h
  | n + 1, .tup xs, h => by
    have h : (decide (xs.length < 2 ^ 62) && xs.all (szD n)) = true := h
    rw [Bool.and_eq_true] at h
    rw [pf_tup]
    exact pfL_all fun d hd => sz_pf n d (List.all_eq_true.mp h.2 d hd)
  | n, .ins c fs, h => by cases n <;> cases h
  | n, .ptr c, h => by cases n <;> cases h
  | n, .scr c, h => by cases n <;> cases h
theorem for_ok {f : D → DSt → Store → SR} {σ σ' : DSt} {S : Store} : ∀ {xs : List D}, (∀ x ∈ xs, ∀ o, ∃ o', f x (σ.set 2 o) S = .nx (σ.set 2 o') S) → ∀ o, ∃ o', forL f xs (σ.set 2 o) S = .nx (σ.set 2 o') S
  | [], _, o => ⟨o, rfl⟩
  | x :: xs, h, o => by
    obtain ⟨o1, e1⟩ := h x List.mem_cons_self o
    obtain ⟨o2, e2⟩ := for_ok (f := f) (σ' := σ') (xs := xs) (fun y hy => h y (List.mem_cons_of_mem _ hy)) o1
    exact ⟨o2, by rw [for_cons, e1, loopR_nx, e2]⟩
theorem same_seq {P : Prog} (hP : P.fn "_law_same" = some c__law_same) {n : Nat} (ih : ∀ d, szD n d = true → callP (run P (n + 1)) "_law_same" [d, d] [] = .ok (.bl true) []) (d : D) (xs : List D) (hd : d = .lst xs ∨ d = .tup xs) (hl : xs.length < 2 ^ 62) (hx : ∀ x ∈ xs, szD n x = true) : run P (n + 2) "_law_same" [d, d] [] = .ok (.bl true) [] := by
  have loop : ∃ o, exS P (run P (n + 1)) (.for_ .seq (.n 2) (.irng1 (.bi .len (.acons (.var 1) .anil))) (.seq (.ifs (.not (.call .pure "_law_same" (.acons (.idx (.var 0) (.var 2)) (.acons (.idx (.var 1) (.var 2)) .anil)))) (.seq (.ret (.bl false))
      .nil) .nil)
      .nil)) [some d, some d, none] [] = .nx [some d, some d, o] [] := by
    have e : rngD [.int (xs.length : Int)] = some ((List.range xs.length).map fun (k : Nat) => D.int (k : Int)) := by
      have := rng1_ok (n := (xs.length : Int)) (by omega)
      simpa using this
    have turn := for_ok (σ := [some d, some d, none]) (σ' := []) (S := []) (xs := (List.range xs.length).map fun (k : Nat) => D.int (k : Int)) (f := fun x σ S => exS P (run P (n + 1)) (.seq (.ifs (.not (.call .pure "_law_same" (.acons (.idx (.var 0) (.var 2)) (.acons (.idx (.var 1) (.var 2)) .anil)))) (.seq (.ret (.bl false))
      .nil) .nil)
      .nil) (σ.set 2 (some x)) S) (fun x hxm o => by
        obtain ⟨k, hk, rfl⟩ := List.mem_map.mp hxm
        have hk := List.mem_range.mp hk
        have hg : xs[((k : Nat) : Int).toNat]? = some xs[k] := by rw [Int.toNat_natCast]; exact List.getElem?_eq_getElem hk
        have hc := ih xs[k] (hx _ (List.getElem_mem hk))
        refine ⟨some (.int k), ?_⟩
        rcases hd with rfl | rfl
        · have i1 := idx_lst (S := ([] : Store)) (xs := xs) (i := (k : Int)) (by omega) hg
          simp [i1, hc]
        · have i1 := idx_tup (S := ([] : Store)) (xs := xs) (i := (k : Int)) (by omega) hg
          simp [i1, hc]) none
    obtain ⟨o', e'⟩ := turn
    refine ⟨o', ?_⟩
    have el : evE P (run P (n + 1)) (.bi .len (.acons (.var 1) .anil)) [some d, some d, none] [] = .ok (.int (xs.length : Int)) [] := by
      rcases hd with rfl | rfl <;> simp
    rw [for_rng1 el (by omega)]
    exact e'
  obtain ⟨o, eo⟩ := loop
  refine run_by hP rfl ?_
  have s0 : startD c__law_same.ns [d, d] = [some d, some d, none] := rfl
  rw [s0]
  unfold c__law_same
  dsimp only
  rcases hd with rfl | rfl
  · refine seq_stp (by (conv => lhs; simp [-ev_comp, -ev_compT, -ex_for, -ex_forT, -ev_str]) <;> rfl) ?_
    refine seq_stp (by (conv => lhs; simp [-ev_comp, -ev_compT, -ex_for, -ex_forT, -ev_str]) <;> rfl) ?_
    refine seq_stp (by (conv => lhs; simp [-ev_comp, -ev_compT, -ex_for, -ex_forT, -ev_str]) <;> rfl) ?_
    refine seq_stp (by (conv => lhs; simp [-ev_comp, -ev_compT, -ex_for, -ex_forT, -ev_str]) <;> rfl) ?_
    refine seq_stp (by (conv => lhs; simp [-ev_comp, -ev_compT, -ex_for, -ex_forT, -ev_str]) <;> rfl) ?_
    refine seq_stp (by (conv => lhs; simp [-ev_comp, -ev_compT, -ex_for, -ex_forT, -ev_str]) <;> rfl) ?_
    refine seq_stp (by (conv => lhs; simp [-ev_comp, -ev_compT, -ex_for, -ex_forT, -ev_str]) <;> rfl) ?_
    refine seq_stp eo ?_
    simp
  · refine seq_stp (by (conv => lhs; simp [-ev_comp, -ev_compT, -ex_for, -ex_forT, -ev_str]) <;> rfl) ?_
    refine seq_stp (by (conv => lhs; simp [-ev_comp, -ev_compT, -ex_for, -ex_forT, -ev_str]) <;> rfl) ?_
    refine seq_stp (by (conv => lhs; simp [-ev_comp, -ev_compT, -ex_for, -ex_forT, -ev_str]) <;> rfl) ?_
    refine seq_stp (by (conv => lhs; simp [-ev_comp, -ev_compT, -ex_for, -ex_forT, -ev_str]) <;> rfl) ?_
    refine seq_stp (by (conv => lhs; simp [-ev_comp, -ev_compT, -ex_for, -ex_forT, -ev_str]) <;> rfl) ?_
    refine seq_stp (by (conv => lhs; simp [-ev_comp, -ev_compT, -ex_for, -ex_forT, -ev_str]) <;> rfl) ?_
    refine seq_stp (by (conv => lhs; simp [-ev_comp, -ev_compT, -ex_for, -ex_forT, -ev_str]) <;> rfl) ?_
    refine seq_stp eo ?_
    simp
theorem same_run {P : Prog} (hP : P.fn "_law_same" = some c__law_same) : ∀ (n : Nat) (d : D), szD n d = true → run P (n + 1) "_law_same" [d, d] [] = .ok (.bl true) []
  | n, .non, _ => by
    rw [run_fn hP rfl]
    simp [c__law_same, startD]
  | n, .bl b, _ => by
    rw [run_fn hP rfl]
    simp [c__law_same, startD]
  | n, .int b, _ => by
    rw [run_fn hP rfl]
    simp [c__law_same, startD]
  | n, .str s, h => by
    have h : flatS (.str s) = true := by cases n <;> exact h
    have e : eqO (.str s) (.str s) = some true := eqO_refl h
    rw [run_fn hP rfl]
    simp [c__law_same, startD, e]
  | 0, .lst xs, h => by cases h
  | n + 1, .lst xs, h => by
    have h : (decide (xs.length < 2 ^ 62) && xs.all (szD n)) = true := h
    rw [Bool.and_eq_true] at h
    exact same_seq hP (fun d hd => callP_ok (by simp [sz_pf n d hd]) (same_run hP n d hd) (pf_bl _)) _ xs (.inl rfl) (of_decide_eq_true h.1) (List.all_eq_true.mp h.2)
  | 0, .tup xs, h => by cases h
  | n + 1, .tup xs, h => by
    have h : (decide (xs.length < 2 ^ 62) && xs.all (szD n)) = true := h
    rw [Bool.and_eq_true] at h
    exact same_seq hP (fun d hd => callP_ok (by simp [sz_pf n d hd]) (same_run hP n d hd) (pf_bl _)) _ xs (.inr rfl) (of_decide_eq_true h.1) (List.all_eq_true.mp h.2)
  | n, .ins c fs, h => by cases n <;> cases h
  | n, .ptr c, h => by cases n <;> cases h
  | n, .scr c, h => by cases n <;> cases h
theorem call_same {P : Prog} (hP : P.fn "_law_same" = some c__law_same) (n : Nat) {d : D} (h : szD n d = true) (S : Store) : callP (run P (n + 1)) "_law_same" [d, d] S = .ok (.bl true) S := callP_ok (by simp [sz_pf n d h]) (same_run hP n d h) (pf_bl _)
theorem run_mono_same {P : Prog} (hP : P.fn "_law_same" = some c__law_same) : ∀ (j n : Nat) (d : D), szD n d = true → szD (n + j) d = true
  | 0, n, d, h => h
  | j + 1, n, d, h => by
    have key : ∀ (n : Nat) (d : D), szD n d = true → szD (n + 1) d = true := fun n => by
      induction n with
      | zero => intro d h; cases d <;> first | (cases h; done) | exact h
      | succ n ih =>
        intro d h
        cases d with
        | lst xs =>
          have h : (decide (xs.length < 2 ^ 62) && xs.all (szD n)) = true := h
          rw [Bool.and_eq_true] at h
          show (decide (xs.length < 2 ^ 62) && xs.all (szD (n + 1))) = true
          rw [Bool.and_eq_true]
          exact ⟨h.1, List.all_eq_true.mpr fun x hx => ih x (List.all_eq_true.mp h.2 x hx)⟩
        | tup xs =>
          have h : (decide (xs.length < 2 ^ 62) && xs.all (szD n)) = true := h
          rw [Bool.and_eq_true] at h
          show (decide (xs.length < 2 ^ 62) && xs.all (szD (n + 1))) = true
          rw [Bool.and_eq_true]
          exact ⟨h.1, List.all_eq_true.mpr fun x hx => ih x (List.all_eq_true.mp h.2 x hx)⟩
        | _ => exact h
    exact key (n + j) d (run_mono_same hP j n d h)
end MX
end

section
set_option maxRecDepth 100000
set_option maxHeartbeats 0
namespace MX
def c_check_counts : Fn := ⟨2, 3, (.seq (.ifs (.cmp .ne (.bi .len (.acons (.var 0) .anil)) (.var 1)) (.seq (.raise "BadSize" (.acons (.bi .len (.acons (.var 0) .anil)) .anil))
  .nil) .nil)
  (.seq (.for_ .seq (.n 2) (.var 0) (.seq (.ifs (.and (.cmp .isn (.var 2) .non) (.cmp .lt (.var 2) (.int 0))) (.seq (.raise "BadCount" (.acons (.var 2) .anil))
  .nil) .nil)
  .nil))
  .nil))⟩
def c__law_made : Fn := ⟨2, 4, (.seq (.try_ (.seq (.asg 3 (.mk "Scheme" (.acons (.var 0) (.acons (.var 1) .anil))))
  .nil) (.hcons "BadSize" (some 2) [] (.tup (.acons (.str "BadSize") (.acons (.fld "size") .anil))) (.hcons "BadCount" (some 2) [] (.tup (.acons (.str "BadCount") (.acons (.fld "count") .anil))) .hnil)))
  (.seq (.ret (.tup (.acons (.str "made") (.acons (.lst (.acons (.fld "counts" (.var 3)) (.acons (.fld "total" (.var 3)) (.acons (.fld "cost" (.var 3)) .anil)))) .anil))))
  .nil))⟩
def c__law_cost : Fn := ⟨2, 4, (.seq (.ret (.bi .sum (.acons (.comp false [2, 3] .zip (.t [2, 3]) (.acons (.var 0) (.acons (.var 1) .anil)) (.bl true) (.bin .mul (.var 2) (.var 3))) .anil)))
  .nil)⟩
def c__law_ordered : Fn := ⟨4, 6, (.seq (.asg 4 (.cmp .lt (.var 2) (.var 3)))
  (.seq (.asg 5 (.cmp .eq (.var 2) (.var 3)))
  (.seq (.ifs (.or (.cmp .ne (.cmp .lt (.var 0) (.var 1)) (.var 4)) (.cmp .ne (.cmp .le (.var 0) (.var 1)) (.or (.var 4) (.var 5)))) (.seq (.ret (.bl false))
  .nil) .nil)
  (.seq (.ifs (.or (.cmp .ne (.cmp .gt (.var 0) (.var 1)) (.and (.not (.var 4)) (.not (.var 5)))) (.cmp .eq (.cmp .ge (.var 0) (.var 1)) (.var 4))) (.seq (.ret (.bl false))
  .nil) .nil)
  (.seq (.ret (.and (.cmp .eq (.cmp .eq (.var 0) (.var 1)) (.var 5)) (.cmp .ne (.cmp .ne (.var 0) (.var 1)) (.var 5))))
  .nil)))))⟩
def c__law_drawn : Fn := ⟨1, 11, (.seq (.asg 1 (.cell .anil))
  (.seq (.for_ .seq (.n 2) (.irng1 (.int 4)) (.seq (.asg 3 (.bin .mod (.bi .int (.acons (.idx (.var 0) (.var 2)) .anil)) (.int 7)))
  (.seq (.asg 4 (.bin .add (.int 4) (.bin .mul (.int 12) (.var 2))))
  (.seq (.asg 5 (.idx (.lst (.acons (.int 5) (.acons (.int 14) .anil))) (.bin .mod (.bi .int (.acons (.idx (.var 0) (.int 57)) .anil)) (.int 2))))
  (.seq (.asg 6 (.comp false [10] .seq (.n 10) (.cut (.var 0) (.part (.var 4)) (.part (.bin .add (.var 4) (.var 3)))) (.bl true) (.bin .mod (.bi .int (.acons (.var 10) .anil)) (.var 5))))
  (.seq (.asg 7 (.comp false [10] .seq (.n 10) (.cut (.var 0) (.part (.bin .add (.var 4) (.int 6))) (.part (.bin .add (.bin .add (.var 4) (.int 6)) (.var 3)))) (.bl true) (.bin .mod (.bi .int (.acons (.var 10) .anil)) (.int 6))))
  (.seq (.ifs (.cmp .eq (.bin .mod (.bi .int (.acons (.idx (.var 0) (.int 52)) .anil)) (.int 4)) (.int 0)) (.seq (.asg 7 (.comp false [10] .seq (.n 10) (.cut (.var 0) (.part (.bin .add (.var 4) (.int 6))) (.part (.bin .add (.bin .add (.var 4) (.int 6)) (.var 3)))) (.bl true) (.bin .mul (.bi .int (.acons (.var 10) .anil)) (.int 198))))
  .nil) .nil)
  (.seq (.asg 8 (.bin .mod (.bi .int (.acons (.idx (.var 0) (.bin .add (.int 53) (.var 2))) .anil)) (.int 4)))
  (.seq (.ifs (.and (.cmp .gt (.var 2) (.int 0)) (.cmp .eq (.var 8) (.int 0))) (.seq (.asg 6 (.bi .list (.acons (.idx (.idx (.var 1) (.int 0)) (.int 0)) .anil)))
  (.seq (.asg 9 (.idx (.idx (.var 1) (.int 0)) (.int 1)))
  (.seq (.asg 7 (.comp false [10] .seq (.n 10) (.irng1 (.bi .len (.acons (.var 9) .anil))) (.bl true) (.bin .add (.idx (.var 9) (.var 10)) (.bi .int (.acons (.cmp .eq (.idx (.var 6) (.var 10)) (.int 0)) .anil)))))
  .nil))) .nil)
  (.seq (.ifs (.and (.cmp .gt (.var 2) (.int 0)) (.cmp .eq (.var 8) (.int 1))) (.seq (.asg 6 (.rev (.bi .list (.acons (.idx (.idx (.var 1) (.int 0)) (.int 0)) .anil))))
  (.seq (.asg 7 (.rev (.bi .list (.acons (.idx (.idx (.var 1) (.int 0)) (.int 1)) .anil))))
  .nil)) .nil)
  (.seq (.ifs (.and (.cmp .gt (.var 2) (.int 0)) (.and (.cmp .eq (.var 8) (.int 2)) (.cmp .lt (.bi .len (.acons (.idx (.idx (.var 1) (.int 0)) (.int 0)) .anil)) (.int 6)))) (.seq (.asg 6 (.bin .add (.idx (.idx (.var 1) (.int 0)) (.int 0)) (.lst (.acons (.bin .mod (.bi .int (.acons (.idx (.var 0) (.bin .add (.int 58) (.var 2))) .anil)) (.int 3)) .anil))))
  (.seq (.asg 7 (.bin .add (.idx (.idx (.var 1) (.int 0)) (.int 1)) (.lst (.acons (.int 0) .anil))))
  .nil)) .nil)
  (.seq (.ex (.app (.var 1) (.tup (.acons (.var 6) (.acons (.var 7) .anil)))))
  .nil))))))))))))
  (.seq (.ret (.var 1))
  .nil)))⟩
def c_law : Fn := ⟨1, 22, (.seq (.asg 1 (.call .pure "_law_pool" (.acons (.var 0) (.acons (.int 70) .anil))))
  (.seq (.asg 2 (.call .pure "_law_drawn" (.acons (.var 1) .anil)))
  (.seq (.asg 3 (.cell .anil))
  (.seq (.asg 4 (.cell .anil))
  (.seq (.for_ .seq (.n 5) (.var 2) (.seq (.asg 15 (.bi .listc (.acons (.idx (.var 5) (.int 0)) .anil)))
  (.seq (.asg 16 (.bi .listc (.acons (.idx (.var 5) (.int 1)) .anil)))
  (.seq (.asg 17 (.mk "Scheme" (.acons (.var 15) (.acons (.var 16) .anil))))
  (.seq (.ifs (.or (.cmp .ne (.var 15) (.idx (.var 5) (.int 0))) (.cmp .ne (.var 16) (.idx (.var 5) (.int 1)))) (.seq (.ret (.bl false))
  .nil) .nil)
  (.seq (.ex (.app (.var 15) (.int 7)))
  (.seq (.ex (.app (.var 16) (.int 7)))
  (.seq (.sidx (.var 16) (.int 0) (.bin .add (.idx (.var 16) (.int 0)) (.int 1)))
  (.seq (.asg 18 (.call .pure "_law_cost" (.acons (.idx (.var 5) (.int 0)) (.acons (.idx (.var 5) (.int 1)) .anil))))
  (.seq (.asg 19 (.lst (.acons (.bi .tuple (.acons (.idx (.var 5) (.int 0)) .anil)) (.acons (.bi .sum (.acons (.idx (.var 5) (.int 0)) .anil)) (.acons (.var 18) .anil)))))
  (.seq (.ifs (.not (.call .pure "_law_same" (.acons (.lst (.acons (.fld "counts" (.var 17)) (.acons (.fld "total" (.var 17)) (.acons (.fld "cost" (.var 17)) .anil)))) (.acons (.var 19) .anil)))) (.seq (.ret (.bl false))
  .nil) .nil)
  (.seq (.ifs (.not (.call .pure "_law_same" (.acons (.call .pure "_law_made" (.acons (.bi .tuple (.acons (.idx (.var 5) (.int 0)) .anil)) (.acons (.bi .tuple (.acons (.idx (.var 5) (.int 1)) .anil)) .anil))) (.acons (.tup (.acons (.str "made") (.acons (.var 19) .anil))) .anil)))) (.seq (.ret (.bl false))
  .nil) .nil)
  (.seq (.ex (.app (.var 3) (.var 17)))
  (.seq (.ex (.app (.var 4) (.tup (.acons (.var 18) (.acons (.bi .sum (.acons (.idx (.var 5) (.int 0)) .anil)) (.acons (.bi .tuple (.acons (.idx (.var 5) (.int 0)) .anil)) .anil))))))
  .nil))))))))))))))
  (.seq (.for_ .seq (.n 6) (.irng1 (.int 4)) (.seq (.for_ .seq (.n 20) (.irng1 (.int 4)) (.seq (.ifs (.not (.call .st "_law_ordered" (.acons (.idx (.var 3) (.var 6)) (.acons (.idx (.var 3) (.var 20)) (.acons (.idx (.var 4) (.var 6)) (.acons (.idx (.var 4) (.var 20)) .anil)))))) (.seq (.ret (.bl false))
  .nil) .nil)
  .nil))
  .nil))
  (.seq (.asg 7 (.cut (.idx (.idx (.var 2) (.int 0)) (.int 0)) .nopart (.part (.int 4))))
  (.seq (.asg 8 (.cut (.idx (.idx (.var 2) (.int 0)) (.int 1)) .nopart (.part (.int 4))))
  (.seq (.asg 9 (.bin .sub (.bin .sub (.int 0) (.int 1)) (.bin .mod (.bi .int (.acons (.idx (.var 1) (.int 62)) .anil)) (.int 9))))
  (.seq (.ifs (.cmp .ne (.call .pure "_law_made" (.acons (.bin .add (.var 7) (.lst (.acons (.var 9) .anil))) (.acons (.var 8) .anil))) (.tup (.acons (.str "BadSize") (.acons (.bi .len (.acons (.var 8) .anil)) .anil)))) (.seq (.ret (.bl false))
  .nil) .nil)
  (.seq (.ifs (.cmp .ne (.call .pure "_law_made" (.acons (.var 7) (.acons (.bin .add (.var 8) (.lst (.acons (.var 9) .anil))) .anil))) (.tup (.acons (.str "BadSize") (.acons (.bin .add (.bi .len (.acons (.var 8) .anil)) (.int 1)) .anil)))) (.seq (.ret (.bl false))
  .nil) .nil)
  (.seq (.asg 10 (.bin .mod (.bi .int (.acons (.idx (.var 1) (.int 63)) .anil)) (.bin .add (.bi .len (.acons (.var 7) .anil)) (.int 1))))
  (.seq (.asg 11 (.bin .add (.bin .add (.cut (.var 7) .nopart (.part (.var 10))) (.lst (.acons (.var 9) .anil))) (.cut (.var 7) (.part (.var 10)) .nopart)))
  (.seq (.asg 12 (.bin .add (.bin .add (.lst (.acons (.int 0) .anil)) (.var 7)) (.lst (.acons (.int 0) .anil))))
  (.seq (.for_ .seq (.n 13) (.lst (.acons (.bin .sub (.var 9) (.int 9)) (.acons (.bin .add (.var 9) (.int 0)) (.acons (.bin .sub (.int 0) (.int 1)) .anil)))) (.seq (.ifs (.cmp .ne (.call .pure "_law_made" (.acons (.bin .add (.var 11) (.lst (.acons (.var 13) .anil))) (.acons (.bin .add (.bin .add (.lst (.acons (.bin .sub (.var 9) (.int 1)) .anil)) (.var 8)) (.lst (.acons (.int 1) .anil))) .anil))) (.tup (.acons (.str "BadCount") (.acons (.var 9) .anil)))) (.seq (.ret (.bl false))
  .nil) .nil)
  (.seq (.ifs (.cmp .ne (.call .pure "_law_made" (.acons (.bin .add (.var 11) (.lst (.acons (.var 13) .anil))) (.acons (.bin .add (.var 8) (.lst (.acons (.int 1) (.acons (.int 1) .anil)))) .anil))) (.tup (.acons (.str "BadCount") (.acons (.var 9) .anil)))) (.seq (.ret (.bl false))
  .nil) .nil)
  (.seq (.asg 21 (.bin .add (.bin .add (.bin .add (.cut (.var 8) .nopart (.part (.var 10))) (.lst (.acons (.var 9) .anil))) (.cut (.var 8) (.part (.var 10)) .nopart)) (.lst (.acons (.var 13) .anil))))
  (.seq (.ifs (.cmp .ne (.call .pure "_law_made" (.acons (.var 12) (.acons (.var 21) .anil))) (.tup (.acons (.str "BadCount") (.acons (.var 9) .anil)))) (.seq (.ret (.bl false))
  .nil) .nil)
  .nil)))))
  (.seq (.asg 14 (.idx (.var 3) (.int 0)))
  (.seq (.ret (.call .pure "_law_same" (.acons (.lst (.acons (.fld "cost" (.var 14)) (.acons (.fld "total" (.var 14)) (.acons (.fld "counts" (.var 14)) .anil)))) (.acons (.bi .list (.acons (.idx (.var 4) (.int 0)) .anil)) .anil))))
  .nil)))))))))))))))))⟩
def c_Scheme___init__ : Fn := ⟨3, 5, (.seq (.ifs (.cmp .ne (.bi .len (.acons (.var 2) .anil)) (.bi .len (.acons (.var 1) .anil))) (.seq (.raise "BadSize" (.acons (.bi .len (.acons (.var 2) .anil)) .anil))
  .nil) .nil)
  (.seq (.ex (.call .st "check_counts" (.acons (.var 1) (.acons (.bi .len (.acons (.var 1) .anil)) .anil))))
  (.seq (.ex (.call .st "check_counts" (.acons (.var 2) (.acons (.bi .len (.acons (.var 2) .anil)) .anil))))
  (.seq (.sfld "counts" (.var 0) (.bi .tuple (.acons (.var 1) .anil)))
  (.seq (.sfld "total" (.var 0) (.bi .sum (.acons (.var 1) .anil)))
  (.seq (.sfld "cost" (.var 0) (.bi .sum (.acons (.comp false [3, 4] .zip (.t [3, 4]) (.acons (.var 1) (.acons (.var 2) .anil)) (.bl true) (.bin .mul (.var 3) (.var 4))) .anil)))
  .nil))))))⟩
def c_Scheme___eq__ : Fn := ⟨2, 2, (.seq (.ifs (.not (.isi (.var 1) [.cls "Scheme"])) (.seq .stuck
  .nil) .nil)
  (.seq (.ret (.cmp .eq (.tup (.acons (.fld "cost" (.var 0)) (.acons (.fld "total" (.var 0)) (.acons (.fld "counts" (.var 0)) .anil)))) (.tup (.acons (.fld "cost" (.var 1)) (.acons (.fld "total" (.var 1)) (.acons (.fld "counts" (.var 1)) .anil))))))
  .nil))⟩
def c_Scheme___lt__ : Fn := ⟨2, 2, (.seq (.ifs (.not (.isi (.var 1) [.cls "Scheme"])) (.seq .stuck
  .nil) .nil)
  (.seq (.ret (.cmp .lt (.tup (.acons (.fld "cost" (.var 0)) (.acons (.fld "total" (.var 0)) (.acons (.fld "counts" (.var 0)) .anil)))) (.tup (.acons (.fld "cost" (.var 1)) (.acons (.fld "total" (.var 1)) (.acons (.fld "counts" (.var 1)) .anil))))))
  .nil))⟩
def c_Scheme___le__ : Fn := ⟨2, 2, (.seq (.ifs (.not (.isi (.var 1) [.cls "Scheme"])) (.seq .stuck
  .nil) .nil)
  (.seq (.ret (.cmp .le (.tup (.acons (.fld "cost" (.var 0)) (.acons (.fld "total" (.var 0)) (.acons (.fld "counts" (.var 0)) .anil)))) (.tup (.acons (.fld "cost" (.var 1)) (.acons (.fld "total" (.var 1)) (.acons (.fld "counts" (.var 1)) .anil))))))
  .nil))⟩
end MX
end

section
set_option maxRecDepth 100000
set_option maxHeartbeats 4000000
namespace MX
open PySem
/-- a list, a tuple, or a live list of ints -/
inductive SeqI (S : Store) : Bool → D → List Int → Prop
  | ptr {q : Nat} {xs : List Int} : S[q]? = some (.lst (xs.map .int)) → SeqI S false (.ptr q) xs
  | lst (xs : List Int) : SeqI S false (.lst (xs.map .int)) xs
  | tup (xs : List Int) : SeqI S true (.tup (xs.map .int)) xs
theorem same_reflL' (xs : List D) : sameBL xs xs = true := by
  have key : (∀ d : D, sameB d d = true) ∧ ∀ xs : List D, sameBL xs xs = true := by
    have a : ∀ d : D, sameB d d = true := fun d => by
      refine D.rec (motive_1 := fun d => sameB d d = true) (motive_2 := fun xs => sameBL xs xs = true) (motive_3 := fun xs => sameBF xs xs = true) (motive_4 := fun p => sameB p.2 p.2 = true) ?_ ?_ ?_ ?_ ?_ ?_ ?_ ?_ ?_ ?_ ?_ ?_ ?_ ?_ d
      all_goals intros
      all_goals first
        | (unfold sameB; simp; done)
        | (unfold sameB; simp_all; done)
        | (unfold sameBL; simp_all; done)
        | (unfold sameBF; simp_all; done)
        | assumption
    refine ⟨a, fun xs => ?_⟩
    induction xs with
    | nil => unfold sameBL; rfl
    | cons x r ih => unfold sameBL; rw [a x, ih]; rfl
  exact key.2 xs
section
variable {S : Store} {d : D} {xs : List Int} {tp : Bool}
theorem SeqI.len (h : SeqI S tp d xs) : lenD S d = some xs.length := by
  cases h with
  | ptr e => rw [len_ptr e, List.length_map]
  | lst => simp
  | tup => simp
theorem SeqI.src (h : SeqI S tp d xs) : ∃ ok, srcD .seq S d = some ⟨xs.map .int, ok⟩ ∧ ok S = true := by
  cases h with
  | ptr e =>
    rename_i q
    have e1 : still S (.ptr q) = false := by
      show (match S[q]? with | some (.frz _) => true | _ => false) = false
      rw [e]
    have e2 : itemsD S (.ptr q) = some (xs.map .int) := by
      unfold itemsD
      rw [look_ptr_lst e]
    rw [srcD_seq, e1, e2, seqG_f]
    refine ⟨_, rfl, ?_⟩
    show sameSrc S (.ptr q) _ = true
    unfold sameSrc
    rw [look_ptr_lst e]
    exact same_reflL' _
  | lst => exact ⟨fun _ => true, by simp, rfl⟩
  | tup => exact ⟨fun _ => true, by simp, rfl⟩
theorem SeqI.sum (h : SeqI S tp d xs) : biD .sum S [d] = .ok (.int xs.sum) S := by
  cases h with
  | ptr e =>
    show (match look S _ with
    | .lst xs => match intsD xs with
      | some ns => Res.ok (D.int ns.sum) S
      | none => .bad
    | .tup xs => match intsD xs with
      | some ns => Res.ok (D.int ns.sum) S
      | none => .bad
    | _ => .bad) = _
    rw [look_ptr_lst e]
    show (match intsD (xs.map .int) with
      | some ns => Res.ok (D.int ns.sum) S
      | none => Res.bad) = _
    rw [ints_map]
  | lst => exact bi_sum xs
  | tup => exact bi_sumT xs
theorem SeqI.tuple (h : SeqI S tp d xs) : biD .tuple S [d] = .ok (.tup (xs.map .int)) S := by
  cases h with
  | ptr e =>
    show (match look S _ with
    | .lst xs => Res.ok (D.tup xs) S
    | .tup xs => Res.ok (D.tup xs) S
    | _ => .bad) = _
    rw [look_ptr_lst e]
  | lst => rfl
  | tup => rfl
theorem SeqI.set {p : Nat} {c k : String} {fs gs : List (String × D)} (h : SeqI S tp d xs) (hp : S[p]? = some (.ins c fs)) : SeqI (S.set p (.ins k gs)) tp d xs := by
  cases h with
  | ptr e =>
    rename_i q
    have ne : p ≠ q := fun z => by
      subst z
      rw [hp] at e
      cases e
    exact .ptr (by rw [List.getElem?_set_ne ne]; exact e)
  | lst => exact .lst _
  | tup => exact .tup _
theorem SeqI.alike {e : D} {ys : List Int} (h : SeqI S tp d xs) (k : SeqI S tp e ys) : alikeS S d e = true := by
  cases h with
  | ptr e1 => cases k with
    | ptr e2 => unfold alikeS; rw [look_ptr_lst e1, look_ptr_lst e2]
    | lst => unfold alikeS; rw [look_ptr_lst e1]; rfl
  | lst => cases k with
    | ptr e2 => unfold alikeS; rw [look_ptr_lst e2]; rfl
    | lst => rfl
  | tup => cases k; rfl
theorem SeqI.ins (h : SeqI S tp d xs) : insD S d = none := by
  cases h with
  | ptr e => exact ins_ptr_lst e
  | lst => rfl
  | tup => rfl
end
def firstNeg : List Int → Option Int
  | [] => none
  | x :: r => if x < 0 then some x else firstNeg r
theorem firstNeg_none : ∀ {xs : List Int}, (∀ x ∈ xs, 0 ≤ x) → firstNeg xs = none
  | [], _ => rfl
  | x :: r, h => by
    unfold firstNeg
    rw [if_neg (by have := h x List.mem_cons_self; omega)]
    exact firstNeg_none fun y hy => h y (List.mem_cons_of_mem _ hy)
theorem firstNeg_all : ∀ {xs : List Int}, firstNeg xs = none → ∀ x ∈ xs, 0 ≤ x
  | [], _, _, hx => by cases hx
  | y :: r, h, x, hx => by
    unfold firstNeg at h
    by_cases hy : y < 0
    · rw [if_pos hy] at h
      cases h
    · rw [if_neg hy] at h
      rcases List.mem_cons.mp hx with rfl | hx
      · omega
      · exact firstNeg_all h x hx
theorem firstNeg_at : ∀ {xs ys : List Int} {k : Int}, (∀ x ∈ xs, 0 ≤ x) → k < 0 → firstNeg (xs ++ k :: ys) = some k
  | [], ys, k, _, hk => if_pos hk
  | x :: r, ys, k, h, hk => by
    show (if x < 0 then some x else firstNeg (r ++ k :: ys)) = _
    rw [if_neg (by have := h x List.mem_cons_self; omega)]
    exact firstNeg_at (fun y hy => h y (List.mem_cons_of_mem _ hy)) hk
def negR (S : Store) (σ : DSt) : Option Int → SR
  | some k => .ex ⟨"BadCount", [("count", .int k)]⟩ σ S
  | none => .nx σ S
structure SchP (P : Prog) : Prop where
  cc : P.fn "check_counts" = some c_check_counts
  ini : P.fn "Scheme.__init__" = some c_Scheme___init__
  eq : P.fn "Scheme.__eq__" = some c_Scheme___eq__
  lt : P.fn "Scheme.__lt__" = some c_Scheme___lt__
  le : P.fn "Scheme.__le__" = some c_Scheme___le__
  ct : ∃ k, P.ct "Scheme" = some k ∧ k.init = some ("Scheme.__init__", .st)
  meq : P.meth "Scheme" "__eq__" = some ("Scheme.__eq__", .st)
  mlt : P.meth "Scheme" "__lt__" = some ("Scheme.__lt__", .st)
  mle : P.meth "Scheme" "__le__" = some ("Scheme.__le__", .st)
  kn : P.kn "Scheme" = true
  lc : P.lacks "Scheme" "counts" = true
  lt' : P.lacks "Scheme" "total" = true
  lco : P.lacks "Scheme" "cost" = true
  xS : P.xt "BadSize" = some { ini := some ["size"], ups := ["BadSize", "TalkError", "ValueError"] }
  xC : P.xt "BadCount" = some { ini := some ["count"], ups := ["BadCount", "TalkError", "ValueError"] }
section
variable {P : Prog} (h : SchP P)
include h
theorem raise_count {cb : Cb} {e : E} {σ : DSt} {S : Store} {k : Int} (he : evE P cb e σ S = .ok (.int k) S) : exS P cb (.raise "BadCount" (.acons e .anil)) σ S = .ex ⟨"BadCount", [("count", .int k)]⟩ σ S := by
  show (if raB P "BadCount" (.acons e .anil) then (evE P cb (.acons e .anil) σ S).sr σ fun x S1 => (match exnD P "BadCount" (unT x) with
    | some y => SR.ex y σ S1
    | none => .bad)
    else .bad) = _
  have r : raB P "BadCount" (.acons e .anil) = true := by unfold raB; rw [h.xC]; rfl
  have x : exnD P "BadCount" [.int k] = some ⟨"BadCount", [("count", .int k)]⟩ := by unfold exnD; rw [h.xC]; rfl
  rw [if_pos r]
  simp [he, x]
theorem raise_size {cb : Cb} {e : E} {σ : DSt} {S : Store} {k : Int} (he : evE P cb e σ S = .ok (.int k) S) : exS P cb (.raise "BadSize" (.acons e .anil)) σ S = .ex ⟨"BadSize", [("size", .int k)]⟩ σ S := by
  show (if raB P "BadSize" (.acons e .anil) then (evE P cb (.acons e .anil) σ S).sr σ fun x S1 => (match exnD P "BadSize" (unT x) with
    | some y => SR.ex y σ S1
    | none => .bad)
    else .bad) = _
  have r : raB P "BadSize" (.acons e .anil) = true := by unfold raB; rw [h.xS]; rfl
  have x : exnD P "BadSize" [.int k] = some ⟨"BadSize", [("size", .int k)]⟩ := by unfold exnD; rw [h.xS]; rfl
  rw [if_pos r]
  simp [he, x]
theorem cc_turn {cb : Cb} {S : Store} {a b : D} (x : Int) (o : Option D) : exS P cb (.seq (.ifs (.and (.cmp .isn (.var 2) .non) (.cmp .lt (.var 2) (.int 0))) (.seq (.raise "BadCount" (.acons (.var 2) .anil))
  .nil) .nil)
  .nil) [some a, some b, some (.int x)] S = if x < 0 then .ex ⟨"BadCount", [("count", .int x)]⟩ [some a, some b, some (.int x)] S else .nx [some a, some b, some (.int x)] S := by
  by_cases hx : x < 0
  · have r := raise_count h (cb := cb) (e := .var 2) (σ := [some a, some b, some (.int x)]) (S := S) (k := x) (by simp)
    simp [hx, r]
  · simp [hx]
theorem cc_loop {ok : Store → Bool} {S : Store} (hk : ok S = true) {a b : D} {f : D → DSt → Store → SR} (hf : ∀ x o, f (.int x) [some a, some b, o] S = if x < 0 then .ex ⟨"BadCount", [("count", .int x)]⟩ [some a, some b, some (.int x)] S else .nx [some a, some b, some (.int x)] S) : ∀ (xs : List Int) (o : Option D), ∃ o', forK ok f (xs.map .int) [some a, some b, o] S = negR S [some a, some b, o'] (firstNeg xs)
  | [], o => ⟨o, by rw [List.map_nil, forK_nil hk]; rfl⟩
  | x :: xs, o => by
    rw [List.map_cons, forK_cons hk, hf]
    by_cases hx : x < 0
    · refine ⟨some (.int x), ?_⟩
      unfold firstNeg
      rw [if_pos hx, if_pos hx]
      rfl
    · obtain ⟨o', e'⟩ := cc_loop hk hf xs (some (.int x))
      refine ⟨o', ?_⟩
      unfold firstNeg
      rw [if_neg hx, if_neg hx, loopR_nx, e']
def ccR (S : Store) (n m : Int) (o : Option Int) : Res D :=
  if n ≠ m then .ex ⟨"BadSize", [("size", .int n)]⟩ S else match o with
    | some k => .ex ⟨"BadCount", [("count", .int k)]⟩ S
    | none => .ok .non S
theorem cc_run (j : Nat) {tp : Bool} {c : D} {S : Store} {xs : List Int} (hc : SeqI S tp c xs) (m : Int) : run P (j + 1) "check_counts" [c, .int m] S = ccR S xs.length m (firstNeg xs) := by
  rw [run_fn h.cc rfl]
  have st : startD c_check_counts.ns [c, .int m] = [some c, some (.int m), none] := rfl
  rw [st]
  have el : ∀ σ, evE P (run P j) (.bi .len (.acons (.var 0) .anil)) (some c :: σ) S = .ok (.int xs.length) S := fun σ => by simp [hc.len]
  unfold c_check_counts ccR
  dsimp only
  by_cases hn : (xs.length : Int) = m
  · rw [if_neg (by simpa using hn)]
    obtain ⟨ok, e1, e2⟩ := hc.src
    obtain ⟨o', e4⟩ : ∃ o', exS P (run P j) (.for_ .seq (.n 2) (.var 0) (.seq (.ifs (.and (.cmp .isn (.var 2) .non) (.cmp .lt (.var 2) (.int 0))) (.seq (.raise "BadCount" (.acons (.var 2) .anil))
  .nil) .nil)
  .nil)) [some c, some (.int m), none] S = negR S [some c, some (.int m), o'] (firstNeg xs) := by
      rw [ex_for, ev_var, get_zero, slot_some, sr_ok, e1, forG_src]
      exact cc_loop h e2 (fun x o => cc_turn h x o) xs none
    rw [seq_stp (σ1 := [some c, some (.int m), none]) (S1 := S) (by simp [hc.len, hn]) rfl, ex_seq, e4]
    cases firstNeg xs <;> simp [negR]
  · rw [if_pos hn]
    have r := raise_size h (cb := run P j) (el [some (.int m), none])
    simp [hc.len, hn, r]
theorem cc_ok (j : Nat) {tp : Bool} {c : D} {S : Store} {xs : List Int} (hc : SeqI S tp c xs) (hn : firstNeg xs = none) : run P (j + 1) "check_counts" [c, .int xs.length] S = .ok .non S := by
  rw [cc_run h j hc, hn]
  exact if_neg (by simp)
theorem cc_ex (j : Nat) {tp : Bool} {c : D} {S : Store} {xs : List Int} (hc : SeqI S tp c xs) {k : Int} (hn : firstNeg xs = some k) : run P (j + 1) "check_counts" [c, .int xs.length] S = .ex ⟨"BadCount", [("count", .int k)]⟩ S := by
  rw [cc_run h j hc, hn]
  exact if_neg (by simp)
end
def dot (xs ys : List Int) : Int := ((List.zip xs ys).map fun p => p.1 * p.2).sum
def schF (xs ys : List Int) : List (String × D) := [("counts", .tup (xs.map .int)), ("total", .int xs.sum), ("cost", .int (dot xs ys))]
theorem zip_ints (xs ys : List Int) : ((List.zip (xs.map D.int) (ys.map D.int)).map fun p => D.tup [p.1, p.2]) = (List.zip xs ys).map fun p => D.tup [.int p.1, .int p.2] := by
  rw [List.zip_map, List.map_map]
  rfl
theorem compK_map {ok : Store → Bool} {f : D → Store → Res (Option D)} {g : D → D} {S : Store} (hk : ok S = true) : ∀ {xs : List D}, (∀ x ∈ xs, f x S = .ok (some (g x)) S) → compK ok f xs S = .ok (xs.map g) S
  | [], _ => if_pos hk
  | x :: r, h => by
    show (if ok S then (f x S).bind fun o S1 => (compK ok f r S1).bind fun ys S2 => .ok (o.toList ++ ys) S2 else .bad) = _
    rw [if_pos hk, h x List.mem_cons_self, bind_ok, compK_map hk fun y hy => h y (List.mem_cons_of_mem _ hy)]
    rfl
def mulP : D → D
  | .tup [.int x, .int y] => .int (x * y)
  | d => d
theorem zip_src {S : Store} {c d : D} {xs ys : List Int} {tp : Bool} (hc : SeqI S tp c xs) (hd : SeqI S tp d ys) : ∃ ok, srcD .zip S (.tup [c, d]) = some ⟨(List.zip xs ys).map fun p => D.tup [.int p.1, .int p.2], ok⟩ ∧ ok S = true := by
  obtain ⟨o1, e1, k1⟩ := hc.src
  obtain ⟨o2, e2, k2⟩ := hd.src
  rw [srcD_seq] at e1 e2
  rw [srcD_zip', hc.alike hd, e1, e2]
  refine ⟨fun S => o1 S && o2 S, ?_, by simp [k1, k2]⟩
  rw [← zip_ints]
  rfl
/-- the sum of products over zip -/
theorem cost_ev {P : Prog} {cb : Cb} {S : Store} {σ : DSt} {a b : E} {i j : Nat} {c d : D} {xs ys : List Int} {tp : Bool} (ha : evE P cb a σ S = .ok c S) (hb : evE P cb b σ S = .ok d S) (hc : SeqI S tp c xs) (hd : SeqI S tp d ys) (hx : ∀ x ∈ xs, 0 ≤ x ∧ x < 18446744073709551616) (hl : xs.length ≤ sizeLine)
    (hij : ∀ x y : Int, setT (.t [i, j]) (wipeD σ [i, j]) (.tup [.int x, .int y]) = some (((wipeD σ [i, j]).set i (some (.int x))).set j (some (.int y))) ∧ (((wipeD σ [i, j]).set i (some (.int x))).set j (some (.int y)))[i]? = some (some (.int x)) ∧ (((wipeD σ [i, j]).set i (some (.int x))).set j (some (.int y)))[j]? = some (some (.int y))) :
    evE P cb (.bi .sum (.acons (.comp false [i, j] .zip (.t [i, j]) (.acons a (.acons b .anil)) (.bl true) (.bin .mul (.var i) (.var j))) .anil)) σ S = .ok (.int (dot xs ys)) S := by
  obtain ⟨ok, e1, k1⟩ := zip_src hc hd
  have e2 : compK ok (compT P cb [i, j] [i, j] (.bl true) (.bin .mul (.var i) (.var j)) σ) ((List.zip xs ys).map fun p => D.tup [.int p.1, .int p.2]) S = .ok (((List.zip xs ys).map fun p => D.tup [.int p.1, .int p.2]).map mulP) S := by
    refine compK_map k1 fun x hx2 => ?_
    obtain ⟨⟨u, v⟩, hp, rfl⟩ := List.mem_map.mp hx2
    have hu := hx u (List.of_mem_zip hp).1
    obtain ⟨q1, q2, q3⟩ := hij u v
    rw [compT_ok q1]
    have m := bin_mul (S := S) (i := u) (j := v) (.inl (by omega))
    simp [q2, q3, m, mulP]
  have e3 : (((List.zip xs ys).map fun p => D.tup [.int p.1, .int p.2]).map mulP) = ((List.zip xs ys).map fun p => p.1 * p.2).map D.int := by
    rw [List.map_map, List.map_map]
    rfl
  rw [e3] at e2
  have hl2 : (((List.zip xs ys).map fun p => p.1 * p.2).map D.int).length ≤ sizeLine := by
    rw [List.length_map, List.length_map, List.length_zip]
    omega
  have e2' : compK (Src.mk ((List.zip xs ys).map fun p => D.tup [.int p.1, .int p.2]) ok).ok (compT P cb [i, j] [i, j] (.bl true) (.bin .mul (.var i) (.var j)) σ) (Src.mk ((List.zip xs ys).map fun p => D.tup [.int p.1, .int p.2]) ok).xs S = _ := e2
  simp only [ev_bi, ev_acons, ev_compT, ev_anil, ha, hb, bind_ok, unT_tup, e1, compG_ok, e2', if_pos hl2, newL_f, biX_sum, bi_sum]
  rfl
section
variable {P : Prog} (h : SchP P)
include h
def iniR (S : Store) (p : Nat) (xs ys : List Int) : Res D :=
  if (ys.length : Int) ≠ xs.length then .ex ⟨"BadSize", [("size", .int ys.length)]⟩ S else match firstNeg xs with
    | some k => .ex ⟨"BadCount", [("count", .int k)]⟩ S
    | none => match firstNeg ys with
      | some k => .ex ⟨"BadCount", [("count", .int k)]⟩ S
      | none => .ok .non (S.set p (.ins "Scheme" (schF xs ys)))
theorem ini_run (j : Nat) {S : Store} {p : Nat} {c d : D} {xs ys : List Int} {tp : Bool} (hp : S[p]? = some (.ins "Scheme" [])) (hc : SeqI S tp c xs) (hd : SeqI S tp d ys) (hx : firstNeg xs = none → ∀ x ∈ xs, x < 18446744073709551616) (hl : xs.length ≤ sizeLine) : run P (j + 2) "Scheme.__init__" [.ptr p, c, d] S = iniR S p xs ys := by
  rw [run_fn h.ini rfl]
  have st : startD c_Scheme___init__.ns [.ptr p, c, d] = [some (.ptr p), some c, some d, none, none] := rfl
  rw [st]
  unfold c_Scheme___init__ iniR
  dsimp only
  by_cases hn : (ys.length : Int) = xs.length
  · rw [if_neg (by simpa using hn)]
    rw [seq_stp (σ1 := [some (.ptr p), some c, some d, none, none]) (S1 := S) (by simp [hc.len, hd.len, hn]) rfl]
    cases e1 : firstNeg xs with
    | some k =>
      have z := cc_ex h j hc e1
      simp [hc.len, z]
    | none =>
      have z1 := cc_ok h j hc e1
      rw [seq_stp (σ1 := [some (.ptr p), some c, some d, none, none]) (S1 := S) (by simp [hc.len, z1]) rfl]
      cases e2 : firstNeg ys with
      | some k =>
        have z := cc_ex h j hd e2
        simp [hd.len, z]
      | none =>
        have z2 := cc_ok h j hd e2
        have hlt := lt_of_get hp
        rw [seq_stp (σ1 := [some (.ptr p), some c, some d, none, none]) (S1 := S) (by simp [hd.len, z2]) rfl]
        have f1 := sfld_ptr (pr := P) (x := "counts") (d := .tup (xs.map .int)) hp h.lc (by simp)
        rw [seq_stp (σ1 := [some (.ptr p), some c, some d, none, none]) (S1 := S.set p (.ins "Scheme" [("counts", .tup (xs.map .int))])) (by simp [hc.tuple, f1]; rfl) rfl]
        have hp1 : (S.set p (.ins "Scheme" [("counts", .tup (xs.map .int))]))[p]? = some (.ins "Scheme" [("counts", .tup (xs.map .int))]) := List.getElem?_set_self hlt
        have hc1 := hc.set (k := "Scheme") (gs := [("counts", .tup (xs.map .int))]) hp
        have hd1 := hd.set (k := "Scheme") (gs := [("counts", .tup (xs.map .int))]) hp
        have f2 := sfld_ptr (pr := P) (x := "total") (d := .int xs.sum) hp1 h.lt' (by simp)
        rw [seq_stp (σ1 := [some (.ptr p), some c, some d, none, none]) (S1 := S.set p (.ins "Scheme" [("counts", .tup (xs.map .int)), ("total", .int xs.sum)])) (by simp [hc1.sum, f2, List.set_set]; rfl) rfl]
        have hp2 : (S.set p (.ins "Scheme" [("counts", .tup (xs.map .int)), ("total", .int xs.sum)]))[p]? = some (.ins "Scheme" [("counts", .tup (xs.map .int)), ("total", .int xs.sum)]) := List.getElem?_set_self hlt
        have hc2 := hc.set (k := "Scheme") (gs := [("counts", .tup (xs.map .int)), ("total", .int xs.sum)]) hp
        have hd2 := hd.set (k := "Scheme") (gs := [("counts", .tup (xs.map .int)), ("total", .int xs.sum)]) hp
        have f3 := sfld_ptr (pr := P) (x := "cost") (d := .int (dot xs ys)) hp2 h.lco (by simp)
        have q := cost_ev (P := P) (cb := run P (j + 1)) (σ := [some (.ptr p), some c, some d, none, none]) (a := .var 1) (b := .var 2) (i := 3) (j := 4) (by simp) (by simp) hc2 hd2 (fun x hx2 => ⟨by
          have := firstNeg_all e1 x hx2
          exact this, hx e1 x hx2⟩) hl (fun x y => ⟨rfl, rfl, rfl⟩)
        have q' : exS P (run P (j + 1)) (.sfld "cost" (.var 0) (.bi .sum (.acons (.comp false [3, 4] .zip (.t [3, 4]) (.acons (.var 1) (.acons (.var 2) .anil)) (.bl true) (.bin .mul (.var 3) (.var 4))) .anil))) [some (.ptr p), some c, some d, none, none] (S.set p (.ins "Scheme" [("counts", .tup (xs.map .int)), ("total", .int xs.sum)])) = .nx [some (.ptr p), some c, some d, none, none] (S.set p (.ins "Scheme" (schF xs ys))) := by
          rw [ex_sfld, q, sr_ok]
          simp [f3, List.set_set]
          rfl
        rw [seq_stp q' rfl]
        rfl
  · rw [if_pos hn]
    have el : evE P (run P (j + 1)) (.bi .len (.acons (.var 2) .anil)) [some (.ptr p), some c, some d, none, none] S = .ok (.int ys.length) S := by simp [hd.len]
    have r := raise_size h (cb := run P (j + 1)) el
    simp [hc.len, hd.len, hn, r]
end
/-! ### the order -/
@[simp] theorem ltB_tup (xs ys : List D) : ltB (.tup xs) (.tup ys) = ltBL xs ys := by rw [ltB]
@[simp] theorem leB_tup (xs ys : List D) : leB (.tup xs) (.tup ys) = leBL xs ys := by rw [leB]
@[simp] theorem ltBL_cons (x y : D) (xs ys : List D) : ltBL (x :: xs) (y :: ys) = if eqB x y then ltBL xs ys else ltB x y := by rw [ltBL]
@[simp] theorem leBL_cons (x y : D) (xs ys : List D) : leBL (x :: xs) (y :: ys) = if eqB x y then leBL xs ys else leB x y := by rw [leBL]
@[simp] theorem ltBL_nn : ltBL [] [] = false := by unfold ltBL; rfl
@[simp] theorem ltBL_nc (y : D) (ys : List D) : ltBL [] (y :: ys) = true := by unfold ltBL; rfl
@[simp] theorem ltBL_cn (y : D) (ys : List D) : ltBL (y :: ys) [] = false := by unfold ltBL; rfl
@[simp] theorem leBL_n (ys : List D) : leBL [] ys = true := by cases ys <;> (unfold leBL; rfl)
@[simp] theorem leBL_cn (y : D) (ys : List D) : leBL (y :: ys) [] = false := by unfold leBL; rfl
theorem ord_ints : ∀ xs ys : List Int, leBL (xs.map .int) (ys.map .int) = (ltBL (xs.map .int) (ys.map .int) || eqBL (xs.map .int) (ys.map .int)) ∧ ltBL (ys.map .int) (xs.map .int) = (!ltBL (xs.map .int) (ys.map .int) && !eqBL (xs.map .int) (ys.map .int))
  | [], [] => by simp
  | [], _ :: _ => by simp
  | _ :: _, [] => by simp
  | x :: xs, y :: ys => by
    obtain ⟨h1, h2⟩ := ord_ints xs ys
    simp only [List.map_cons, leBL_cons, ltBL_cons, eqBL_cons, eqB_int, leB_int, ltB_int]
    by_cases q : x = y
    · subst q
      simp [h1, h2]
    · have q1 : (x == y) = false := by simpa using q
      have q2 : (y == x) = false := by simpa using fun e => q e.symm
      rw [q1, q2]
      simp
      constructor
      · omega
      · by_cases l : x < y
        · simp [l]; omega
        · simp [l]; omega
def keyD (xs ys : List Int) : D := .tup [.int (dot xs ys), .int xs.sum, .tup (xs.map .int)]
def tri (a b : D) : Prop := leB a b = (ltB a b || eqB a b) ∧ ltB b a = (!ltB a b && !eqB a b)
theorem tri_int (i j : Int) : tri (.int i) (.int j) := by
  unfold tri
  simp only [leB_int, ltB_int, eqB_int]
  by_cases q : i = j
  · subst q; simp
  · have q1 : (i == j) = false := by simpa using q
    rw [q1]
    by_cases l : i < j
    · simp [l]; omega
    · simp [l]; omega
theorem tri_ints (xs ys : List Int) : tri (.tup (xs.map .int)) (.tup (ys.map .int)) := by
  unfold tri
  simp only [leB_tup, ltB_tup, eqB_tup]
  exact ord_ints xs ys
theorem eqB_comm_int (i j : Int) : eqB (.int i) (.int j) = eqB (.int j) (.int i) := by
  simp only [eqB_int]
  by_cases q : i = j
  · subst q; rfl
  · have q1 : (i == j) = false := by simpa using q
    have q2 : (j == i) = false := by simpa using fun e => q e.symm
    rw [q1, q2]
theorem eqB_comm_ints (xs ys : List Int) : eqB (.tup (xs.map .int)) (.tup (ys.map .int)) = eqB (.tup (ys.map .int)) (.tup (xs.map .int)) := by
  simp only [eqB_tup, eqBL_ints]
  exact decide_eq_decide.mpr ⟨fun e => e.symm, fun e => e.symm⟩
theorem tri_key (xs ys us vs : List Int) : tri (keyD xs ys) (keyD us vs) := by
  unfold keyD
  obtain ⟨a1, a2⟩ := tri_int (dot xs ys) (dot us vs)
  obtain ⟨b1, b2⟩ := tri_int xs.sum us.sum
  obtain ⟨c1, c2⟩ := tri_ints xs us
  have a3 := eqB_comm_int (dot us vs) (dot xs ys)
  have b3 := eqB_comm_int us.sum xs.sum
  have c3 := eqB_comm_ints us xs
  generalize D.int (dot xs ys) = a at *
  generalize D.int (dot us vs) = a' at *
  generalize D.int xs.sum = b at *
  generalize D.int us.sum = b' at *
  generalize D.tup (xs.map .int) = c at *
  generalize D.tup (us.map .int) = c' at *
  unfold tri
  simp only [leB_tup, ltB_tup, eqB_tup, leBL_cons, ltBL_cons, eqBL_cons, a3, b3, c3, a1, a2, b1, b2, c1, c2, leBL_n, ltBL_nn, eqBL_nil]
  cases eqB a a' <;> cases eqB b b' <;> cases eqB c c' <;> cases ltB a a' <;> cases ltB b b' <;> cases ltB c c' <;> decide
theorem dp_key (n : Nat) (xs ys : List Int) : dpD (n + 2) (keyD xs ys) = true := by
  unfold keyD
  simp [dp_ints]
theorem al_ints : ∀ xs ys : List Int, alBL (xs.map .int) (ys.map .int) = true
  | [], ys => by cases ys <;> (unfold alBL; rfl)
  | x :: xs, [] => by unfold alBL; rfl
  | x :: xs, y :: ys => by
    simp only [List.map_cons]
    unfold alBL
    rw [al_int, al_ints xs ys]
    rfl
theorem al_key (xs ys us vs : List Int) : alB (keyD xs ys) (keyD us vs) = true := by
  unfold keyD
  have e : alB (.tup (xs.map .int)) (.tup (us.map .int)) = true := by unfold alB; exact al_ints _ _
  unfold alB
  unfold alBL
  unfold alBL
  unfold alBL
  unfold alBL
  simp [e]
theorem lt_key (xs ys us vs : List Int) {S : Store} : cmpB .lt S (keyD xs ys) (keyD us vs) = some (ltB (keyD xs ys) (keyD us vs)) := by
  show ltO (keyD xs ys) (keyD us vs) = _
  unfold ltO
  rw [dp_key, dp_key, al_key]
  rfl
theorem le_key (xs ys us vs : List Int) {S : Store} : cmpB .le S (keyD xs ys) (keyD us vs) = some (leB (keyD xs ys) (keyD us vs)) := by
  show leO (keyD xs ys) (keyD us vs) = _
  unfold leO
  rw [dp_key, dp_key, al_key]
  rfl
theorem eq_key (xs ys us vs : List Int) {S : Store} : cmpB .eq S (keyD xs ys) (keyD us vs) = some (eqB (keyD xs ys) (keyD us vs)) := eqO_of (dp_key 6 xs ys) (dp_key 6 us vs)
theorem fld_ptr {pr : Prog} {S : Store} {n : Nat} {x c : String} {fs : List (String × D)} {e : D} (hS : S[n]? = some (.ins c fs)) (h1 : pr.lacks c x = true) (h2 : fs.lookup x = some e) : fldD pr x S (.ptr n) = .ok e S := by
  unfold fldD
  rw [ins_ptr hS]
  show (if pr.lacks c x then match fs.lookup x with
    | some e => Res.ok e S
    | none => Res.bad
    else Res.bad) = _
  rw [if_pos h1, h2]
theorem isX_ptr {kn : String → Bool} {S : Store} {n : Nat} {c : String} {fs : List (String × D)} (hS : S[n]? = some (.ins c fs)) (h : kn c = true) : isiX kn S (.ptr n) (.cls c) = some true := by
  show (match look S (.ptr n) with
    | .ins k _ => if kn k && kn c then some (k == c) else none
    | .scr _ => none
    | .ptr _ => none
    | _ => if kn c then some false else none) = _
  have e : look S (.ptr n) = .ins c fs := by unfold look; simp only [hS]
  rw [e]
  simp [h]
section
variable {P : Prog} (h : SchP P) {S : Store} {p q : Nat} {xs ys us vs : List Int} (hp : S[p]? = some (.ins "Scheme" (schF xs ys))) (hq : S[q]? = some (.ins "Scheme" (schF us vs)))
include h hp hq
theorem sch_lt (j : Nat) : run P (j + 1) "Scheme.__lt__" [.ptr p, .ptr q] S = .ok (.bl (ltB (keyD xs ys) (keyD us vs))) S := by
  rw [run_fn h.lt rfl]
  have st : startD c_Scheme___lt__.ns [.ptr p, .ptr q] = [some (.ptr p), some (.ptr q)] := rfl
  have z := lt_key xs ys us vs (S := S)
  have c1 := fld_ptr hp h.lc (e := .tup (xs.map .int)) rfl
  have c2 := fld_ptr hq h.lc (e := .tup (us.map .int)) rfl
  have t1 := fld_ptr hp h.lt' (e := .int xs.sum) rfl
  have t2 := fld_ptr hq h.lt' (e := .int us.sum) rfl
  have o1 := fld_ptr hp h.lco (e := .int (dot xs ys)) rfl
  have o2 := fld_ptr hq h.lco (e := .int (dot us vs)) rfl
  rw [st]
  unfold c_Scheme___lt__
  unfold keyD at *
  simp [isX_ptr hq h.kn, c1, c2, t1, t2, o1, o2, sizeLine, z, -ltB_tup, -cmpX_n]
theorem sch_le (j : Nat) : run P (j + 1) "Scheme.__le__" [.ptr p, .ptr q] S = .ok (.bl (leB (keyD xs ys) (keyD us vs))) S := by
  rw [run_fn h.le rfl]
  have st : startD c_Scheme___le__.ns [.ptr p, .ptr q] = [some (.ptr p), some (.ptr q)] := rfl
  have z := le_key xs ys us vs (S := S)
  have c1 := fld_ptr hp h.lc (e := .tup (xs.map .int)) rfl
  have c2 := fld_ptr hq h.lc (e := .tup (us.map .int)) rfl
  have t1 := fld_ptr hp h.lt' (e := .int xs.sum) rfl
  have t2 := fld_ptr hq h.lt' (e := .int us.sum) rfl
  have o1 := fld_ptr hp h.lco (e := .int (dot xs ys)) rfl
  have o2 := fld_ptr hq h.lco (e := .int (dot us vs)) rfl
  rw [st]
  unfold c_Scheme___le__
  unfold keyD at *
  simp [isX_ptr hq h.kn, c1, c2, t1, t2, o1, o2, sizeLine, z, -leB_tup, -cmpX_n]
theorem sch_eq (j : Nat) : run P (j + 1) "Scheme.__eq__" [.ptr p, .ptr q] S = .ok (.bl (eqB (keyD xs ys) (keyD us vs))) S := by
  rw [run_fn h.eq rfl]
  have st : startD c_Scheme___eq__.ns [.ptr p, .ptr q] = [some (.ptr p), some (.ptr q)] := rfl
  have z := eq_key xs ys us vs (S := S)
  have c1 := fld_ptr hp h.lc (e := .tup (xs.map .int)) rfl
  have c2 := fld_ptr hq h.lc (e := .tup (us.map .int)) rfl
  have t1 := fld_ptr hp h.lt' (e := .int xs.sum) rfl
  have t2 := fld_ptr hq h.lt' (e := .int us.sum) rfl
  have o1 := fld_ptr hp h.lco (e := .int (dot xs ys)) rfl
  have o2 := fld_ptr hq h.lco (e := .int (dot us vs)) rfl
  rw [st]
  unfold c_Scheme___eq__
  unfold keyD at *
  simp [isX_ptr hq h.kn, c1, c2, t1, t2, o1, o2, sizeLine, z, -eqB_tup, -cmpX_n, -cmp_eq]
omit h in
theorem same_c : sameC S "Scheme" (.ptr q) = true := by
  unfold sameC
  rw [ins_ptr hq]
  rfl
theorem ops (j : Nat) : cmpX P (run P (j + 1)) .lt S (.ptr p) (.ptr q) = .ok (.bl (ltB (keyD xs ys) (keyD us vs))) S ∧ cmpX P (run P (j + 1)) .le S (.ptr p) (.ptr q) = .ok (.bl (leB (keyD xs ys) (keyD us vs))) S ∧
    cmpX P (run P (j + 1)) .gt S (.ptr p) (.ptr q) = .ok (.bl (ltB (keyD us vs) (keyD xs ys))) S ∧ cmpX P (run P (j + 1)) .ge S (.ptr p) (.ptr q) = .ok (.bl (leB (keyD us vs) (keyD xs ys))) S ∧
    cmpX P (run P (j + 1)) .eq S (.ptr p) (.ptr q) = .ok (.bl (eqB (keyD xs ys) (keyD us vs))) S ∧ cmpX P (run P (j + 1)) .ne S (.ptr p) (.ptr q) = .ok (.bl (!eqB (keyD xs ys) (keyD us vs))) S := by
  have sc : sameC S "Scheme" (.ptr q) = true := same_c (p := p) (q := q) hp hq
  have e1 : ∀ op, cmpX P (run P (j + 1)) op S (.ptr p) (.ptr q) = (if op = .eq ∨ op = .ne then
      if (isInt (.ptr q) || sameC S "Scheme" (.ptr q)) = true then asBl (callO (run P (j + 1)) (P.meth "Scheme" "__eq__") [.ptr p, .ptr q] S) (fun t => (op == .ne) != t) else .bad
    else if op = .is_ ∨ op = .isn then ofB S (cmpB op S (.ptr p) (.ptr q))
    else if sameC S "Scheme" (.ptr q) then ordX P (run P (j + 1)) "Scheme" S (.ptr p) (.ptr q) op else .bad) := fun op => by
    unfold cmpX
    rw [ins_ptr hp]
    rfl
  refine ⟨?_, ?_, ?_, ?_, ?_, ?_⟩
  · rw [e1, sc]
    simp [ordX, h.mlt, sch_lt h hp hq]
  · rw [e1, sc]
    simp [ordX, h.mle, sch_le h hp hq]
  · rw [e1, sc]
    simp [ordX, h.mlt, sch_lt h hq hp]
  · rw [e1, sc]
    simp [ordX, h.mle, sch_le h hq hp]
  · rw [e1, sc]
    simp [h.meq, sch_eq h hp hq, show (Cop.eq == Cop.ne) = false from rfl]
  · rw [e1, sc]
    simp [h.meq, sch_eq h hp hq]
theorem ordered (hO : P.fn "_law_ordered" = some c__law_ordered) (j : Nat) : run P (j + 2) "_law_ordered" [.ptr p, .ptr q, keyD xs ys, keyD us vs] S = .ok (.bl true) S := by
  obtain ⟨o1, o2, o3, o4, o5, o6⟩ := ops h hp hq j
  obtain ⟨t1, t2⟩ := tri_key xs ys us vs
  obtain ⟨t3, t4⟩ := tri_key us vs xs ys
  have z1 := lt_key xs ys us vs (S := S)
  have z2 := eq_key xs ys us vs (S := S)
  have ec : eqB (keyD us vs) (keyD xs ys) = eqB (keyD xs ys) (keyD us vs) := by
    unfold keyD
    simp only [eqB_tup, eqBL_cons, eqB_comm_int (dot us vs), eqB_comm_int us.sum, eqBL_ints]
    congr 3
    exact decide_eq_decide.mpr ⟨fun e => e.symm, fun e => e.symm⟩
  rw [ec] at t3 t4
  have kl : ∀ op, cmpX P (run P (j + 1)) op S (keyD xs ys) (keyD us vs) = ofB S (cmpB op S (keyD xs ys) (keyD us vs)) := fun op => cmpX_n rfl
  generalize ltB (keyD xs ys) (keyD us vs) = l at *
  generalize eqB (keyD xs ys) (keyD us vs) = e at *
  have key : ¬ (l = true ∧ e = true) := fun ⟨q1, q2⟩ => by rw [q1, q2] at t4; simp at t4
  rw [run_fn hO rfl]
  have st : startD c__law_ordered.ns [.ptr p, .ptr q, keyD xs ys, keyD us vs] = [some (.ptr p), some (.ptr q), some (keyD xs ys), some (keyD us vs), none, none] := rfl
  rw [st]
  unfold c__law_ordered
  dsimp only
  rw [seq_stp (σ1 := [some (.ptr p), some (.ptr q), some (keyD xs ys), some (keyD us vs), some (.bl l), none]) (S1 := S) (by simp [kl, z1, -cmp_eq]) rfl]
  rw [seq_stp (σ1 := [some (.ptr p), some (.ptr q), some (keyD xs ys), some (keyD us vs), some (.bl l), some (.bl e)]) (S1 := S) (by simp [kl, z2, -cmp_eq]) rfl]
  rw [t1] at o2
  rw [t2] at o3
  rw [t3, t2] at o4
  cases l <;> cases e <;> simp [o1, o2, o3, o4, o5, o6] at key ⊢
end
theorem SeqI.app {S T : Store} {d : D} {xs : List Int} {tp : Bool} (h : SeqI S tp d xs) : SeqI (S ++ T) tp d xs := by
  cases h with
  | ptr e => exact .ptr (by rw [List.getElem?_append_left (List.getElem?_eq_some_iff.mp e).1]; exact e)
  | lst => exact .lst _
  | tup => exact .tup _
section
variable {P : Prog} (h : SchP P)
include h
/-- Scheme(c, d) -/
def mkR (S : Store) (xs ys : List Int) : Res D :=
  if (ys.length : Int) ≠ xs.length then .ex ⟨"BadSize", [("size", .int ys.length)]⟩ (S ++ [.ins "Scheme" []]) else match firstNeg xs with
    | some k => .ex ⟨"BadCount", [("count", .int k)]⟩ (S ++ [.ins "Scheme" []])
    | none => match firstNeg ys with
      | some k => .ex ⟨"BadCount", [("count", .int k)]⟩ (S ++ [.ins "Scheme" []])
      | none => .ok (.ptr S.length) (S ++ [.ins "Scheme" (schF xs ys)])
theorem mk_sch (j : Nat) {S : Store} {c d : D} {xs ys : List Int} {tp : Bool} (hc : SeqI S tp c xs) (hd : SeqI S tp d ys) (hx : firstNeg xs = none → ∀ x ∈ xs, x < 18446744073709551616) (hl : xs.length ≤ sizeLine) : mkX P (run P (j + 2)) "Scheme" [c, d] S = mkR S xs ys := by
  obtain ⟨k, k1, k2⟩ := h.ct
  have e : mkX P (run P (j + 2)) "Scheme" [c, d] S = mkK (run P (j + 2) "Scheme.__init__") "Scheme" [c, d] S := by
    unfold mkX
    rw [k1]
    show (match k.init with
    | some (f, m) => mkM (run P (j + 2)) m "Scheme" f [c, d] S
    | none => .bad) = _
    rw [k2]
    rfl
  have hp : (S ++ [Cell.ins "Scheme" []])[S.length]? = some (.ins "Scheme" []) := by simp
  have z := ini_run h j hp hc.app hd.app hx hl
  rw [e]
  unfold mkK
  rw [z]
  unfold iniR mkR
  by_cases hn : (ys.length : Int) ≠ xs.length
  · rw [if_pos hn, if_pos hn]
  · rw [if_neg hn, if_neg hn]
    cases firstNeg xs with
    | some k => rfl
    | none =>
      cases firstNeg ys with
      | some k => rfl
      | none =>
        show Res.ok (D.ptr S.length) ((S ++ [Cell.ins "Scheme" []]).set S.length (.ins "Scheme" (schF xs ys))) = _
        rw [List.set_append_right _ _ (Nat.le_refl _), Nat.sub_self]
        rfl
def madeD (xs ys : List Int) : D :=
  if (ys.length : Int) ≠ xs.length then .tup [tx "BadSize", .int ys.length] else match firstNeg xs with
    | some k => .tup [tx "BadCount", .int k]
    | none => match firstNeg ys with
      | some k => .tup [tx "BadCount", .int k]
      | none => .tup [tx "made", .lst [.tup (xs.map .int), .int xs.sum, .int (dot xs ys)]]
omit h in
theorem madeD_pf (xs ys : List Int) : (madeD xs ys).pf = true := by
  unfold madeD
  split
  · simp
  · split
    · simp
    · split <;> simp
theorem made_run (hM : P.fn "_law_made" = some c__law_made) (j : Nat) {c d : D} {xs ys : List Int} {tp : Bool} (hc : SeqI [] tp c xs) (hd : SeqI [] tp d ys) (hx : firstNeg xs = none → ∀ x ∈ xs, x < 18446744073709551616) (hl : xs.length ≤ sizeLine) : ∃ S', run P (j + 3) "_law_made" [c, d] [] = .ok (madeD xs ys) S' := by
  have z := mk_sch h j hc hd hx hl
  rw [run_fn hM rfl]
  have st : startD c__law_made.ns [c, d] = [some c, some d, none, none] := rfl
  rw [st]
  unfold c__law_made
  unfold mkR at z
  unfold madeD
  have hp : ([Cell.ins "Scheme" (schF xs ys)] : Store)[0]? = some (.ins "Scheme" (schF xs ys)) := rfl
  have f1 := fld_ptr hp h.lc (e := .tup (xs.map .int)) rfl
  have f2 := fld_ptr hp h.lt' (e := .int xs.sum) rfl
  have f3 := fld_ptr hp h.lco (e := .int (dot xs ys)) rfl
  by_cases hn : (ys.length : Int) ≠ xs.length
  · rw [if_pos hn] at z ⊢
    exact ⟨[.ins "Scheme" []], by simp [z, hdS, xeL, xeD, h.xS, unO, sizeLine, tx]⟩
  · rw [if_neg hn] at z ⊢
    cases e1 : firstNeg xs with
    | some k =>
      rw [e1] at z
      exact ⟨[.ins "Scheme" []], by simp [z, hdS, xeL, xeD, h.xC, unO, sizeLine, tx]⟩
    | none =>
      rw [e1] at z
      cases e2 : firstNeg ys with
      | some k =>
        rw [e2] at z
        exact ⟨[.ins "Scheme" []], by simp [z, hdS, xeL, xeD, h.xC, unO, sizeLine, tx]⟩
      | none =>
        rw [e2] at z
        exact ⟨[.ins "Scheme" (schF xs ys)], by simp [z, f1, f2, f3, sizeLine, tx]⟩
omit h in
theorem SeqI.pf {S : Store} {d : D} {xs : List Int} (h : SeqI [] tp d xs) : d.pf = true := by
  cases h with
  | ptr e => cases e
  | lst => simp
  | tup => simp
theorem made_call (hM : P.fn "_law_made" = some c__law_made) (j : Nat) {c d : D} {xs ys : List Int} {tp : Bool} (hc : SeqI [] tp c xs) (hd : SeqI [] tp d ys) (hx : firstNeg xs = none → ∀ x ∈ xs, x < 18446744073709551616) (hl : xs.length ≤ sizeLine) (S : Store) : callP (run P (j + 3)) "_law_made" [c, d] S = .ok (madeD xs ys) S := by
  obtain ⟨S', e⟩ := made_run h hM j hc hd hx hl
  exact callP_ok (by simp [hc.pf (S := S), hd.pf (S := S)]) e (madeD_pf _ _)
end
/-! ### what is drawn -/
abbrev Row := List Int × List Int
def rowD (r : Row) : D := .tup [.lst (r.1.map .int), .lst (r.2.map .int)]
structure Good (r : Row) : Prop where
  len : r.1.length = r.2.length
  few : r.1.length ≤ 6
  cn : ∀ x ∈ r.1, 0 ≤ x ∧ x < 14
  pr : ∀ y ∈ r.2, 0 ≤ y
def drB : Sx := (.seq (.asg 3 (.bin .mod (.bi .int (.acons (.idx (.var 0) (.var 2)) .anil)) (.int 7)))
  (.seq (.asg 4 (.bin .add (.int 4) (.bin .mul (.int 12) (.var 2))))
  (.seq (.asg 5 (.idx (.lst (.acons (.int 5) (.acons (.int 14) .anil))) (.bin .mod (.bi .int (.acons (.idx (.var 0) (.int 57)) .anil)) (.int 2))))
  (.seq (.asg 6 (.comp false [10] .seq (.n 10) (.cut (.var 0) (.part (.var 4)) (.part (.bin .add (.var 4) (.var 3)))) (.bl true) (.bin .mod (.bi .int (.acons (.var 10) .anil)) (.var 5))))
  (.seq (.asg 7 (.comp false [10] .seq (.n 10) (.cut (.var 0) (.part (.bin .add (.var 4) (.int 6))) (.part (.bin .add (.bin .add (.var 4) (.int 6)) (.var 3)))) (.bl true) (.bin .mod (.bi .int (.acons (.var 10) .anil)) (.int 6))))
  (.seq (.ifs (.cmp .eq (.bin .mod (.bi .int (.acons (.idx (.var 0) (.int 52)) .anil)) (.int 4)) (.int 0)) (.seq (.asg 7 (.comp false [10] .seq (.n 10) (.cut (.var 0) (.part (.bin .add (.var 4) (.int 6))) (.part (.bin .add (.bin .add (.var 4) (.int 6)) (.var 3)))) (.bl true) (.bin .mul (.bi .int (.acons (.var 10) .anil)) (.int 198))))
  .nil) .nil)
  (.seq (.asg 8 (.bin .mod (.bi .int (.acons (.idx (.var 0) (.bin .add (.int 53) (.var 2))) .anil)) (.int 4)))
  (.seq (.ifs (.and (.cmp .gt (.var 2) (.int 0)) (.cmp .eq (.var 8) (.int 0))) (.seq (.asg 6 (.bi .list (.acons (.idx (.idx (.var 1) (.int 0)) (.int 0)) .anil)))
  (.seq (.asg 9 (.idx (.idx (.var 1) (.int 0)) (.int 1)))
  (.seq (.asg 7 (.comp false [10] .seq (.n 10) (.irng1 (.bi .len (.acons (.var 9) .anil))) (.bl true) (.bin .add (.idx (.var 9) (.var 10)) (.bi .int (.acons (.cmp .eq (.idx (.var 6) (.var 10)) (.int 0)) .anil)))))
  .nil))) .nil)
  (.seq (.ifs (.and (.cmp .gt (.var 2) (.int 0)) (.cmp .eq (.var 8) (.int 1))) (.seq (.asg 6 (.rev (.bi .list (.acons (.idx (.idx (.var 1) (.int 0)) (.int 0)) .anil))))
  (.seq (.asg 7 (.rev (.bi .list (.acons (.idx (.idx (.var 1) (.int 0)) (.int 1)) .anil))))
  .nil)) .nil)
  (.seq (.ifs (.and (.cmp .gt (.var 2) (.int 0)) (.and (.cmp .eq (.var 8) (.int 2)) (.cmp .lt (.bi .len (.acons (.idx (.idx (.var 1) (.int 0)) (.int 0)) .anil)) (.int 6)))) (.seq (.asg 6 (.bin .add (.idx (.idx (.var 1) (.int 0)) (.int 0)) (.lst (.acons (.bin .mod (.bi .int (.acons (.idx (.var 0) (.bin .add (.int 58) (.var 2))) .anil)) (.int 3)) .anil))))
  (.seq (.asg 7 (.bin .add (.idx (.idx (.var 1) (.int 0)) (.int 1)) (.lst (.acons (.int 0) .anil))))
  .nil)) .nil)
  (.seq (.ex (.app (.var 1) (.tup (.acons (.var 6) (.acons (.var 7) .anil)))))
  .nil)))))))))))
abbrev T31 (xs : List Int) (k : Nat) (n mo y4 : Int) (q9 o10 : Option D) (r : Row) : DSt := [some (.lst (xs.map .int)), some (.ptr 0), some (.int (k : Int)), some (.int n), some (.int (4 + 12 * (k : Int))), some (.int mo), some (.lst (r.1.map .int)), some (.lst (r.2.map .int)), some (.int (y4 % 4)), q9, o10]
section
variable {P : Prog} {cb : Cb}
theorem cutI_ok {xs : List Int} {a b : Int} (h0 : 0 ≤ a) (h1 : a ≤ b) (h2 : b ≤ xs.length) : cutL (xs.map D.int) (some a) (some b) = ((xs.drop a.toNat).take (b - a).toNat).map .int := by
  rw [cutL_ok h0 h1 (by rw [List.length_map]; exact h2), ← List.map_drop, ← List.map_take]
theorem dr_turn {xs : List Int} (hx : Small xs) (hl : xs.length = 70) {rs : List Row} (hg : ∀ r ∈ rs, Good r) (k : Nat) (hk : k < 4) (hr : rs.length = k) (o3 o4 o5 o6 o7 o8 o9 o10 : Option D) :
    pst (exS P cb drB [some (.lst (xs.map .int)), some (.ptr 0), some (.int (k : Int)), o3, o4, o5, o6, o7, o8, o9, o10] [.lst (rs.map rowD)])
      (fun σ S => ∃ r q3 q4 q5 q6 q7 q8 q9 q10, Good r ∧ σ = [some (.lst (xs.map .int)), some (.ptr 0), some (.int (k : Int)), q3, q4, q5, q6, q7, q8, q9, q10] ∧ S = [.lst ((rs ++ [r]).map rowD)]) (fun _ _ => False) := by
  have i1 := getD_idx (S := [.lst (rs.map rowD)]) (xs := xs) (i := (k : Int)) (by omega) (by omega)
  have i2 := getD_idx (S := [.lst (rs.map rowD)]) (xs := xs) (i := 57) (by omega) (by omega)
  have i3 := getD_idx (S := [.lst (rs.map rowD)]) (xs := xs) (i := 52) (by omega) (by omega)
  have i4 := getD_idx (S := [.lst (rs.map rowD)]) (xs := xs) (i := 53 + (k : Int)) (by omega) (by omega)
  have i5 := getD_idx (S := [.lst (rs.map rowD)]) (xs := xs) (i := 58 + (k : Int)) (by omega) (by omega)
  have b1 := small_getD hx (k : Int).toNat
  have b2 := small_getD hx (57 : Int).toNat
  have b3 := small_getD hx (52 : Int).toNat
  have b4 := small_getD hx (53 + (k : Int)).toNat
  have b5 := small_getD hx (58 + (k : Int)).toNat
  generalize xs.getD (k : Int).toNat 0 = y1 at *
  generalize xs.getD (57 : Int).toNat 0 = y2 at *
  generalize xs.getD (52 : Int).toNat 0 = y3 at *
  generalize xs.getD (53 + (k : Int)).toNat 0 = y4 at *
  generalize xs.getD (58 + (k : Int)).toNat 0 = y5 at *
  unfold drB
  have m1 := fun S => bin_mul (S := S) (i := 12) (j := (k : Int)) (by omega)
  have d1 := fun S => bin_mod (S := S) (i := y1) (j := 7) (by omega)
  have d2 := fun S => bin_mod (S := S) (i := y2) (j := 2) (by omega)
  have d3 := fun S => bin_mod (S := S) (i := y3) (j := 4) (by omega)
  have d4 := fun S => bin_mod (S := S) (i := y4) (j := 4) (by omega)
  have d5 := fun S => bin_mod (S := S) (i := y5) (j := 3) (by omega)
  -- the size, the place
  obtain ⟨n, hn, hn0, hn6⟩ : ∃ n : Int, y1 % 7 = n ∧ 0 ≤ n ∧ n ≤ 6 := ⟨_, rfl, by omega, by omega⟩
  refine pst_stp (by (conv => lhs; simp [-ev_comp, -ev_compT, -ex_for, -ex_forT, -ev_str, i1, d1, hn]) <;> rfl) ?_
  refine pst_stp (by (conv => lhs; simp [-ev_comp, -ev_compT, -ex_for, -ex_forT, -ev_str, m1]) <;> rfl) ?_
  obtain ⟨mo, hmo, h14, e14⟩ : ∃ mo : Int, 0 < mo ∧ mo ≤ 14 ∧ ∀ S, idxD S (.lst [.int 5, .int 14]) (.int (y2 % 2)) = .ok (.int mo) S := by
    rcases (by omega : y2 % 2 = 0 ∨ y2 % 2 = 1) with e | e <;> rw [e]
    · exact ⟨5, by omega, by omega, fun S => rfl⟩
    · exact ⟨14, by omega, by omega, fun S => rfl⟩
  refine pst_stp (by (conv => lhs; simp [-ev_comp, -ev_compT, -ex_for, -ex_forT, -ev_str, i2, d2, e14, sizeLine]) <;> rfl) ?_
  -- counts, prices
  have sz : sizeLine = 16777216 := rfl
  obtain ⟨cs, ecs⟩ : ∃ cs, cs = ((xs.drop (4 + 12 * (k : Int)).toNat).take n.toNat).map (fun x => x % mo) := ⟨_, rfl⟩
  obtain ⟨ps, eps⟩ : ∃ ps, ps = ((xs.drop (4 + 12 * (k : Int) + 6).toNat).take n.toNat).map (fun x => x % 6) := ⟨_, rfl⟩
  obtain ⟨qs, eqs⟩ : ∃ qs, qs = ((xs.drop (4 + 12 * (k : Int) + 6).toNat).take n.toNat).map (fun x => x * 198) := ⟨_, rfl⟩
  have lcs : cs.length = n.toNat := by rw [ecs, List.length_map, List.length_take, List.length_drop]; omega
  have lps : ps.length = n.toNat := by rw [eps, List.length_map, List.length_take, List.length_drop]; omega
  have lqs : qs.length = n.toNat := by rw [eqs, List.length_map, List.length_take, List.length_drop]; omega
  have mem : ∀ {a b : Nat} {x : Int}, x ∈ (xs.drop a).take b → 0 ≤ x ∧ x < 5040 := fun {a b x} hm => hx x (List.mem_of_mem_drop (List.mem_of_mem_take hm))
  have e1 : ∀ o6 o7 o8 o9 o10, evE P cb (.comp false [10] .seq (.n 10) (.cut (.var 0) (.part (.var 4)) (.part (.bin .add (.var 4) (.var 3)))) (.bl true) (.bin .mod (.bi .int (.acons (.var 10) .anil)) (.var 5))) [some (.lst (xs.map .int)), some (.ptr 0), some (.int (k : Int)), some (.int n), some (.int (4 + 12 * (k : Int))), some (.int mo), o6, o7, o8, o9, o10] [.lst (rs.map rowD)] = .ok (.lst (cs.map .int)) [.lst (rs.map rowD)] := fun o6 o7 o8 o9 o10 => by
    have c := cutI_ok (xs := xs) (a := 4 + 12 * (k : Int)) (b := 4 + 12 * (k : Int) + n) (by omega) (by omega) (by omega)
    rw [show 4 + 12 * (k : Int) + n - (4 + 12 * (k : Int)) = n by omega] at c
    rw [ecs]
    refine comp_ints (S1 := [.lst (rs.map rowD)]) (by simp [cut_lst, c]) (fun x hx => ?_) (by rw [List.length_take, sz]; omega)
    have := fun S => bin_mod (S := S) (i := x) (j := mo) hmo
    simp [wipeD, this]
  have e2 : ∀ o6 o7 o8 o9 o10, evE P cb (.comp false [10] .seq (.n 10) (.cut (.var 0) (.part (.bin .add (.var 4) (.int 6))) (.part (.bin .add (.bin .add (.var 4) (.int 6)) (.var 3)))) (.bl true) (.bin .mod (.bi .int (.acons (.var 10) .anil)) (.int 6))) [some (.lst (xs.map .int)), some (.ptr 0), some (.int (k : Int)), some (.int n), some (.int (4 + 12 * (k : Int))), some (.int mo), o6, o7, o8, o9, o10] [.lst (rs.map rowD)] = .ok (.lst (ps.map .int)) [.lst (rs.map rowD)] := fun o6 o7 o8 o9 o10 => by
    have c := cutI_ok (xs := xs) (a := 4 + 12 * (k : Int) + 6) (b := 4 + 12 * (k : Int) + 6 + n) (by omega) (by omega) (by omega)
    rw [show 4 + 12 * (k : Int) + 6 + n - (4 + 12 * (k : Int) + 6) = n by omega] at c
    rw [eps]
    refine comp_ints (S1 := [.lst (rs.map rowD)]) (by simp [cut_lst, c]) (fun x hx => ?_) (by rw [List.length_take, sz]; omega)
    have := fun S => bin_mod (S := S) (i := x) (j := 6) (by omega)
    simp [wipeD, this]
  have e3 : ∀ o6 o7 o8 o9 o10, evE P cb (.comp false [10] .seq (.n 10) (.cut (.var 0) (.part (.bin .add (.var 4) (.int 6))) (.part (.bin .add (.bin .add (.var 4) (.int 6)) (.var 3)))) (.bl true) (.bin .mul (.bi .int (.acons (.var 10) .anil)) (.int 198))) [some (.lst (xs.map .int)), some (.ptr 0), some (.int (k : Int)), some (.int n), some (.int (4 + 12 * (k : Int))), some (.int mo), o6, o7, o8, o9, o10] [.lst (rs.map rowD)] = .ok (.lst (qs.map .int)) [.lst (rs.map rowD)] := fun o6 o7 o8 o9 o10 => by
    have c := cutI_ok (xs := xs) (a := 4 + 12 * (k : Int) + 6) (b := 4 + 12 * (k : Int) + 6 + n) (by omega) (by omega) (by omega)
    rw [show 4 + 12 * (k : Int) + 6 + n - (4 + 12 * (k : Int) + 6) = n by omega] at c
    rw [eqs]
    refine comp_ints (S1 := [.lst (rs.map rowD)]) (by simp [cut_lst, c]) (fun x hx => ?_) (by rw [List.length_take, sz]; omega)
    have := mem hx
    have := fun S => bin_mul (S := S) (i := x) (j := 198) (by omega)
    simp [wipeD, this]
  have g1 : ∀ x ∈ cs, 0 ≤ x ∧ x < 14 := fun x hm => by
    rw [ecs] at hm
    obtain ⟨z, _, rfl⟩ := List.mem_map.mp hm
    have := Int.emod_nonneg z (show mo ≠ 0 by omega)
    have := Int.emod_lt_of_pos z hmo
    omega
  have g2 : ∀ x ∈ ps, 0 ≤ x := fun x hm => by
    rw [eps] at hm
    obtain ⟨z, _, rfl⟩ := List.mem_map.mp hm
    omega
  have g3 : ∀ x ∈ qs, 0 ≤ x := fun x hm => by
    rw [eqs] at hm
    obtain ⟨z, hz, rfl⟩ := List.mem_map.mp hm
    have := mem hz
    omega
  refine pst_stp (by (conv => lhs; simp [-ev_comp, -ev_compT, -ex_for, -ex_forT, -ev_str, e1]) <;> rfl) ?_
  refine pst_stp (by (conv => lhs; simp [-ev_comp, -ev_compT, -ex_for, -ex_forT, -ev_str, e2]) <;> rfl) ?_
  -- prices of another kind
  refine pst_seq (M := fun σ S => ∃ p : List Int, Good (cs, p) ∧ σ = [some (.lst (xs.map .int)), some (.ptr 0), some (.int (k : Int)), some (.int n), some (.int (4 + 12 * (k : Int))), some (.int mo), some (.lst (cs.map .int)), some (.lst (p.map .int)), o8, o9, o10] ∧ S = [.lst (rs.map rowD)]) ?_ ?_
  · by_cases q : y3 % 4 = 0
    · exact pst_nx (by simp [-ev_comp, i3, d3, q, e3]) ⟨qs, ⟨by rw [lcs, lqs], by show cs.length ≤ 6; rw [lcs]; omega, g1, g3⟩, rfl, rfl⟩
    · exact pst_nx (by simp [-ev_comp, i3, d3, q]) ⟨ps, ⟨by rw [lcs, lps], by show cs.length ≤ 6; rw [lcs]; omega, g1, g2⟩, rfl, rfl⟩
  rintro σ1 S1 ⟨p, gp, rfl, rfl⟩
  refine pst_stp (by (conv => lhs; simp [-ev_comp, -ev_compT, -ex_for, -ex_forT, -ev_str, i4, d4]) <;> rfl) ?_
  -- the first row
  have first : 0 < k → ∃ r0, Good r0 ∧ idxD [.lst (rs.map rowD)] (.ptr 0) (.int 0) = .ok (rowD r0) [.lst (rs.map rowD)] := fun hk0 => by
    cases rs with
    | nil => simp at hr; omega
    | cons r0 rest => exact ⟨r0, hg r0 List.mem_cons_self, idx_ptr (n := 0) rfl (by omega) rfl⟩
  have t0 : ∀ (r : Row) (S : Store), idxD S (rowD r) (.int 0) = .ok (.lst (r.1.map .int)) S := fun r S => rfl
  have t1 : ∀ (r : Row) (S : Store), idxD S (rowD r) (.int 1) = .ok (.lst (r.2.map .int)) S := fun r S => rfl
  have bl : ∀ (l : List D) (S : Store), biD .list S [.lst l] = .ok (.lst l) S := fun l S => rfl
  have k0 : decide ((0 : Int) < (k : Int)) = decide (0 < k) := decide_eq_decide.mpr (by omega)
  let M : DSt → Store → Prop := fun σ S => ∃ (r : Row) (q9 : Option D), Good r ∧ σ = [some (.lst (xs.map .int)), some (.ptr 0), some (.int (k : Int)), some (.int n), some (.int (4 + 12 * (k : Int))), some (.int mo), some (.lst (r.1.map .int)), some (.lst (r.2.map .int)), some (.int (y4 % 4)), q9, o10] ∧ S = [.lst (rs.map rowD)]
  refine pst_seq (M := M) ?_ ?_
  · by_cases q : 0 < k ∧ y4 % 4 = 0
    · obtain ⟨r0, gr, f0⟩ := first q.1
      have gl : r0.2.length ≤ sizeLine := by have := gr.few; have := gr.len; rw [sz]; omega
      have rg : ∀ σ, σ[9]? = some (some (.lst (r0.2.map .int))) → evE P cb (.irng1 (.bi .len (.acons (.var 9) .anil))) σ [.lst (rs.map rowD)] = .ok (.lst (((List.range r0.2.length).map fun (k : Nat) => (k : Int)).map .int)) [.lst (rs.map rowD)] := fun σ hσ => by
        have := ev_rng1 (pr := P) (cb := cb) (σ := σ) (S := [.lst (rs.map rowD)]) (S1 := [.lst (rs.map rowD)]) (e := .bi .len (.acons (.var 9) .anil)) (n := (r0.2.length : Int)) (by simp [hσ]) (by rw [sz] at gl; omega)
        rw [this, List.map_map, Int.toNat_natCast]
        rfl
      have cm : evE P cb (.comp false [10] .seq (.n 10) (.irng1 (.bi .len (.acons (.var 9) .anil))) (.bl true) (.bin .add (.idx (.var 9) (.var 10)) (.bi .int (.acons (.cmp .eq (.idx (.var 6) (.var 10)) (.int 0)) .anil)))) [some (.lst (xs.map .int)), some (.ptr 0), some (.int (k : Int)), some (.int n), some (.int (4 + 12 * (k : Int))), some (.int mo), some (.lst (r0.1.map .int)), some (.lst (p.map .int)), some (.int (y4 % 4)), some (.lst (r0.2.map .int)), o10] [.lst (rs.map rowD)] = .ok (.lst ((((List.range r0.2.length).map fun (k : Nat) => (k : Int)).map fun x => r0.2.getD x.toNat 0 + (if r0.1.getD x.toNat 0 == 0 then 1 else 0)).map .int)) [.lst (rs.map rowD)] := by
        refine comp_ints (rg _ rfl) (fun x hm => ?_) (by rw [List.length_map, List.length_range]; exact gl)
        obtain ⟨z, hz, rfl⟩ := List.mem_map.mp hm
        have hz := List.mem_range.mp hz
        have u1 := getD_idx (S := [.lst (rs.map rowD)]) (xs := r0.2) (i := (z : Int)) (by omega) (by omega)
        have u2 := getD_idx (S := [.lst (rs.map rowD)]) (xs := r0.1) (i := (z : Int)) (by omega) (by have := gr.len; omega)
        have u3 : ∀ (b : Bool) (S : Store), biD .int S [.bl b] = .ok (.int (if b then 1 else 0)) S := fun b S => rfl
        simp [wipeD, u1, u2, u3]
      have cm' := cm
      rw [q.2] at cm'
      exact pst_nx (σ := T31 xs k n mo y4 (some (.lst (r0.2.map .int))) o10 (r0.1, ((List.range r0.2.length).map fun (k : Nat) => (k : Int)).map fun x => r0.2.getD x.toNat 0 + (if r0.1.getD x.toNat 0 == 0 then 1 else 0))) (S := [.lst (rs.map rowD)]) (by simp only [q.2]; simp [-ev_comp, -List.map_map, k0, q.1, f0, t0, t1, bl, cm']; exact q.2.symm) ⟨(r0.1, ((List.range r0.2.length).map fun (k : Nat) => (k : Int)).map fun x => r0.2.getD x.toNat 0 + (if r0.1.getD x.toNat 0 == 0 then 1 else 0)), some (.lst (r0.2.map .int)), ⟨by simp [gr.len], gr.few, gr.cn, fun y hy => by
        obtain ⟨x, hm, rfl⟩ := List.mem_map.mp hy
        have : 0 ≤ r0.2.getD x.toNat 0 := by
          rw [List.getD_eq_getElem?_getD]
          cases e : r0.2[x.toNat]? with
          | none => simp
          | some v => exact gr.pr v (List.mem_of_getElem? e)
        split <;> omega⟩, rfl, rfl⟩
    · refine pst_nx (σ := [some (.lst (xs.map .int)), some (.ptr 0), some (.int (k : Int)), some (.int n), some (.int (4 + 12 * (k : Int))), some (.int mo), some (.lst (cs.map .int)), some (.lst (p.map .int)), some (.int (y4 % 4)), o9, o10]) (S := [.lst (rs.map rowD)]) ?_ ⟨(cs, p), o9, gp, rfl, rfl⟩
      by_cases q1 : 0 < k
      · have q2 : ¬ y4 % 4 = 0 := fun e => q ⟨q1, e⟩
        simp [-ev_comp, k0, q1, q2]
      · simp [-ev_comp, k0, q1]
  clear gp
  rintro σ1 S1 ⟨r, q9, gp, rfl, rfl⟩
  refine pst_seq (M := M) ?_ ?_
  · by_cases q : 0 < k ∧ y4 % 4 = 1
    · obtain ⟨r0, gr, f0⟩ := first q.1
      exact pst_nx (σ := T31 xs k n mo y4 q9 o10 (r0.1.reverse, r0.2.reverse)) (S := [.lst (rs.map rowD)]) (by simp [-ev_comp, k0, q.1, q.2, f0, t0, t1, bl, List.map_reverse]) ⟨(r0.1.reverse, r0.2.reverse), q9, ⟨by simp [gr.len], by simpa using gr.few, by simpa using gr.cn, by simpa using gr.pr⟩, rfl, rfl⟩
    · refine pst_nx (σ := [some (.lst (xs.map .int)), some (.ptr 0), some (.int (k : Int)), some (.int n), some (.int (4 + 12 * (k : Int))), some (.int mo), some (.lst (r.1.map .int)), some (.lst (r.2.map .int)), some (.int (y4 % 4)), q9, o10]) (S := [.lst (rs.map rowD)]) ?_ ⟨r, q9, gp, rfl, rfl⟩
      by_cases q1 : 0 < k
      · have q2 : ¬ y4 % 4 = 1 := fun e => q ⟨q1, e⟩
        simp [-ev_comp, k0, q1, q2]
      · simp [-ev_comp, k0, q1]
  clear gp
  rintro σ1 S1 ⟨r, q9, gp, rfl, rfl⟩
  refine pst_seq (M := M) ?_ ?_
  · by_cases q1 : 0 < k
    · obtain ⟨r0, gr, f0⟩ := first q1
      by_cases q : y4 % 4 = 2 ∧ r0.1.length < 6
      · have ca : ∀ (l : List Int) (z : Int) (hl : l.length ≤ 6), binX P cb .add [.lst (rs.map rowD)] (.lst (l.map .int)) (.lst [.int z]) = .ok (.lst ((l ++ [z]).map .int)) [.lst (rs.map rowD)] := fun l z hl => by
          rw [binX_n rfl rfl, bin_cat (look_lst _) (look_lst _) (by simp [sz]; omega), List.map_append]
          rfl
        have ql : (r0.1.length : Int) < 6 := by omega
        have c1 := ca r0.1 (y5 % 3) gr.few
        have c2 := ca r0.2 0 (by rw [← gr.len]; exact gr.few)
        exact pst_nx (σ := T31 xs k n mo y4 q9 o10 (r0.1 ++ [y5 % 3], r0.2 ++ [0])) (S := [.lst (rs.map rowD)]) (by simp [-ev_comp, -List.map_append, k0, q1, q.1, ql, q.2, f0, t0, t1, bl, i5, d5, sizeLine, c1, c2]) ⟨(r0.1 ++ [y5 % 3], r0.2 ++ [0]), q9, ⟨by simp [gr.len], by simp; omega, fun x hm => by
          rcases List.mem_append.mp hm with z | z
          · exact gr.cn x z
          · rw [List.mem_singleton.mp z]; omega, fun x hm => by
          rcases List.mem_append.mp hm with z | z
          · exact gr.pr x z
          · rw [List.mem_singleton.mp z]; omega⟩, rfl, rfl⟩
      · refine pst_nx (σ := [some (.lst (xs.map .int)), some (.ptr 0), some (.int (k : Int)), some (.int n), some (.int (4 + 12 * (k : Int))), some (.int mo), some (.lst (r.1.map .int)), some (.lst (r.2.map .int)), some (.int (y4 % 4)), q9, o10]) (S := [.lst (rs.map rowD)]) ?_ ⟨r, q9, gp, rfl, rfl⟩
        by_cases q2 : y4 % 4 = 2
        · have q3 : ¬ (r0.1.length : Int) < 6 := fun e => q ⟨q2, by omega⟩
          have q4 : 6 ≤ r0.1.length := by omega
          simp [-ev_comp, k0, q1, q2, f0, t0, q3, q4]
        · simp [-ev_comp, k0, q1, q2, f0, t0]
    · refine pst_nx (σ := [some (.lst (xs.map .int)), some (.ptr 0), some (.int (k : Int)), some (.int n), some (.int (4 + 12 * (k : Int))), some (.int mo), some (.lst (r.1.map .int)), some (.lst (r.2.map .int)), some (.int (y4 % 4)), q9, o10]) (S := [.lst (rs.map rowD)]) ?_ ⟨r, q9, gp, rfl, rfl⟩
      simp [-ev_comp, k0, q1]
  clear gp
  rintro σ1 S1 ⟨r, q9, gp, rfl, rfl⟩
  refine pst_stp (σ1 := [some (.lst (xs.map .int)), some (.ptr 0), some (.int (k : Int)), some (.int n), some (.int (4 + 12 * (k : Int))), some (.int mo), some (.lst (r.1.map .int)), some (.lst (r.2.map .int)), some (.int (y4 % 4)), q9, o10]) (S1 := [.lst ((rs ++ [r]).map rowD)]) ?_ ?_
  · have : rs.length < 16777216 := by omega
    simp [sizeLine, this, rowD]
  · exact ⟨r, _, _, _, _, _, _, _, _, gp, rfl, rfl⟩
end
theorem drawn_call {P : Prog} (hD : P.fn "_law_drawn" = some c__law_drawn) (j : Nat) {xs : List Int} (hx : Small xs) (hl : xs.length = 70) : ∃ rs : List Row, rs.length = 4 ∧ (∀ r ∈ rs, Good r) ∧ ∀ S, callP (run P (j + 1)) "_law_drawn" [.lst (xs.map .int)] S = .ok (.lst (rs.map rowD)) S := by
  have body : pst (exS P (run P j) c__law_drawn.body (startD c__law_drawn.ns [.lst (xs.map .int)]) []) (fun _ _ => False) (fun d S => ∃ rs : List Row, rs.length = 4 ∧ (∀ r ∈ rs, Good r) ∧ d = .ptr 0 ∧ S = [.lst (rs.map rowD)]) := by
    have st : startD c__law_drawn.ns [.lst (xs.map .int)] = [some (.lst (xs.map .int)), none, none, none, none, none, none, none, none, none, none] := rfl
    rw [st]
    unfold c__law_drawn
    dsimp only
    refine pst_stp (by (conv => lhs; simp [-ev_comp, -ev_compT, -ex_for, -ex_forT, -ev_str, sizeLine]) <;> rfl) ?_
    refine pst_seq (M := fun σ S => ∃ (rs : List Row) (o2 o3 o4 o5 o6 o7 o8 o9 o10 : Option D), rs.length = 4 ∧ (∀ r ∈ rs, Good r) ∧ σ = [some (.lst (xs.map .int)), some (.ptr 0), o2, o3, o4, o5, o6, o7, o8, o9, o10] ∧ S = [.lst (rs.map rowD)]) ?_ ?_
    · refine pst_rng (n := 4) (S1 := [.lst []]) (by simp) (by omega) (fun i σ S => ∃ (rs : List Row) (o2 o3 o4 o5 o6 o7 o8 o9 o10 : Option D), rs.length = i ∧ (∀ r ∈ rs, Good r) ∧ σ = [some (.lst (xs.map .int)), some (.ptr 0), o2, o3, o4, o5, o6, o7, o8, o9, o10] ∧ S = [.lst (rs.map rowD)]) ⟨[], none, none, none, none, none, none, none, none, none, rfl, fun r hr => (by cases hr), rfl, rfl⟩ ?_ (fun σ S q => q)
      rintro i hi σ S ⟨rs, o2, o3, o4, o5, o6, o7, o8, o9, o10, e1, e2, rfl, rfl⟩
      refine pst_imp (dr_turn (P := P) (cb := run P j) hx hl e2 i hi e1 o3 o4 o5 o6 o7 o8 o9 o10) ?_ (fun _ _ q => q.elim)
      rintro σ S ⟨r, q3, q4, q5, q6, q7, q8, q9, q10, gr, rfl, rfl⟩
      exact ⟨rs ++ [r], _, _, _, _, _, _, _, _, _, by simp; omega, fun x hx => by
          rcases List.mem_append.mp hx with z | z
          · exact e2 x z
          · rw [List.mem_singleton.mp z]; exact gr, rfl, rfl⟩
    rintro σ S ⟨rs, o2, o3, o4, o5, o6, o7, o8, o9, o10, e1, e2, rfl, rfl⟩
    exact pst_ret (d := .ptr 0) (S1 := [.lst (rs.map rowD)]) (by simp) ⟨rs, e1, e2, rfl, rfl⟩
  obtain ⟨d, S', e, rs, e1, e2, rfl, rfl⟩ := run_pst hD rfl body (fun _ _ q => q.elim) (fun d S q => q) (Q := fun d S => ∃ rs : List Row, rs.length = 4 ∧ (∀ r ∈ rs, Good r) ∧ d = .ptr 0 ∧ S = [.lst (rs.map rowD)])
  refine ⟨rs, e1, e2, fun S => callP_frz (by simp) e (frz_lst 5 rfl (pfL_all fun d hd => ?_))⟩
  obtain ⟨r, _, rfl⟩ := List.mem_map.mp hd
  simp [rowD]
end MX
end

section
set_option maxRecDepth 100000
set_option maxHeartbeats 4000000
namespace MX
open PySem
def lwA : Sx := c_law.body.tl.tl.tl.tl.hd.bd
def lwO : Sx := c_law.body.tl.tl.tl.tl.tl.hd.bd
def kyD (r : Row) : D := keyD r.1 r.2
/-- what stands behind i rows -/
structure LwI (rs : List Row) (i : Nat) (ps : List Nat) (S : Store) : Prop where
  n : ps.length = i
  s0 : S[0]? = some (.lst (ps.map .ptr))
  s1 : S[1]? = some (.lst ((rs.take i).map kyD))
  at_ : ∀ (k p : Nat), ps[k]? = some p → ∃ r, rs[k]? = some r ∧ S[p]? = some (.ins "Scheme" (schF r.1 r.2))
  two : ∀ p ∈ ps, 2 ≤ p
structure LawP (P : Prog) : Prop extends SchP P where
  mx : P.fn "_law_mixed" = some c__law_mixed
  pl : P.fn "_law_pool" = some c__law_pool
  sm : P.fn "_law_same" = some c__law_same
  md : P.fn "_law_made" = some c__law_made
  co : P.fn "_law_cost" = some c__law_cost
  od : P.fn "_law_ordered" = some c__law_ordered
  dr : P.fn "_law_drawn" = some c__law_drawn
  lw : P.fn "law" = some c_law
section
variable {P : Prog} (h : LawP P)
include h
theorem cost_call (j : Nat) {xs ys : List Int} (hx : ∀ x ∈ xs, 0 ≤ x ∧ x < 18446744073709551616) (hl : xs.length ≤ sizeLine) (S : Store) : callP (run P (j + 1)) "_law_cost" [.lst (xs.map .int), .lst (ys.map .int)] S = .ok (.int (dot xs ys)) S := by
  refine callP_ok (by simp) ?_ (pf_int _) (S2 := [])
  refine run_by h.co rfl ?_
  have st : startD c__law_cost.ns [.lst (xs.map .int), .lst (ys.map .int)] = [some (.lst (xs.map .int)), some (.lst (ys.map .int)), none, none] := rfl
  rw [st]
  have z := cost_ev (P := P) (cb := run P j) (S := []) (σ := [some (.lst (xs.map .int)), some (.lst (ys.map .int)), none, none]) (a := .var 0) (b := .var 1) (i := 2) (j := 3) (by simp) (by simp) (.lst xs) (.lst ys) hx hl (fun x y => ⟨rfl, rfl, rfl⟩)
  unfold c__law_cost
  dsimp only
  rw [ex_seq, ex_ret, z]
  rfl
theorem lwA_turn {ns xs : List Int} {rs : List Row} {i : Nat} {r : Row} (hr : rs[i]? = some r) (g : Good r) (hn : rs.length = 4) {ps : List Nat} {S : Store} (I : LwI rs i ps S) (o15 o16 o17 o18 o19 : Option D) :
    pst (exS P (run P 8) lwA [some (.scr ns), some (.lst (xs.map .int)), some (.lst (rs.map rowD)), some (.ptr 0), some (.ptr 1), some (rowD r), none, none, none, none, none, none, none, none, none, o15, o16, o17, o18, o19, none, none] S)
      (fun σ S => ∃ ps q15 q16 q17 q18 q19, σ = [some (.scr ns), some (.lst (xs.map .int)), some (.lst (rs.map rowD)), some (.ptr 0), some (.ptr 1), some (rowD r), none, none, none, none, none, none, none, none, none, q15, q16, q17, q18, q19, none, none] ∧ LwI rs (i + 1) ps S) (fun _ _ => False) := by
  have i4 : i < 4 := by rw [← hn]; exact (List.getElem?_eq_some_iff.mp hr).1
  have l1 : 1 < S.length := (List.getElem?_eq_some_iff.mp I.s1).1
  have sz : sizeLine = 16777216 := rfl
  have gf := g.few
  have gl := g.len
  have t0 : ∀ (r : Row) (S : Store), idxD S (rowD r) (.int 0) = .ok (.lst (r.1.map .int)) S := fun r S => rfl
  have t1 : ∀ (r : Row) (S : Store), idxD S (rowD r) (.int 1) = .ok (.lst (r.2.map .int)) S := fun r S => rfl
  have lc : ∀ (l : List D) (S : Store), biD .listc S [.lst l] = .ok (.ptr S.length) (S ++ [.lst l]) := fun l S => rfl
  have at0 : ∀ (x y z : Cell), (S ++ [x, y, z])[S.length]? = some x := fun x y z => by simp
  have at1 : ∀ (x y z : Cell), (S ++ [x, y, z])[S.length + 1]? = some y := fun x y z => by simp
  have at2 : ∀ (x y z : Cell), (S ++ [x, y, z])[S.length + 2]? = some z := fun x y z => by simp
  have se0 : ∀ (x y z w : Cell), (S ++ [x, y, z]).set S.length w = S ++ [w, y, z] := fun x y z w => by simp
  have se1 : ∀ (x y z w : Cell), (S ++ [x, y, z]).set (S.length + 1) w = S ++ [x, w, z] := fun x y z w => by simp
  have sq1 : SeqI (S ++ [.lst (r.1.map .int), .lst (r.2.map .int)]) false (.ptr S.length) r.1 := .ptr (by simp)
  have sq2 : SeqI (S ++ [.lst (r.1.map .int), .lst (r.2.map .int)]) false (.ptr (S.length + 1)) r.2 := .ptr (by simp)
  have fx : firstNeg r.1 = none := firstNeg_none fun x hx => (g.cn x hx).1
  have fy : firstNeg r.2 = none := firstNeg_none g.pr
  have mk := mk_sch h.toSchP 6 sq1 sq2 (fun _ x hx => by have := g.cn x hx; omega) (by rw [sz]; omega)
  unfold mkR at mk
  rw [if_neg (by simp [gl]), fx, fy] at mk
  simp only [List.append_assoc, List.cons_append, List.nil_append, List.length_append, List.length_cons, List.length_nil] at mk
  unfold lwA
  dsimp only [c_law, Sx.hd, Sx.tl, Sx.bd]
  refine pst_stp (by (conv => lhs; simp [-ev_comp, -ev_compT, -ex_for, -ex_forT, -ev_str, t0, lc]) <;> rfl) ?_
  refine pst_stp (by (conv => lhs; simp [-ev_comp, -ev_compT, -ex_for, -ex_forT, -ev_str, t1, lc]) <;> rfl) ?_
  refine pst_stp (by (conv => lhs; simp [-ev_comp, -ev_compT, -ex_for, -ex_forT, -ev_str, mk]) <;> rfl) ?_
  have ln1 : r.1.length < 16777216 := by omega
  have ln2 : r.2.length < 16777216 := by omega
  have dpi : ∀ l : List Int, dpD 8 (.lst (l.map .int)) = true := fun l => dp_ints 7 l
  have c15 : cmpX P (run P 8) .ne (S ++ [.lst (r.1.map .int), .lst (r.2.map .int), .ins "Scheme" (schF r.1 r.2)]) (.ptr S.length) (.lst (r.1.map .int)) = .ok (.bl false) (S ++ [.lst (r.1.map .int), .lst (r.2.map .int), .ins "Scheme" (schF r.1 r.2)]) := by
    rw [cmp_ptr (at0 _ _ _), cmp_ne, look_ptr_lst (at0 _ _ _), look_lst, eqO_refl (dpi _)]
    rfl
  have c16 : cmpX P (run P 8) .ne (S ++ [.lst (r.1.map .int), .lst (r.2.map .int), .ins "Scheme" (schF r.1 r.2)]) (.ptr (S.length + 1)) (.lst (r.2.map .int)) = .ok (.bl false) (S ++ [.lst (r.1.map .int), .lst (r.2.map .int), .ins "Scheme" (schF r.1 r.2)]) := by
    rw [cmp_ptr (at1 _ _ _), cmp_ne, look_ptr_lst (at1 _ _ _), look_lst, eqO_refl (dpi _)]
    rfl
  refine pst_stp (by (conv => lhs; simp [-ev_comp, -ev_compT, -ex_for, -ex_forT, -ev_str, t0, t1, c15, c16]) <;> rfl) ?_
  refine pst_stp (by (conv => lhs; simp [-ev_comp, -ev_compT, -ex_for, -ex_forT, -ev_str, at0, se0, ln1, sz]) <;> rfl) ?_
  refine pst_stp (by (conv => lhs; simp [-ev_comp, -ev_compT, -ex_for, -ex_forT, -ev_str, at1, se1, ln2, sz]) <;> rfl) ?_
  obtain ⟨v, l', ev⟩ : ∃ (v : Int) (l' : List D), r.2.map D.int ++ [.int 7] = .int v :: l' := by
    cases e : r.2 with
    | nil => exact ⟨7, [], rfl⟩
    | cons a b => exact ⟨a, b.map D.int ++ [.int 7], rfl⟩
  rw [ev]
  have ix := idx_ptr (S := S ++ [.lst (r.1.map .int ++ [.int 7]), .lst (.int v :: l'), .ins "Scheme" (schF r.1 r.2)]) (i := 0) (d := .int v) (at1 _ _ _) (by omega) rfl
  have sx := fun d => sidx_ok (S := S ++ [.lst (r.1.map .int ++ [.int 7]), .lst (.int v :: l'), .ins "Scheme" (schF r.1 r.2)]) (i := 0) (d := d) (at1 _ _ _) (by omega) (by simp)
  refine pst_stp (by (conv => lhs; simp [-ev_comp, -ev_compT, -ex_for, -ex_forT, -ev_str, ix, sx, se1]) <;> rfl) ?_
  have co := cost_call h 7 (xs := r.1) (ys := r.2) (fun x hx => by have := g.cn x hx; omega) (by rw [sz]; omega)
  refine pst_stp (by (conv => lhs; simp [-ev_comp, -ev_compT, -ex_for, -ex_forT, -ev_str, t0, t1, co]) <;> rfl) ?_
  have tu : ∀ (l : List D) (S : Store), biD .tuple S [.lst l] = .ok (.tup l) S := fun l S => rfl
  refine pst_stp (by (conv => lhs; simp [-ev_comp, -ev_compT, -ex_for, -ex_forT, -ev_str, t0, tu, sz]) <;> rfl) ?_
  generalize Cell.lst (D.int (v + 1) :: l') = cc
  have f1 := fld_ptr (pr := P) (at2 (.lst (r.1.map .int ++ [.int 7])) cc (.ins "Scheme" (schF r.1 r.2))) h.lc (e := .tup (r.1.map .int)) rfl
  have f2 := fld_ptr (pr := P) (at2 (.lst (r.1.map .int ++ [.int 7])) cc (.ins "Scheme" (schF r.1 r.2))) h.lt' (e := .int r.1.sum) rfl
  have f3 := fld_ptr (pr := P) (at2 (.lst (r.1.map .int ++ [.int 7])) cc (.ins "Scheme" (schF r.1 r.2))) h.lco (e := .int (dot r.1 r.2)) rfl
  have szi : szD 2 (.lst [.tup (r.1.map .int), .int r.1.sum, .int (dot r.1 r.2)]) = true := by
    simp [szD, flatS, flatD]
    omega
  have sm1 := call_same h.sm 7 (run_mono_same h.sm 5 2 _ szi)
  refine pst_stp (by (conv => lhs; simp [-ev_comp, -ev_compT, -ex_for, -ex_forT, -ev_str, f1, f2, f3, sz, sm1]) <;> rfl) ?_
  have ma := made_call h.toSchP h.md 5 (.tup r.1) (.tup r.2) (fun _ x hx => by have := g.cn x hx; omega) (by rw [sz]; omega) (S ++ [.lst (r.1.map .int ++ [.int 7]), cc, .ins "Scheme" (schF r.1 r.2)])
  have em : madeD r.1 r.2 = .tup [tx "made", .lst [.tup (r.1.map .int), .int r.1.sum, .int (dot r.1 r.2)]] := by
    unfold madeD
    rw [if_neg (by simp [gl]), fx, fy]
  rw [em] at ma
  have szm : szD 3 (.tup [tx "made", .lst [.tup (r.1.map .int), .int r.1.sum, .int (dot r.1 r.2)]]) = true := by
    simp [szD, flatS, flatD, tx]
    exact ⟨by decide +kernel, by omega⟩
  have sm2 := call_same h.sm 7 (run_mono_same h.sm 4 3 _ szm)
  refine pst_stp (by (conv => lhs; simp [-ev_comp, -ev_compT, -ex_for, -ex_forT, -ev_str, t0, t1, tu, sz, ma, sm2]) <;> rfl) ?_
  generalize hL : [Cell.lst (r.1.map .int ++ [.int 7]), cc, Cell.ins "Scheme" (schF r.1 r.2)] = L at *
  have hL2 : L[2]? = some (.ins "Scheme" (schF r.1 r.2)) := by rw [← hL]; rfl
  have z0 : (S ++ L)[0]? = some (.lst (ps.map .ptr)) := by rw [List.getElem?_append_left (by omega)]; exact I.s0
  have z1 : ∀ c, ((S ++ L).set 0 c)[1]? = some (.lst ((rs.take i).map kyD)) := fun c => by rw [List.getElem?_set_ne (by omega), List.getElem?_append_left l1]; exact I.s1
  have np := I.n
  have lp : (ps.map D.ptr).length < 16777216 := by rw [List.length_map]; omega
  have lk : ((rs.take i).map kyD).length < 16777216 := by rw [List.length_map, List.length_take]; omega
  refine pst_stp (σ1 := [some (.scr ns), some (.lst (xs.map .int)), some (.lst (rs.map rowD)), some (.ptr 0), some (.ptr 1), some (rowD r), none, none, none, none, none, none, none, none, none, some (.ptr S.length), some (.ptr (S.length + 1)), some (.ptr (S.length + 2)), some (.int (dot r.1 r.2)), some (.lst [.tup (r.1.map .int), .int r.1.sum, .int (dot r.1 r.2)]), none, none]) (S1 := (S ++ L).set 0 (.lst (ps.map .ptr ++ [.ptr (S.length + 2)]))) ?_ ?_
  · rw [ex_ex, ev_app]
    have lp' : ps.length < 16777216 := by omega
    simp [z0, lp', sz, -List.getElem?_append, -List.set_append]
  refine pst_stp (σ1 := [some (.scr ns), some (.lst (xs.map .int)), some (.lst (rs.map rowD)), some (.ptr 0), some (.ptr 1), some (rowD r), none, none, none, none, none, none, none, none, none, some (.ptr S.length), some (.ptr (S.length + 1)), some (.ptr (S.length + 2)), some (.int (dot r.1 r.2)), some (.lst [.tup (r.1.map .int), .int r.1.sum, .int (dot r.1 r.2)]), none, none]) (S1 := ((S ++ L).set 0 (.lst (ps.map .ptr ++ [.ptr (S.length + 2)]))).set 1 (.lst ((rs.take i).map kyD ++ [kyD r]))) ?_ ?_
  · rw [ex_ex, ev_app]
    have e1 : ∀ S', evE P (run P 8) (.tup (.acons (.var 18) (.acons (.bi .sum (.acons (.idx (.var 5) (.int 0)) .anil)) (.acons (.bi .tuple (.acons (.idx (.var 5) (.int 0)) .anil)) .anil)))) [some (.scr ns), some (.lst (xs.map .int)), some (.lst (rs.map rowD)), some (.ptr 0), some (.ptr 1), some (rowD r), none, none, none, none, none, none, none, none, none, some (.ptr S.length), some (.ptr (S.length + 1)), some (.ptr (S.length + 2)), some (.int (dot r.1 r.2)), some (.lst [.tup (r.1.map .int), .int r.1.sum, .int (dot r.1 r.2)]), none, none] S' = .ok (kyD r) S' := fun S' => by simp [t0, tu, sz, kyD, keyD]
    rw [ev_var, show ([some (D.scr ns), some (.lst (xs.map .int)), some (.lst (rs.map rowD)), some (.ptr 0), some (.ptr 1), some (rowD r), none, none, none, none, none, none, none, none, none, some (.ptr S.length), some (.ptr (S.length + 1)), some (.ptr (S.length + 2)), some (.int (dot r.1 r.2)), some (.lst [.tup (r.1.map .int), .int r.1.sum, .int (dot r.1 r.2)]), none, none] : DSt)[4]? = some (some (.ptr 1)) from rfl, slot_some, bind_ok, appO_ptr, z1, e1, appP_lst, bind_ok, z1, appR_lst, if_pos (by rw [sz]; exact lk)]
    rfl
  refine ⟨ps ++ [S.length + 2], _, _, _, _, _, rfl, ⟨by simp [np], ?_, ?_, ?_, ?_⟩⟩
  · rw [List.getElem?_set_ne (by omega), List.getElem?_set_self (by simp; omega)]
    simp
  · rw [List.getElem?_set_self (by simp; omega)]
    have : rs.take (i + 1) = rs.take i ++ [r] := by
      rw [List.take_add_one, hr]
      rfl
    rw [this, List.map_append]
    rfl
  · intro k p hk
    by_cases q : k < ps.length
    · rw [List.getElem?_append_left q] at hk
      obtain ⟨r', e1, e2⟩ := I.at_ k p hk
      have hp := I.two p (List.mem_of_getElem? hk)
      refine ⟨r', e1, ?_⟩
      rw [List.getElem?_set_ne (by omega), List.getElem?_set_ne (by omega), List.getElem?_append_left (List.getElem?_eq_some_iff.mp e2).1]
      exact e2
    · have hk' : k = ps.length := by
        have := (List.getElem?_eq_some_iff.mp hk).1
        simp at this
        omega
      subst hk'
      simp at hk
      subst hk
      refine ⟨r, by rw [np]; exact hr, ?_⟩
      rw [List.getElem?_set_ne (by omega), List.getElem?_set_ne (by omega), List.getElem?_append_right (by omega), show S.length + 2 - S.length = 2 by omega]
      exact hL2
  · intro p hp
    rcases List.mem_append.mp hp with q | q
    · exact I.two p q
    · rw [List.mem_singleton.mp q]
      omega
theorem ord_turn {rs : List Row} {ps : List Nat} {S : Store} (hn : rs.length = 4) (I : LwI rs 4 ps S) (k : Nat) (hk : k < 4) (j : Nat) (hj : j < 4) (a b c o : D) (σ : DSt) (h3 : σ[3]? = some (some (.ptr 0))) (h4 : σ[4]? = some (some (.ptr 1))) (h6 : σ[6]? = some (some (.int (k : Int)))) (h20 : σ[20]? = some (some (.int (j : Int)))) :
    exS P (run P 8) lwO.hd.bd.hd σ S = .nx σ S := by
  have np := I.n
  have g : ∀ k, k < 4 → ∃ p r, ps[k]? = some p ∧ rs[k]? = some r ∧ S[p]? = some (.ins "Scheme" (schF r.1 r.2)) := fun k hk => by
    have e : ps[k]? = some ps[k] := List.getElem?_eq_getElem (by omega)
    obtain ⟨r, e1, e2⟩ := I.at_ k _ e
    exact ⟨_, r, e, e1, e2⟩
  obtain ⟨p, r, a1, a2, a3⟩ := g k hk
  obtain ⟨q, s, b1, b2, b3⟩ := g j hj
  have tk : rs.take 4 = rs := List.take_of_length_le (by omega)
  have s1 := I.s1
  rw [tk] at s1
  have x1 := idx_ptr (i := (k : Int)) (d := .ptr p) I.s0 (by omega) (by rw [Int.toNat_natCast, List.getElem?_map, a1]; rfl)
  have x2 := idx_ptr (i := (j : Int)) (d := .ptr q) I.s0 (by omega) (by rw [Int.toNat_natCast, List.getElem?_map, b1]; rfl)
  have y1 := idx_ptr (i := (k : Int)) (d := keyD r.1 r.2) s1 (by omega) (by rw [Int.toNat_natCast, List.getElem?_map, a2]; rfl)
  have y2 := idx_ptr (i := (j : Int)) (d := keyD s.1 s.2) s1 (by omega) (by rw [Int.toNat_natCast, List.getElem?_map, b2]; rfl)
  have o := ordered h.toSchP a3 b3 h.od 6
  unfold lwO
  dsimp only [c_law, Sx.hd, Sx.tl, Sx.bd]
  simp [h3, h4, h6, h20, x1, x2, y1, y2, o]
end
def lwB : Sx := c_law.body.tl.tl.tl.tl.tl.tl.tl.tl.tl.tl.tl.tl.tl.hd.bd
theorem madeD_size {xs ys : List Int} (h : ys.length ≠ xs.length) : madeD xs ys = .tup [tx "BadSize", .int ys.length] := if_pos (by omega)
theorem madeD_cn {xs ys : List Int} {k : Int} (h : ys.length = xs.length) (e : firstNeg xs = some k) : madeD xs ys = .tup [tx "BadCount", .int k] := by
  unfold madeD
  rw [if_neg (by omega), e]
theorem madeD_pr {xs ys : List Int} {k : Int} (h : ys.length = xs.length) (e : firstNeg xs = none) (e2 : firstNeg ys = some k) : madeD xs ys = .tup [tx "BadCount", .int k] := by
  unfold madeD
  rw [if_neg (by omega), e, e2]
theorem lay_bc : PySem.PyData.canLay0 (.str (Str.ofString "BadCount")) = true := by decide +kernel
theorem lay_bs : PySem.PyData.canLay0 (.str (Str.ofString "BadSize")) = true := by decide +kernel
theorem eq_bc (i : Int) : eqO (.tup [tx "BadCount", .int i]) (.tup [tx "BadCount", .int i]) = some true := eqO_refl (by simp [dp_tx lay_bc])
theorem eq_bs (i : Int) : eqO (.tup [tx "BadSize", .int i]) (.tup [tx "BadSize", .int i]) = some true := eqO_refl (by simp [dp_tx lay_bs])
theorem cat_ints {pr : Prog} {cb : Cb} {S : Store} {xs ys : List Int} (h : xs.length + ys.length ≤ 16777216) : binX pr cb .add S (.lst (xs.map .int)) (.lst (ys.map .int)) = .ok (.lst ((xs ++ ys).map .int)) S := by
  rw [binX_n rfl rfl, bin_cat (look_lst _) (look_lst _) (by rw [List.length_map, List.length_map]; exact h), List.map_append]
theorem ints1 (i : Int) : D.lst [.int i] = .lst ([i].map .int) := rfl
theorem ints2 (i j : Int) : D.lst [.int i, .int j] = .lst ([i, j].map .int) := rfl
end MX
end

section
set_option maxRecDepth 100000
set_option maxHeartbeats 40000000
namespace MX
open PySem
theorem firstNeg_app : ∀ {a b : List Int} {k : Int}, firstNeg a = some k → firstNeg (a ++ b) = some k
  | [], _, _, h => by cases h
  | x :: r, b, k, h => by
    show (if x < 0 then some x else firstNeg (r ++ b)) = _
    have h : (if x < 0 then some x else firstNeg r) = some k := h
    by_cases q : x < 0
    · rw [if_pos q] at h ⊢
      exact h
    · rw [if_neg q] at h ⊢
      exact firstNeg_app h
section
variable {P : Prog} (h : LawP P)
include h
theorem law31_run (ns : List Int) (hn : ns.length ≤ 63) : ∃ S, run P 9 "law" [.scr ns] [] = .ok (.bl true) S := by
  have sz : sizeLine = 16777216 := rfl
  obtain ⟨xs, S', e, xl, xs5⟩ := pool_run h.mx h.pl 6 ns hn 70 (by omega)
  have cp : callP (run P 8) "_law_pool" [.scr ns, .int 70] [] = .ok (.lst (xs.map .int)) [] := callP_ok (by simp) e (by simp)
  obtain ⟨rs, rl, gs, cd⟩ := drawn_call h.dr 7 xs5 xl
  have body : pst (exS P (run P 8) c_law.body (startD c_law.ns [.scr ns]) []) (fun _ _ => False) (fun d _ => d = .bl true) := by
    have st : startD c_law.ns [.scr ns] = [some (.scr ns), none, none, none, none, none, none, none, none, none, none, none, none, none, none, none, none, none, none, none, none, none] := rfl
    rw [st]
    unfold c_law
    dsimp only
    refine pst_stp (by (conv => lhs; simp [-ev_comp, -ev_compT, -ex_for, -ex_forT, -ev_str, cp]) <;> rfl) ?_
    refine pst_stp (by (conv => lhs; simp [-ev_comp, -ev_compT, -ex_for, -ex_forT, -ev_str, cd]) <;> rfl) ?_
    refine pst_stp (by (conv => lhs; simp [-ev_comp, -ev_compT, -ex_for, -ex_forT, -ev_str, sz]) <;> rfl) ?_
    refine pst_stp (by (conv => lhs; simp [-ev_comp, -ev_compT, -ex_for, -ex_forT, -ev_str, sz]) <;> rfl) ?_
    -- the schemes
    refine pst_seq (M := fun σ S => ∃ ps o5 o15 o16 o17 o18 o19, σ = [some (.scr ns), some (.lst (xs.map .int)), some (.lst (rs.map rowD)), some (.ptr 0), some (.ptr 1), o5, none, none, none, none, none, none, none, none, none, o15, o16, o17, o18, o19, none, none] ∧ LwI rs 4 ps S) ?_ ?_
    · refine pst_lst (xs := rs.map rowD) (S1 := [.lst [], .lst []]) (by simp) (fun i σ S => ∃ ps o5 o15 o16 o17 o18 o19, σ = [some (.scr ns), some (.lst (xs.map .int)), some (.lst (rs.map rowD)), some (.ptr 0), some (.ptr 1), o5, none, none, none, none, none, none, none, none, none, o15, o16, o17, o18, o19, none, none] ∧ LwI rs i ps S) ⟨[], none, none, none, none, none, none, rfl, ⟨rfl, rfl, rfl, fun k p hk => by simp at hk, fun p hp => by cases hp⟩⟩ ?_ ?_
      · rintro i x hx σ S ⟨ps, o5, o15, o16, o17, o18, o19, rfl, I⟩
        rw [List.getElem?_map] at hx
        obtain ⟨r, hr, rfl⟩ := Option.map_eq_some_iff.mp hx
        refine pst_imp (lwA_turn h (ns := ns) (xs := xs) hr (gs r (List.mem_of_getElem? hr)) rl I o15 o16 o17 o18 o19) ?_ (fun _ _ q => q.elim)
        rintro σ S ⟨ps, q15, q16, q17, q18, q19, rfl, I⟩
        exact ⟨ps, _, q15, q16, q17, q18, q19, rfl, I⟩
      · rintro σ S ⟨ps, o5, o15, o16, o17, o18, o19, rfl, I⟩
        rw [List.length_map, rl] at I
        exact ⟨ps, o5, o15, o16, o17, o18, o19, rfl, I⟩
    rintro σ S ⟨ps, o5, o15, o16, o17, o18, o19, rfl, I⟩
    -- the order
    refine pst_seq (M := fun σ S' => ∃ o6 o20, S' = S ∧ σ = [some (.scr ns), some (.lst (xs.map .int)), some (.lst (rs.map rowD)), some (.ptr 0), some (.ptr 1), o5, o6, none, none, none, none, none, none, none, none, o15, o16, o17, o18, o19, o20, none]) ?_ ?_
    · refine pst_rng (n := 4) (S1 := S) (by simp) (by omega) (fun i σ S' => ∃ o6 o20, S' = S ∧ σ = [some (.scr ns), some (.lst (xs.map .int)), some (.lst (rs.map rowD)), some (.ptr 0), some (.ptr 1), o5, o6, none, none, none, none, none, none, none, none, o15, o16, o17, o18, o19, o20, none]) ⟨none, none, rfl, rfl⟩ ?_ (fun σ S' q => q)
      rintro k hk σ S' ⟨o6, o20, rfl, rfl⟩
      refine pst_seq (M := fun σ S'' => ∃ o20, S'' = S' ∧ σ = [some (.scr ns), some (.lst (xs.map .int)), some (.lst (rs.map rowD)), some (.ptr 0), some (.ptr 1), o5, some (.int (k : Int)), none, none, none, none, none, none, none, none, o15, o16, o17, o18, o19, o20, none]) ?_ ?_
      · refine pst_rng (n := 4) (S1 := S') (by simp) (by omega) (fun i σ S'' => ∃ o20, S'' = S' ∧ σ = [some (.scr ns), some (.lst (xs.map .int)), some (.lst (rs.map rowD)), some (.ptr 0), some (.ptr 1), o5, some (.int (k : Int)), none, none, none, none, none, none, none, none, o15, o16, o17, o18, o19, o20, none]) ⟨o20, rfl, rfl⟩ ?_ (fun σ S' q => q)
        rintro j hj σ S'' ⟨o20, rfl, rfl⟩
        refine pst_stp (ord_turn h rl I k hk j hj .non .non .non .non _ rfl rfl rfl rfl) ?_
        exact ⟨some (.int (j : Int)), rfl, rfl⟩
      · rintro σ S'' ⟨o20, rfl, rfl⟩
        exact ⟨some (.int (k : Int)), o20, rfl, rfl⟩
    rintro σ S' ⟨o6, o20, rfl, rfl⟩
    -- the rest
    obtain ⟨r0, er⟩ : ∃ r0, rs[0]? = some r0 := ⟨rs[0], List.getElem?_eq_getElem (by omega)⟩
    have g0 := gs r0 (List.mem_of_getElem? er)
    have i0 : idxD S' (.lst (rs.map rowD)) (.int 0) = .ok (rowD r0) S' := idx_lst (by omega) (by rw [List.getElem?_map]; show (rs[0]?).map rowD = _; rw [er]; rfl)
    have t0 : ∀ (r : Row) (S : Store), idxD S (rowD r) (.int 0) = .ok (.lst (r.1.map .int)) S := fun r S => rfl
    have t1 : ∀ (r : Row) (S : Store), idxD S (rowD r) (.int 1) = .ok (.lst (r.2.map .int)) S := fun r S => rfl
    have ct := fun (l : List Int) => cut_to (xs := l.map D.int) (b := 4) (by omega)
    refine pst_stp (by (conv => lhs; simp [-ev_comp, -ev_compT, -ex_for, -ex_forT, -ev_str, i0, t0, cut_lst, ct, ← List.map_take]) <;> rfl) ?_
    refine pst_stp (by (conv => lhs; simp [-ev_comp, -ev_compT, -ex_for, -ex_forT, -ev_str, i0, t1, cut_lst, ct, ← List.map_take]) <;> rfl) ?_
    have cl : (r0.1.take 4).length = (r0.2.take 4).length := by rw [List.length_take, List.length_take, g0.len]
    have c4 : (r0.1.take 4).length ≤ 4 := by rw [List.length_take]; omega
    have cc : ∀ x ∈ r0.1.take 4, 0 ≤ x ∧ x < 14 := fun x hx => g0.cn x (List.mem_of_mem_take hx)
    have cq : ∀ x ∈ r0.2.take 4, 0 ≤ x := fun x hx => g0.pr x (List.mem_of_mem_take hx)
    generalize r0.1.take 4 = C at *
    generalize r0.2.take 4 = Q at *
    have j62 := getD_idx (S := S') (xs := xs) (i := 62) (by omega) (by omega)
    have j63 := getD_idx (S := S') (xs := xs) (i := 63) (by omega) (by omega)
    have b62 := small_getD xs5 (62 : Int).toNat
    have b63 := small_getD xs5 (63 : Int).toNat
    generalize xs.getD (62 : Int).toNat 0 = y at *
    generalize xs.getD (63 : Int).toNat 0 = z at *
    have d9 := fun S => bin_mod (S := S) (i := y) (j := 9) (by omega)
    refine pst_stp (by (conv => lhs; simp [-ev_comp, -ev_compT, -ex_for, -ex_forT, -ev_str, j62, d9]) <;> rfl) ?_
    obtain ⟨lo, elo⟩ : ∃ lo, -1 - y % 9 = lo := ⟨_, rfl⟩
    have hlo : lo < 0 := by omega
    simp only [elo]
    have mad := fun {a b : List Int} (h1 : firstNeg a = none → ∀ x ∈ a, x < 18446744073709551616) (h2 : a.length ≤ 100) => made_call h.toSchP h.md 5 (S := S') (.lst a) (.lst b) h1 (by rw [sz]; omega)
    have m1 : callP (run P 8) "_law_made" [.lst ((C ++ [lo]).map .int), .lst (Q.map .int)] S' = .ok (.tup [tx "BadSize", .int Q.length]) S' := by
      rw [mad (fun e x hx => absurd (firstNeg_all e lo (by simp)) (by omega)) (by simp; omega), madeD_size (by simp; omega)]
    have m2 : callP (run P 8) "_law_made" [.lst (C.map .int), .lst ((Q ++ [lo]).map .int)] S' = .ok (.tup [tx "BadSize", .int (Q.length + 1)]) S' := by
      rw [mad (fun e x hx => by have := cc x hx; omega) (by omega), madeD_size (by simp; omega)]
      simp
    have cat : ∀ (a b : List Int), a.length ≤ 100 → b.length ≤ 100 → binX P (run P 8) .add S' (.lst (a.map .int)) (.lst (b.map .int)) = .ok (.lst ((a ++ b).map .int)) S' := fun a b h1 h2 => cat_ints (by omega)
    have k1 : binX P (run P 8) .add S' (.lst (C.map .int)) (.lst [.int lo]) = .ok (.lst ((C ++ [lo]).map .int)) S' := cat C [lo] (by omega) (by simp)
    have k2 : binX P (run P 8) .add S' (.lst (Q.map .int)) (.lst [.int lo]) = .ok (.lst ((Q ++ [lo]).map .int)) S' := cat Q [lo] (by omega) (by simp)
    refine pst_stp (by (conv => lhs; simp [-ev_comp, -ev_compT, -ex_for, -ex_forT, -ev_str, -List.map_append, k1, m1, eq_bs, sz]) <;> rfl) ?_
    refine pst_stp (by (conv => lhs; simp [-ev_comp, -ev_compT, -ex_for, -ex_forT, -ev_str, -List.map_append, k2, m2, eq_bs, sz]) <;> rfl) ?_
    have hz : 0 < (C.length : Int) + 1 := by omega
    have dz := fun S => bin_mod (S := S) (i := z) (j := (C.length : Int) + 1) hz
    obtain ⟨at_, eat, a0, a1⟩ : ∃ a, z % ((C.length : Int) + 1) = a ∧ 0 ≤ a ∧ a ≤ C.length := ⟨_, rfl, Int.emod_nonneg _ (by omega), by have := Int.emod_lt_of_pos z hz; omega⟩
    refine pst_stp (by (conv => lhs; simp [-ev_comp, -ev_compT, -ex_for, -ex_forT, -ev_str, j63, dz, eat]) <;> rfl) ?_
    have u1 := fun (l : List Int) => cut_to (xs := l.map D.int) a0
    have u2 := fun (l : List Int) => cut_from (xs := l.map D.int) a0
    have k3 : binX P (run P 8) .add S' (.lst ((C.take at_.toNat).map .int)) (.lst [.int lo]) = .ok (.lst ((C.take at_.toNat ++ [lo]).map .int)) S' := cat _ [lo] (by rw [List.length_take]; omega) (by simp)
    have k4 : binX P (run P 8) .add S' (.lst ((C.take at_.toNat ++ [lo]).map .int)) (.lst ((C.drop at_.toNat).map .int)) = .ok (.lst ((C.take at_.toNat ++ [lo] ++ C.drop at_.toNat).map .int)) S' := cat _ _ (by simp; omega) (by simp; omega)
    refine pst_stp (by (conv => lhs; simp [-ev_comp, -ev_compT, -ex_for, -ex_forT, -ev_str, -List.map_append, cut_lst, u1, u2, ← List.map_take, ← List.map_drop, k3, k4, sz]) <;> rfl) ?_
    have k5 : binX P (run P 8) .add S' (.lst [.int 0]) (.lst (C.map .int)) = .ok (.lst ((0 :: C).map .int)) S' := cat [0] _ (by simp) (by omega)
    have k6 : binX P (run P 8) .add S' (.lst ((0 :: C).map .int)) (.lst [.int 0]) = .ok (.lst ((0 :: (C ++ [0])).map .int)) S' := cat _ [0] (by simp; omega) (by simp)
    refine pst_stp (by (conv => lhs; simp [-ev_comp, -ev_compT, -ex_for, -ex_forT, -ev_str, -List.map_append, -List.map_cons, -List.cons_append, k5, k6, sz]) <;> rfl) ?_
    have fC : firstNeg C = none := firstNeg_none fun x hx => (cc x hx).1
    have bad : firstNeg (C.take at_.toNat ++ lo :: C.drop at_.toNat) = some lo := firstNeg_at (fun x hx => (cc x (List.mem_of_mem_take hx)).1) hlo
    -- three wrong ones
    refine pst_seq (M := fun σ S'' => ∃ o13 o21, S'' = S' ∧ σ = [some (.scr ns), some (.lst (xs.map .int)), some (.lst (rs.map rowD)), some (.ptr 0), some (.ptr 1), o5, o6, some (.lst (C.map .int)), some (.lst (Q.map .int)), some (.int lo), some (.int at_), some (.lst ((C.take at_.toNat ++ lo :: C.drop at_.toNat).map .int)), some (.lst ((0 :: (C ++ [0])).map .int)), o13, none, o15, o16, o17, o18, o19, o20, o21]) ?_ ?_
    · refine pst_lst (xs := [.int (lo - 9), .int lo, .int (-1)]) (S1 := S') (by simp [sz]) (fun i σ S'' => ∃ o13 o21, S'' = S' ∧ σ = [some (.scr ns), some (.lst (xs.map .int)), some (.lst (rs.map rowD)), some (.ptr 0), some (.ptr 1), o5, o6, some (.lst (C.map .int)), some (.lst (Q.map .int)), some (.int lo), some (.int at_), some (.lst ((C.take at_.toNat ++ lo :: C.drop at_.toNat).map .int)), some (.lst ((0 :: (C ++ [0])).map .int)), o13, none, o15, o16, o17, o18, o19, o20, o21]) ⟨none, none, rfl, rfl⟩ ?_ (fun σ S'' q => q)
      rintro i x hx σ S'' ⟨o13, o21, rfl, rfl⟩
      obtain ⟨la, rfl⟩ : ∃ la, x = .int la := by
        match i, hx with
        | 0, hx => exact ⟨_, by simpa using hx.symm⟩
        | 1, hx => exact ⟨_, by simpa using hx.symm⟩
        | 2, hx => exact ⟨_, by simpa using hx.symm⟩
        | i + 3, hx => simp at hx
      dsimp only [List.set]
      have lB : (C.take at_.toNat ++ lo :: C.drop at_.toNat).length = C.length + 1 := by simp; omega
      generalize C.take at_.toNat ++ lo :: C.drop at_.toNat = B at *
      have n1 : binX P (run P 8) .add S'' (.lst (B.map .int)) (.lst [.int la]) = .ok (.lst ((B ++ [la]).map .int)) S'' := cat _ [la] (by omega) (by simp)
      have n2 : binX P (run P 8) .add S'' (.lst [.int (lo - 1)]) (.lst (Q.map .int)) = .ok (.lst (((lo - 1) :: Q).map .int)) S'' := cat [lo - 1] _ (by simp) (by omega)
      have n3 : binX P (run P 8) .add S'' (.lst (((lo - 1) :: Q).map .int)) (.lst [.int 1]) = .ok (.lst (((lo - 1) :: (Q ++ [1])).map .int)) S'' := cat _ [1] (by simp; omega) (by simp)
      have n4 : binX P (run P 8) .add S'' (.lst (Q.map .int)) (.lst [.int 1, .int 1]) = .ok (.lst ((Q ++ [1, 1]).map .int)) S'' := cat _ [1, 1] (by omega) (by simp)
      have n5 : binX P (run P 8) .add S'' (.lst ((Q.take at_.toNat).map .int)) (.lst [.int lo]) = .ok (.lst ((Q.take at_.toNat ++ [lo]).map .int)) S'' := cat _ [lo] (by rw [List.length_take]; omega) (by simp)
      have n6 : binX P (run P 8) .add S'' (.lst ((Q.take at_.toNat ++ [lo]).map .int)) (.lst ((Q.drop at_.toNat).map .int)) = .ok (.lst ((Q.take at_.toNat ++ lo :: Q.drop at_.toNat).map .int)) S'' := by
        rw [cat _ _ (by simp; omega) (by simp; omega)]
        simp
      have n7 : binX P (run P 8) .add S'' (.lst ((Q.take at_.toNat ++ lo :: Q.drop at_.toNat).map .int)) (.lst [.int la]) = .ok (.lst ((Q.take at_.toNat ++ lo :: (Q.drop at_.toNat ++ [la])).map .int)) S'' := by
        have := cat (Q.take at_.toNat ++ lo :: Q.drop at_.toNat) [la] (by simp; omega) (by simp)
        rw [show Q.take at_.toNat ++ lo :: (Q.drop at_.toNat ++ [la]) = Q.take at_.toNat ++ lo :: Q.drop at_.toNat ++ [la] by simp]
        exact this
      have fB : ∀ b, firstNeg (B ++ b) = some lo := fun b => firstNeg_app bad
      have mA : callP (run P 8) "_law_made" [.lst ((B ++ [la]).map .int), .lst (((lo - 1) :: (Q ++ [1])).map .int)] S'' = .ok (.tup [tx "BadCount", .int lo]) S'' := by
        rw [mad (fun e x hx => by rw [fB] at e; cases e) (by simp; omega), madeD_cn (by simp; omega) (fB _)]
      have mB : callP (run P 8) "_law_made" [.lst ((B ++ [la]).map .int), .lst ((Q ++ [1, 1]).map .int)] S'' = .ok (.tup [tx "BadCount", .int lo]) S'' := by
        rw [mad (fun e x hx => by rw [fB] at e; cases e) (by simp; omega), madeD_cn (by simp; omega) (fB _)]
      have fG : firstNeg (0 :: (C ++ [0])) = none := firstNeg_none fun x hx => by
        simp at hx
        rcases hx with rfl | hx | rfl
        · omega
        · exact (cc x hx).1
        · omega
      have mC : callP (run P 8) "_law_made" [.lst ((0 :: (C ++ [0])).map .int), .lst ((Q.take at_.toNat ++ lo :: (Q.drop at_.toNat ++ [la])).map .int)] S'' = .ok (.tup [tx "BadCount", .int lo]) S'' := by
        rw [mad (fun e x hx => by
          simp at hx
          rcases hx with rfl | hx | rfl
          · omega
          · have := cc x hx; omega
          · omega) (by simp; omega), madeD_pr (by simp; omega) fG (firstNeg_at (fun x hx => cq x (List.mem_of_mem_take hx)) hlo)]
      refine pst_stp (by (conv => lhs; simp [-ev_comp, -ev_compT, -ex_for, -ex_forT, -ev_str, -List.map_append, -List.map_cons, -List.cons_append, n1, n2, n3, mA, eq_bc, sz]) <;> rfl) ?_
      refine pst_stp (by (conv => lhs; simp [-ev_comp, -ev_compT, -ex_for, -ex_forT, -ev_str, -List.map_append, -List.map_cons, -List.cons_append, n1, n4, mB, eq_bc, sz]) <;> rfl) ?_
      refine pst_stp (by (conv => lhs; simp [-ev_comp, -ev_compT, -ex_for, -ex_forT, -ev_str, -List.map_append, -List.map_cons, -List.cons_append, cut_lst, u1, u2, ← List.map_take, ← List.map_drop, n5, n6, n7, sz]) <;> rfl) ?_
      refine pst_stp (by (conv => lhs; simp [-ev_comp, -ev_compT, -ex_for, -ex_forT, -ev_str, -List.map_append, -List.map_cons, -List.cons_append, mC, eq_bc, sz]) <;> rfl) ?_
      exact ⟨_, _, rfl, rfl⟩
    rintro σ S'' ⟨o13, o21, rfl, rfl⟩
    have tk : rs.take 4 = rs := List.take_of_length_le (by omega)
    have s1 := I.s1
    rw [tk] at s1
    obtain ⟨p0, hp0⟩ : ∃ p, ps[0]? = some p := ⟨ps[0]'(by rw [I.n]; omega), List.getElem?_eq_getElem _⟩
    obtain ⟨r', er', hs⟩ := I.at_ 0 p0 hp0
    rw [er] at er'
    cases er'
    have x0 := idx_ptr (i := 0) (d := .ptr p0) I.s0 (by omega) (by rw [List.getElem?_map]; show (ps[0]?).map _ = _; rw [hp0]; rfl)
    have y0 := idx_ptr (i := 0) (d := keyD r0.1 r0.2) s1 (by omega) (by rw [List.getElem?_map]; show (rs[0]?).map _ = _; rw [er]; rfl)
    refine pst_stp (by (conv => lhs; simp [-ev_comp, -ev_compT, -ex_for, -ex_forT, -ev_str, x0]) <;> rfl) ?_
    have f1 := fld_ptr (pr := P) hs h.lc (e := .tup (r0.1.map .int)) rfl
    have f2 := fld_ptr (pr := P) hs h.lt' (e := .int r0.1.sum) rfl
    have f3 := fld_ptr (pr := P) hs h.lco (e := .int (dot r0.1 r0.2)) rfl
    have gf := g0.few
    have szi : szD 2 (.lst [.int (dot r0.1 r0.2), .int r0.1.sum, .tup (r0.1.map .int)]) = true := by
      simp [szD, flatS, flatD]
      omega
    have sm := call_same h.sm 7 (run_mono_same h.sm 5 2 _ szi)
    have bl : ∀ (l : List D) (S : Store), biD .list S [.tup l] = .ok (.lst l) S := fun l S => rfl
    exact pst_ret (d := .bl true) (S1 := S'') (by simp [f1, f2, f3, y0, keyD, bl, sm, sz]) rfl
  obtain ⟨d, S1, e1, rfl⟩ := run_pst h.lw rfl body (fun _ _ q => q.elim) (fun d S q => q) (Q := fun d _ => d = .bl true)
  exact ⟨S1, e1⟩
end
end MX
end

section
set_option maxRecDepth 100000
set_option maxHeartbeats 0
namespace MX.K31
open PySem PySem.Spec PyProof.Rows L2
def tp (i : Nat) : Stmt := PySem.Challenge.pw_mixaloud_k31_order_of_schemes.main.body.getD i (.Pass ⟨0, 0, 0, 0⟩)
def cp (i j : Nat) : Stmt := MX.inCls (tp i) j
def defs : List Ent := [⟨"check_counts", ("check_counts", Option.none), "check_counts", "check_counts", tp 5, ["counts", "size", "count"], c_check_counts⟩,
  ⟨"_law_mixed", ("_law_mixed", Option.none), "_law_mixed", "_law_mixed", tp 8, ["_law_cell", "_law_k", "_law_one"], c__law_mixed⟩,
  ⟨"_law_pool", ("_law_pool", Option.none), "_law_pool", "_law_pool", tp 9, ["_law_script", "_law_many", "_law_pool_here", "_law_cell", "_law_seed", "_law_tail", "_law_k", "_law_left", "_law_shift", "_law_x"], c__law_pool⟩,
  ⟨"_law_same", ("_law_same", Option.none), "_law_same", "_law_same", tp 10, ["_law_actual", "_law_due", "_law_k"], c__law_same⟩,
  ⟨"_law_made", ("_law_made", Option.none), "_law_made", "_law_made", tp 11, ["_law_counts", "_law_prices", "e", "_law_made_here"], c__law_made⟩,
  ⟨"_law_cost", ("_law_cost", Option.none), "_law_cost", "_law_cost", tp 12, ["_law_counts", "_law_prices", "_law_a", "_law_b"], c__law_cost⟩,
  ⟨"_law_ordered", ("_law_ordered", Option.none), "_law_ordered", "_law_ordered", tp 13, ["_law_one", "_law_two", "_law_first", "_law_second", "_law_less", "_law_same_here"], c__law_ordered⟩,
  ⟨"_law_drawn", ("_law_drawn", Option.none), "_law_drawn", "_law_drawn", tp 14, ["_law_pool_here", "_law_rows", "_law_k", "_law_size", "_law_at", "_law_most", "_law_counts", "_law_prices", "_law_kind", "_law_old", "_law_x"], c__law_drawn⟩,
  ⟨"law", ("law", Option.none), "law", "law", tp 15, ["_law_script", "_law_pool_here", "_law_rows", "_law_schemes", "_law_keys", "_law_row", "_law_k", "_law_counts", "_law_prices", "_law_low", "_law_at", "_law_bad", "_law_good", "_law_last", "_law_first", "_law_handed", "_law_paid", "_law_made_here", "_law_cost_here", "_law_due", "_law_j", "_law_cheap"], c_law⟩,
  ⟨"Scheme.__init__", ("Scheme", some "__init__"), "__init__", "Scheme.__init__", cp 6 0, ["self", "counts", "prices", "count", "price"], c_Scheme___init__⟩,
  ⟨"Scheme.__eq__", ("Scheme", some "__eq__"), "__eq__", "Scheme.__eq__", cp 6 1, ["self", "other"], c_Scheme___eq__⟩,
  ⟨"Scheme.__lt__", ("Scheme", some "__lt__"), "__lt__", "Scheme.__lt__", cp 6 2, ["self", "other"], c_Scheme___lt__⟩,
  ⟨"Scheme.__le__", ("Scheme", some "__le__"), "__le__", "Scheme.__le__", cp 6 3, ["self", "other"], c_Scheme___le__⟩]
def clss : List (String × ClsD) := [("Scheme", { flds := ["counts", "total", "cost", "__radd__", "__rsub__", "__rmul__", "__rfloordiv__", "__rmod__", "__rpow__"], meths := [("__eq__", ("Scheme.__eq__", .st)), ("__lt__", ("Scheme.__lt__", .st)), ("__le__", ("Scheme.__le__", .st))], init := some ("Scheme.__init__", .st) })]
def exs : List (String × ExD) := [("TalkError", { ini := none, ups := ["TalkError", "ValueError"] }), ("BadSize", { ini := some ["size"], ups := ["BadSize", "TalkError", "ValueError"] }), ("BadCount", { ini := some ["count"], ups := ["BadCount", "TalkError", "ValueError"] })]
def xis : List XI := [⟨"BadSize", "BadSize.__init__", cp 2 0, "self", [("size", "size")]⟩, ⟨"BadCount", "BadCount.__init__", cp 3 0, "self", [("count", "count")]⟩]
def tbl : Tab := { defs := defs, cls := clss, exs := exs, xis := xis, file := "/claim/cut.py" }
def gls : List (Str × GK) := [("law", .fn "law"), ("BadCount", .exc "BadCount"), ("len", .blt), ("BadSize", .exc "BadSize"), ("int", .blt), ("range", .blt), ("sum", .blt), ("_law_mixed", .fn "_law_mixed"), ("abs", .blt), ("_law_same", .fn "_law_same"), ("isinstance", .blt), ("list", .blt), ("tuple", .blt), ("str", .blt), ("bool", .blt), ("Scheme", .cls "Scheme"), ("zip", .blt), ("_law_made", .fn "_law_made"), ("_law_ordered", .fn "_law_ordered"), ("_law_cost", .fn "_law_cost"), ("_law_drawn", .fn "_law_drawn"), ("_law_pool", .fn "_law_pool"), ("check_counts", .fn "check_counts")]
abbrev RO : PySem.W.OpenRow := PySem.W.OpenLaw.row PySem.Challenge.rw_mixaloud_k31_order_of_schemes
def fa : List He.Fa := gls.map faOf ++ []
def fn : List He.DefD := defs.map Ent.dd
abbrev hk : PySem.W.Hook := hookY 6 (fun K => clsTab K tbl && exTab K tbl.file tbl.exs tbl.xis) fa fn tbl.xis
def ob (s : PySem.W.SharedT) : AlY := obsYG 6 (fun K => clsTab K tbl && exTab K tbl.file tbl.exs tbl.xis) fa fn tbl.xis (HandSHeadRun.getT s)
theorem ob_eq (s : PySem.W.SharedT) : ob s = hk.obs s.abs := obsYG_eq (HandSHeadRun.getT_eq s)
def names : List PySem.Str := (["TalkError", "BadSize", "BadCount", "check_counts", "Scheme", "_law_mixed", "_law_pool", "_law_same", "_law_made", "_law_cost", "_law_ordered", "_law_drawn"] : List PySem.Str)
theorem headRun (w : World) : HandSHeadRun.RunEq RO (PySem.W.view RO.prog [15]) hk ob 20000 names w := by
  intro os
  kernel_rfl
theorem tbl_nd : (tbl.defs.map (·.id)).Nodup := by decide +kernel
theorem tbl_ok : tbl.defs.all (Ent.ok gls) = true := by kernel_rfl
theorem gls_ok : glB tbl gls = true := by kernel_rfl
theorem cls_ok : clsDefs tbl = true := by kernel_rfl
theorem xdf_ok : exDefs tbl.exs tbl.xis = true := by kernel_rfl
theorem file_ok : (PySem.Challenge.rw_mixaloud_k31_order_of_schemes.prog.main.file == tbl.file) = true := by kernel_rfl
theorem top_ok : (PySem.Challenge.rw_mixaloud_k31_order_of_schemes.prog.main.scope.names.lookup ("super" : Str)).isSome = false := by kernel_rfl
theorem law_ok : tbl.defs.any (fun e => (e.id == "law") && (decide (e.at_ = (("law" : Str), Option.none)) && decide (e.ps = [("_law_script" : Str)]))) = true := by kernel_rfl
theorem lawp : LawP (progOf tbl) := ⟨⟨by kernel_rfl, by kernel_rfl, by kernel_rfl, by kernel_rfl, by kernel_rfl, ⟨_, by rfl, by rfl⟩, by kernel_rfl, by kernel_rfl, by kernel_rfl, by kernel_rfl, by kernel_rfl, by kernel_rfl, by kernel_rfl, by kernel_rfl, by kernel_rfl⟩, by kernel_rfl, by kernel_rfl, by kernel_rfl, by kernel_rfl, by kernel_rfl, by kernel_rfl, by kernel_rfl, by kernel_rfl⟩
theorem law_true : LawTrue tbl 9 := fun ns hn => law31_run lawp ns hn
end MX.K31
open PySem PySem.W PySem.Calls PyProof.Rows
theorem PySem.Challenge.cw_mixaloud_k31_order_of_schemes_holds : PySem.Challenge.rw_mixaloud_k31_order_of_schemes.Holds := by
  w_on; o_law
  refine HandSHeadRun.head_any (r := OpenLaw.row PySem.Challenge.rw_mixaloud_k31_order_of_schemes) (q := view (OpenLaw.row PySem.Challenge.rw_mixaloud_k31_order_of_schemes).prog [15]) (H := MX.K31.hk) (ob := MX.K31.ob) (M := 20000) (loose := MX.K31.names) (d := HandSHeadRun.topDef (OpenLaw.row PySem.Challenge.rw_mixaloud_k31_order_of_schemes).prog 15) (kwd := []) MX.K31.ob_eq
    (by kernel_rfl) (fun s => by kernel_rfl) MX.K31.headRun (by kernel_rfl) (by kernel_rfl) (by kernel_rfl) (by rfl) (by first | assumption | decide +kernel) (by decide +kernel) ⟨rfl, rfl, rfl, rfl, rfl, by decide +kernel⟩ ?hw ?hc
  case hw => w_witness2
  case hc =>
    exact MX.walk_mx (l := PySem.Challenge.rw_mixaloud_k31_order_of_schemes) (T := MX.K31.tbl) (gl := MX.K31.gls) (more := []) (n := 9) (x := "_law_script") rfl (by kernel_rfl) ⟨rfl, by decide, by decide⟩ (by kernel_rfl) MX.K31.tbl_nd MX.K31.tbl_ok MX.K31.gls_ok MX.K31.cls_ok MX.K31.xdf_ok MX.K31.file_ok MX.K31.top_ok MX.K31.law_ok (by decide +kernel) MX.K31.law_true
end
