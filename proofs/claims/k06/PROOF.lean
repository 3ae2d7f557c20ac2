import PyProof.Rows.All
import Wide.All
import OpenK.AllK
import Wide.FinOn
import PySem.Challenge.RW_mixaloud_k06_mix_refusals
import HandS.ForMost
import HandS.Exc
import HandS.Defaults
import HandS.Wide
import HandS.ExcOwn
import HandS.CallSlots
import HandS.Flow
import KE.LtData
import HandS.TupLe
import HandS.IsInst
import HandS.Zip
import HandS.Style
import HandS.IterVal
import HandS.OwnEq
import HandS.Property
import KE.KOpsOwn
import KE.KCallOwn
import PyProof.FactsInt2
import HandS.ClsMeth
import HandS.HeadHook2
import HandS.HeadEnd
import HandS.HeadHook1
import KE.KExcSuper
import HandS.ExcInit
import HandS.TryMany
import HandS.ExcField
import HandS.ExcIs
import HandS.HeadNt
import HandS.Head0
import HandS.Head1
import HandS.Head2
import KE.KStateDown
set_option Elab.async false
set_option linter.all false
section
set_option maxRecDepth 100000
namespace MX
open PySem

/-- a value as data: ptr n is the n-th cell of the store; all else is never changed -/
inductive D where
  | non
  | bl (b : Bool)
  | int (i : Int)
  | str (s : Str)
  | lst (xs : List D)
  | tup (xs : List D)
  | ins (c : String) (fs : List (String × D))
  | ptr (n : Nat)
  | scr (ns : List Int)
  deriving Inhabited

inductive Cell where
  | lst (xs : List D)
  | ins (c : String) (fs : List (String × D))
  | frz (d : D)
  deriving Inhabited

abbrev Store := List Cell
abbrev DSt := List (Option D)

structure Exn where
  cls : String
  fs : List (String × D) := []

inductive Res (α : Type) where
  | ok (a : α) (S : Store)
  | ex (x : Exn) (S : Store)
  | bad

def Res.bind {α β : Type} (r : Res α) (f : α → Store → Res β) : Res β :=
  match r with
  | .ok a S => f a S
  | .ex x S => .ex x S
  | .bad => .bad

/-- what a value is: a cell's content -/
def look (S : Store) : D → D
  | .ptr n => match S[n]? with
    | some (.lst xs) => .lst xs
    | some (.ins c fs) => .ins c fs
    | some (.frz d) => d
    | none => .ptr n
  | d => d

mutual
def D.pf : D → Bool
  | .lst xs => pfL xs
  | .tup xs => pfL xs
  | .ins _ fs => pfF fs
  | .ptr _ => false
  | _ => true
def pfL : List D → Bool
  | [] => true
  | d :: r => d.pf && pfL r
def pfF : List (String × D) → Bool
  | [] => true
  | (_, d) :: r => d.pf && pfF r
end

/-- a target: a name, or a tuple of names -/
inductive Tg where | n (i : Nat) | t (is : List Nat)
  deriving Inhabited, DecidableEq
/-- what a walk goes over: a value, zip(a, b), enumerate(a), reversed(a) -/
inductive ItK where | seq | zip | enum | rev
  deriving Inhabited, DecidableEq
inductive Bop where | add | sub | mul | fdiv | mod | pow
  deriving DecidableEq
inductive Cop where | eq | ne | lt | le | gt | ge | is_ | isn | in_ | nin
  deriving DecidableEq
/-- built-in functions and types called by name -/
inductive Bi where | abs | int | bool | len | sum | list | tuple | max2 | min2 | any | all | listc
  deriving DecidableEq
/-- the types that isinstance is asked of -/
inductive Ty where | int | bool | str | list | tuple | cls (c : String)
  deriving DecidableEq
/-- pure: data goes in frozen, and stays so; st: the store itself; flat: data goes in as it stands, a flat value comes out -/
inductive Mode where | pure | st | flat
  deriving DecidableEq

inductive E where
  | var (i : Nat) | int (i : Int) | bl (b : Bool) | non | str (s : String)
  | gint (x : String) (i : Int)
  | bin (op : Bop) (a b : E) | neg (a : E) | not (a : E)
  | cmp (op : Cop) (a b : E) | chain (o1 o2 : Cop) (a b c : E)
  | and (a b : E) | or (a b : E) | ife (c a b : E)
  | tup (as : E) | lst (as : E)
  | cell (as : E)
  | anil | acons (e r : E)
  | idx (a i : E) | cut (a lo hi : E) | nopart | part (e : E)
  | call (m : Mode) (f : String) (as : E)
  | bi (b : Bi) (as : E)
  | isi (e : E) (cs : List Ty)
  | app (o e : E)
  | comp (nw : Bool) (own : List Nat) (k : ItK) (tg : Tg) (it c elt : E)
  | rev (a : E)
  | irng1 (a : E) | irng2 (a b : E) | cnd (e : E)
  | frz (e : E) | catc (a b : E)
  | stuck
  | fld (x : String) (o : E)
  | mk (c : String) (as : E)
  | meth (x : String) (o as : E)
  | ical (o as : E)
  | scall (c x : String) (as : E)
  | prop (x : String) (o : E)
  deriving Inhabited

/-- an expression of an except suite -/
inductive XE where
  | str (s : String) | int (i : Int) | non | bl (b : Bool)
  | fld (f : String) | isi (c : String)
  | not (a : XE) | and (a b : XE)
  | var (i : Nat)
  | tup (as : XE) | anil | acons (e r : XE)
  deriving Inhabited

inductive Sx where
  | nil | pass | brk | cont | seq (a b : Sx)
  | asg (i : Nat) (e : E)
  | aug (op : Bop) (i : Nat) (e : E)
  | ex (e : E) | ret (e : E) | retN
  | ifs (c : E) (a b : Sx)
  | whl (fuel : Nat) (c : E) (b : Sx)
  | for_ (k : ItK) (tg : Tg) (it : E) (b : Sx)
  | stuck
  | sfld (x : String) (o e : E)
  | sidx (o i e : E)
  | nim
  | raise (c : String) (as : E)
  | try_ (b h : Sx)
  | hnil | hcons (c : String) (i : Option Nat) (as : List (Nat × XE)) (r : XE) (h : Sx)
  deriving Inhabited

structure Fn where
  np : Nat
  ns : Nat
  body : Sx
/-- an own class: names that it lacks, its methods, its __init__ -/
structure ClsD where
  flds : List String := []
  meths : List (String × (String × Mode)) := []
  init : Option (String × Mode) := none
  stat : List (String × (String × Mode)) := []
  iter : Option String := none
  props : List (String × (String × Mode)) := []
/-- an own exception class: the fields that its __init__ stores (none: no __init__ of its own), the classes above it, itself among them -/
structure ExD where
  ini : Option (List String) := none
  ups : List String := []
structure Prog where
  fn : String → Option Fn
  ct : String → Option ClsD
  xt : String → Option ExD

/-! ### operators -/
def cdI : D → Option Int
  | .int i => some i
  | _ => none
def intsD : List D → Option (List Int)
  | [] => some []
  | .int i :: r => (intsD r).map (i :: ·)
  | _ :: _ => none
/-- the truths of truth values and whole numbers -/
def blsD : List D → Option (List Bool)
  | [] => some []
  | .bl i :: r => (blsD r).map (i :: ·)
  | .int i :: r => (blsD r).map ((i != 0) :: ·)
  | _ :: _ => none

/-- a great number's bound -/
def wideB : Nat := 2 ^ 600
def wideM (i j : Int) : Bool := decide (i.natAbs < wideB) && decide (j.natAbs < wideB)
def binI : Bop → Int → Int → Option Int
  | .add, i, j => some (i + j)
  | .sub, i, j => some (i - j)
  | .mul, i, j => if ((-(2 ^ 64) < i ∧ i < 2 ^ 64) ∨ (-(2 ^ 64) < j ∧ j < 2 ^ 64)) ∨ wideM i j = true then some (i * j) else none
  | .fdiv, i, j => if (0 < j ∧ j < 1073741824) ∨ (0 < j ∧ wideM i j = true) then some (i / j) else none
  | .mod, i, j => if 0 < j then some (i % j) else none
  | .pow, i, j => if 0 ≤ j ∧ j ≤ 1000000 ∧ i.natAbs < 2 ^ 64 then some (i ^ j.toNat) else none

/-- a op b: a value, ints, lists, tuples, texts -/
def binD (op : Bop) (S : Store) (a b : D) : Res D :=
  match look S a, look S b with
  | .int i, .int j => match binI op i j with
    | some k => .ok (.int k) S
    | none => .bad
  | .str x, .str y => match op with
    | .add => if x.length + y.length ≤ sizeLine then .ok (.str (x ++ y)) S else .bad
    | _ => .bad
  | .lst xs, .lst ys => match op with
    | .add => if xs.length + ys.length ≤ sizeLine then .ok (.lst (xs ++ ys)) S else .bad
    | _ => .bad
  | .tup xs, .tup ys => match op with
    | .add => if xs ≠ [] ∧ ys ≠ [] ∧ xs.length + ys.length ≤ sizeLine then .ok (.tup (xs ++ ys)) S else .bad
    | _ => .bad
  | .lst xs, .int k => match op with
    | .mul => if -(2 ^ 63) ≤ k ∧ k < 2 ^ 63 ∧ xs.length * k.toNat ≤ sizeLine then .ok (.lst (List.replicate k.toNat xs).flatten) S else .bad
    | _ => .bad
  | _, _ => .bad

/-- flat values -/
def flatD : D → Bool
  | .non => true
  | .bl _ => true
  | .int _ => true
  | .str _ => true
  | _ => false
def flatS : D → Bool
  | .str x => PySem.PyData.canLay0 (.str x)
  | d => flatD d
/-- plain data of at most this depth -/
def dpD : Nat → D → Bool
  | 0, d => flatS d
  | n + 1, .lst xs => xs.all (dpD n)
  | n + 1, .tup xs => xs.all (dpD n)
  | _ + 1, d => flatS d
mutual
/-- == at any depth -/
def eqB : D → D → Bool
  | .non, .non => true
  | .bl a, .bl b => a == b
  | .bl a, .int b => (if a then 1 else 0) == b
  | .int a, .bl b => a == (if b then 1 else 0)
  | .int a, .int b => a == b
  | .str a, .str b => a == b
  | .lst xs, .lst ys => eqBL xs ys
  | .tup xs, .tup ys => eqBL xs ys
  | _, _ => false
def eqBL : List D → List D → Bool
  | [], [] => true
  | a :: r, b :: q => eqB a b && eqBL r q
  | _, _ => false
end
/-! the order of whole numbers and of tuples of these, to any depth -/
mutual
def alB : D → D → Bool
  | .int _, .int _ => true
  | .tup xs, .tup ys => alBL xs ys
  | _, _ => false
def alBL : List D → List D → Bool
  | x :: xs, y :: ys => alB x y && alBL xs ys
  | _, _ => true
end
mutual
def ltB : D → D → Bool
  | .int i, .int j => decide (i < j)
  | .tup xs, .tup ys => ltBL xs ys
  | _, _ => false
def ltBL : List D → List D → Bool
  | x :: xs, y :: ys => if eqB x y then ltBL xs ys else ltB x y
  | [], _ :: _ => true
  | _, [] => false
end
mutual
def leB : D → D → Bool
  | .int i, .int j => decide (i ≤ j)
  | .tup xs, .tup ys => leBL xs ys
  | _, _ => false
def leBL : List D → List D → Bool
  | x :: xs, y :: ys => if eqB x y then leBL xs ys else leB x y
  | [], _ => true
  | _ :: _, [] => false
end
/-! the same data -/
mutual
def sameB : D → D → Bool
  | .non, .non => true
  | .bl a, .bl b => a == b
  | .int a, .int b => a == b
  | .str a, .str b => decide (a = b)
  | .lst xs, .lst ys => sameBL xs ys
  | .tup xs, .tup ys => sameBL xs ys
  | .ins c fs, .ins e gs => decide (c = e) && sameBF fs gs
  | .ptr n, .ptr m => n == m
  | .scr a, .scr b => decide (a = b)
  | _, _ => false
def sameBL : List D → List D → Bool
  | [], [] => true
  | a :: r, b :: q => sameB a b && sameBL r q
  | _, _ => false
def sameBF : List (String × D) → List (String × D) → Bool
  | [], [] => true
  | (x, a) :: r, (y, b) :: q => decide (x = y) && (sameB a b && sameBF r q)
  | _, _ => false
end
def eqO (x y : D) : Option Bool := if dpD 8 x && dpD 8 y then some (eqB x y) else none
def inO (x : D) (ys : List D) : Option Bool := if flatD x && ys.all flatD then some (ys.any fun y => eqB y x) else none
def notO : Option Bool → Option Bool
  | some b => some (!b)
  | none => none
def ltO (x y : D) : Option Bool := if dpD 8 x && (dpD 8 y && alB x y) then some (ltB x y) else none
def leO (x y : D) : Option Bool := if dpD 8 x && (dpD 8 y && alB x y) then some (leB x y) else none
def cmpB (op : Cop) (S : Store) (a b : D) : Option Bool :=
  match op with
  | .eq => eqO (look S a) (look S b)
  | .ne => notO (eqO (look S a) (look S b))
  | .lt => ltO (look S a) (look S b)
  | .le => leO (look S a) (look S b)
  | .gt => match look S a, look S b with
    | .int i, .int j => some (decide (j < i))
    | _, _ => none
  | .ge => match look S a, look S b with
    | .int i, .int j => some (decide (j ≤ i))
    | _, _ => none
  | .is_ => match b with
    | .non => match a with
      | .non => some true
      | _ => some false
    | _ => none
  | .isn => match b with
    | .non => match a with
      | .non => some false
      | _ => some true
    | _ => none
  | .in_ => match look S b with
    | .lst ys => inO a ys
    | .tup ys => inO a ys
    | _ => none
  | .nin => match look S b with
    | .lst ys => notO (inO a ys)
    | .tup ys => notO (inO a ys)
    | _ => none
def ofB (S : Store) : Option Bool → Res D
  | some b => .ok (.bl b) S
  | none => .bad
/-- a value's truth -/
def truD : D → Option Bool
  | .non => some false
  | .bl b => some b
  | .int i => some (i != 0)
  | .str s => if s.length ≤ sizeLine then some ((s.length : Int) != 0) else none
  | .lst xs => some (!xs.isEmpty)
  | .tup xs => some (!xs.isEmpty)
  | _ => none
def atD (xs : List D) (i : Int) : Option D := L2.atI xs i
def idxD (S : Store) (a i : D) : Res D :=
  match look S a, i with
  | .lst xs, .int k => match atD xs k with
    | some d => .ok d S
    | none => .bad
  | .tup xs, .int k => match atD xs k with
    | some d => .ok d S
    | none => .bad
  | _, _ => .bad
def partD : D → Option (Option Int)
  | .non => some none
  | .int i => some (some i)
  | _ => none
def cutL (xs : List D) (lo hi : Option Int) : List D := (xs.drop (HT.sIx xs.length 0 lo)).take (HT.sIx xs.length xs.length hi - HT.sIx xs.length 0 lo)
def cutD (S : Store) (a : D) (l h : Option Int) : Res D :=
  match look S a with
  | .lst xs => .ok (.lst (cutL xs l h)) S
  | .tup xs => if HT.sIx xs.length 0 l = 0 ∧ HT.sIx xs.length xs.length h = xs.length then .bad else .ok (.tup (cutL xs l h)) S
  | _ => .bad
def withPart {α : Type} (d : D) (k : Option Int → Res α) : Res α :=
  match partD d with
  | some o => k o
  | none => .bad
/-- the items of what is walked -/
def itemsD (S : Store) (d : D) : Option (List D) :=
  match look S d with
  | .lst xs => some xs
  | .tup xs => some xs
  | .scr ns => some (ns.map .int)
  | _ => none
def rngD : List D → Option (List D)
  | [.int n] => if -(2 ^ 62) ≤ n ∧ n < 2 ^ 62 then some ((List.range n.toNat).map fun (k : Nat) => D.int (0 + (k : Int))) else none
  | [.int a, .int b] => if -(2 ^ 62) ≤ a ∧ a < 2 ^ 62 ∧ -(2 ^ 62) ≤ b ∧ b < 2 ^ 62 then some ((List.range (b - a).toNat).map fun (k : Nat) => D.int (a + (k : Int))) else none
  | _ => none
def lenD (S : Store) (d : D) : Option Nat :=
  match look S d with
  | .lst xs => some xs.length
  | .tup xs => some xs.length
  | .str s => if s.length ≤ sizeLine then some s.length else none
  | .scr ns => some ns.length
  | _ => none
def biD (b : Bi) (S : Store) (ds : List D) : Res D :=
  match b, ds with
  | .abs, [.int i] => .ok (.int (if i < 0 then -i else i)) S
  | .int, [.int i] => .ok (.int i) S
  | .int, [.bl k] => .ok (.int (if k then 1 else 0)) S
  | .bool, [.int i] => .ok (.bl (i != 0)) S
  | .bool, [.bl k] => .ok (.bl k) S
  | .len, [d] => match lenD S d with
    | some n => .ok (.int n) S
    | none => .bad
  | .max2, [.int i, .int j] => .ok (.int (if j > i then j else i)) S
  | .min2, [.int i, .int j] => .ok (.int (if j < i then j else i)) S
  | .sum, [d] => match look S d with
    | .lst xs => match intsD xs with
      | some ns => .ok (.int ns.sum) S
      | none => .bad
    | .tup xs => match intsD xs with
      | some ns => .ok (.int ns.sum) S
      | none => .bad
    | _ => .bad
  | .any, [d] => match look S d with
    | .lst xs => match blsD xs with
      | some ns => .ok (.bl (ns.any id)) S
      | none => .bad
    | _ => .bad
  | .all, [d] => match look S d with
    | .lst xs => match blsD xs with
      | some ns => .ok (.bl (ns.all id)) S
      | none => .bad
    | _ => .bad
  | .list, [d] => match look S d with
    | .lst xs => .ok (.lst xs) S
    | .tup xs => .ok (.lst xs) S
    | _ => .bad
  | .tuple, [d] => match look S d with
    | .lst xs => .ok (.tup xs) S
    | .tup xs => .ok (.tup xs) S
    | _ => .bad
  | .listc, [d] => match look S d with
    | .lst xs => .ok (.ptr S.length) (S ++ [.lst xs])
    | .tup xs => .ok (.ptr S.length) (S ++ [.lst xs])
    | _ => .bad
  | _, _ => .bad
/-- isinstance of plain data -/
def isiD (S : Store) (d : D) (t : Ty) : Option Bool :=
  match look S d, t with
  | .int _, .int => some true | .int _, _ => some false
  | .bl _, .int => some true | .bl _, .bool => some true | .bl _, _ => some false
  | .str _, .str => some true | .str _, _ => some false
  | .non, _ => some false
  | .lst _, .list => some true | .lst _, .cls _ => none | .lst _, _ => some false
  | .tup _, .tuple => some true | .tup _, .cls _ => none | .tup _, _ => some false
  | _, _ => none
def isiAny (S : Store) (d : D) : List Ty → Option Bool
  | [] => some false
  | t :: r => match isiD S d t with
    | some true => some true
    | some false => isiAny S d r
    | none => none
/-- isinstance where own classes may stand -/
def isiX (kn : String → Bool) (S : Store) (d : D) (t : Ty) : Option Bool :=
  match t with
  | .cls c => match look S d with
    | .ins k _ => if kn k && kn c then some (k == c) else none
    | .scr _ => none
    | .ptr _ => none
    | _ => if kn c then some false else none
  | t => match look S d with
    | .ins k _ => if kn k then some false else none
    | _ => isiD S d t
def isiXs (kn : String → Bool) (S : Store) (d : D) : List Ty → Option Bool
  | [] => some false
  | t :: r => match isiX kn S d t with
    | some true => some true
    | some false => isiXs kn S d r
    | none => none
def Prog.kn (pr : Prog) (c : String) : Bool := (pr.ct c).isSome
def wipeD (σ : DSt) : List Nat → DSt
  | [] => σ
  | v :: vs => (wipeD σ vs).set v none
/-! ### freezing -/
def frzL (f : Store → D → Option (D × Store)) : Store → List D → Option (List D × Store)
  | S, [] => some ([], S)
  | S, d :: r => match f S d with
    | some (e, S1) => match frzL f S1 r with
      | some (q, S2) => some (e :: q, S2)
      | none => none
    | none => none
def frzF (f : Store → D → Option (D × Store)) : Store → List (String × D) → Option (List (String × D) × Store)
  | S, [] => some ([], S)
  | S, (x, d) :: r => match f S d with
    | some (e, S1) => match frzF f S1 r with
      | some (q, S2) => some ((x, e) :: q, S2)
      | none => none
    | none => none
def frzD : Nat → Store → D → Option (D × Store)
  | 0, S, d => if d.pf then some (d, S) else none
  | k + 1, S, d => if d.pf then some (d, S) else match d with
    | .ptr n => match S[n]? with
      | some (.frz e) => some (e, S)
      | some (.lst xs) => match frzL (frzD k) S xs with
        | some (ys, S1) => match S1[n]? with
          | some (.lst _) => some (.lst ys, S1.set n (.frz (.lst ys)))
          | _ => none
        | none => none
      | some (.ins c fs) => match frzF (frzD k) S fs with
        | some (gs, S1) => match S1[n]? with
          | some (.ins _ _) => some (.ins c gs, S1.set n (.frz (.ins c gs)))
          | _ => none
        | none => none
      | none => none
    | .tup xs => match frzL (frzD k) S xs with
      | some (ys, S1) => some (.tup ys, S1)
      | none => none
    | .lst xs => match frzL (frzD k) S xs with
      | some (ys, S1) => some (.lst ys, S1)
      | none => none
    | .ins c fs => match frzF (frzD k) S fs with
      | some (gs, S1) => some (.ins c gs, S1)
      | none => none
    | _ => none
/-! ### reading: what a value is, as data, now -/
def rdL (f : D → Option D) : List D → Option (List D)
  | [] => some []
  | d :: r => match f d with
    | some e => match rdL f r with
      | some q => some (e :: q)
      | none => none
    | none => none
def rdF (f : D → Option D) : List (String × D) → Option (List (String × D))
  | [] => some []
  | (x, d) :: r => match f d with
    | some e => match rdF f r with
      | some q => some ((x, e) :: q)
      | none => none
    | none => none
def rdD : Nat → Store → D → Option D
  | 0, _, d => if d.pf then some d else none
  | k + 1, S, d => if d.pf then some d else match d with
    | .ptr n => match S[n]? with
      | some (.frz e) => some e
      | some (.lst xs) => match rdL (rdD k S) xs with
        | some ys => some (.lst ys)
        | none => none
      | some (.ins c fs) => match rdF (rdD k S) fs with
        | some gs => some (.ins c gs)
        | none => none
      | none => none
    | .tup xs => match rdL (rdD k S) xs with
      | some ys => some (.tup ys)
      | none => none
    | .lst xs => match rdL (rdD k S) xs with
      | some ys => some (.lst ys)
      | none => none
    | .ins c fs => match rdF (rdD k S) fs with
      | some gs => some (.ins c gs)
      | none => none
    | _ => none
/-! ### the evaluator: cb runs a def -/
abbrev Cb := String → List D → Store → Res D
def frzK : Nat := 6
def frzE (S : Store) (d : D) : Res D :=
  match frzD frzK S d with
  | some (e, S1) => .ok e S1
  | none => .bad
/-- a + b of lists, the new list a cell -/
def catD (S : Store) (a b : D) : Res D :=
  match look S a, look S b with
  | .lst xs, .lst ys => if xs.length + ys.length ≤ sizeLine then .ok (.ptr S.length) (S ++ [.lst (xs ++ ys)]) else .bad
  | _, _ => .bad
/-- a run that sees frozen data only: its own store is empty -/
def pureK (k : List D → Store → Res D) (ds : List D) (S : Store) : Res D :=
  match frzL (frzD frzK) S ds with
  | some (es, S1) => match k es [] with
    | .ok d S2 => match frzD frzK S2 d with
      | some (d', _) => .ok d' S1
      | none => .bad
    | .ex x _ => if pfF x.fs then .ex x S1 else .bad
    | .bad => .bad
  | none => .bad
def callP (cb : Cb) (f : String) (ds : List D) (S : Store) : Res D := pureK (cb f) ds S
/-- a run that sees data as it stands and hands back a flat value: the store stays -/
def flatK (k : List D → Store → Res D) (ds : List D) (S : Store) : Res D :=
  match rdL (rdD frzK S) ds with
  | some es => match k es [] with
    | .ok d _ => if flatD d then .ok d S else .bad
    | .ex x _ => if x.fs.all (fun p => flatD p.2) then .ex x S else .bad
    | .bad => .bad
  | none => .bad
def callM (cb : Cb) (m : Mode) (f : String) (ds : List D) (S : Store) : Res D :=
  match m with
  | .pure => callP cb f ds S
  | .st => cb f ds S
  | .flat => flatK (cb f) ds S
/-- a new instance, behind its __init__ -/
def mkK (k : List D → Store → Res D) (c : String) (ds : List D) (S : Store) : Res D :=
  match k (.ptr S.length :: ds) (S ++ [.ins c []]) with
  | .ok .non S1 => .ok (.ptr S.length) S1
  | .ok _ _ => .bad
  | .ex x S1 => .ex x S1
  | .bad => .bad
def mkM (cb : Cb) (m : Mode) (c f : String) (ds : List D) (S : Store) : Res D :=
  match m with
  | .pure => pureK (mkK (cb f) c) ds S
  | .st => mkK (cb f) c ds S
  | .flat => .bad
/-- an instance's class and fields -/
def insD (S : Store) (d : D) : Option (String × List (String × D)) :=
  match look S d with
  | .ins k fs => some (k, fs)
  | _ => none
def Prog.lacks (pr : Prog) (c x : String) : Bool :=
  match pr.ct c with
  | some k => k.flds.contains x
  | none => false
def Prog.meth (pr : Prog) (c x : String) : Option (String × Mode) :=
  match pr.ct c with
  | some k => k.meths.lookup x
  | none => none
def fldD (pr : Prog) (x : String) (S : Store) (d : D) : Res D :=
  match insD S d with
  | some (c, fs) => if pr.lacks c x then match fs.lookup x with
    | some e => .ok e S
    | none => .bad
    else .bad
  | none => .bad
/-- the method x of what d is -/
def methD (pr : Prog) (x : String) (S : Store) (d : D) : Option (String × Mode) :=
  match insD S d with
  | some (c, fs) => if (fs.lookup x).isNone then pr.meth c x else none
  | none => none
def putD (x : String) (d : D) : List (String × D) → List (String × D)
  | [] => [(x, d)]
  | (y, e) :: r => if y = x then (x, d) :: r else (y, e) :: putD x d r
def sfldD (pr : Prog) (x : String) (S : Store) (o d : D) : Option Store :=
  match o with
  | .ptr n => match S[n]? with
    | some (.ins c fs) => if pr.lacks c x = true ∧ fs.length < 1000 then some (S.set n (.ins c (putD x d fs))) else none
    | _ => none
  | _ => none
/-- o[k] = d, o a list that is a cell -/
def sidxD (S : Store) (o k d : D) : Option Store :=
  match o, k with
  | .ptr n, .int j => match S[n]? with
    | some (.lst xs) => match L2.ixN xs.length j with
      | some m => some (S.set n (.lst (xs.set m d)))
      | none => none
    | _ => none
  | _, _ => none
def isInt : D → Bool
  | .int _ => true
  | _ => false
/-- the operators' method names -/
def Bop.dn : Bop → String
  | .add => "__add__"
  | .sub => "__sub__"
  | .mul => "__mul__"
  | .fdiv => "__floordiv__"
  | .mod => "__mod__"
  | .pow => "__pow__"
def Bop.rn : Bop → String
  | .add => "__radd__"
  | .sub => "__rsub__"
  | .mul => "__rmul__"
  | .fdiv => "__rfloordiv__"
  | .mod => "__rmod__"
  | .pow => "__rpow__"
def Bop.rok : Bop → Bool
  | .add => true
  | .sub => true
  | .mul => true
  | .fdiv => true
  | _ => false
/-- the reflected name is a method of the class, or none -/
def Prog.rok (pr : Prog) (c : String) (op : Bop) : Bool := pr.lacks c op.rn || (op.rok && (pr.meth c op.rn).isSome)
def callO (cb : Cb) (o : Option (String × Mode)) (ds : List D) (S : Store) : Res D :=
  match o with
  | some (f, m) => callM cb m f ds S
  | none => .bad
/-- the types that a def asks its second parameter for, ahead of all else -/
def nimC : Sx → Option (List Ty)
  | .seq (.ifs (.not (.isi (.var 1) cs)) (.seq .nim .nil) .nil) _ => some cs
  | _ => none
/-- the def hands back NotImplemented for this right side -/
def nimB (pr : Prog) (o : Option (String × Mode)) (S : Store) (b : D) : Bool :=
  match o with
  | some (f, _) => match pr.fn f with
    | some F => match nimC F.body with
      | some cs => match isiXs pr.kn S b cs with
        | some false => decide (F.np = 2)
        | _ => false
      | none => false
    | none => false
  | none => false
/-- a op b, two instances of different classes -/
def binY (pr : Prog) (cb : Cb) (op : Bop) (c c2 : String) (S : Store) (a b : D) : Res D :=
  if nimB pr (pr.meth c op.dn) S b then callO cb (pr.meth c2 op.rn) [b, a] S else callO cb (pr.meth c op.dn) [a, b] S
/-- a op b, the class's own where one side is an instance -/
def binX (pr : Prog) (cb : Cb) (op : Bop) (S : Store) (a b : D) : Res D :=
  match insD S a with
  | some (c, _) => match insD S b with
    | some (c2, _) => if c2 = c then callO cb (pr.meth c op.dn) [a, b] S else if pr.rok c op && ((pr.meth c2 op.dn).isSome && (pr.meth c2 op.rn).isSome) then binY pr cb op c c2 S a b else .bad
    | none => if isInt b && pr.rok c op then callO cb (pr.meth c op.dn) [a, b] S else .bad
  | none => match insD S b with
    | some (c, _) => if isInt a && (op.rok && (pr.meth c op.dn).isSome) then callO cb (pr.meth c op.rn) [b, a] S else .bad
    | none => binD op S a b
def negX (pr : Prog) (cb : Cb) (S : Store) (a : D) : Res D :=
  match insD S a with
  | some (c, _) => callO cb (pr.meth c "__neg__") [a] S
  | none => match a with
    | .int i => .ok (.int (-i)) S
    | _ => .bad
def asBl (r : Res D) (k : Bool → Bool) : Res D :=
  r.bind fun d S => match d with
    | .bl b => .ok (.bl (k b)) S
    | _ => .bad
def unT : D → List D
  | .tup xs => xs
  | _ => []
def tru (S : Store) (d : D) (k : Bool → Res D) : Res D :=
  match truD (look S d) with
  | some b => k b
  | none => .bad
/-- the turns of a comprehension -/
def compL (f : D → Store → Res (Option D)) : List D → Store → Res (List D)
  | [], S => .ok [] S
  | x :: r, S => (f x S).bind fun o S1 => (compL f r S1).bind fun ys S2 => .ok (o.toList ++ ys) S2
/-- a source that no one changes -/
def still (S : Store) : D → Bool
  | .ptr n => match S[n]? with
    | some (.frz _) => true
    | _ => false
  | _ => true
def sameC (S : Store) (c : String) (b : D) : Bool :=
  match insD S b with
  | some (c2, _) => c2 == c
  | none => false
/-- a < b, a <= b by the class's own; a > b, a >= b by the other side's -/
def ordX (pr : Prog) (cb : Cb) (c : String) (S : Store) (a b : D) : Cop → Res D
  | .lt => asBl (callO cb (pr.meth c "__lt__") [a, b] S) id
  | .le => asBl (callO cb (pr.meth c "__le__") [a, b] S) id
  | .gt => asBl (callO cb (pr.meth c "__lt__") [b, a] S) id
  | .ge => asBl (callO cb (pr.meth c "__le__") [b, a] S) id
  | _ => .bad
/-- a == b, a != b, the class's own where the left side is an instance -/
def cmpX (pr : Prog) (cb : Cb) (op : Cop) (S : Store) (a b : D) : Res D :=
  match insD S a with
  | some (c, _) =>
    if op = .eq ∨ op = .ne then
      if isInt b || (match insD S b with
        | some (c2, _) => c2 == c
        | none => false) then asBl (callO cb (pr.meth c "__eq__") [a, b] S) (fun t => (op == .ne) != t) else .bad
    else if op = .is_ ∨ op = .isn then ofB S (cmpB op S a b)
    else if sameC S c b then ordX pr cb c S a b op else .bad
  | none => ofB S (cmpB op S a b)
def noEx {α : Type} : Res α → Res α
  | .ex _ _ => .bad
  | r => r
def isLst (S : Store) (d : D) : Bool :=
  match look S d with
  | .lst _ => true
  | _ => false
def asLen (r : Res D) : Res D :=
  r.bind fun d S => match d with
    | .int n => if 0 ≤ n ∧ n < 2 ^ 63 then .ok (.int n) S else .bad
    | _ => .bad
/-- the field that an instance's __iter__ walks -/
def Prog.itF (pr : Prog) (c : String) : Option String :=
  match pr.ct c with
  | some cd => cd.iter
  | none => none
/-- list(o), o an instance: its length, then the items of its field -/
def iterX (pr : Prog) (cb : Cb) (c : String) (fs : List (String × D)) (S : Store) (d : D) (k : Store → D → Res D) : Res D :=
  match pr.itF c with
  | some f => match fs.lookup f with
    | some e => if isLst S e then (noEx (callO cb (pr.meth c "__len__") [d] S)).bind fun n S1 => match n with
      | .int j => if (0 ≤ j ∧ j ≤ 1000000) ∧ isLst S1 e = true then k S1 e else .bad
      | _ => .bad
      else .bad
    | none => .bad
  | none => .bad
/-- a built-in, called; bool(x), len(x), list(x) ask an instance -/
def biX (pr : Prog) (cb : Cb) (b : Bi) (S : Store) (ds : List D) : Res D :=
  match b, ds with
  | .bool, [d] => match insD S d with
    | some (c, _) => asBl (callO cb (pr.meth c "__bool__") [d] S) id
    | none => biD .bool S [d]
  | .len, [d] => match insD S d with
    | some (c, _) => asLen (callO cb (pr.meth c "__len__") [d] S)
    | none => biD .len S [d]
  | .list, [d] => match insD S d with
    | some (c, fs) => iterX pr cb c fs S d fun S1 e => biD .list S1 [e]
    | none => biD .list S [d]
  | .listc, [d] => match insD S d with
    | some (c, fs) => iterX pr cb c fs S d fun S1 e => biD .listc S1 [e]
    | none => biD .listc S [d]
  | b, ds => biD b S ds
/-- a[i], the class's own where a is an instance -/
def idxX (pr : Prog) (cb : Cb) (S : Store) (a i : D) : Res D :=
  match insD S a with
  | some (c, _) => callO cb (pr.meth c "__getitem__") [a, i] S
  | none => idxD S a i
/-- a class's function called by its class -/
def Prog.stat (pr : Prog) (c x : String) : Option (String × Mode) :=
  match pr.ct c with
  | some k => k.stat.lookup x
  | none => none
/-- the getter of a property x of what d is -/
def Prog.prop (pr : Prog) (c x : String) : Option (String × Mode) :=
  match pr.ct c with
  | some k => k.props.lookup x
  | none => none
def propX (pr : Prog) (cb : Cb) (x : String) (S : Store) (d : D) : Res D :=
  match insD S d with
  | some (c, _) => noEx (callO cb (pr.prop c x) [d] S)
  | none => .bad
def mkX (pr : Prog) (cb : Cb) (c : String) (ds : List D) (S : Store) : Res D :=
  match pr.ct c with
  | some k => match k.init with
    | some (f, m) => mkM cb m c f ds S
    | none => .bad
  | none => .bad
/-- what is walked: the items; does it still stand -/
structure Src where
  xs : List D
  ok : Store → Bool
def sameSrc (S : Store) (d : D) (xs : List D) : Bool :=
  match look S d with
  | .lst ys => sameBL ys xs
  | _ => false
def seqG (st : Bool) (d : D) : Option (List D) → Option Src
  | some xs => some ⟨xs, if st then fun _ => true else fun S => sameSrc S d xs⟩
  | none => none
def seqD (S : Store) (d : D) : Option Src := seqG (still S d) d (itemsD S d)
def alikeS (S : Store) (a b : D) : Bool :=
  match look S a, look S b with
  | .lst _, .lst _ => true
  | .tup _, .tup _ => true
  | _, _ => false
def zipG : Bool → Option Src → Option Src → Option Src
  | true, some s, some t => some ⟨(List.zip s.xs t.xs).map fun p => .tup [p.1, p.2], fun S => s.ok S && t.ok S⟩
  | _, _, _ => none
def enumL : Nat → List D → List D
  | _, [] => []
  | i, x :: r => .tup [.int i, x] :: enumL (i + 1) r
def enumG : Bool → Option Src → Option Src
  | true, some s => some ⟨enumL 0 s.xs, s.ok⟩
  | _, _ => none
def revG : Bool → Option Src → Option Src
  | true, some s => some ⟨s.xs.reverse, s.ok⟩
  | _, _ => none
def srcD (k : ItK) (S : Store) (d : D) : Option Src :=
  match k, d with
  | .seq, d => seqD S d
  | .zip, .tup [a, b] => zipG (alikeS S a b) (seqD S a) (seqD S b)
  | .enum, .tup [a] => enumG (isLst S a) (seqD S a)
  | .rev, .tup [a] => revG (isLst S a) (seqD S a)
  | _, _ => none
/-- the turns of a comprehension, each with the source as it was -/
def compK (ok : Store → Bool) (f : D → Store → Res (Option D)) : List D → Store → Res (List D)
  | [], S => if ok S then .ok [] S else .bad
  | x :: r, S => if ok S then (f x S).bind fun o S1 => (compK ok f r S1).bind fun ys S2 => .ok (o.toList ++ ys) S2 else .bad
def newL (nw : Bool) (S : Store) (xs : List D) : Res D := if nw then .ok (.ptr S.length) (S ++ [.lst xs]) else .ok (.lst xs) S
def setL : List Nat → List D → DSt → Option DSt
  | [], [], σ => some σ
  | i :: is, x :: xs, σ => setL is xs (σ.set i (some x))
  | _, _, _ => none
def setT : Tg → DSt → D → Option DSt
  | .n i, σ, x => some (σ.set i (some x))
  | .t is, σ, .tup xs => setL is xs σ
  | _, _, _ => none
def evE (pr : Prog) (cb : Cb) : E → DSt → Store → Res D
  | .var i, σ, S => match σ[i]? with
    | some (some d) => .ok d S
    | _ => .bad
  | .int i, _, S => .ok (.int i) S
  | .bl b, _, S => .ok (.bl b) S
  | .non, _, S => .ok .non S
  | .nopart, _, S => .ok .non S
  | .part e, σ, S => (evE pr cb e σ S).bind fun x S1 => match x with
    | .int i => .ok (.int i) S1
    | _ => .bad
  | .str s, _, S => .ok (.str (Str.ofString s)) S
  | .gint _ i, _, S => .ok (.int i) S
  | .bin op a b, σ, S => (evE pr cb a σ S).bind fun x S1 => (evE pr cb b σ S1).bind fun y S2 => binX pr cb op S2 x y
  | .neg a, σ, S => (evE pr cb a σ S).bind fun x S1 => negX pr cb S1 x
  | .not a, σ, S => (evE pr cb a σ S).bind fun x S1 => tru S1 x fun b => .ok (.bl (!b)) S1
  | .cmp op a b, σ, S => (evE pr cb a σ S).bind fun x S1 => (evE pr cb b σ S1).bind fun y S2 => cmpX pr cb op S2 x y
  | .chain o1 o2 a b c, σ, S => (evE pr cb a σ S).bind fun x S1 => (evE pr cb b σ S1).bind fun y S2 => match cmpB o1 S2 x y with
    | some true => (evE pr cb c σ S2).bind fun z S3 => ofB S3 (cmpB o2 S3 y z)
    | some false => .ok (.bl false) S2
    | none => .bad
  | .and a b, σ, S => (evE pr cb a σ S).bind fun x S1 => tru S1 x fun t => if t then evE pr cb b σ S1 else .ok x S1
  | .or a b, σ, S => (evE pr cb a σ S).bind fun x S1 => tru S1 x fun t => if t then .ok x S1 else evE pr cb b σ S1
  | .ife c a b, σ, S => (evE pr cb c σ S).bind fun x S1 => tru S1 x fun t => if t then evE pr cb a σ S1 else evE pr cb b σ S1
  | .tup as, σ, S => (evE pr cb as σ S).bind fun x S1 => if (unT x).length ≤ sizeLine then .ok (.tup (unT x)) S1 else .bad
  | .lst as, σ, S => (evE pr cb as σ S).bind fun x S1 => if (unT x).length ≤ sizeLine then .ok (.lst (unT x)) S1 else .bad
  | .cell as, σ, S => (evE pr cb as σ S).bind fun x S1 => if (unT x).length ≤ sizeLine then .ok (.ptr S1.length) (S1 ++ [.lst (unT x)]) else .bad
  | .anil, _, S => .ok (.tup []) S
  | .acons e r, σ, S => (evE pr cb e σ S).bind fun x S1 => (evE pr cb r σ S1).bind fun y S2 => .ok (.tup (x :: unT y)) S2
  | .idx a i, σ, S => (evE pr cb a σ S).bind fun x S1 => (evE pr cb i σ S1).bind fun y S2 => idxX pr cb S2 x y
  | .cut a lo hi, σ, S => (evE pr cb a σ S).bind fun x S1 => (evE pr cb lo σ S1).bind fun y S2 => withPart y fun l => (evE pr cb hi σ S2).bind fun z S3 => withPart z fun h => cutD S3 x l h
  | .call m f as, σ, S => (evE pr cb as σ S).bind fun x S1 => callM cb m f (unT x) S1
  | .bi b as, σ, S => (evE pr cb as σ S).bind fun x S1 => biX pr cb b S1 (unT x)
  | .isi e cs, σ, S => (evE pr cb e σ S).bind fun x S1 => ofB S1 (isiXs pr.kn S1 x cs)
  | .app o e, σ, S => (evE pr cb o σ S).bind fun x S1 => match x with
    | .ptr n => match S1[n]? with
      | some (.lst _) => (evE pr cb e σ S1).bind fun y S2 => match S2[n]? with
        | some (.lst xs) => if xs.length < sizeLine then .ok .non (S2.set n (.lst (xs ++ [y]))) else .bad
        | _ => .bad
      | _ => .bad
    | _ => .bad
  | .cnd e, σ, S => evE pr cb e σ S
  | .frz e, σ, S => (evE pr cb e σ S).bind fun x S1 => frzE S1 x
  | .stuck, _, _ => .bad
  | .fld x o, σ, S => (evE pr cb o σ S).bind fun d S1 => fldD pr x S1 d
  | .mk c as, σ, S => (evE pr cb as σ S).bind fun x S1 => mkX pr cb c (unT x) S1
  | .meth x o as, σ, S => (evE pr cb o σ S).bind fun d S1 => match methD pr x S1 d with
    | some (f, m) => (evE pr cb as σ S1).bind fun y S2 => callM cb m f (d :: unT y) S2
    | none => .bad
  | .ical o as, σ, S => (evE pr cb o σ S).bind fun d S1 => (evE pr cb as σ S1).bind fun y S2 => match insD S2 d with
    | some (c, _) => callO cb (pr.meth c "__call__") (d :: unT y) S2
    | none => .bad
  | .prop x o, σ, S => (evE pr cb o σ S).bind fun d S1 => propX pr cb x S1 d
  | .scall c x as, σ, S => match pr.stat c x with
    | some (f, m) => (evE pr cb as σ S).bind fun y S1 => callM cb m f (unT y) S1
    | none => .bad
  | .catc a b, σ, S => (evE pr cb a σ S).bind fun x S1 => (evE pr cb b σ S1).bind fun y S2 => catD S2 x y
  | .irng1 a, σ, S => (evE pr cb a σ S).bind fun x S1 => match rngD [x] with
    | some xs => .ok (.lst xs) S1
    | none => .bad
  | .irng2 a b, σ, S => (evE pr cb a σ S).bind fun x S1 => (evE pr cb b σ S1).bind fun y S2 => match rngD [x, y] with
    | some xs => .ok (.lst xs) S2
    | none => .bad
  | .comp nw own k tg it c elt, σ, S => (evE pr cb it σ S).bind fun d S1 => match srcD k S1 d with
    | some s => (compK s.ok (fun x S => match setT tg (wipeD σ own) x with
      | some σ1 => noEx ((evE pr cb c σ1 S).bind fun y S2 => match truD (look S2 y) with
        | some true => (evE pr cb elt σ1 S2).bind fun z S3 => .ok (some z) S3
        | some false => .ok none S2
        | none => .bad)
      | none => .bad) s.xs S1).bind fun ys S2 => if ys.length ≤ sizeLine then newL nw S2 ys else .bad
    | none => .bad
  | .rev a, σ, S => (evE pr cb a σ S).bind fun x S1 => match look S1 x with
    | .lst xs => .ok (.lst xs.reverse) S1
    | _ => .bad

def augI (op : Bop) (x y : D) : Option Int :=
  match op, x, y with
  | .add, .int i, .int j => some (i + j)
  | .sub, .int i, .int j => some (i - j)
  | _, _, _ => none
def Bop.an : Bop → String
  | .add => "__iadd__"
  | .sub => "__isub__"
  | .mul => "__imul__"
  | .fdiv => "__ifloordiv__"
  | .mod => "__imod__"
  | .pow => "__ipow__"
/-- x op= y, the class's own where x is an instance -/
def augX (pr : Prog) (cb : Cb) (op : Bop) (S : Store) (x y : D) : Res D :=
  match insD S x with
  | some (c, _) => callO cb (pr.meth c op.an) [x, y] S
  | none => match augI op x y with
    | some k => .ok (.int k) S
    | none => .bad
/-- o[k] = d, the class's own where o is an instance -/
def sidxX (pr : Prog) (cb : Cb) (S : Store) (o k d : D) : Res D :=
  match insD S o with
  | some (c, _) => callO cb (pr.meth c "__setitem__") [o, k, d] S
  | none => match sidxD S o k d with
    | some S1 => .ok .non S1
    | none => .bad
inductive SR where
  | nx (σ : DSt) (S : Store) | rt (d : D) (S : Store) | bk (σ : DSt) (S : Store) | ct (σ : DSt) (S : Store)
  | ex (x : Exn) (σ : DSt) (S : Store) | bad
def Res.sr {α : Type} (r : Res α) (σ : DSt) (f : α → Store → SR) : SR :=
  match r with
  | .ok a S => f a S
  | .ex x S => .ex x σ S
  | .bad => .bad
def forL (f : D → DSt → Store → SR) : List D → DSt → Store → SR
  | [], σ, S => .nx σ S
  | x :: r, σ, S => match f x σ S with
    | .nx σ1 S1 => forL f r σ1 S1
    | .ct σ1 S1 => forL f r σ1 S1
    | .bk σ1 S1 => .nx σ1 S1
    | .rt d S1 => .rt d S1
    | .ex x σ1 S1 => .ex x σ1 S1
    | .bad => .bad
/-- the turns of a for, each with the source as it was -/
def forK (ok : Store → Bool) (f : D → DSt → Store → SR) : List D → DSt → Store → SR
  | [], σ, S => if ok S then .nx σ S else .bad
  | x :: r, σ, S => if ok S then match f x σ S with
    | .nx σ1 S1 => forK ok f r σ1 S1
    | .ct σ1 S1 => forK ok f r σ1 S1
    | .bk σ1 S1 => .nx σ1 S1
    | .rt d S1 => .rt d S1
    | .ex x σ1 S1 => .ex x σ1 S1
    | .bad => .bad
    else .bad
def whlL (c : DSt → Store → Res D) (f : DSt → Store → SR) : Nat → DSt → Store → SR
  | 0, _, _ => .bad
  | n + 1, σ, S => (c σ S).sr σ fun x S1 => match truD (look S1 x) with
    | some true => match f σ S1 with
      | .nx σ1 S2 => whlL c f n σ1 S2
      | .ct σ1 S2 => whlL c f n σ1 S2
      | .bk σ1 S2 => .nx σ1 S2
      | .rt d S2 => .rt d S2
      | .ex x σ1 S2 => .ex x σ1 S2
      | .bad => .bad
    | some false => .nx σ S1
    | none => .bad
/-- a value of an except suite; the caught exception -/
def xeD (pr : Prog) (x : Exn) (σ : DSt) : XE → Option D
  | .str s => some (.str (Str.ofString s))
  | .int i => some (.int i)
  | .non => some .non
  | .bl b => some (.bl b)
  | .fld f => match pr.xt x.cls with
    | some k => match k.ini with
      | some l => if l.contains f then x.fs.lookup f else none
      | none => none
    | none => none
  | .isi c => match pr.xt x.cls with
    | some k => some (.bl (k.ups.contains c))
    | none => none
  | .not a => match xeD pr x σ a with
    | some (.bl b) => some (.bl (!b))
    | _ => none
  | .and a b => match xeD pr x σ a with
    | some (.bl false) => some (.bl false)
    | some (.bl true) => match xeD pr x σ b with
      | some (.bl k) => some (.bl k)
      | _ => none
    | _ => none
  | .var i => match σ[i]? with
    | some (some d) => some d
    | _ => none
  | .tup as => match xeD pr x σ as with
    | some (.tup xs) => if xs.length ≤ sizeLine then some (.tup xs) else none
    | _ => none
  | .anil => some (.tup [])
  | .acons e r => match xeD pr x σ e with
    | some d => match xeD pr x σ r with
      | some (.tup xs) => some (.tup (d :: xs))
      | _ => none
    | none => none
def xeL (pr : Prog) (x : Exn) : List (Nat × XE) → DSt → Option DSt
  | [], σ => some σ
  | (i, e) :: r, σ => match xeD pr x σ e with
    | some d => xeL pr x r (σ.set i (some d))
    | none => none
/-- an exception of an own class, made -/
def exnD (pr : Prog) (c : String) (ds : List D) : Option Exn :=
  match pr.xt c with
  | some k => match k.ini with
    | some l => if l.length = ds.length then some ⟨c, (l.zip ds).reverse⟩ else none
    | none => if ds.isEmpty then some ⟨c, []⟩ else none
  | none => none
/-- a class without fields is called with a text alone -/
def raQ (o : Option (List String)) (as : E) : Bool :=
  match o, as with
  | none, .anil => true
  | some _, .acons _ _ => true
  | _, _ => false
def raB (pr : Prog) (c : String) (as : E) : Bool :=
  match pr.xt c with
  | some k => raQ k.ini as
  | none => false
def unO (o : Option Nat) (σ : DSt) : DSt := match o with
  | some i => σ.set i none
  | none => σ
/-- the except clauses -/
def hdS (pr : Prog) (x : Exn) (σ : DSt) (S : Store) : Sx → SR
  | .hnil => .ex x σ S
  | .hcons c i as r h => match pr.xt x.cls with
    | some k => if k.ups.contains c then
        match xeL pr x as (unO i σ) with
        | some σ1 => match xeD pr x σ1 r with
          | some d => .rt d S
          | none => .bad
        | none => .bad
      else hdS pr x σ S h
    | none => .bad
  | _ => .bad
def exS (pr : Prog) (cb : Cb) : Sx → DSt → Store → SR
  | .nil, σ, S => .nx σ S
  | .pass, σ, S => .nx σ S
  | .brk, σ, S => .bk σ S
  | .cont, σ, S => .ct σ S
  | .seq a b, σ, S => match exS pr cb a σ S with
    | .nx σ1 S1 => exS pr cb b σ1 S1
    | r => r
  | .asg i e, σ, S => (evE pr cb e σ S).sr σ fun d S1 => .nx (σ.set i (some d)) S1
  | .aug op i e, σ, S => match σ[i]? with
    | some (some x) => (evE pr cb e σ S).sr σ fun y S1 => (augX pr cb op S1 x y).sr σ fun d S2 => .nx (σ.set i (some d)) S2
    | _ => .bad
  | .stuck, _, _ => .bad
  | .nim, _, _ => .bad
  | .sfld x o e, σ, S => (evE pr cb e σ S).sr σ fun d S1 => (evE pr cb o σ S1).sr σ fun p S2 => match sfldD pr x S2 p d with
    | some S3 => .nx σ S3
    | none => .bad
  | .sidx o i e, σ, S => (evE pr cb e σ S).sr σ fun d S1 => (evE pr cb o σ S1).sr σ fun p S2 => (evE pr cb i σ S2).sr σ fun k S3 => (sidxX pr cb S3 p k d).sr σ fun _ S4 => .nx σ S4
  | .raise c as, σ, S => if raB pr c as then (evE pr cb as σ S).sr σ fun x S1 => match exnD pr c (unT x) with
    | some y => .ex y σ S1
    | none => .bad
    else .bad
  | .try_ b h, σ, S => match exS pr cb b σ S with
    | .ex x σ1 S1 => hdS pr x σ1 S1 h
    | r => r
  | .hnil, _, _ => .bad
  | .hcons _ _ _ _ _, _, _ => .bad
  | .ex e, σ, S => (evE pr cb e σ S).sr σ fun _ S1 => .nx σ S1
  | .ret e, σ, S => (evE pr cb e σ S).sr σ fun d S1 => .rt d S1
  | .retN, _, S => .rt .non S
  | .ifs c a b, σ, S => (evE pr cb c σ S).sr σ fun x S1 => match truD (look S1 x) with
    | some true => exS pr cb a σ S1
    | some false => exS pr cb b σ S1
    | none => .bad
  | .whl n c b, σ, S => whlL (evE pr cb c) (exS pr cb b) n σ S
  | .for_ k tg it b, σ, S => (evE pr cb it σ S).sr σ fun d S1 => match srcD k S1 d with
    | some s => forK s.ok (fun x σ S => match setT tg σ x with
      | some σ1 => exS pr cb b σ1 S
      | none => .bad) s.xs σ S1
    | none => .bad

def startD (n : Nat) (ds : List D) : DSt := ds.map some ++ List.replicate (n - ds.length) none
def endR : SR → Res D
  | .nx _ S => .ok .non S
  | .rt d S => .ok d S
  | .ex x _ S => .ex x S
  | _ => .bad
def run (P : Prog) : Nat → Cb
  | 0 => fun _ _ _ => .bad
  | n + 1 => fun f ds S => match P.fn f with
    | some F => if ds.length = F.np then endR (exS P (run P n) F.body (startD F.ns ds) S) else .bad
    | none => .bad
end MX
end

section
set_option maxRecDepth 100000
namespace MX
open PySem L2

/-- what is known of the heap beside the state: the frozen part, the cells' addresses, their number -/
structure Gh where
  F : Hp
  am : Nat → Addr
  n : Nat
/-- what stays through a def's run: the written part, the classes' addresses, the ground that is kept, the frozen part at the entry -/
structure Fix where
  K : PySem.W.Frag
  ca : String → Addr
  B : Hp
  F0 : Hp

mutual
inductive RelD (K : PySem.W.Frag) (ca : String → Addr) (g : Gh) : V → D → Prop
  | non : RelD K ca g .non .non
  | bl (b : Bool) : RelD K ca g (.bl b) (.bl b)
  | int (i : Int) : RelD K ca g (.int i) (.int i)
  | str (s : Str) : RelD K ca g (.str s) (.str s)
  | lst {a : Addr} {vs : List V} {xs : List D} : g.F a = some (.lst vs) → RelL K ca g vs xs → RelD K ca g (.ref a) (.lst xs)
  | tup {a : Addr} {vs : List V} {xs : List D} : g.F a = some (.tup vs) → RelL K ca g vs xs → RelD K ca g (.ref a) (.tup xs)
  | ins {a dx : Addr} {c : String} {vs : List (Str × V)} {fs : List (String × D)} : g.F a = some (.ins (ca c) dx vs) → RelF K ca g vs fs → RelD K ca g (.ref a) (.ins c fs)
  | ptr {n : Nat} : n < g.n → RelD K ca g (.ref (g.am n)) (.ptr n)
  | scr {a : Addr} {ns : List Int} : SqL K g.F a (ns.map V.int) → RelD K ca g (.ref a) (.scr ns)
inductive RelL (K : PySem.W.Frag) (ca : String → Addr) (g : Gh) : List V → List D → Prop
  | nil : RelL K ca g [] []
  | cons {v : V} {vs : List V} {d : D} {ds : List D} : RelD K ca g v d → RelL K ca g vs ds → RelL K ca g (v :: vs) (d :: ds)
inductive RelF (K : PySem.W.Frag) (ca : String → Addr) (g : Gh) : List (Str × V) → List (String × D) → Prop
  | nil : RelF K ca g [] []
  | cons {x : String} {v : V} {vs : List (Str × V)} {d : D} {ds : List (String × D)} : RelD K ca g v d → RelF K ca g vs ds → RelF K ca g ((Str.ofString x, v) :: vs) ((x, d) :: ds)
end

/-- more is known -/
structure Gh.le (g g' : Gh) : Prop where
  F : ∀ a o, g.F a = some o → g'.F a = some o
  am : ∀ n, n < g.n → g'.am n = g.am n
  n : g.n ≤ g'.n
theorem Gh.le.refl (g : Gh) : g.le g := ⟨fun _ _ h => h, fun _ _ => rfl, Nat.le_refl _⟩
theorem Gh.le.trans {a b c : Gh} (h : a.le b) (k : b.le c) : a.le c :=
  ⟨fun x o e => k.F x o (h.F x o e), fun n hn => (k.am n (Nat.lt_of_lt_of_le hn h.n)).trans (h.am n hn), Nat.le_trans h.n k.n⟩

section
variable {K : PySem.W.Frag} {ca : String → Addr} {g g' : Gh}
mutual
theorem RelD.mono (l : g.le g') : ∀ {v : V} {d : D}, RelD K ca g v d → RelD K ca g' v d
  | _, _, .non => .non
  | _, _, .bl b => .bl b
  | _, _, .int i => .int i
  | _, _, .str s => .str s
  | _, _, .lst e r => .lst (l.F _ _ e) (RelL.mono l r)
  | _, _, .tup e r => .tup (l.F _ _ e) (RelL.mono l r)
  | _, _, .ins e r => .ins (l.F _ _ e) (RelF.mono l r)
  | _, _, .ptr h => by rw [← l.am _ h]; exact .ptr (Nat.lt_of_lt_of_le h l.n)
  | _, _, .scr h => .scr ((show Same g.F g'.F from l.F).seq h)
theorem RelL.mono (l : g.le g') : ∀ {vs : List V} {ds : List D}, RelL K ca g vs ds → RelL K ca g' vs ds
  | _, _, .nil => .nil
  | _, _, .cons a b => .cons (RelD.mono l a) (RelL.mono l b)
theorem RelF.mono (l : g.le g') : ∀ {vs : List (Str × V)} {ds : List (String × D)}, RelF K ca g vs ds → RelF K ca g' vs ds
  | _, _, .nil => .nil
  | _, _, .cons a b => .cons (RelD.mono l a) (RelF.mono l b)
end
theorem RelL.length : ∀ {vs : List V} {ds : List D}, RelL K ca g vs ds → vs.length = ds.length
  | _, _, .nil => rfl
  | _, _, .cons _ b => congrArg (· + 1) (RelL.length b)
theorem RelL.append : ∀ {vs ws : List V} {ds es : List D}, RelL K ca g vs ds → RelL K ca g ws es → RelL K ca g (vs ++ ws) (ds ++ es)
  | _, _, _, _, .nil, h => h
  | _, _, _, _, .cons a b, h => .cons a (RelL.append b h)
theorem RelL.one {v : V} {d : D} (r : RelD K ca g v d) : RelL K ca g [v] [d] := .cons r .nil
theorem RelL.take : ∀ {vs : List V} {ds : List D} (n : Nat), RelL K ca g vs ds → RelL K ca g (vs.take n) (ds.take n)
  | _, _, 0, _ => .nil
  | _, _, _ + 1, .nil => .nil
  | _, _, n + 1, .cons a b => .cons a (RelL.take n b)
theorem RelL.drop : ∀ {vs : List V} {ds : List D} (n : Nat), RelL K ca g vs ds → RelL K ca g (vs.drop n) (ds.drop n)
  | _, _, 0, h => h
  | _, _, _ + 1, .nil => .nil
  | _, _, n + 1, .cons _ b => RelL.drop n b
theorem RelL.rep {vs : List V} {ds : List D} (h : RelL K ca g vs ds) : ∀ k : Nat, RelL K ca g (List.replicate k vs).flatten (List.replicate k ds).flatten
  | 0 => .nil
  | k + 1 => by
    rw [List.replicate_succ, List.replicate_succ, List.flatten_cons, List.flatten_cons]
    exact RelL.append h (RelL.rep h k)
theorem RelL.get : ∀ {vs : List V} {ds : List D} {i : Nat} {d : D}, RelL K ca g vs ds → ds[i]? = some d → ∃ v, vs[i]? = some v ∧ RelD K ca g v d
  | _, _, _, _, .nil, e => by simp at e
  | _, _, 0, _, .cons r _, e => by simp at e; subst e; exact ⟨_, rfl, r⟩
  | _, _, i + 1, x, .cons _ t, e => by
    obtain ⟨u, h1, h2⟩ := RelL.get (i := i) (d := x) t (by simpa using e)
    exact ⟨u, by simpa using h1, h2⟩
theorem RelL.getV : ∀ {vs : List V} {ds : List D} {i : Nat} {v : V}, RelL K ca g vs ds → vs[i]? = some v → ∃ d, ds[i]? = some d ∧ RelD K ca g v d
  | _, _, _, _, .nil, e => by simp at e
  | _, _, 0, _, .cons r _, e => by simp at e; subst e; exact ⟨_, rfl, r⟩
  | _, _, i + 1, x, .cons _ t, e => by
    obtain ⟨u, h1, h2⟩ := RelL.getV (i := i) (v := x) t (by simpa using e)
    exact ⟨u, by simpa using h1, h2⟩
theorem RelL.set {v : V} {d : D} (r : RelD K ca g v d) : ∀ {vs : List V} {ds : List D} (i : Nat), RelL K ca g vs ds → RelL K ca g (vs.set i v) (ds.set i d)
  | _, _, _, .nil => .nil
  | _, _, 0, .cons _ t => .cons r t
  | _, _, i + 1, .cons q t => .cons q (RelL.set r i t)
theorem RelL.at {vs : List V} {ds : List D} {i : Int} {d : D} (r : RelL K ca g vs ds) (e : atI ds i = some d) : ∃ v, atI vs i = some v ∧ RelD K ca g v d := by
  unfold atI at e ⊢
  rw [r.length]
  cases q : ixN ds.length i with
  | none => rw [q] at e; cases e
  | some j =>
    rw [q] at e
    exact r.get e
theorem RelL.cut {vs : List V} {ds : List D} (r : RelL K ca g vs ds) (lo hi : Option Int) : RelL K ca g (cutV vs lo hi) (cutL ds lo hi) := by
  unfold cutV cutL
  rw [r.length]
  exact (r.drop _).take _
theorem RelL.ints : ∀ {vs : List V} {ds : List D} {ns : List Int}, RelL K ca g vs ds → intsD ds = some ns → vs = ns.map V.int
  | _, _, ns, .nil, e => by cases e; rfl
  | _, _, ns, .cons (d := d) r t, e => by
    cases r with
    | int i =>
      unfold intsD at e
      cases q : intsD _ with
      | none => rw [q] at e; cases e
      | some ms =>
        rw [q] at e
        cases e
        rw [List.map_cons, t.ints q]
    | _ => cases e
/-- a truth value, or a whole number's truth -/
def TrV (v : V) (b : Bool) : Prop := v = .bl b ∨ ∃ i : Int, v = .int i ∧ b = (i != 0)
theorem RelL.bls : ∀ {vs : List V} {ds : List D} {ns : List Bool}, RelL K ca g vs ds → blsD ds = some ns → Paired TrV vs ns
  | _, _, ns, .nil, e => by cases e; exact .nil
  | _, _, ns, .cons (d := d) r t, e => by
    cases r with
    | bl i =>
      unfold blsD at e
      cases q : blsD _ with
      | none => rw [q] at e; cases e
      | some ms =>
        rw [q] at e
        cases e
        exact .cons (.inl rfl) (t.bls q)
    | int i =>
      unfold blsD at e
      cases q : blsD _ with
      | none => rw [q] at e; cases e
      | some ms =>
        rw [q] at e
        cases e
        exact .cons (.inr ⟨i, rfl, rfl⟩) (t.bls q)
    | _ => cases e
end


section
variable {K : PySem.W.Frag} {ca : String → Addr} {g : Gh}
theorem RelD.iLst {v : V} {xs : List D} (h : RelD K ca g v (.lst xs)) : ∃ a vs, v = .ref a ∧ g.F a = some (.lst vs) ∧ RelL K ca g vs xs := by
  cases h with
  | lst h1 h2 => exact ⟨_, _, rfl, h1, h2⟩
theorem RelD.iTup {v : V} {xs : List D} (h : RelD K ca g v (.tup xs)) : ∃ a vs, v = .ref a ∧ g.F a = some (.tup vs) ∧ RelL K ca g vs xs := by
  cases h with
  | tup h1 h2 => exact ⟨_, _, rfl, h1, h2⟩
theorem RelD.iIns {v : V} {c : String} {fs : List (String × D)} (h : RelD K ca g v (.ins c fs)) : ∃ a dx vs, v = .ref a ∧ g.F a = some (.ins (ca c) dx vs) ∧ RelF K ca g vs fs := by
  cases h with
  | ins h1 h2 => exact ⟨_, _, _, rfl, h1, h2⟩
theorem RelD.iScr {v : V} {ns : List Int} (h : RelD K ca g v (.scr ns)) : ∃ a, v = .ref a ∧ SqL K g.F a (ns.map V.int) := by
  cases h with
  | scr h1 => exact ⟨_, rfl, h1⟩
theorem RelD.iInt {v : V} {i : Int} (h : RelD K ca g v (.int i)) : v = .int i := by cases h; rfl
theorem RelD.iBl {v : V} {i : Bool} (h : RelD K ca g v (.bl i)) : v = .bl i := by cases h; rfl
theorem RelD.iStr {v : V} {i : Str} (h : RelD K ca g v (.str i)) : v = .str i := by cases h; rfl
theorem RelD.iNon {v : V} (h : RelD K ca g v .non) : v = .non := by cases h; rfl
theorem RelD.iPtr {v : V} {n : Nat} (h : RelD K ca g v (.ptr n)) : v = .ref (g.am n) ∧ n < g.n := by
  cases h with
  | ptr h1 => exact ⟨rfl, h1⟩
end
/-- a live cell's object -/
def CellOk (fx : Fix) (g : Gh) (H : Hp) (a : Addr) : Cell → Prop
  | .lst xs => g.F a = none ∧ fx.B a = none ∧ ∃ vs, H a = some (.lst vs) ∧ RelL fx.K fx.ca g vs xs
  | .ins c fs => g.F a = none ∧ fx.B a = none ∧ ∃ dx vs, H a = some (.ins (fx.ca c) dx vs) ∧ RelF fx.K fx.ca g vs fs
  | .frz d => d.pf = true ∧ RelD fx.K fx.ca g (.ref a) d
def live : Cell → Bool
  | .frz _ => false
  | _ => true

/-- the store and the frozen part, held by the heap -/
structure R (fx : Fix) (g : Gh) (S : Store) (H : Hp) : Prop where
  frame : ∀ a o, fx.B a = some o → H a = some o
  frz : ∀ a o, g.F a = some o → H a = some o
  fresh : ∀ a o, g.F a = some o → fx.F0 a = some o ∨ fx.B a = none
  f0 : ∀ a o, fx.F0 a = some o → g.F a = some o
  n : g.n = S.length
  cells : ∀ n c, S[n]? = some c → CellOk fx g H (g.am n) c
  inj : ∀ n m c d, S[n]? = some c → S[m]? = some d → live c = true → live d = true → g.am n = g.am m → n = m
/-- the slots -/
structure Sl (fx : Fix) (g : Gh) (dσ : DSt) (σ : L2.St) : Prop where
  len : dσ.length = σ.length
  at_ : ∀ (i : Nat) (d : D), dσ[i]? = some (some d) → ∃ v : V, σ[i]? = some (some v) ∧ RelD fx.K fx.ca g v d
theorem Sl.mono {fx : Fix} {g g' : Gh} {dσ : DSt} {σ : L2.St} (s : Sl fx g dσ σ) (l : g.le g') : Sl fx g' dσ σ :=
  ⟨s.len, fun i d e => by obtain ⟨v, h1, h2⟩ := s.at_ i d e; exact ⟨v, h1, h2.mono l⟩⟩
theorem Sl.set {fx : Fix} {g : Gh} {dσ : DSt} {σ : L2.St} (s : Sl fx g dσ σ) (i : Nat) {v : V} {d : D} (r : RelD fx.K fx.ca g v d) : Sl fx g (dσ.set i (some d)) (σ.set i (some v)) := by
  refine ⟨by rw [List.length_set, List.length_set, s.len], fun j e h => ?_⟩
  by_cases hij : i = j
  · subst hij
    by_cases hl : i < dσ.length
    · rw [List.getElem?_set_self hl] at h
      cases h
      exact ⟨v, by rw [List.getElem?_set_self (by rw [← s.len]; exact hl)], r⟩
    · rw [List.getElem?_eq_none (by rw [List.length_set]; omega)] at h
      cases h
  · rw [List.getElem?_set_ne hij] at h
    obtain ⟨u, h1, h2⟩ := s.at_ j e h
    exact ⟨u, by rw [List.getElem?_set_ne hij]; exact h1, h2⟩
theorem Sl.unset {fx : Fix} {g : Gh} {dσ : DSt} {σ : L2.St} (s : Sl fx g dσ σ) (i : Nat) : Sl fx g (dσ.set i none) (σ.set i none) := by
  refine ⟨by rw [List.length_set, List.length_set, s.len], fun j e h => ?_⟩
  by_cases hij : i = j
  · subst hij
    by_cases hl : i < dσ.length
    · rw [List.getElem?_set_self hl] at h
      cases h
    · rw [List.getElem?_eq_none (by rw [List.length_set]; omega)] at h
      cases h
  · rw [List.getElem?_set_ne hij] at h
    obtain ⟨u, h1, h2⟩ := s.at_ j e h
    exact ⟨u, by rw [List.getElem?_set_ne hij]; exact h1, h2⟩
theorem Sl.wipe {fx : Fix} {g : Gh} {dσ : DSt} {σ : L2.St} (s : Sl fx g dσ σ) : ∀ vs : List Nat, Sl fx g (wipeD dσ vs) (L2.wipe σ vs)
  | [] => s
  | v :: vs => (Sl.wipe s vs).unset v

section
variable {fx : Fix} {g : Gh} {S : Store} {H : Hp}
/-- an object just made, frozen at once -/
theorem R.laid (r : R fx g S H) {p : Addr} {o : HO} (hp : H p = none) : R fx { g with F := upd g.F p o } S (upd H p o) ∧ g.le { g with F := upd g.F p o } := by
  have nF : g.F p = none := by
    cases q : g.F p with
    | none => rfl
    | some u => rw [r.frz p u q] at hp; cases hp
  have nB : fx.B p = none := by
    cases q : fx.B p with
    | none => rfl
    | some u => rw [r.frame p u q] at hp; cases hp
  have le : g.le { g with F := upd g.F p o } := ⟨fun a u e => by
    show upd g.F p o a = some u
    rw [upd_ne (ne_of_none e nF)]
    exact e, fun _ _ => rfl, Nat.le_refl _⟩
  refine ⟨⟨fun a u e => ?_, fun a u e => ?_, fun a u e => ?_, fun a u e => ?_, r.n, fun n c e => ?_, r.inj⟩, le⟩
  · rw [upd_ne (ne_of_none e nB)]
    exact r.frame a u e
  · have e : upd g.F p o a = some u := e
    by_cases hq : a = p
    · subst hq
      rw [upd_same] at e ⊢
      exact e
    · rw [upd_ne hq] at e ⊢
      exact r.frz a u e
  · have e : upd g.F p o a = some u := e
    by_cases hq : a = p
    · subst hq
      exact .inr nB
    · rw [upd_ne hq] at e
      exact r.fresh a u e
  · exact le.F a u (r.f0 a u e)
  · have h := r.cells n c e
    have np : ∀ u, H (g.am n) = some u → g.am n ≠ p := fun u z => ne_of_none z hp
    cases c with
    | lst xs =>
      obtain ⟨h1, h2, vs, h3, h4⟩ := h
      have k := np _ h3
      exact ⟨by show upd g.F p o (g.am n) = none; rw [upd_ne k]; exact h1, h2, vs, by show upd H p o (g.am n) = _; rw [upd_ne k]; exact h3, h4.mono le⟩
    | ins c fs =>
      obtain ⟨h1, h2, dx, vs, h3, h4⟩ := h
      have k := np _ h3
      exact ⟨by show upd g.F p o (g.am n) = none; rw [upd_ne k]; exact h1, h2, dx, vs, by show upd H p o (g.am n) = _; rw [upd_ne k]; exact h3, h4.mono le⟩
    | frz d => exact ⟨h.1, h.2.mono le⟩
/-- what the heap grew by does not matter -/
theorem R.same {H' : Hp} (r : R fx g S H) (h : Same H H') : R fx g S H' := by
  refine ⟨fun a o e => h a o (r.frame a o e), fun a o e => h a o (r.frz a o e), r.fresh, r.f0, r.n, fun n c e => ?_, r.inj⟩
  have q := r.cells n c e
  cases c with
  | lst xs =>
    obtain ⟨h1, h2, vs, h3, h4⟩ := q
    exact ⟨h1, h2, vs, h _ _ h3, h4⟩
  | ins c fs =>
    obtain ⟨h1, h2, dx, vs, h3, h4⟩ := q
    exact ⟨h1, h2, dx, vs, h _ _ h3, h4⟩
  | frz d => exact q
/-- a value, looked at: a live list cell, a live instance, or data -/
theorem R.look (r : R fx g S H) {v : V} {d : D} (h : RelD fx.K fx.ca g v d) :
    (∃ n xs, d = .ptr n ∧ v = .ref (g.am n) ∧ S[n]? = some (.lst xs) ∧ MX.look S d = .lst xs) ∨ (∃ n c fs, d = .ptr n ∧ v = .ref (g.am n) ∧ S[n]? = some (.ins c fs) ∧ MX.look S d = .ins c fs) ∨
    RelD fx.K fx.ca g v (MX.look S d) := by
  cases d with
  | ptr n =>
    obtain ⟨rfl, hn⟩ := h.iPtr
    rw [r.n] at hn
    have hc : S[n]? = some S[n] := List.getElem?_eq_getElem hn
    have q := r.cells n _ hc
    cases hd : S[n] with
    | lst xs =>
      rw [hd] at hc
      refine .inl ⟨n, xs, rfl, rfl, hc, ?_⟩
      unfold MX.look
      simp only [hc]
    | ins c fs =>
      rw [hd] at hc
      refine .inr (.inl ⟨n, c, fs, rfl, rfl, hc, ?_⟩)
      unfold MX.look
      simp only [hc]
    | frz d =>
      rw [hd] at hc q
      refine .inr (.inr ?_)
      unfold MX.look
      simp only [hc]
      exact q.2
  | _ => exact .inr (.inr h)
/-- a list to be read -/
theorem R.lst (r : R fx g S H) {v : V} {d : D} {xs : List D} (h : RelD fx.K fx.ca g v d) (e : MX.look S d = .lst xs) : ∃ a vs, v = .ref a ∧ H a = some (.lst vs) ∧ RelL fx.K fx.ca g vs xs := by
  rcases r.look h with ⟨n, ys, rfl, rfl, hc, e'⟩ | ⟨n, c, fs, rfl, rfl, hc, e'⟩ | k
  · rw [e] at e'
    cases e'
    obtain ⟨_, _, vs, h3, h4⟩ := r.cells n _ hc
    exact ⟨_, vs, rfl, h3, h4⟩
  · rw [e] at e'
    cases e'
  · rw [e] at k
    obtain ⟨a, vs, rfl, h1, h2⟩ := k.iLst
    exact ⟨a, vs, rfl, r.frz _ _ h1, h2⟩
/-- what is no list and no instance is data -/
theorem R.dat (r : R fx g S H) {v : V} {d e : D} (h : RelD fx.K fx.ca g v d) (q : MX.look S d = e) (n1 : ∀ xs, e ≠ .lst xs) (n2 : ∀ c fs, e ≠ .ins c fs) : RelD fx.K fx.ca g v e := by
  rcases r.look h with ⟨n, ys, rfl, rfl, hc, e'⟩ | ⟨n, c, fs, rfl, rfl, hc, e'⟩ | k
  · exact absurd (q.symm.trans e') (n1 _)
  · exact absurd (q.symm.trans e') (n2 _ _)
  · rw [q] at k
    exact k
theorem R.tup (r : R fx g S H) {v : V} {d : D} {xs : List D} (h : RelD fx.K fx.ca g v d) (e : MX.look S d = .tup xs) : ∃ a vs, v = .ref a ∧ H a = some (.tup vs) ∧ RelL fx.K fx.ca g vs xs := by
  obtain ⟨a, vs, rfl, h1, h2⟩ := (r.dat h e (fun _ z => by cases z) (fun _ _ z => by cases z)).iTup
  exact ⟨a, vs, rfl, r.frz _ _ h1, h2⟩
theorem R.scr (r : R fx g S H) {v : V} {d : D} {ns : List Int} (h : RelD fx.K fx.ca g v d) (e : MX.look S d = .scr ns) : ∃ a, v = .ref a ∧ SqL fx.K H a (ns.map V.int) := by
  obtain ⟨a, rfl, h1⟩ := (r.dat h e (fun _ z => by cases z) (fun _ _ z => by cases z)).iScr
  exact ⟨a, rfl, (show Same g.F H from r.frz).seq h1⟩
theorem R.int (r : R fx g S H) {v : V} {d : D} {i : Int} (h : RelD fx.K fx.ca g v d) (e : MX.look S d = .int i) : v = .int i := (r.dat h e (fun _ z => by cases z) (fun _ _ z => by cases z)).iInt
theorem R.bl (r : R fx g S H) {v : V} {d : D} {i : Bool} (h : RelD fx.K fx.ca g v d) (e : MX.look S d = .bl i) : v = .bl i := (r.dat h e (fun _ z => by cases z) (fun _ _ z => by cases z)).iBl
theorem R.str (r : R fx g S H) {v : V} {d : D} {i : Str} (h : RelD fx.K fx.ca g v d) (e : MX.look S d = .str i) : v = .str i := (r.dat h e (fun _ z => by cases z) (fun _ _ z => by cases z)).iStr
theorem R.non (r : R fx g S H) {v : V} {d : D} (h : RelD fx.K fx.ca g v d) (e : MX.look S d = .non) : v = .non := (r.dat h e (fun _ z => by cases z) (fun _ _ z => by cases z)).iNon
/-- a live list cell is written -/
theorem R.put (r : R fx g S H) {n : Nat} {ys xs : List D} {vs : List V} (hc : S[n]? = some (.lst ys)) (h : RelL fx.K fx.ca g vs xs) : R fx g (S.set n (.lst xs)) (upd H (g.am n) (.lst vs)) := by
  obtain ⟨nF, nB, ws, hw, _⟩ := r.cells n _ hc
  have hn : n < S.length := (List.getElem?_eq_some_iff.mp hc).1
  refine ⟨fun a o e => ?_, fun a o e => ?_, r.fresh, r.f0, by rw [List.length_set]; exact r.n, fun m c e => ?_, fun m k c d hm hk lc ld e => ?_⟩
  · rw [upd_ne (ne_of_none e nB)]
    exact r.frame a o e
  · rw [upd_ne (ne_of_none e nF)]
    exact r.frz a o e
  · by_cases hm : n = m
    · subst hm
      rw [List.getElem?_set_self hn] at e
      cases e
      exact ⟨nF, nB, vs, upd_same, h⟩
    · rw [List.getElem?_set_ne hm] at e
      have q := r.cells m c e
      cases c with
      | lst zs =>
        obtain ⟨h1, h2, us, h3, h4⟩ := q
        have ne : g.am m ≠ g.am n := fun z => hm (r.inj n m _ _ hc e rfl rfl z.symm)
        exact ⟨h1, h2, us, by rw [upd_ne ne]; exact h3, h4⟩
      | ins c fs =>
        obtain ⟨h1, h2, dx, us, h3, h4⟩ := q
        have ne : g.am m ≠ g.am n := fun z => hm (r.inj n m _ _ hc e rfl rfl z.symm)
        exact ⟨h1, h2, dx, us, by rw [upd_ne ne]; exact h3, h4⟩
      | frz d => exact q
  · have key : ∀ j c, (S.set n (.lst xs))[j]? = some c → live c = true → ∃ c', S[j]? = some c' ∧ live c' = true := fun j c hj lj => by
      by_cases hm : n = j
      · subst hm
        exact ⟨_, hc, rfl⟩
      · rw [List.getElem?_set_ne hm] at hj
        exact ⟨c, hj, lj⟩
    obtain ⟨c', h1, l1⟩ := key m c hm lc
    obtain ⟨d', h2, l2⟩ := key k d hk ld
    exact r.inj m k c' d' h1 h2 l1 l2 e
/-- an instance's fields are changed -/
theorem R.putIns (r : R fx g S H) {n : Nat} {k0 : String} {ys xs : List (String × D)} {vs : List (Str × V)} {dx : Addr} (hc : S[n]? = some (.ins k0 ys)) (h : RelF fx.K fx.ca g vs xs) : R fx g (S.set n (.ins k0 xs)) (upd H (g.am n) (.ins (fx.ca k0) dx vs)) := by
  obtain ⟨nF, nB, dx0, ws, hw, _⟩ := r.cells n _ hc
  have hn : n < S.length := (List.getElem?_eq_some_iff.mp hc).1
  refine ⟨fun a o e => ?_, fun a o e => ?_, r.fresh, r.f0, by rw [List.length_set]; exact r.n, fun m c e => ?_, fun m k c d hm hk lc ld e => ?_⟩
  · rw [upd_ne (ne_of_none e nB)]
    exact r.frame a o e
  · rw [upd_ne (ne_of_none e nF)]
    exact r.frz a o e
  · by_cases hm : n = m
    · subst hm
      rw [List.getElem?_set_self hn] at e
      cases e
      exact ⟨nF, nB, dx, vs, upd_same, h⟩
    · rw [List.getElem?_set_ne hm] at e
      have q := r.cells m c e
      cases c with
      | lst zs =>
        obtain ⟨h1, h2, us, h3, h4⟩ := q
        have ne : g.am m ≠ g.am n := fun z => hm (r.inj n m _ _ hc e rfl rfl z.symm)
        exact ⟨h1, h2, us, by rw [upd_ne ne]; exact h3, h4⟩
      | ins c fs =>
        obtain ⟨h1, h2, dx, us, h3, h4⟩ := q
        have ne : g.am m ≠ g.am n := fun z => hm (r.inj n m _ _ hc e rfl rfl z.symm)
        exact ⟨h1, h2, dx, us, by rw [upd_ne ne]; exact h3, h4⟩
      | frz d => exact q
  · have key : ∀ j c, (S.set n (.ins k0 xs))[j]? = some c → live c = true → ∃ c', S[j]? = some c' ∧ live c' = true := fun j c hj lj => by
      by_cases hm : n = j
      · subst hm
        exact ⟨_, hc, rfl⟩
      · rw [List.getElem?_set_ne hm] at hj
        exact ⟨c, hj, lj⟩
    obtain ⟨c', h1, l1⟩ := key m c hm lc
    obtain ⟨d', h2, l2⟩ := key k d hk ld
    exact r.inj m k c' d' h1 h2 l1 l2 e
/-- a new cell -/
theorem R.cell (r : R fx g S H) {p : Addr} {xs : List D} {vs : List V} (hp : H p = none) (h : RelL fx.K fx.ca g vs xs) :
    ∃ g' : Gh, g.le g' ∧ g'.am S.length = p ∧ g'.n = S.length + 1 ∧ R fx g' (S ++ [.lst xs]) (upd H p (.lst vs)) := by
  have nF : g.F p = none := by
    cases q : g.F p with
    | none => rfl
    | some u => rw [r.frz p u q] at hp; cases hp
  have nB : fx.B p = none := by
    cases q : fx.B p with
    | none => rfl
    | some u => rw [r.frame p u q] at hp; cases hp
  let g' : Gh := { F := g.F, am := fun n => if n = S.length then p else g.am n, n := S.length + 1 }
  have le : g.le g' := ⟨fun _ _ e => e, fun n hn => by
    show (if n = S.length then p else g.am n) = g.am n
    rw [if_neg (by rw [r.n] at hn; omega)], by rw [r.n]; exact Nat.le_succ _⟩
  have amo : ∀ n c, S[n]? = some c → g'.am n = g.am n := fun n c e => le.am n (by rw [r.n]; exact (List.getElem?_eq_some_iff.mp e).1)
  have amn : g'.am S.length = p := if_pos rfl
  have old : ∀ n c, (S ++ [Cell.lst xs])[n]? = some c → (S[n]? = some c) ∨ (n = S.length ∧ c = .lst xs) := fun n c e => by
    by_cases hn : n < S.length
    · rw [List.getElem?_append_left hn] at e
      exact .inl e
    · rw [List.getElem?_append_right (by omega)] at e
      have h2 := (List.getElem?_eq_some_iff.mp e).1
      have h3 : n - S.length = 0 := by
        rw [List.length_singleton] at h2
        omega
      rw [h3] at e
      cases e
      exact .inr ⟨by omega, rfl⟩
  have nep : ∀ n c, S[n]? = some c → live c = true → g.am n ≠ p := fun n c e l => by
    have q := r.cells n c e
    cases c with
    | lst ys =>
      obtain ⟨_, _, us, h3, _⟩ := q
      exact ne_of_none h3 hp
    | ins c fs =>
      obtain ⟨_, _, dx, us, h3, _⟩ := q
      exact ne_of_none h3 hp
    | frz d => cases l
  refine ⟨g', le, amn, rfl, ⟨fun a o e => ?_, fun a o e => ?_, r.fresh, r.f0, by rw [List.length_append]; rfl, fun n c e => ?_, fun m k c d hm hk lc ld e => ?_⟩⟩
  · rw [upd_ne (ne_of_none e nB)]
    exact r.frame a o e
  · rw [upd_ne (ne_of_none (show g.F a = some o from e) nF)]
    exact r.frz a o e
  · rcases old n c e with e1 | ⟨rfl, rfl⟩
    · have q := r.cells n c e1
      rw [amo n c e1]
      cases c with
      | lst ys =>
        obtain ⟨h1, h2, us, h3, h4⟩ := q
        exact ⟨h1, h2, us, by rw [upd_ne (nep n _ e1 rfl)]; exact h3, h4.mono le⟩
      | ins c fs =>
        obtain ⟨h1, h2, dx, us, h3, h4⟩ := q
        exact ⟨h1, h2, dx, us, by rw [upd_ne (nep n _ e1 rfl)]; exact h3, h4.mono le⟩
      | frz d => exact ⟨q.1, q.2.mono le⟩
    · rw [amn]
      exact ⟨nF, nB, vs, upd_same, h.mono le⟩
  · rcases old m c hm with hm | ⟨rfl, rfl⟩
    · rcases old k d hk with hk | ⟨rfl, rfl⟩
      · rw [amo m c hm, amo k d hk] at e
        exact r.inj m k c d hm hk lc ld e
      · rw [amo m c hm, amn] at e
        exact absurd e (nep m c hm lc)
    · rcases old k d hk with hk | ⟨rfl, rfl⟩
      · rw [amo k d hk, amn] at e
        exact absurd e.symm (nep k d hk ld)
      · rfl
/-- a new cell, of any kind -/
theorem R.cellG (r : R fx g S H) {p : Addr} {c0 : Cell} {o0 : HO} (hp : H p = none) (hl : live c0 = true) (h : ∀ (g' : Gh) (H' : Hp), g.le g' → g'.F = g.F → H' p = some o0 → CellOk fx g' H' p c0) :
    ∃ g' : Gh, g.le g' ∧ g'.am S.length = p ∧ g'.n = S.length + 1 ∧ R fx g' (S ++ [c0]) (upd H p o0) := by
  have nF : g.F p = none := by
    cases q : g.F p with
    | none => rfl
    | some u => rw [r.frz p u q] at hp; cases hp
  have nB : fx.B p = none := by
    cases q : fx.B p with
    | none => rfl
    | some u => rw [r.frame p u q] at hp; cases hp
  let g' : Gh := { F := g.F, am := fun n => if n = S.length then p else g.am n, n := S.length + 1 }
  have le : g.le g' := ⟨fun _ _ e => e, fun n hn => by
    show (if n = S.length then p else g.am n) = g.am n
    rw [if_neg (by rw [r.n] at hn; omega)], by rw [r.n]; exact Nat.le_succ _⟩
  have amo : ∀ n c, S[n]? = some c → g'.am n = g.am n := fun n c e => le.am n (by rw [r.n]; exact (List.getElem?_eq_some_iff.mp e).1)
  have amn : g'.am S.length = p := if_pos rfl
  have old : ∀ n c, (S ++ [c0])[n]? = some c → (S[n]? = some c) ∨ (n = S.length ∧ c = c0) := fun n c e => by
    by_cases hn : n < S.length
    · rw [List.getElem?_append_left hn] at e
      exact .inl e
    · rw [List.getElem?_append_right (by omega)] at e
      have h2 := (List.getElem?_eq_some_iff.mp e).1
      have h3 : n - S.length = 0 := by
        rw [List.length_singleton] at h2
        omega
      rw [h3] at e
      cases e
      exact .inr ⟨by omega, rfl⟩
  have nep : ∀ n c, S[n]? = some c → live c = true → g.am n ≠ p := fun n c e l => by
    have q := r.cells n c e
    cases c with
    | lst ys =>
      obtain ⟨_, _, us, h3, _⟩ := q
      exact ne_of_none h3 hp
    | ins c fs =>
      obtain ⟨_, _, dx, us, h3, _⟩ := q
      exact ne_of_none h3 hp
    | frz d => cases l
  refine ⟨g', le, amn, rfl, ⟨fun a o e => ?_, fun a o e => ?_, r.fresh, r.f0, by rw [List.length_append]; rfl, fun n c e => ?_, fun m k c d hm hk lc ld e => ?_⟩⟩
  · rw [upd_ne (ne_of_none e nB)]
    exact r.frame a o e
  · rw [upd_ne (ne_of_none (show g.F a = some o from e) nF)]
    exact r.frz a o e
  · rcases old n c e with e1 | ⟨rfl, rfl⟩
    · have q := r.cells n c e1
      rw [amo n c e1]
      cases c with
      | lst ys =>
        obtain ⟨h1, h2, us, h3, h4⟩ := q
        exact ⟨h1, h2, us, by rw [upd_ne (nep n _ e1 rfl)]; exact h3, h4.mono le⟩
      | ins c fs =>
        obtain ⟨h1, h2, dx, us, h3, h4⟩ := q
        exact ⟨h1, h2, dx, us, by rw [upd_ne (nep n _ e1 rfl)]; exact h3, h4.mono le⟩
      | frz d => exact ⟨q.1, q.2.mono le⟩
    · rw [amn]
      exact h g' _ le rfl upd_same
  · rcases old m c hm with hm1 | ⟨e1, _⟩
    · rcases old k d hk with hk1 | ⟨e2, _⟩
      · rw [amo m c hm1, amo k d hk1] at e
        exact r.inj m k c d hm1 hk1 lc ld e
      · rw [amo m c hm1, e2, amn] at e
        exact absurd e (nep m c hm1 lc)
    · rcases old k d hk with hk1 | ⟨e2, _⟩
      · rw [amo k d hk1, e1, amn] at e
        exact absurd e.symm (nep k d hk1 ld)
      · rw [e1, e2]
/-- a new instance: its dict, itself -/
theorem R.newIns (r : R fx g S H) {x dx : Addr} (c : String) (hx : H x = none) (hd : H dx = none) (ne : dx ≠ x) :
    ∃ g' : Gh, g.le g' ∧ g'.am S.length = x ∧ g'.n = S.length + 1 ∧ R fx g' (S ++ [.ins c []]) (upd (upd H dx (.own x)) x (.ins (fx.ca c) dx [])) := by
  obtain ⟨r1, l1⟩ := r.laid (o := .own x) hd
  have nFx : upd g.F dx (.own x) x = none := by
    rw [upd_ne (fun e => ne e.symm)]
    cases q : g.F x with
    | none => rfl
    | some u => rw [r.frz x u q] at hx; cases hx
  have nBx : fx.B x = none := by
    cases q : fx.B x with
    | none => rfl
    | some u => rw [r.frame x u q] at hx; cases hx
  obtain ⟨g', l, a, n, r2⟩ := r1.cellG (p := x) (c0 := .ins c []) (o0 := .ins (fx.ca c) dx []) (by rw [upd_ne (fun e => ne e.symm)]; exact hx) rfl fun g' H' l eF e => ⟨by rw [eF]; exact nFx, nBx, dx, [], e, .nil⟩
  exact ⟨g', l1.trans l, a, n, r2⟩
end
end MX
end

section
set_option maxRecDepth 100000
set_option maxHeartbeats 1000000
namespace MX
open PySem PySem.Spec PyProof.Rows L2

/-- an exception as the layer has it -/
def RelX (fx : Fix) (g : Gh) (cls : Value) (dx : Option Addr) (x : Exn) : Prop :=
  cls = .ref (fx.ca x.cls) ∧ ((x.fs = [] ∧ dx = none) ∨ ∃ d vs, dx = some d ∧ g.F d = some (.xd vs) ∧ RelF fx.K fx.ca g vs x.fs)

/-- what is wanted of an outcome -/
def ePost {α : Type} (fx : Fix) (W : WX) (g : Gh) (σ : L2.St) (T : Gh → α → Store → Hp → Prop) : Res α → Prop
  | .ok d S => ∀ g' H', g.le g' → R fx g' S H' → T g' d S H'
  | .ex x S => ∀ cls dx g' H', g.le g' → R fx g' S H' → RelX fx g' cls dx x → W cls dx σ H'
  | .bad => False
def tOf (fx : Fix) (Q : VK) : Gh → D → Store → Hp → Prop := fun g d _ H => ∀ v, RelD fx.K fx.ca g v d → Q v H
def tOfA (fx : Fix) (Q : List V → Hp → Prop) : Gh → D → Store → Hp → Prop := fun g d _ H => ∀ vs, RelL fx.K fx.ca g vs (unT d) → Q vs H
def tOfT (Q : Bool → Hp → Prop) : Gh → D → Store → Hp → Prop := fun _ d S H => ∃ b, truD (look S d) = some b ∧ Q b H

/-- the reading of an expression with the evaluation f -/
def tE (fx : Fix) (W : WX) (f : DSt → Store → Res D) : TE := fun σ H Q => ∃ g dσ S, R fx g S H ∧ Sl fx g dσ σ ∧ ePost fx W g σ (tOf fx Q) (f dσ S)
def tA (fx : Fix) (W : WX) (f : DSt → Store → Res D) : TA := fun σ H Q => ∃ g dσ S, R fx g S H ∧ Sl fx g dσ σ ∧ ePost fx W g σ (tOfA fx Q) (f dσ S)
def tT (fx : Fix) (W : WX) (f : DSt → Store → Res D) : TT := fun σ H Q => ∃ g dσ S, R fx g S H ∧ Sl fx g dσ σ ∧ ePost fx W g σ (tOfT Q) (f dσ S)

section
variable {α β : Type} {fx : Fix} {W : WX} {g : Gh} {σ : L2.St} {H : Hp} {dσ : DSt} {S : Store} {T : Gh → β → Store → Hp → Prop}
theorem ePost.up {g1 : Gh} {r : Res β} (h : ePost fx W g σ T r) (l : g.le g1) : ePost fx W g1 σ T r := by
  cases r with
  | ok d S => exact fun g' H' l' => h g' H' (l.trans l')
  | ex x S => exact fun cls dx g' H' l' => h cls dx g' H' (l.trans l')
  | bad => exact h
/-- the first of two steps -/
theorem tE.bind {f : DSt → Store → Res D} {k : D → Store → Res β} (h : ePost fx W g σ T ((f dσ S).bind k)) (r : R fx g S H) (sl : Sl fx g dσ σ) {Q' : VK}
    (hq : ∀ x S' v g' H', f dσ S = .ok x S' → g.le g' → R fx g' S' H' → RelD fx.K fx.ca g' v x → ePost fx W g' σ T (k x S') → Q' v H') : tE fx W f σ H Q' := by
  refine ⟨g, dσ, S, r, sl, ?_⟩
  cases e : f dσ S with
  | ok x S' =>
    rw [e] at h
    intro g' H' l r' v rv
    exact hq x S' v g' H' e l r' rv (ePost.up h l)
  | ex x S' =>
    rw [e] at h
    exact h
  | bad =>
    rw [e] at h
    exact h
theorem tA.bind {f : DSt → Store → Res D} {k : D → Store → Res β} (h : ePost fx W g σ T ((f dσ S).bind k)) (r : R fx g S H) (sl : Sl fx g dσ σ) {Q' : List V → Hp → Prop}
    (hq : ∀ x S' vs g' H', f dσ S = .ok x S' → g.le g' → R fx g' S' H' → RelL fx.K fx.ca g' vs (unT x) → ePost fx W g' σ T (k x S') → Q' vs H') : tA fx W f σ H Q' := by
  refine ⟨g, dσ, S, r, sl, ?_⟩
  cases e : f dσ S with
  | ok x S' =>
    rw [e] at h
    intro g' H' l r' v rv
    exact hq x S' v g' H' e l r' rv (ePost.up h l)
  | ex x S' =>
    rw [e] at h
    exact h
  | bad =>
    rw [e] at h
    exact h
theorem tT.bind {f : DSt → Store → Res D} {k : D → Store → Res β} (h : ePost fx W g σ T ((f dσ S).bind k)) (r : R fx g S H) (sl : Sl fx g dσ σ) {Q' : Bool → Hp → Prop}
    (hq : ∀ x S' g' H', f dσ S = .ok x S' → g.le g' → R fx g' S' H' → ePost fx W g' σ T (k x S') → ∃ b, truD (look S' x) = some b ∧ Q' b H') : tT fx W f σ H Q' := by
  refine ⟨g, dσ, S, r, sl, ?_⟩
  cases e : f dσ S with
  | ok x S' =>
    rw [e] at h
    intro g' H' l r'
    exact hq x S' g' H' e l r' (ePost.up h l)
  | ex x S' =>
    rw [e] at h
    exact h
  | bad =>
    rw [e] at h
    exact h
end
/-- the last step: a value -/
theorem ePost.ret {fx : Fix} {W : WX} {g : Gh} {σ : L2.St} {H : Hp} {S : Store} {Q : VK} {d : D} {v : V} (h : ePost fx W g σ (tOf fx Q) (.ok d S)) (r : R fx g S H) (rv : RelD fx.K fx.ca g v d) : Q v H := h g H (Gh.le.refl g) r v rv
/-- a new object, frozen -/
theorem ePost.new {fx : Fix} {W : WX} {g : Gh} {σ : L2.St} {H : Hp} {S : Store} {Q : VK} {d : D} (h : ePost fx W g σ (tOf fx Q) (.ok d S)) (r : R fx g S H) {o : HO} {p : Addr} (hp : H p = none)
    (rv : ∀ g' : Gh, g.le g' → g'.F p = some o → RelD fx.K fx.ca g' (.ref p) d) : Q (.ref p) (upd H p o) := by
  obtain ⟨r', l⟩ := r.laid (o := o) hp
  exact h _ _ l r' _ (rv _ l (show upd g.F p o p = some o from upd_same))

theorem pe_imp {X : Cx} {e : Expr} {t t' : TE} (h : PE X e t) (i : ∀ σ H Q, t' σ H Q → t σ H Q) : PE X e t' := ⟨fun pins s σ H Q I q => h.run pins s σ H Q I (i σ H Q q)⟩
theorem pa_imp {X : Cx} {e : List Expr} {t t' : TA} (h : PA X e t) (i : ∀ σ H Q, t' σ H Q → t σ H Q) : PA X e t' := ⟨fun pos pins s σ H Q I q => h.run pos pins s σ H Q I (i σ H Q q)⟩
theorem pt_imp {X : Cx} {e : Expr} {t t' : TT} (h : PT X e t) (i : ∀ σ H Q, t' σ H Q → t σ H Q) : PT X e t' := ⟨fun pins s σ H Q I q => h.run pins s σ H Q I (i σ H Q q)⟩
theorem pw_imp {X : Cx} {e : Expr} {t t' : TT} (h : PW X e t) (i : ∀ σ H Q, t' σ H Q → t σ H Q) : PW X e t' := ⟨fun whole pins s σ H Q I q => h.run whole pins s σ H Q I (i σ H Q q)⟩
theorem ps_imp {X : Cx} {e : Stmt} {t t' : TS} (h : PS X e t) (i : ∀ D σ H, t' D σ H → t D σ H) : PS X e t' := ⟨fun pins s σ H Q I q => h.run pins s σ H Q I (i Q σ H q)⟩
theorem pss_imp {X : Cx} {e : List Stmt} {t t' : TS} (h : PSs X e t) (i : ∀ D σ H, t' D σ H → t D σ H) : PSs X e t' := ⟨fun pins s σ H Q I q => h.run pins s σ H Q I (i Q σ H q)⟩
/-- by cases on what is known -/
theorem pe_any {X : Cx} {e : Expr} {t : TE} (h : ∀ σ H Q, t σ H Q → ∃ t', PE X e t' ∧ t' σ H Q) : PE X e t := ⟨fun pins s σ H Q I q => by
  obtain ⟨t', p, q'⟩ := h σ H Q q
  exact p.run pins s σ H Q I q'⟩

/-! ### operators by values -/
/-- an operator's reading -/
def rD (fx : Fix) (W : WX) (f : Store → D → D → Res D) (σ : L2.St) : R2 := fun v w H Q => ∃ g S x y, R fx g S H ∧ RelD fx.K fx.ca g v x ∧ RelD fx.K fx.ca g w y ∧ ePost fx W g σ (tOf fx Q) (f S x y)
def OpD (X : Cx) (fx : Fix) (W : WX) (op : Value → Value → Sem Value) (f : Store → D → D → Res D) : Prop :=
  ∀ (pins : List (Addr × Obj)) (s : Shared) (σ : L2.St) (H : Hp) (x y : V) (v u : Value) (Q : VK), Inv X pins σ H s → RelV x v → RelV y u → rD fx W f σ x y H Q →
    wpAny (model X.prog X.w) X.A (op v u) (EP X pins σ Q) X.xe s
def Bop.op : Bop → Operator
  | .add => .Add
  | .sub => .Sub
  | .mul => .Mult
  | .fdiv => .FloorDiv
  | .mod => .Mod
  | .pow => .Pow
theorem binI_run {X : Cx} {op : Bop} {i j k : Int} (e : binI op i j = some k) : ∀ (pins : List (Addr × Obj)) (s : Shared) (σ : L2.St) (H : Hp) (v u : Value) (Q : VK), Inv X pins σ H s → RelV (.int i) v → RelV (.int j) u → Q (.int k) H →
    wpAny (model X.prog X.w) X.A (binaryOp op.op v u) (EP X pins σ Q) X.xe s := by
  intro pins s σ H v u Q I rx ry q
  cases op with
  | add => cases e; exact op_add pins s σ H _ _ v u Q I rx ry ⟨i, j, rfl, rfl, q⟩
  | sub => cases e; exact op_sub pins s σ H _ _ v u Q I rx ry ⟨i, j, rfl, rfl, q⟩
  | mul =>
    have e : (if ((-(2 ^ 64) < i ∧ i < 2 ^ 64) ∨ (-(2 ^ 64) < j ∧ j < 2 ^ 64)) ∨ wideM i j = true then some (i * j) else none) = some k := e
    by_cases h : ((-(2 ^ 64) < i ∧ i < 2 ^ 64) ∨ (-(2 ^ 64) < j ∧ j < 2 ^ 64)) ∨ wideM i j = true
    · rw [if_pos h] at e
      cases e
      rcases h with h | h
      · exact op_mul pins s σ H _ _ v u Q I rx ry ⟨i, j, rfl, rfl, h, q⟩
      · unfold wideM at h
        rw [Bool.and_eq_true, decide_eq_true_eq, decide_eq_true_eq] at h
        exact op_mulW pins s σ H _ _ v u Q I rx ry ⟨i, j, rfl, rfl, wide_mul h.1 h.2 (by decide) (by decide) (by decide), q⟩
    · rw [if_neg h] at e
      cases e
  | fdiv =>
    have e : (if (0 < j ∧ j < 1073741824) ∨ (0 < j ∧ wideM i j = true) then some (i / j) else none) = some k := e
    by_cases h : (0 < j ∧ j < 1073741824) ∨ (0 < j ∧ wideM i j = true)
    · rw [if_pos h] at e
      cases e
      rcases h with h | ⟨h0, h⟩
      · exact op_fdiv pins s σ H _ _ v u Q I rx ry ⟨i, j, rfl, rfl, h, q⟩
      · unfold wideM at h
        rw [Bool.and_eq_true, decide_eq_true_eq, decide_eq_true_eq] at h
        exact op_fdivW pins s σ H _ _ v u Q I rx ry ⟨i, j, rfl, rfl, wide_div h0 h.2 (by decide) (by decide), q⟩
    · rw [if_neg h] at e
      cases e
  | mod =>
    have e : (if 0 < j then some (i % j) else none) = some k := e
    by_cases h : 0 < j
    · rw [if_pos h] at e
      cases e
      exact op_mod pins s σ H _ _ v u Q I rx ry ⟨i, j, rfl, rfl, h, q⟩
    · rw [if_neg h] at e
      cases e
  | pow =>
    have e : (if 0 ≤ j ∧ j ≤ 1000000 ∧ i.natAbs < 2 ^ 64 then some (i ^ j.toNat) else none) = some k := e
    by_cases h : 0 ≤ j ∧ j ≤ 1000000 ∧ i.natAbs < 2 ^ 64
    · rw [if_pos h] at e
      cases e
      exact op_pow pins s σ H _ _ v u Q I rx ry ⟨i, j, rfl, rfl, h, q⟩
    · rw [if_neg h] at e
      cases e
theorem opD_bin {X : Cx} {fx : Fix} {W : WX} (op : Bop) (hK : fx.K = X.K) : OpD X fx W (binaryOp op.op) (binD op) := by
  intro pins s σ H x y v u Q I rx ry h
  obtain ⟨g, S, d, e, r, rd, re, h⟩ := h
  unfold binD at h
  split at h
  · rename_i i j e1 e2
    have h1 := r.int rd e1
    have h2 := r.int re e2
    subst h1 h2
    cases q : binI op i j with
    | none => rw [q] at h; exact h.elim
    | some k =>
      rw [q] at h
      exact binI_run q pins s σ H v u Q I rx ry (h.ret r (.int k))
  · rename_i a b e1 e2
    have h1 := r.str rd e1
    have h2 := r.str re e2
    subst h1 h2
    cases op with
    | add =>
      have h : ePost fx W g σ (tOf fx Q) (if a.length + b.length ≤ sizeLine then .ok (.str (a ++ b)) S else .bad) := h
      by_cases hz : a.length + b.length ≤ sizeLine
      · rw [if_pos hz] at h
        exact op_add_str pins s σ H _ _ v u Q I rx ry ⟨a, b, rfl, rfl, hz, h.ret r (.str _)⟩
      · rw [if_neg hz] at h
        exact h.elim
    | _ => exact h.elim
  · rename_i xs ys e1 e2
    obtain ⟨a, vs, rfl, ha, ra⟩ := r.lst rd e1
    obtain ⟨b, ws, rfl, hb, rb⟩ := r.lst re e2
    cases op with
    | add =>
      have h : ePost fx W g σ (tOf fx Q) (if xs.length + ys.length ≤ sizeLine then .ok (.lst (xs ++ ys)) S else .bad) := h
      by_cases hz : xs.length + ys.length ≤ sizeLine
      · rw [if_pos hz] at h
        exact op_cat pins s σ H _ _ v u Q I rx ry ⟨a, b, vs, ws, rfl, rfl, ha, hb, by rw [ra.length, rb.length]; exact hz, fun p hp => h.new r hp fun g' l e => .lst e ((ra.append rb).mono l)⟩
      · rw [if_neg hz] at h
        exact h.elim
    | _ => exact h.elim
  · rename_i xs ys e1 e2
    obtain ⟨a, vs, rfl, ha, ra⟩ := r.tup rd e1
    obtain ⟨b, ws, rfl, hb, rb⟩ := r.tup re e2
    cases op with
    | add =>
      have h : ePost fx W g σ (tOf fx Q) (if xs ≠ [] ∧ ys ≠ [] ∧ xs.length + ys.length ≤ sizeLine then .ok (.tup (xs ++ ys)) S else .bad) := h
      by_cases hz : xs ≠ [] ∧ ys ≠ [] ∧ xs.length + ys.length ≤ sizeLine
      · rw [if_pos hz] at h
        have nv : vs ≠ [] := fun z => hz.1 (by
          have := ra.length
          rw [z] at this
          exact List.eq_nil_of_length_eq_zero this.symm)
        have nw : ws ≠ [] := fun z => hz.2.1 (by
          have := rb.length
          rw [z] at this
          exact List.eq_nil_of_length_eq_zero this.symm)
        exact op_catT pins s σ H _ _ v u Q I rx ry ⟨a, b, vs, ws, rfl, rfl, SqT.of ha, SqT.of hb, nv, by rw [ra.length, rb.length]; exact hz.2.2, fun z => absurd z nw, fun _ p hp => h.new r hp fun g' l e => .tup e ((ra.append rb).mono l)⟩
      · rw [if_neg hz] at h
        exact h.elim
    | _ => exact h.elim
  · rename_i xs k e1 e2
    obtain ⟨a, vs, rfl, ha, ra⟩ := r.lst rd e1
    have h2 := r.int re e2
    subst h2
    cases op with
    | mul =>
      have h : ePost fx W g σ (tOf fx Q) (if -(2 ^ 63) ≤ k ∧ k < 2 ^ 63 ∧ xs.length * k.toNat ≤ sizeLine then .ok (.lst (List.replicate k.toNat xs).flatten) S else .bad) := h
      by_cases hz : -(2 ^ 63) ≤ k ∧ k < 2 ^ 63 ∧ xs.length * k.toNat ≤ sizeLine
      · rw [if_pos hz] at h
        exact op_rep pins s σ H _ _ v u Q I rx ry ⟨a, k, vs, rfl, rfl, ha, hz.1, hz.2.1, by rw [ra.length]; exact hz.2.2, fun p hp => h.new r hp fun g' l e => .lst e ((ra.rep k.toNat).mono l)⟩
      · rw [if_neg hz] at h
        exact h.elim
    | _ => exact h.elim
  · exact h.elim
/-! ### == -/
mutual
def toP : D → PyData
  | .bl b => .bool b
  | .int i => .int i
  | .str s => .str s
  | .lst xs => .list (toPL xs)
  | .tup xs => .tuple (toPL xs)
  | _ => .none
def toPL : List D → List PyData
  | [] => []
  | d :: r => toP d :: toPL r
end
theorem dpD_flat {n : Nat} {d : D} (h : flatS d = true) : dpD n d = true := by
  cases n with
  | zero => exact h
  | succ n =>
    cases d with
    | lst xs => cases h
    | tup xs => cases h
    | _ => exact h
section
variable {K : PySem.W.Frag} {ca : String → Addr} {g : Gh} {H : Hp}
mutual
theorem rel_dp (frz : ∀ a o, g.F a = some o → H a = some o) : ∀ (n : Nat) {v : V} {d : D}, RelD K ca g v d → dpD n d = true → Dp K H v (toP d)
  | n, _, _, .non, _ => by unfold toP; exact .non
  | n, _, _, .bl b, _ => by unfold toP; exact .bl b
  | n, _, _, .int i, _ => by unfold toP; exact .int i
  | n, _, _, .str s, _ => by unfold toP; exact .str s
  | 0, _, _, .lst e r, h => by cases h
  | n + 1, _, _, .lst e r, h => by
    unfold toP
    exact .lst (SqL.of (frz _ _ e)) (rel_dpL frz n r (List.all_eq_true.mp h))
  | 0, _, _, .tup e r, h => by cases h
  | n + 1, _, _, .tup e r, h => by
    unfold toP
    exact .tup (SqT.of (frz _ _ e)) (rel_dpL frz n r (List.all_eq_true.mp h))
  | 0, _, _, .ins e r, h => by cases h
  | _ + 1, _, _, .ins e r, h => by cases h
  | 0, _, _, .ptr e, h => by cases h
  | _ + 1, _, _, .ptr e, h => by cases h
  | 0, _, _, .scr e, h => by cases h
  | _ + 1, _, _, .scr e, h => by cases h
theorem rel_dpL (frz : ∀ a o, g.F a = some o → H a = some o) : ∀ (n : Nat) {vs : List V} {ds : List D}, RelL K ca g vs ds → (∀ d ∈ ds, dpD n d = true) → DpAll K H vs (toPL ds)
  | n, _, _, .nil, _ => by unfold toPL; exact .nil
  | n, _, _, .cons a b, h => by
    unfold toPL
    exact .cons (rel_dp frz n a (h _ List.mem_cons_self)) (rel_dpL frz n b fun d hd => h d (List.mem_cons_of_mem _ hd))
end
end
mutual
theorem dp_lay : ∀ (n : Nat) (d : D), dpD n d = true → (toP d).canLay0 = true ∧ (toP d).depth ≤ n
  | n, .non, _ => by unfold toP; exact ⟨rfl, by simp [PyData.depth]⟩
  | n, .bl b, _ => by unfold toP; exact ⟨rfl, by simp [PyData.depth]⟩
  | n, .int i, _ => by unfold toP; exact ⟨rfl, by simp [PyData.depth]⟩
  | 0, .str s, h => by unfold toP; exact ⟨h, by simp [PyData.depth]⟩
  | n + 1, .str s, h => by unfold toP; exact ⟨h, by simp [PyData.depth]⟩
  | 0, .lst xs, h => by cases h
  | n + 1, .lst xs, h => by
    obtain ⟨h1, h2⟩ := dp_layL n xs (List.all_eq_true.mp h)
    unfold toP
    refine ⟨by unfold PyData.canLay0; exact h1, ?_⟩
    simp only [PyData.depth]
    omega
  | 0, .tup xs, h => by cases h
  | n + 1, .tup xs, h => by
    obtain ⟨h1, h2⟩ := dp_layL n xs (List.all_eq_true.mp h)
    unfold toP
    refine ⟨by unfold PyData.canLay0; exact h1, ?_⟩
    simp only [PyData.depth]
    omega
  | 0, .ins c fs, h => by cases h
  | _ + 1, .ins c fs, h => by cases h
  | 0, .ptr c, h => by cases h
  | _ + 1, .ptr c, h => by cases h
  | 0, .scr c, h => by cases h
  | _ + 1, .scr c, h => by cases h
theorem dp_layL : ∀ (n : Nat) (ds : List D), (∀ d ∈ ds, dpD n d = true) → PyData.canLayAll0 (toPL ds) = true ∧ PyData.depthAll (toPL ds) ≤ n
  | n, [], _ => by unfold toPL; exact ⟨rfl, by simp [PyData.depthAll]⟩
  | n, d :: r, h => by
    obtain ⟨h1, h2⟩ := dp_lay n d (h d List.mem_cons_self)
    obtain ⟨h3, h4⟩ := dp_layL n r fun e he => h e (List.mem_cons_of_mem _ he)
    unfold toPL
    refine ⟨by unfold PyData.canLayAll0; rw [h1, h3]; rfl, ?_⟩
    simp only [PyData.depthAll]
    omega
end
end MX
end

section
set_option maxRecDepth 100000
set_option maxHeartbeats 1000000
namespace MX
open PySem PySem.Spec PyProof.Rows L2

mutual
theorem eqB_eqv : ∀ (n m : Nat) (a b : D), dpD n a = true → dpD m b = true → PyData.eqv (toP a) (toP b) = eqB a b
  | n, m, .non, b, _, h => by cases b <;> first | (cases m <;> cases h; done) | (simp [toP, PyData.eqv, eqB])
  | n, m, .bl _, b, _, h => by cases b <;> first | (cases m <;> cases h; done) | (simp [toP, PyData.eqv, eqB])
  | n, m, .int _, b, _, h => by cases b <;> first | (cases m <;> cases h; done) | (simp [toP, PyData.eqv, eqB])
  | n, m, .str _, b, _, h => by cases b <;> first | (cases m <;> cases h; done) | (simp [toP, PyData.eqv, eqB])
  | 0, m, .lst xs, b, h, _ => by cases h
  | 0, m, .tup xs, b, h, _ => by cases h
  | n + 1, m, .lst xs, b, h1, h2 => by
    cases b with
    | lst ys =>
      cases m with
      | zero => cases h2
      | succ m =>
        have := eqB_eqvL n m xs ys (List.all_eq_true.mp h1) (List.all_eq_true.mp h2)
        simp only [toP, PyData.eqv, eqB]
        exact this
    | ins c fs => cases m <;> cases h2
    | ptr c => cases m <;> cases h2
    | scr c => cases m <;> cases h2
    | _ => simp [toP, PyData.eqv, eqB]
  | n + 1, m, .tup xs, b, h1, h2 => by
    cases b with
    | tup ys =>
      cases m with
      | zero => cases h2
      | succ m =>
        have := eqB_eqvL n m xs ys (List.all_eq_true.mp h1) (List.all_eq_true.mp h2)
        simp only [toP, PyData.eqv, eqB]
        exact this
    | ins c fs => cases m <;> cases h2
    | ptr c => cases m <;> cases h2
    | scr c => cases m <;> cases h2
    | _ => simp [toP, PyData.eqv, eqB]
  | 0, m, .ins c fs, b, h, _ => by cases h
  | _ + 1, m, .ins c fs, b, h, _ => by cases h
  | 0, m, .ptr c, b, h, _ => by cases h
  | _ + 1, m, .ptr c, b, h, _ => by cases h
  | 0, m, .scr c, b, h, _ => by cases h
  | _ + 1, m, .scr c, b, h, _ => by cases h
theorem eqB_eqvL : ∀ (n m : Nat) (xs ys : List D), (∀ d ∈ xs, dpD n d = true) → (∀ d ∈ ys, dpD m d = true) → PyData.eqvAll (toPL xs) (toPL ys) = eqBL xs ys
  | n, m, [], [], _, _ => by simp [toPL, PyData.eqvAll, eqBL]
  | n, m, [], _ :: _, _, _ => by simp [toPL, PyData.eqvAll, eqBL]
  | n, m, _ :: _, [], _, _ => by simp [toPL, PyData.eqvAll, eqBL]
  | n, m, x :: xs, y :: ys, h1, h2 => by
    have e1 := eqB_eqv n m x y (h1 x List.mem_cons_self) (h2 y List.mem_cons_self)
    have e2 := eqB_eqvL n m xs ys (fun d hd => h1 d (List.mem_cons_of_mem _ hd)) fun d hd => h2 d (List.mem_cons_of_mem _ hd)
    simp only [toPL, PyData.eqvAll, eqBL, e1, e2]
end

section
variable {fx : Fix} {g : Gh} {S : Store} {H : Hp}
theorem R.dp (r : R fx g S H) {v : V} {d : D} {n : Nat} (h : RelD fx.K fx.ca g v d) (q : dpD n (MX.look S d) = true) : Dp fx.K H v (toP (MX.look S d)) := by
  rcases r.look h with ⟨k, ys, rfl, rfl, hc, e'⟩ | ⟨k, c, fs, rfl, rfl, hc, e'⟩ | k
  · rw [e'] at q ⊢
    obtain ⟨_, _, vs, h3, h4⟩ := r.cells k _ hc
    cases n with
    | zero => cases q
    | succ n =>
      unfold toP
      exact .lst (SqL.of h3) (rel_dpL r.frz n h4 (List.all_eq_true.mp q))
  · rw [e'] at q
    cases n <;> cases q
  · exact rel_dp r.frz n k q
theorem shaped_of {d : D} (h : dpD 8 d = true) : SeqAt.shaped (toP d) = true := by
  obtain ⟨h1, h2⟩ := dp_lay 8 d h
  unfold SeqAt.shaped
  rw [h1, decide_eq_true (show (toP d).depth ≤ 64 by omega)]
  rfl
theorem rel_flatV {K : PySem.W.Frag} {ca : String → Addr} {g : Gh} {v : V} {d : D} (h : RelD K ca g v d) (f : flatD d = true) : flatV v = true := by
  cases h <;> first | rfl | cases f
theorem rel_eqV {K : PySem.W.Frag} {ca : String → Addr} {g : Gh} {v w : V} {d e : D} (h : RelD K ca g v d) (k : RelD K ca g w e) (f : flatD d = true) (f' : flatD e = true) : eqV v w = eqB d e := by
  cases h <;> first | (cases f; done) | (cases k <;> first | (cases f'; done) | (simp [eqV, eqB]))
theorem rel_inV {K : PySem.W.Frag} {ca : String → Addr} {g : Gh} {v : V} {d : D} (h : RelD K ca g v d) (f : flatD d = true) : ∀ {ws : List V} {es : List D}, RelL K ca g ws es → es.all flatD = true → ws.all flatV = true ∧ inV v ws = es.any fun y => eqB y d
  | _, _, .nil, _ => ⟨rfl, rfl⟩
  | _, _, .cons a b, q => by
    rw [List.all_cons, Bool.and_eq_true] at q
    obtain ⟨h1, h2⟩ := rel_inV h f b q.2
    refine ⟨by rw [List.all_cons, rel_flatV a q.1, h1]; rfl, ?_⟩
    unfold inV at h2 ⊢
    rw [List.any_cons, List.any_cons, rel_eqV a h q.1 f, h2]
end
def Cop.op : Cop → CmpOp
  | .eq => .Eq
  | .ne => .NotEq
  | .lt => .Lt
  | .le => .LtE
  | .gt => .Gt
  | .ge => .GtE
  | .is_ => .Is
  | .isn => .IsNot
  | .in_ => .In
  | .nin => .NotIn
theorem eqO_some {x y : D} {b : Bool} (h : eqO x y = some b) : dpD 8 x = true ∧ dpD 8 y = true ∧ b = eqB x y := by
  unfold eqO at h
  split at h
  · rename_i q
    rw [Bool.and_eq_true] at q
    exact ⟨q.1, q.2, (Option.some.inj h).symm⟩
  · cases h
theorem inO_some {x : D} {ys : List D} {b : Bool} (h : inO x ys = some b) : flatD x = true ∧ ys.all flatD = true ∧ b = ys.any fun y => eqB y x := by
  unfold inO at h
  split at h
  · rename_i q
    rw [Bool.and_eq_true] at q
    exact ⟨q.1, q.2, (Option.some.inj h).symm⟩
  · cases h
theorem notO_some {o : Option Bool} {b : Bool} (h : notO o = some b) : ∃ c, o = some c ∧ b = !c := by
  cases o with
  | none => cases h
  | some c => exact ⟨c, rfl, (Option.some.inj h).symm⟩
mutual
theorem al_alike : ∀ (a b : D), alB a b = true → PySem.W.alike (toP a) (toP b) = true
  | .int i, b, h => by
    cases b <;> first | (unfold alB at h; cases h; done) | (simp [toP, PySem.W.alike])
  | .tup xs, b, h => by
    cases b with
    | tup ys =>
      unfold alB at h
      simp only [toP, PySem.W.alike]
      exact al_alikeL xs ys h
    | _ => unfold alB at h; cases h
  | .non, b, h => by cases b <;> (unfold alB at h; cases h)
  | .bl _, b, h => by cases b <;> (unfold alB at h; cases h)
  | .str _, b, h => by cases b <;> (unfold alB at h; cases h)
  | .lst _, b, h => by cases b <;> (unfold alB at h; cases h)
  | .ins _ _, b, h => by cases b <;> (unfold alB at h; cases h)
  | .ptr _, b, h => by cases b <;> (unfold alB at h; cases h)
  | .scr _, b, h => by cases b <;> (unfold alB at h; cases h)
theorem al_alikeL : ∀ (xs ys : List D), alBL xs ys = true → PySem.W.alikeAll (toPL xs) (toPL ys) = true
  | [], [], _ => by simp [toPL, PySem.W.alikeAll]
  | [], _ :: _, _ => by simp [toPL, PySem.W.alikeAll]
  | _ :: _, [], _ => by simp [toPL, PySem.W.alikeAll]
  | x :: xs, y :: ys, h => by
    unfold alBL at h
    rw [Bool.and_eq_true] at h
    simp only [toPL, PySem.W.alikeAll, al_alike x y h.1, al_alikeL xs ys h.2, Bool.and_self]
end
mutual
theorem lt_data : ∀ (n m : Nat) (a b : D), dpD n a = true → dpD m b = true → alB a b = true → PySem.W.dataLt (toP a) (toP b) = ltB a b
  | n, m, .int i, b, h1, h2, h => by
    cases b <;> first | (unfold alB at h; cases h; done) | (simp only [toP, PySem.W.dataLt_int]; unfold ltB; rfl)
  | n + 1, m, .tup xs, b, h1, h2, h => by
    cases b with
    | tup ys =>
      cases m with
      | zero => cases h2
      | succ m =>
        unfold alB at h
        simp only [toP, PySem.W.dataLt_tuple]
        rw [lt_dataL n m xs ys (List.all_eq_true.mp h1) (List.all_eq_true.mp h2) h]
        unfold ltB
        rfl
    | _ => unfold alB at h; cases h
  | 0, m, .tup xs, b, h1, h2, h => by cases h1
  | _, _, .non, b, _, _, h => by cases b <;> (unfold alB at h; cases h)
  | _, _, .bl _, b, _, _, h => by cases b <;> (unfold alB at h; cases h)
  | _, _, .str _, b, _, _, h => by cases b <;> (unfold alB at h; cases h)
  | _, _, .lst _, b, _, _, h => by cases b <;> (unfold alB at h; cases h)
  | _, _, .ins _ _, b, _, _, h => by cases b <;> (unfold alB at h; cases h)
  | _, _, .ptr _, b, _, _, h => by cases b <;> (unfold alB at h; cases h)
  | _, _, .scr _, b, _, _, h => by cases b <;> (unfold alB at h; cases h)
theorem lt_dataL : ∀ (n m : Nat) (xs ys : List D), (∀ d ∈ xs, dpD n d = true) → (∀ d ∈ ys, dpD m d = true) → alBL xs ys = true → PyProof.Rows.lexLt PyProof.Rows.itemOrd (PySem.W.keyToksAll (toPL xs)) (PySem.W.keyToksAll (toPL ys)) = ltBL xs ys
  | n, m, [], [], _, _, _ => by
    unfold ltBL
    simp only [toPL]
    decide +kernel
  | n, m, [], y :: ys, _, _, _ => by
    unfold ltBL
    simp only [toPL, PySem.W.keyToksAll]
    rw [PySem.W.lex_atom (by simp), PySem.W.lex_one]
    decide +kernel
  | n, m, x :: xs, [], _, _, _ => by
    unfold ltBL
    simp only [toPL, PySem.W.keyToksAll]
    rw [PySem.W.lex_atom (by simp), PySem.W.lex_one]
    decide +kernel
  | n, m, x :: xs, y :: ys, h1, h2, h => by
    unfold alBL at h
    rw [Bool.and_eq_true] at h
    have ax := al_alike x y h.1
    have ex := eqB_eqv n m x y (h1 x List.mem_cons_self) (h2 y List.mem_cons_self)
    unfold ltBL
    simp only [toPL]
    cases q : eqB x y with
    | true =>
      rw [PySem.W.dataLt_all_yes ax (ex.trans q), if_pos rfl]
      exact lt_dataL n m xs ys (fun d hd => h1 d (List.mem_cons_of_mem _ hd)) (fun d hd => h2 d (List.mem_cons_of_mem _ hd)) h.2
    | false =>
      rw [PySem.W.dataLt_all_no ax (ex.trans q), if_neg (by decide)]
      exact lt_data n m x y (h1 x List.mem_cons_self) (h2 y List.mem_cons_self) h.1
end
theorem al_ne {a b : D} (h : alB a b = true) : toP a ≠ .none := fun e => by
  cases a <;> first | (unfold alB at h; cases b <;> cases h; done) | (simp [toP] at e)
/-- a < b of data that are alike -/
theorem lt_ok {X : Cx} {fx : Fix} {g : Gh} {S : Store} {H : Hp} {pins : List (Addr × Obj)} {s : Shared} {σ : L2.St} {x y : V} {v u : Value} {d e : D} {Q : VK} (hK : fx.K = X.K) (hu : X.A.units + 64 < cLine) (I : Inv X pins σ H s) (rx : RelV x v) (ry : RelV y u) (r : R fx g S H) (rd : RelD fx.K fx.ca g x d) (re : RelD fx.K fx.ca g y e)
    (h1 : dpD 8 (MX.look S d) = true) (h2 : dpD 8 (MX.look S e) = true) (h : alB (MX.look S d) (MX.look S e) = true) (q : Q (.bl (ltB (MX.look S d) (MX.look S e))) H) : wpAny (model X.prog X.w) X.A (compareOp .Lt v u) (EP X pins σ Q) X.xe s := by
  have p1 := r.dp rd h1
  have p2 := r.dp re h2
  rw [hK] at p1 p2
  obtain ⟨as, r1⟩ := Dp.reads I _ x v p1 rx
  obtain ⟨bs, r2⟩ := Dp.reads I _ y u p2 ry
  have dep := (dp_lay 8 _ h1).2
  have z := PySem.W.rcLt_alike (toP (MX.look S d)) (toP (MX.look S e)) X.A s v u as bs r1 r2 (al_alike _ _ h) (al_ne h) (by omega)
  rw [lt_data 8 8 _ _ h1 h2 h] at z
  exact z X.prog X.w X.xe (EP X pins σ Q) ⟨.bl _, H, I, rfl, q⟩
theorem lexAt_shift (e r : Nat → Bool) (z : Bool) : ∀ (k i : Nat), Ob.lexAt (fun j => e (j + 1)) (fun j => r (j + 1)) z i k = Ob.lexAt e r z (i + 1) k
  | 0, _ => rfl
  | k + 1, i => by
    rw [Ob.lexAt_succ, Ob.lexAt_succ, lexAt_shift e r z k (i + 1)]
theorem lexAt_le : ∀ (n m : Nat) (xs ys : List D) (r : Nat → Bool), (∀ d ∈ xs, dpD n d = true) → (∀ d ∈ ys, dpD m d = true) → (∀ j x y, xs[j]? = some x → ys[j]? = some y → r j = leB x y) →
    Ob.lexAt (PySem.SeqAt.pairEq (toPL xs) (toPL ys)) r (decide (xs.length ≤ ys.length)) 0 (min xs.length ys.length) = leBL xs ys
  | n, m, [], ys, r, _, _, _ => by
    rw [show min ([] : List D).length ys.length = 0 by simp, Ob.lexAt_zero]
    unfold leBL
    simp
  | n, m, x :: xs, [], r, _, _, _ => by
    rw [show min (x :: xs).length ([] : List D).length = 0 by simp, Ob.lexAt_zero]
    unfold leBL
    simp
  | n, m, x :: xs, y :: ys, r, h1, h2, h => by
    have ex := eqB_eqv n m x y (h1 x List.mem_cons_self) (h2 y List.mem_cons_self)
    have ih := lexAt_le n m xs ys (fun j => r (j + 1)) (fun d hd => h1 d (List.mem_cons_of_mem _ hd)) (fun d hd => h2 d (List.mem_cons_of_mem _ hd)) fun j a b ha hb => h (j + 1) a b (by simpa using ha) (by simpa using hb)
    rw [show min (x :: xs).length (y :: ys).length = min xs.length ys.length + 1 by simp only [List.length_cons]; omega, Ob.lexAt_succ]
    have e0 : PySem.SeqAt.pairEq (toPL (x :: xs)) (toPL (y :: ys)) 0 = eqB x y := by
      rw [← ex]
      rfl
    have es : (fun j => PySem.SeqAt.pairEq (toPL (x :: xs)) (toPL (y :: ys)) (j + 1)) = PySem.SeqAt.pairEq (toPL xs) (toPL ys) := by
      funext j
      rfl
    have el : decide ((x :: xs).length ≤ (y :: ys).length) = decide (xs.length ≤ ys.length) := decide_eq_decide.mpr (by simp only [List.length_cons]; omega)
    rw [e0, el, ← lexAt_shift, es, ih, h 0 x y rfl rfl]
    conv => rhs; unfold leBL
theorem toPL_length : ∀ xs : List D, (toPL xs).length = xs.length
  | [] => by simp [toPL]
  | x :: xs => by simp only [toPL, List.length_cons, toPL_length xs]
theorem toPL_get : ∀ (xs : List D) (j : Nat) (x : D), xs[j]? = some x → (toPL xs)[j]? = some (toP x)
  | [], j, x, h => by simp at h
  | y :: ys, 0, x, h => by
    simp at h
    subst h
    simp [toPL]
  | y :: ys, j + 1, x, h => by
    have h : ys[j]? = some x := by simpa using h
    simp only [toPL, List.getElem?_cons_succ]
    exact toPL_get ys j x h
mutual
/-- a <= b of data that are alike -/
theorem rcLe : ∀ (n m : Nat) (a b : D), dpD n a = true → dpD m b = true → alB a b = true → ∀ (A : Around) (s : Shared) (v u : Value) (as bs : List Addr), Reads s.heap v (toP a) as → Reads s.heap u (toP b) bs → A.units + min (toP a).depth (toP b).depth < cLine → Ob.RcOp .LtE A s v u (leB a b)
  | n, m, .int i, b, h1, h2, h => by
    cases b <;> first | (unfold alB at h; cases h; done) | skip
    intro A s v u as bs ra rb hu
    simp only [toP] at ra rb
    cases ra
    cases rb
    unfold leB
    exact Ob.RcOp.le_int _ _ _ _
  | n + 1, m, .tup xs, b, h1, h2, h => by
    cases b with
    | tup ys =>
      cases m with
      | zero => cases h2
      | succ m =>
        intro A s v u as bs ra rb hu
        unfold alB at h
        have h1 := List.all_eq_true.mp h1
        have h2 := List.all_eq_true.mp h2
        have hal := al_alikeL xs ys h
        simp only [toP] at ra rb hu
        cases ra with
        | @tuple l o vs n' _ as₁ p1 p2 p3 p4 =>
          cases rb with
          | @tuple l' o' vs' n'' _ bs₁ k1 k2 k3 k4 =>
            have n1 : vs.size = (toPL xs).length := by simpa using SeqAt.ReadsAll.length _ _ _ p4
            have n2 : vs'.size = (toPL ys).length := by simpa using SeqAt.ReadsAll.length _ _ _ k4
            rw [toPL_length] at n1 n2
            have e := lexAt_le n m xs ys (fun j => match xs[j]?, ys[j]? with
              | some x, some y => leB x y
              | _, _ => false) h1 h2 (fun j x y hx hy => by simp only [hx, hy])
            unfold leB
            rw [← e, ← n1, ← n2]
            refine Ob.RcOp.tuples_le ⟨_, p1, p2, _, p3⟩ ⟨_, k1, k2, _, k3⟩ (SeqAt.room_here hu) (fun j j1 j2 => ?_) fun j j1 j2 hj => ?_
            · have := PySem.W.eqAt_alikeAll (toPL xs) (toPL ys) A.in1 s vs.toList vs'.toList _ _ p4 k4 hal (SeqAt.room_in hu) j (by simpa using j1) (by simpa using j2)
              simpa using this
            · have := rcLeL n m xs ys h1 h2 h A.in1 s vs.toList vs'.toList _ _ p4 k4 (SeqAt.room_in hu) j (by simpa using j1) (by simpa using j2)
              simpa using this
    | _ => unfold alB at h; cases h
  | 0, m, .tup xs, b, h1, h2, h => by cases h1
  | _, _, .non, b, _, _, h => by cases b <;> (unfold alB at h; cases h)
  | _, _, .bl _, b, _, _, h => by cases b <;> (unfold alB at h; cases h)
  | _, _, .str _, b, _, _, h => by cases b <;> (unfold alB at h; cases h)
  | _, _, .lst _, b, _, _, h => by cases b <;> (unfold alB at h; cases h)
  | _, _, .ins _ _, b, _, _, h => by cases b <;> (unfold alB at h; cases h)
  | _, _, .ptr _, b, _, _, h => by cases b <;> (unfold alB at h; cases h)
  | _, _, .scr _, b, _, _, h => by cases b <;> (unfold alB at h; cases h)
theorem rcLeL : ∀ (n m : Nat) (xs ys : List D), (∀ d ∈ xs, dpD n d = true) → (∀ d ∈ ys, dpD m d = true) → alBL xs ys = true → ∀ (A : Around) (s : Shared) (vs us : List Value) (as bs : List Addr), ReadsAll s.heap vs (toPL xs) as → ReadsAll s.heap us (toPL ys) bs → A.units + min (PyData.depthAll (toPL xs)) (PyData.depthAll (toPL ys)) < cLine →
    ∀ j (h1 : j < vs.length) (h2 : j < us.length), Ob.RcOp .LtE A s vs[j] us[j] (match xs[j]?, ys[j]? with
      | some x, some y => leB x y
      | _, _ => false)
  | n, m, [], ys, _, _, _ => by
    intro A s vs us as bs ra rb hu j h1 h2
    simp only [toPL] at ra
    cases ra
    exact absurd h1 (Nat.not_lt_zero _)
  | n, m, x :: xs, [], _, _, _ => by
    intro A s vs us as bs ra rb hu j h1 h2
    simp only [toPL] at rb
    cases rb
    exact absurd h2 (Nat.not_lt_zero _)
  | n, m, x :: xs, y :: ys, h1, h2, h => by
    intro A s vs us as bs ra rb hu j j1 j2
    unfold alBL at h
    rw [Bool.and_eq_true] at h
    simp only [toPL] at ra rb hu
    cases ra with
    | cons r rs =>
      cases rb with
      | cons r' rs' =>
        cases j with
        | zero => exact rcLe n m x y (h1 x List.mem_cons_self) (h2 y List.mem_cons_self) h.1 A s _ _ _ _ r r' (SeqAt.room_head hu)
        | succ j => exact rcLeL n m xs ys (fun d hd => h1 d (List.mem_cons_of_mem _ hd)) (fun d hd => h2 d (List.mem_cons_of_mem _ hd)) h.2 A s _ _ _ _ rs rs' (SeqAt.room_tail hu) j (Nat.lt_of_succ_lt_succ j1) (Nat.lt_of_succ_lt_succ j2)
end
theorem le_ok {X : Cx} {fx : Fix} {g : Gh} {S : Store} {H : Hp} {pins : List (Addr × Obj)} {s : Shared} {σ : L2.St} {x y : V} {v u : Value} {d e : D} {Q : VK} (hK : fx.K = X.K) (hu : X.A.units + 64 < cLine) (I : Inv X pins σ H s) (rx : RelV x v) (ry : RelV y u) (r : R fx g S H) (rd : RelD fx.K fx.ca g x d) (re : RelD fx.K fx.ca g y e)
    (h1 : dpD 8 (MX.look S d) = true) (h2 : dpD 8 (MX.look S e) = true) (h : alB (MX.look S d) (MX.look S e) = true) (q : Q (.bl (leB (MX.look S d) (MX.look S e))) H) : wpAny (model X.prog X.w) X.A (compareOp .LtE v u) (EP X pins σ Q) X.xe s := by
  have p1 := r.dp rd h1
  have p2 := r.dp re h2
  rw [hK] at p1 p2
  obtain ⟨as, r1⟩ := Dp.reads I _ x v p1 rx
  obtain ⟨bs, r2⟩ := Dp.reads I _ y u p2 ry
  have dep := (dp_lay 8 _ h1).2
  have z := rcLe 8 8 _ _ h1 h2 h X.A s v u as bs r1 r2 (by omega)
  exact z X.prog X.w X.xe (EP X pins σ Q) ⟨.bl _, H, I, rfl, q⟩
/-- comparisons -/
theorem opD_cmp {X : Cx} {fx : Fix} {W : WX} (op : Cop) (hK : fx.K = X.K) (hu : X.A.units + 64 < cLine) : OpD X fx W (compareOp op.op) (fun S x y => ofB S (cmpB op S x y)) := by
  intro pins s σ H x y v u Q I rx ry h
  obtain ⟨g, S, d, e, r, rd, re, h⟩ := h
  have h : ePost fx W g σ (tOf fx Q) (ofB S (cmpB op S d e)) := h
  cases q : cmpB op S d e with
  | none => rw [q] at h; exact h.elim
  | some b =>
    rw [q] at h
    have hq : Q (.bl b) H := h.ret (d := .bl b) r (.bl b)

    have hints : ∀ {f : Int → Int → Bool}, (match MX.look S d, MX.look S e with
      | .int i, .int j => some (f i j)
      | _, _ => none) = some b → ∃ i j, x = .int i ∧ y = .int j ∧ b = f i j := fun {f} z => by
      split at z
      · rename_i i j e1 e2
        exact ⟨i, j, r.int rd e1, r.int re e2, (Option.some.inj z).symm⟩
      · cases z
    cases op with
    | eq =>
      obtain ⟨h1, h2, rfl⟩ := eqO_some q
      refine op_eqD hu pins s σ H x y v u Q I rx ry ⟨_, _, by rw [← hK]; exact r.dp rd h1, by rw [← hK]; exact r.dp re h2, shaped_of h1, shaped_of h2, ?_⟩
      rw [eqB_eqv 8 8 _ _ h1 h2]
      exact hq
    | ne =>
      obtain ⟨c, q1, rfl⟩ := notO_some q
      obtain ⟨h1, h2, rfl⟩ := eqO_some q1
      refine op_neD hu pins s σ H x y v u Q I rx ry ⟨_, _, by rw [← hK]; exact r.dp rd h1, by rw [← hK]; exact r.dp re h2, shaped_of h1, shaped_of h2, ?_⟩
      rw [eqB_eqv 8 8 _ _ h1 h2]
      exact hq
    | lt =>
      have q : ltO (MX.look S d) (MX.look S e) = some b := q
      unfold ltO at q
      split at q
      · rename_i c
        simp only [Bool.and_eq_true] at c
        cases q
        exact lt_ok hK hu I rx ry r rd re c.1 c.2.1 c.2.2 hq
      · cases q
    | le =>
      have q : leO (MX.look S d) (MX.look S e) = some b := q
      unfold leO at q
      split at q
      · rename_i c
        simp only [Bool.and_eq_true] at c
        cases q
        exact le_ok hK hu I rx ry r rd re c.1 c.2.1 c.2.2 hq
      · cases q
    | gt =>
      obtain ⟨i, j, rfl, rfl, rfl⟩ := hints q
      exact op_gt pins s σ H _ _ v u Q I rx ry ⟨i, j, rfl, rfl, hq⟩
    | ge =>
      obtain ⟨i, j, rfl, rfl, rfl⟩ := hints q
      exact op_ge pins s σ H _ _ v u Q I rx ry ⟨i, j, rfl, rfl, hq⟩
    | is_ =>
      cases e with
      | non =>
        have hy := re.iNon
        subst hy
        refine op_isN pins s σ H _ _ v u Q I rx ry ⟨rfl, ?_⟩
        have : decide (x = V.non) = b := by
          cases d with
          | non =>
            cases q
            rw [rd.iNon]
            exact decide_eq_true rfl
          | _ =>
            cases q
            refine decide_eq_false fun z => ?_
            subst z
            cases rd
        rw [this]
        exact hq
      | _ => cases q
    | isn =>
      cases e with
      | non =>
        have hy := re.iNon
        subst hy
        refine op_notN pins s σ H _ _ v u Q I rx ry ⟨rfl, ?_⟩
        have : (!decide (x = V.non)) = b := by
          cases d with
          | non =>
            cases q
            rw [rd.iNon, decide_eq_true rfl]
            rfl
          | _ =>
            cases q
            rw [decide_eq_false (fun z => by subst z; cases rd)]
            rfl
        rw [this]
        exact hq
      | _ => cases q
    | in_ =>
      have q : (match MX.look S e with
        | .lst ys => inO d ys
        | .tup ys => inO d ys
        | _ => none) = some b := q
      split at q
      · rename_i ys e1
        obtain ⟨h1, h2, rfl⟩ := inO_some q
        obtain ⟨a, ws, rfl, ha, ra⟩ := r.lst re e1
        obtain ⟨f1, f2⟩ := rel_inV rd h1 ra h2
        refine op_in_seq pins s σ H _ _ v u Q I rx ry ⟨a, ws, rfl, .inl (SqL.of ha), rel_flatV rd h1, f1, ?_⟩
        rw [if_neg (by decide), f2]
        exact hq
      · rename_i ys e1
        obtain ⟨h1, h2, rfl⟩ := inO_some q
        obtain ⟨a, ws, rfl, ha, ra⟩ := r.tup re e1
        obtain ⟨f1, f2⟩ := rel_inV rd h1 ra h2
        refine op_in_seq pins s σ H _ _ v u Q I rx ry ⟨a, ws, rfl, .inr (SqT.of ha), rel_flatV rd h1, f1, ?_⟩
        rw [if_neg (by decide), f2]
        exact hq
      · cases q
    | nin =>
      have q : (match MX.look S e with
        | .lst ys => notO (inO d ys)
        | .tup ys => notO (inO d ys)
        | _ => none) = some b := q
      split at q
      · rename_i ys e1
        obtain ⟨c, q2, rfl⟩ := notO_some q
        obtain ⟨h1, h2, rfl⟩ := inO_some q2
        obtain ⟨a, ws, rfl, ha, ra⟩ := r.lst re e1
        obtain ⟨f1, f2⟩ := rel_inV rd h1 ra h2
        refine op_notIn_seq pins s σ H _ _ v u Q I rx ry ⟨a, ws, rfl, .inl (SqL.of ha), rel_flatV rd h1, f1, ?_⟩
        rw [if_pos rfl, f2]
        exact hq
      · rename_i ys e1
        obtain ⟨c, q2, rfl⟩ := notO_some q
        obtain ⟨h1, h2, rfl⟩ := inO_some q2
        obtain ⟨a, ws, rfl, ha, ra⟩ := r.tup re e1
        obtain ⟨f1, f2⟩ := rel_inV rd h1 ra h2
        refine op_notIn_seq pins s σ H _ _ v u Q I rx ry ⟨a, ws, rfl, .inr (SqT.of ha), rel_flatV rd h1, f1, ?_⟩
        rw [if_pos rfl, f2]
        exact hq
      · cases q
/-- truth -/
theorem R.tru {fx : Fix} {g : Gh} {S : Store} {H : Hp} (r : R fx g S H) {v : V} {d : D} {b : Bool} (h : RelD fx.K fx.ca g v d) (e : truD (MX.look S d) = some b) : TruV fx.K v H b := by
  cases q : MX.look S d with
  | non => rw [q] at e; cases e; rw [r.non h q]; exact rfl
  | bl c => rw [q] at e; cases e; rw [r.bl h q]; exact rfl
  | int i => rw [q] at e; cases e; rw [r.int h q]; exact rfl
  | str z =>
    rw [q] at e
    have e : (if z.length ≤ sizeLine then some ((z.length : Int) != 0) else none) = some b := e
    by_cases hz : z.length ≤ sizeLine
    · rw [if_pos hz] at e
      cases e
      rw [r.str h q]
      exact ⟨hz, rfl⟩
    · rw [if_neg hz] at e
      cases e
  | lst xs =>
    rw [q] at e
    cases e
    obtain ⟨a, vs, rfl, ha, ra⟩ := r.lst h q
    refine .inl ⟨vs, SqL.of ha, ?_⟩
    cases ra <;> rfl
  | tup xs =>
    rw [q] at e
    cases e
    obtain ⟨a, vs, rfl, ha, ra⟩ := r.tup h q
    refine .inr (.inl ⟨vs, SqT.of ha, ?_⟩)
    cases ra <;> rfl
  | ins c fs => rw [q] at e; cases e
  | ptr c => rw [q] at e; cases e
  | scr c => rw [q] at e; cases e
end MX
end

section
set_option maxRecDepth 100000
set_option maxHeartbeats 1000000
namespace MX
open PySem PySem.Spec PyProof.Rows L2

section
variable {K : PySem.W.Frag} {ca : String → Addr} {g g' : Gh}
mutual
/-- data leans on the frozen part alone -/
theorem RelD.pfF (l : ∀ a o, g.F a = some o → g'.F a = some o) : ∀ {v : V} {d : D}, RelD K ca g v d → d.pf = true → RelD K ca g' v d
  | _, _, .non, _ => .non
  | _, _, .bl b, _ => .bl b
  | _, _, .int i, _ => .int i
  | _, _, .str s, _ => .str s
  | _, _, .lst e r, h => .lst (l _ _ e) (RelL.pfF l r (by unfold D.pf at h; exact h))
  | _, _, .tup e r, h => .tup (l _ _ e) (RelL.pfF l r (by unfold D.pf at h; exact h))
  | _, _, .ins e r, h => .ins (l _ _ e) (RelF.pfF l r (by unfold D.pf at h; exact h))
  | _, _, .ptr e, h => by unfold D.pf at h; cases h
  | _, _, .scr h, _ => .scr ((show Same g.F g'.F from l).seq h)
theorem RelL.pfF (l : ∀ a o, g.F a = some o → g'.F a = some o) : ∀ {vs : List V} {ds : List D}, RelL K ca g vs ds → pfL ds = true → RelL K ca g' vs ds
  | _, _, .nil, _ => .nil
  | _, _, .cons a b, h => by
    unfold pfL at h
    rw [Bool.and_eq_true] at h
    exact .cons (RelD.pfF l a h.1) (RelL.pfF l b h.2)
theorem RelF.pfF (l : ∀ a o, g.F a = some o → g'.F a = some o) : ∀ {vs : List (Str × V)} {ds : List (String × D)}, RelF K ca g vs ds → MX.pfF ds = true → RelF K ca g' vs ds
  | _, _, .nil, _ => .nil
  | _, _, .cons a b, h => by
    unfold MX.pfF at h
    rw [Bool.and_eq_true] at h
    exact .cons (RelD.pfF l a h.1) (RelF.pfF l b h.2)
end
end
section
variable {fx : Fix} {g : Gh} {S : Store} {H : Hp}
/-- a live cell becomes data: the heap stands -/
theorem R.freeze (r : R fx g S H) {n : Nat} {c : Cell} {o : HO} {d : D} (hc : S[n]? = some c) (lc : live c = true) (ho : H (g.am n) = some o) (pd : d.pf = true)
    (hd : ∀ g' : Gh, g.le g' → g'.F (g.am n) = some o → RelD fx.K fx.ca g' (.ref (g.am n)) d) : ∃ g', g.le g' ∧ g'.am = g.am ∧ g'.n = g.n ∧ R fx g' (S.set n (.frz d)) H ∧ RelD fx.K fx.ca g' (.ref (g.am n)) d := by
  have q := r.cells n c hc
  have nF : g.F (g.am n) = none := by cases c <;> first | exact q.1 | cases lc
  have nB : fx.B (g.am n) = none := by cases c <;> first | exact q.2.1 | cases lc
  have hn : n < S.length := (List.getElem?_eq_some_iff.mp hc).1
  let g' : Gh := { g with F := upd g.F (g.am n) o }
  have le : g.le g' := ⟨fun a u e => by
    show upd g.F (g.am n) o a = some u
    rw [upd_ne (ne_of_none e nF)]
    exact e, fun _ _ => rfl, Nat.le_refl _⟩
  have rel := hd g' le (show upd g.F (g.am n) o (g.am n) = some o from upd_same)
  refine ⟨g', le, rfl, rfl, ⟨r.frame, fun a u e => ?_, fun a u e => ?_, fun a u e => le.F a u (r.f0 a u e), by rw [List.length_set]; exact r.n, fun m c' e => ?_, fun m k c1 d1 hm hk l1 l2 e => ?_⟩, rel⟩
  · have e : upd g.F (g.am n) o a = some u := e
    by_cases ha : a = g.am n
    · subst ha
      rw [upd_same] at e
      cases e
      exact ho
    · rw [upd_ne ha] at e
      exact r.frz a u e
  · have e : upd g.F (g.am n) o a = some u := e
    by_cases ha : a = g.am n
    · subst ha
      exact .inr nB
    · rw [upd_ne ha] at e
      exact r.fresh a u e
  · by_cases hm : n = m
    · subst hm
      rw [List.getElem?_set_self hn] at e
      cases e
      exact ⟨pd, rel⟩
    · rw [List.getElem?_set_ne hm] at e
      have z := r.cells m c' e
      have ne : live c' = true → g.am m ≠ g.am n := fun l z => hm (r.inj n m _ _ hc e lc l z.symm)
      cases c' with
      | lst xs =>
        obtain ⟨h1, h2, vs, h3, h4⟩ := z
        exact ⟨by show upd g.F (g.am n) o (g.am m) = none; rw [upd_ne (ne rfl)]; exact h1, h2, vs, h3, h4.mono le⟩
      | ins c fs =>
        obtain ⟨h1, h2, dx, vs, h3, h4⟩ := z
        exact ⟨by show upd g.F (g.am n) o (g.am m) = none; rw [upd_ne (ne rfl)]; exact h1, h2, dx, vs, h3, h4.mono le⟩
      | frz d => exact ⟨z.1, z.2.mono le⟩
  · have key : ∀ j c, (S.set n (.frz d))[j]? = some c → live c = true → S[j]? = some c := fun j c hj lj => by
      by_cases hm : n = j
      · subst hm
        rw [List.getElem?_set_self hn] at hj
        cases hj
        cases lj
      · rw [List.getElem?_set_ne hm] at hj
        exact hj
    exact r.inj m k c1 d1 (key m c1 hm l1) (key k d1 hk l2) l1 l2 e
end

/-- what freezing a value does -/
def FrzOk (f : Store → D → Option (D × Store)) : Prop := ∀ (fx : Fix) (g : Gh) (S : Store) (H : Hp) (v : V) (d d' : D) (S' : Store), f S d = some (d', S') → R fx g S H → RelD fx.K fx.ca g v d →
  ∃ g', g.le g' ∧ g'.n = g.n ∧ R fx g' S' H ∧ RelD fx.K fx.ca g' v d' ∧ d'.pf = true
theorem frzL_ok {f : Store → D → Option (D × Store)} (hf : FrzOk f) : ∀ {fx : Fix} {g : Gh} {S : Store} {H : Hp} {vs : List V} {ds : List D} {ds' : List D} {S' : Store}, frzL f S ds = some (ds', S') → R fx g S H → RelL fx.K fx.ca g vs ds →
    ∃ g', g.le g' ∧ g'.n = g.n ∧ R fx g' S' H ∧ RelL fx.K fx.ca g' vs ds' ∧ pfL ds' = true
  | fx, g, S, H, [], [], ds', S', e, r, .nil => by
    cases e
    exact ⟨g, Gh.le.refl g, rfl, r, .nil, by unfold pfL; rfl⟩
  | fx, g, S, H, v :: vs, d :: ds, ds', S', e, r, .cons a b => by
    unfold frzL at e
    cases q : f S d with
    | none => rw [q] at e; cases e
    | some p =>
      obtain ⟨e1, S1⟩ := p
      rw [q] at e
      have e : (match frzL f S1 ds with
        | some (q, S2) => some (e1 :: q, S2)
        | none => none) = some (ds', S') := e
      cases q2 : frzL f S1 ds with
      | none => rw [q2] at e; cases e
      | some p2 =>
        obtain ⟨e2, S2⟩ := p2
        rw [q2] at e
        cases e
        obtain ⟨g1, l1, n1, r1, a1, p1⟩ := hf fx g S H _ d e1 S1 q r a
        obtain ⟨g2, l2, n2, r2, b2, p2⟩ := frzL_ok hf q2 r1 (b.mono l1)
        exact ⟨g2, l1.trans l2, n2.trans n1, r2, .cons (a1.mono l2) b2, by unfold pfL; rw [p1, p2]; rfl⟩
theorem frzF_ok {f : Store → D → Option (D × Store)} (hf : FrzOk f) : ∀ {fx : Fix} {g : Gh} {S : Store} {H : Hp} {vs : List (Str × V)} {ds ds' : List (String × D)} {S' : Store}, frzF f S ds = some (ds', S') → R fx g S H → RelF fx.K fx.ca g vs ds →
    ∃ g', g.le g' ∧ g'.n = g.n ∧ R fx g' S' H ∧ RelF fx.K fx.ca g' vs ds' ∧ pfF ds' = true
  | fx, g, S, H, [], [], ds', S', e, r, .nil => by
    cases e
    exact ⟨g, Gh.le.refl g, rfl, r, .nil, by unfold pfF; rfl⟩
  | fx, g, S, H, _ :: vs, (x, d) :: ds, ds', S', e, r, .cons a b => by
    unfold frzF at e
    cases q : f S d with
    | none => rw [q] at e; cases e
    | some p =>
      obtain ⟨e1, S1⟩ := p
      rw [q] at e
      have e : (match frzF f S1 ds with
        | some (q, S2) => some ((x, e1) :: q, S2)
        | none => none) = some (ds', S') := e
      cases q2 : frzF f S1 ds with
      | none => rw [q2] at e; cases e
      | some p2 =>
        obtain ⟨e2, S2⟩ := p2
        rw [q2] at e
        cases e
        obtain ⟨g1, l1, n1, r1, a1, p1⟩ := hf fx g S H _ d e1 S1 q r a
        obtain ⟨g2, l2, n2, r2, b2, p2⟩ := frzF_ok hf q2 r1 (b.mono l1)
        exact ⟨g2, l1.trans l2, n2.trans n1, r2, .cons (a1.mono l2) b2, by unfold pfF; rw [p1, p2]; rfl⟩
theorem frzD_ok : ∀ k : Nat, FrzOk (frzD k)
  | 0 => fun fx g S H v d d' S' e r rd => by
    unfold frzD at e
    split at e
    · rename_i h
      cases e
      exact ⟨g, Gh.le.refl g, rfl, r, rd, h⟩
    · cases e
  | k + 1 => fun fx g S H v d d' S' e r rd => by
    unfold frzD at e
    split at e
    · rename_i h
      cases e
      exact ⟨g, Gh.le.refl g, rfl, r, rd, h⟩
    · rename_i hpf
      cases d with
      | ptr n =>
        obtain ⟨rfl, hn⟩ := rd.iPtr
        have e : (match S[n]? with
          | some (.frz e) => some (e, S)
          | some (.lst xs) => match frzL (frzD k) S xs with
            | some (ys, S1) => match S1[n]? with
              | some (.lst _) => some (.lst ys, S1.set n (.frz (.lst ys)))
              | _ => none
            | none => none
          | some (.ins c fs) => match frzF (frzD k) S fs with
            | some (gs, S1) => match S1[n]? with
              | some (.ins _ _) => some (.ins c gs, S1.set n (.frz (.ins c gs)))
              | _ => none
            | none => none
          | none => none) = some (d', S') := e
        cases hc : S[n]? with
        | none => rw [hc] at e; cases e
        | some c =>
          rw [hc] at e
          have q := r.cells n c hc
          cases c with
          | frz y =>
            cases e
            exact ⟨g, Gh.le.refl g, rfl, r, q.2, q.1⟩
          | lst xs =>
            obtain ⟨_, _, vs, h3, h4⟩ := q
            have e : (match frzL (frzD k) S xs with
              | some (ys, S1) => match S1[n]? with
                | some (.lst _) => some (.lst ys, S1.set n (.frz (.lst ys)))
                | _ => none
              | none => none) = some (d', S') := e
            cases q2 : frzL (frzD k) S xs with
            | none => rw [q2] at e; cases e
            | some p =>
              obtain ⟨ys, S1⟩ := p
              rw [q2] at e
              obtain ⟨g1, l1, n1, r1, a1, p1⟩ := frzL_ok (frzD_ok k) q2 r h4
              have e : (match S1[n]? with
                | some (.lst _) => some (.lst ys, S1.set n (.frz (.lst ys)))
                | _ => none) = some (d', S') := e
              cases hc1 : S1[n]? with
              | none => rw [hc1] at e; cases e
              | some c1 =>
                rw [hc1] at e
                cases c1 with
                | lst zs =>
                  cases e
                  have am1 : g1.am n = g.am n := l1.am n hn
                  obtain ⟨g2, l2, _, n2, r2, d2⟩ := r1.freeze (o := .lst vs) (d := .lst ys) hc1 rfl (by rw [am1]; exact h3) (by unfold D.pf; exact p1) fun g' l e => .lst e (a1.mono l)
                  rw [am1] at d2
                  exact ⟨g2, l1.trans l2, n2.trans n1, r2, d2, by unfold D.pf; exact p1⟩
                | ins c fs => cases e
                | frz z => cases e
          | ins cc fs =>
            obtain ⟨_, _, dx, vs, h3, h4⟩ := q
            have e : (match frzF (frzD k) S fs with
              | some (ys, S1) => match S1[n]? with
                | some (.ins _ _) => some (.ins cc ys, S1.set n (.frz (.ins cc ys)))
                | _ => none
              | none => none) = some (d', S') := e
            cases q2 : frzF (frzD k) S fs with
            | none => rw [q2] at e; cases e
            | some p =>
              obtain ⟨ys, S1⟩ := p
              rw [q2] at e
              obtain ⟨g1, l1, n1, r1, a1, p1⟩ := frzF_ok (frzD_ok k) q2 r h4
              have e : (match S1[n]? with
                | some (.ins _ _) => some (.ins cc ys, S1.set n (.frz (.ins cc ys)))
                | _ => none) = some (d', S') := e
              cases hc1 : S1[n]? with
              | none => rw [hc1] at e; cases e
              | some c1 =>
                rw [hc1] at e
                cases c1 with
                | ins c2 zs =>
                  cases e
                  have am1 : g1.am n = g.am n := l1.am n hn
                  obtain ⟨g2, l2, _, n2, r2, d2⟩ := r1.freeze (o := .ins (fx.ca cc) dx vs) (d := .ins cc ys) hc1 rfl (by rw [am1]; exact h3) (by unfold D.pf; exact p1) fun g' l e => .ins e (a1.mono l)
                  rw [am1] at d2
                  exact ⟨g2, l1.trans l2, n2.trans n1, r2, d2, by unfold D.pf; exact p1⟩
                | lst c => cases e
                | frz z => cases e
      | lst xs =>
        obtain ⟨a, vs, rfl, h1, h2⟩ := rd.iLst
        have e : (match frzL (frzD k) S xs with
          | some (ys, S1) => some (D.lst ys, S1)
          | none => none) = some (d', S') := e
        cases q2 : frzL (frzD k) S xs with
        | none => rw [q2] at e; cases e
        | some p =>
          obtain ⟨ys, S1⟩ := p
          rw [q2] at e
          cases e
          obtain ⟨g1, l1, n1, r1, a1, p1⟩ := frzL_ok (frzD_ok k) q2 r h2
          exact ⟨g1, l1, n1, r1, .lst (l1.F _ _ h1) a1, by unfold D.pf; exact p1⟩
      | tup xs =>
        obtain ⟨a, vs, rfl, h1, h2⟩ := rd.iTup
        have e : (match frzL (frzD k) S xs with
          | some (ys, S1) => some (D.tup ys, S1)
          | none => none) = some (d', S') := e
        cases q2 : frzL (frzD k) S xs with
        | none => rw [q2] at e; cases e
        | some p =>
          obtain ⟨ys, S1⟩ := p
          rw [q2] at e
          cases e
          obtain ⟨g1, l1, n1, r1, a1, p1⟩ := frzL_ok (frzD_ok k) q2 r h2
          exact ⟨g1, l1, n1, r1, .tup (l1.F _ _ h1) a1, by unfold D.pf; exact p1⟩
      | ins c xs =>
        obtain ⟨a, dx, vs, rfl, h1, h2⟩ := rd.iIns
        have e : (match frzF (frzD k) S xs with
          | some (ys, S1) => some (D.ins c ys, S1)
          | none => none) = some (d', S') := e
        cases q2 : frzF (frzD k) S xs with
        | none => rw [q2] at e; cases e
        | some p =>
          obtain ⟨ys, S1⟩ := p
          rw [q2] at e
          cases e
          obtain ⟨g1, l1, n1, r1, a1, p1⟩ := frzF_ok (frzD_ok k) q2 r h2
          exact ⟨g1, l1, n1, r1, .ins (l1.F _ _ h1) a1, by unfold D.pf; exact p1⟩
      | _ => cases e

/-- a def's promise by its run -/
def spI (P : Prog) (n : Nat) (K : PySem.W.Frag) (ca : String → Addr) (f : String) : Sp := fun vs H Q E =>
  (∃ F, P.fn f = some F ∧ vs.length = F.np) ∧ ∃ (fx : Fix) (g : Gh) (ds : List D) (S : Store), fx.K = K ∧ fx.ca = ca ∧ R fx g S H ∧ RelL K ca g vs ds ∧ ePost fx (fun c d _ H => E c d H) g [] (tOf fx Q) (run P n f ds S)

/-- a call with the store -/
theorem call_st {P : Prog} {n : Nat} {fx : Fix} {W : WX} {g : Gh} {σ : L2.St} {f : String} {ds : List D} {vs : List V} {S : Store} {H : Hp} {Q : VK} (hf : ∃ F, P.fn f = some F ∧ vs.length = F.np) (h : ePost fx W g σ (tOf fx Q) (run P n f ds S)) (r : R fx g S H) (rv : RelL fx.K fx.ca g vs ds) :
    spI P n fx.K fx.ca f vs H Q (fun c d H => W c d σ H) := by
  refine ⟨hf, fx, g, ds, S, rfl, rfl, r, rv, ?_⟩
  cases e : run P n f ds S with
  | ok d S' => rw [e] at h; exact h
  | ex x S' => rw [e] at h; exact h
  | bad => rw [e] at h; exact h
/-- a call that sees data only -/
def StOk (K : PySem.W.Frag) (ca : String → Addr) (k : List D → Store → Res D) (vs : List V) (Sp : L2.Sp) : Prop := ∀ (fx : Fix) (W : WX) (g : Gh) (S : Store) (H : Hp) (ds : List D) (σ : L2.St) (Q : VK), fx.K = K → fx.ca = ca → R fx g S H → RelL fx.K fx.ca g vs ds →
  ePost fx W g σ (tOf fx Q) (k ds S) → Sp vs H Q (fun c d H => W c d σ H)
theorem pure_of {fx : Fix} {W : WX} {g : Gh} {σ : L2.St} {k : List D → Store → Res D} {ds : List D} {vs : List V} {S : Store} {H : Hp} {Q : VK} {Sp : L2.Sp} (hk : StOk fx.K fx.ca k vs Sp) (h : ePost fx W g σ (tOf fx Q) (pureK k ds S)) (r : R fx g S H) (rv : RelL fx.K fx.ca g vs ds) :
    Sp vs H Q (fun c d H => W c d σ H) := by
  unfold pureK at h
  cases q : frzL (frzD frzK) S ds with
  | none => rw [q] at h; exact h.elim
  | some p =>
    obtain ⟨es, S1⟩ := p
    rw [q] at h
    obtain ⟨g1, l1, _, r1, a1, p1⟩ := frzL_ok (frzD_ok frzK) q r rv
    let fx' : Fix := { fx with B := H, F0 := g1.F }
    let g0 : Gh := { F := g1.F, am := g1.am, n := 0 }
    have r0 : R fx' g0 [] H := ⟨fun _ _ e => e, r1.frz, fun _ _ e => .inl e, fun _ _ e => e, rfl, fun _ _ e => by simp at e, fun _ _ _ _ e => by simp at e⟩
    -- back to the caller
    have back : ∀ (g3 : Gh) (S3 : Store) (H2 : Hp), R fx' g3 S3 H2 → ∃ g' : Gh, g1.le g' ∧ g'.F = g3.F ∧ R fx g' S1 H2 := fun g3 S3 H2 r3 => by
      have same : Same H H2 := r3.frame
      let g' : Gh := { F := g3.F, am := g1.am, n := g1.n }
      have le : g1.le g' := ⟨fun a o e => r3.f0 a o e, fun _ _ => rfl, Nat.le_refl _⟩
      have nf : ∀ a u, g1.F a = none → H a = some u → g3.F a = none := fun a u h1 h2 => by
        cases z : g3.F a with
        | none => rfl
        | some o =>
          rcases r3.fresh a o z with y | y
          · rw [show g1.F a = some o from y] at h1
            cases h1
          · rw [show H a = none from y] at h2
            cases h2
      refine ⟨g', le, rfl, ⟨fun a o e => same _ _ (r1.frame a o e), r3.frz, fun a o e => ?_, fun a o e => le.F _ _ (r1.f0 a o e), r1.n, fun m c e => ?_, r1.inj⟩⟩
      · rcases r3.fresh a o e with y | y
        · exact r1.fresh a o y
        · refine .inr ?_
          cases z : fx.B a with
          | none => rfl
          | some u =>
            have k := r1.frame a u z
            rw [show H a = none from y] at k
            cases k
      · have w := r1.cells m c e
        cases c with
        | lst xs =>
          obtain ⟨h1, h2, us, h3, h4⟩ := w
          exact ⟨nf _ _ h1 h3, h2, us, same _ _ h3, h4.mono le⟩
        | ins c fs =>
          obtain ⟨h1, h2, dx, us, h3, h4⟩ := w
          exact ⟨nf _ _ h1 h3, h2, dx, us, same _ _ h3, h4.mono le⟩
        | frz d => exact ⟨w.1, w.2.mono le⟩
    refine hk fx' (fun c d _ H => W c d σ H) g0 [] H es [] Q rfl rfl r0 (RelL.pfF (g := g1) (g' := g0) (fun _ _ e => e) a1 p1) ?_
    have h : ePost fx W g σ (tOf fx Q) (match k es [] with
      | .ok d S2 => match frzD frzK S2 d with
        | some (d', _) => .ok d' S1
        | none => .bad
      | .ex x _ => if pfF x.fs then .ex x S1 else .bad
      | .bad => .bad) := h
    cases e : k es [] with
    | bad => rw [e] at h; exact h
    | ok d S2 =>
      rw [e] at h
      have h : ePost fx W g σ (tOf fx Q) (match frzD frzK S2 d with
        | some (d', _) => .ok d' S1
        | none => .bad) := h
      intro g2 H2 l2 r2 v rv2
      cases q2 : frzD frzK S2 d with
      | none => rw [q2] at h; exact h.elim
      | some p2 =>
        obtain ⟨d', S3⟩ := p2
        rw [q2] at h
        obtain ⟨g3, l3, _, r3, d3, p3⟩ := frzD_ok frzK fx' g2 S2 H2 v d d' S3 q2 r2 rv2
        obtain ⟨g', le, eF, r'⟩ := back g3 S3 H2 r3
        exact h g' H2 (l1.trans le) r' v (RelD.pfF (fun a o z => by rw [eF]; exact z) d3 p3)
    | ex x S2 =>
      rw [e] at h
      have h : ePost fx W g σ (tOf fx Q) (if pfF x.fs then .ex x S1 else .bad) := h
      by_cases hp : pfF x.fs = true
      · rw [if_pos hp] at h
        intro cls dx g2 H2 l2 r2 rx
        obtain ⟨g', le, eF, r'⟩ := back g2 S2 H2 r2
        refine h cls dx g' H2 (l1.trans le) r' ⟨rx.1, ?_⟩
        rcases rx.2 with e | ⟨d, us, h1, h2, h3⟩
        · exact .inl e
        · exact .inr ⟨d, us, h1, by rw [eF]; exact h2, RelF.pfF (fun a o q => by rw [eF]; exact q) h3 hp⟩
      · rw [if_neg hp] at h
        exact h.elim
theorem RelD.flat {K : PySem.W.Frag} {ca : String → Addr} {g g' : Gh} {v : V} {d : D} (r : RelD K ca g v d) (h : flatD d = true) : RelD K ca g' v d := by
  cases r with
  | non => exact .non
  | bl b => exact .bl b
  | int i => exact .int i
  | str s => exact .str s
  | lst _ _ => cases h
  | tup _ _ => cases h
  | ins _ _ => cases h
  | ptr _ => cases h
  | scr _ => cases h
theorem RelF.flat {K : PySem.W.Frag} {ca : String → Addr} {g g' : Gh} : ∀ {vs : List (Str × V)} {fs : List (String × D)}, RelF K ca g vs fs → fs.all (fun p => flatD p.2) = true → RelF K ca g' vs fs
  | _, _, .nil, _ => .nil
  | _, _, .cons a b, h => by
    rw [List.all_cons, Bool.and_eq_true] at h
    exact .cons (a.flat h.1) (b.flat h.2)
/-- reading, held by the heap: live lists and instances as they stand -/
def ovlF (g : Gh) (H : Hp) : Hp := fun a => match g.F a with
  | some o => some o
  | none => match H a with
    | some (.lst vs) => some (.lst vs)
    | some (.ins C dx vs) => some (.ins C dx vs)
    | _ => none
def ovl (g : Gh) (H : Hp) : Gh := { F := ovlF g H, am := g.am, n := g.n }
theorem ovl_old {g : Gh} {H : Hp} {a : Addr} {o : HO} (e : g.F a = some o) : (ovl g H).F a = some o := by
  show (match g.F a with
    | some o => some o
    | none => match H a with
      | some (.lst vs) => some (HO.lst vs)
      | some (.ins C dx vs) => some (.ins C dx vs)
      | _ => none) = some o
  rw [e]
theorem ovl_lst {g : Gh} {H : Hp} {a : Addr} {vs : List V} (e : g.F a = none) (h : H a = some (.lst vs)) : (ovl g H).F a = some (.lst vs) := by
  show (match g.F a with
    | some o => some o
    | none => match H a with
      | some (.lst vs) => some (HO.lst vs)
      | some (.ins C dx vs) => some (.ins C dx vs)
      | _ => none) = some _
  rw [e, h]
theorem ovl_ins {g : Gh} {H : Hp} {a C dx : Addr} {vs : List (Str × V)} (e : g.F a = none) (h : H a = some (.ins C dx vs)) : (ovl g H).F a = some (.ins C dx vs) := by
  show (match g.F a with
    | some o => some o
    | none => match H a with
      | some (.lst vs) => some (HO.lst vs)
      | some (.ins C dx vs) => some (.ins C dx vs)
      | _ => none) = some _
  rw [e, h]
theorem ovl_in {g : Gh} {H : Hp} (hF : ∀ a o, g.F a = some o → H a = some o) {a : Addr} {o : HO} (e : (ovl g H).F a = some o) : H a = some o ∧ ((∃ us, o = .xd us) → g.F a = some o) := by
  have e : (match g.F a with
    | some o => some o
    | none => match H a with
      | some (.lst vs) => some (HO.lst vs)
      | some (.ins C dx vs) => some (.ins C dx vs)
      | _ => none) = some o := e
  cases q : g.F a with
  | some u =>
    rw [q] at e
    cases e
    exact ⟨hF a _ q, fun _ => rfl⟩
  | none =>
    rw [q] at e
    have e : (match H a with
      | some (.lst vs) => some (HO.lst vs)
      | some (.ins C dx vs) => some (.ins C dx vs)
      | _ => none) = some o := e
    split at e
    · rename_i vs h
      cases e
      exact ⟨h, fun ⟨_, z⟩ => by cases z⟩
    · rename_i C dx vs h
      cases e
      exact ⟨h, fun ⟨_, z⟩ => by cases z⟩
    · cases e
def RdOk (f : Store → D → Option D) : Prop := ∀ (fx : Fix) (g : Gh) (S : Store) (H : Hp) (v : V) (d d' : D), f S d = some d' → R fx g S H → RelD fx.K fx.ca g v d → RelD fx.K fx.ca (ovl g H) v d' ∧ d'.pf = true
theorem rdL_ok {f : Store → D → Option D} (hf : RdOk f) {fx : Fix} {g : Gh} {S : Store} {H : Hp} (r : R fx g S H) : ∀ {vs : List V} {ds es : List D}, rdL (f S) ds = some es → RelL fx.K fx.ca g vs ds → RelL fx.K fx.ca (ovl g H) vs es ∧ pfL es = true
  | _, [], es, e, .nil => by cases e; exact ⟨.nil, rfl⟩
  | _, d :: ds, es, e, .cons a b => by
    unfold rdL at e
    cases q : f S d with
    | none => rw [q] at e; cases e
    | some d' =>
      rw [q] at e
      have e : (match rdL (f S) ds with
        | some q => some (d' :: q)
        | none => none) = some es := e
      cases q2 : rdL (f S) ds with
      | none => rw [q2] at e; cases e
      | some es' =>
        rw [q2] at e
        cases e
        obtain ⟨h1, h2⟩ := hf fx g S H _ d d' q r a
        obtain ⟨h3, h4⟩ := rdL_ok hf r q2 b
        exact ⟨.cons h1 h3, by unfold pfL; rw [h2, h4]; rfl⟩
theorem rdF_ok {f : Store → D → Option D} (hf : RdOk f) {fx : Fix} {g : Gh} {S : Store} {H : Hp} (r : R fx g S H) : ∀ {vs : List (Str × V)} {ds es : List (String × D)}, rdF (f S) ds = some es → RelF fx.K fx.ca g vs ds → RelF fx.K fx.ca (ovl g H) vs es ∧ pfF es = true
  | _, [], es, e, .nil => by cases e; exact ⟨.nil, rfl⟩
  | _, (x, d) :: ds, es, e, .cons a b => by
    unfold rdF at e
    cases q : f S d with
    | none => rw [q] at e; cases e
    | some d' =>
      rw [q] at e
      have e : (match rdF (f S) ds with
        | some q => some ((x, d') :: q)
        | none => none) = some es := e
      cases q2 : rdF (f S) ds with
      | none => rw [q2] at e; cases e
      | some es' =>
        rw [q2] at e
        cases e
        obtain ⟨h1, h2⟩ := hf fx g S H _ d d' q r a
        obtain ⟨h3, h4⟩ := rdF_ok hf r q2 b
        exact ⟨.cons h1 h3, by unfold pfF; rw [h2, h4]; rfl⟩
theorem RelD.ovl {K : PySem.W.Frag} {ca : String → Addr} {g : Gh} {H : Hp} {v : V} {d : D} (r : RelD K ca g v d) : RelD K ca (MX.ovl g H) v d := r.mono ⟨fun _ _ e => ovl_old e, fun _ _ => rfl, Nat.le_refl _⟩
theorem rdD_ok : ∀ k : Nat, RdOk (rdD k)
  | 0, fx, g, S, H, v, d, d', e, r, rd => by
    unfold rdD at e
    by_cases h : d.pf = true
    · rw [if_pos h] at e
      cases e
      exact ⟨rd.ovl, h⟩
    · rw [if_neg h] at e
      cases e
  | k + 1, fx, g, S, H, v, d, d', e, r, rd => by
    unfold rdD at e
    by_cases h : d.pf = true
    · rw [if_pos h] at e
      cases e
      exact ⟨rd.ovl, h⟩
    · rw [if_neg h] at e
      cases d with
      | ptr n =>
        obtain ⟨rfl, hn⟩ := rd.iPtr
        have e : (match S[n]? with
          | some (.frz e) => some e
          | some (.lst xs) => match rdL (rdD k S) xs with
            | some ys => some (D.lst ys)
            | none => none
          | some (.ins c fs) => match rdF (rdD k S) fs with
            | some gs => some (.ins c gs)
            | none => none
          | none => none) = some d' := e
        cases hc : S[n]? with
        | none => rw [hc] at e; cases e
        | some c =>
          have w := r.cells n c hc
          rw [hc] at e
          cases c with
          | frz z =>
            cases e
            exact ⟨w.2.ovl, w.1⟩
          | lst xs =>
            obtain ⟨h1, h2, vs, h3, h4⟩ := w
            have e : (match rdL (rdD k S) xs with
              | some ys => some (D.lst ys)
              | none => none) = some d' := e
            cases q : rdL (rdD k S) xs with
            | none => rw [q] at e; cases e
            | some ys =>
              rw [q] at e
              cases e
              obtain ⟨k1, k2⟩ := rdL_ok (rdD_ok k) r q h4
              exact ⟨.lst (ovl_lst h1 h3) k1, by unfold D.pf; exact k2⟩
          | ins c fs =>
            obtain ⟨h1, h2, dx, vs, h3, h4⟩ := w
            have e : (match rdF (rdD k S) fs with
              | some gs => some (D.ins c gs)
              | none => none) = some d' := e
            cases q : rdF (rdD k S) fs with
            | none => rw [q] at e; cases e
            | some ys =>
              rw [q] at e
              cases e
              obtain ⟨k1, k2⟩ := rdF_ok (rdD_ok k) r q h4
              exact ⟨.ins (ovl_ins h1 h3) k1, by unfold D.pf; exact k2⟩
      | lst xs =>
        obtain ⟨a, vs, rfl, h1, h2⟩ := rd.iLst
        have e : (match rdL (rdD k S) xs with
          | some ys => some (D.lst ys)
          | none => none) = some d' := e
        cases q : rdL (rdD k S) xs with
        | none => rw [q] at e; cases e
        | some ys =>
          rw [q] at e
          cases e
          obtain ⟨k1, k2⟩ := rdL_ok (rdD_ok k) r q h2
          exact ⟨.lst (ovl_old h1) k1, by unfold D.pf; exact k2⟩
      | tup xs =>
        obtain ⟨a, vs, rfl, h1, h2⟩ := rd.iTup
        have e : (match rdL (rdD k S) xs with
          | some ys => some (D.tup ys)
          | none => none) = some d' := e
        cases q : rdL (rdD k S) xs with
        | none => rw [q] at e; cases e
        | some ys =>
          rw [q] at e
          cases e
          obtain ⟨k1, k2⟩ := rdL_ok (rdD_ok k) r q h2
          exact ⟨.tup (ovl_old h1) k1, by unfold D.pf; exact k2⟩
      | ins c xs =>
        obtain ⟨a, dx, vs, rfl, h1, h2⟩ := rd.iIns
        have e : (match rdF (rdD k S) xs with
          | some ys => some (D.ins c ys)
          | none => none) = some d' := e
        cases q : rdF (rdD k S) xs with
        | none => rw [q] at e; cases e
        | some ys =>
          rw [q] at e
          cases e
          obtain ⟨k1, k2⟩ := rdF_ok (rdD_ok k) r q h2
          exact ⟨.ins (ovl_old h1) k1, by unfold D.pf; exact k2⟩
      | _ => cases e
/-- a call that sees data as it stands, and hands back a flat value -/
theorem flat_of {fx : Fix} {W : WX} {g : Gh} {σ : L2.St} {k : List D → Store → Res D} {ds : List D} {vs : List V} {S : Store} {H : Hp} {Q : VK} {Sp : L2.Sp} (hk : StOk fx.K fx.ca k vs Sp) (h : ePost fx W g σ (tOf fx Q) (flatK k ds S)) (r : R fx g S H) (rv : RelL fx.K fx.ca g vs ds) :
    Sp vs H Q (fun c d H => W c d σ H) := by
  unfold flatK at h
  cases q : rdL (rdD frzK S) ds with
  | none => rw [q] at h; exact h.elim
  | some es =>
    rw [q] at h
    obtain ⟨a1, p1⟩ := rdL_ok (rdD_ok frzK) r q rv
    let fx' : Fix := { fx with B := H, F0 := (ovl g H).F }
    let g0 : Gh := { F := (ovl g H).F, am := g.am, n := 0 }
    have r0 : R fx' g0 [] H := ⟨fun _ _ e => e, fun a o e => (ovl_in r.frz e).1, fun _ _ e => .inl e, fun _ _ e => e, rfl, fun _ _ e => by simp at e, fun _ _ _ _ e => by simp at e⟩
    refine hk fx' (fun c d _ H => W c d σ H) g0 [] H es [] Q rfl rfl r0 (RelL.pfF (g := ovl g H) (g' := g0) (fun _ _ e => e) a1 p1) ?_
    have h : ePost fx W g σ (tOf fx Q) (match k es [] with
      | .ok d _ => if flatD d then .ok d S else .bad
      | .ex x _ => if x.fs.all (fun p => flatD p.2) then .ex x S else .bad
      | .bad => .bad) := h
    cases e : k es [] with
    | bad => rw [e] at h; exact h
    | ok d S2 =>
      rw [e] at h
      have h : ePost fx W g σ (tOf fx Q) (if flatD d then .ok d S else .bad) := h
      intro g2 H2 l2 r2 v rv2
      by_cases hd : flatD d = true
      · rw [if_pos hd] at h
        exact h g H2 (Gh.le.refl g) (r.same r2.frame) v (rv2.flat hd)
      · rw [if_neg hd] at h
        exact h.elim
    | ex x S2 =>
      rw [e] at h
      have h : ePost fx W g σ (tOf fx Q) (if x.fs.all (fun p => flatD p.2) then .ex x S else .bad) := h
      by_cases hp : x.fs.all (fun p => flatD p.2) = true
      · rw [if_pos hp] at h
        intro cls dx g3 H2 l2 r3 rx
        have same : Same H H2 := r3.frame
        let gx : Gh := { F := fun a => match g.F a with
          | some o => some o
          | none => match g3.F a with
            | some (.xd us) => some (.xd us)
            | _ => none, am := g.am, n := g.n }
        have old : ∀ a o, g.F a = some o → gx.F a = some o := fun a o e => by
          show (match g.F a with
            | some o => some o
            | none => match g3.F a with
              | some (.xd us) => some (.xd us)
              | _ => none) = some o
          rw [e]
        have new : ∀ a o, g.F a = none → gx.F a = some o → g3.F a = some o ∧ ∃ us, o = .xd us := fun a o e1 e2 => by
          have e2 : (match g.F a with
            | some o => some o
            | none => match g3.F a with
              | some (.xd us) => some (.xd us)
              | _ => none) = some o := e2
          rw [e1] at e2
          have e2 : (match g3.F a with
              | some (.xd us) => some (HO.xd us)
              | _ => none) = some o := e2
          split at e2
          · rename_i us e3
            cases e2
            exact ⟨e3, us, rfl⟩
          · cases e2
        have cases_ : ∀ a o, gx.F a = some o → g.F a = some o ∨ (g.F a = none ∧ g3.F a = some o ∧ ∃ us, o = .xd us) := fun a o e => by
          cases z : g.F a with
          | some u => rw [old a u z] at e; cases e; exact .inl rfl
          | none => exact .inr ⟨rfl, new a o z e⟩
        have le : g.le gx := ⟨old, fun _ _ => rfl, Nat.le_refl _⟩
        have rs := r.same same
        have nox : ∀ a o, H a = some o → (∀ us, o ≠ .xd us) → g.F a = none → gx.F a = none := fun a o e1 e2 e3 => by
          cases z : gx.F a with
          | none => rfl
          | some u =>
            obtain ⟨w1, us, w2⟩ := new a u e3 z
            have z1 := r3.frz a u w1
            rw [same a o e1] at z1
            cases z1
            exact absurd w2 (e2 us)
        have R' : R fx gx S H2 := by
          refine ⟨rs.frame, fun a o e => ?_, fun a o e => ?_, fun a o e => old a o (rs.f0 a o e), rs.n, fun m c e => ?_, rs.inj⟩
          · rcases cases_ a o e with z | ⟨_, z, _⟩
            · exact rs.frz a o z
            · exact r3.frz a o z
          · rcases cases_ a o e with z | ⟨_, z, hxd⟩
            · exact rs.fresh a o z
            · rcases r3.fresh a o z with y | y
              · exact r.fresh a o ((ovl_in r.frz y).2 hxd)
              · refine .inr ?_
                cases w : fx.B a with
                | none => rfl
                | some u =>
                  have k := r.frame a u w
                  rw [show H a = none from y] at k
                  cases k
          · have w := r.cells m c e
            cases c with
            | lst xs =>
              obtain ⟨h1, h2, us, h3, h4⟩ := w
              exact ⟨nox _ _ h3 (fun _ z => by cases z) h1, h2, us, same _ _ h3, h4.mono le⟩
            | ins c fs =>
              obtain ⟨h1, h2, dx, us, h3, h4⟩ := w
              exact ⟨nox _ _ h3 (fun _ z => by cases z) h1, h2, dx, us, same _ _ h3, h4.mono le⟩
            | frz d => exact ⟨w.1, w.2.mono le⟩
        refine h cls dx gx H2 le R' ⟨rx.1, ?_⟩
        rcases rx.2 with e | ⟨d, us, h1, h2, h3⟩
        · exact .inl e
        · refine .inr ⟨d, us, h1, ?_, h3.flat hp⟩
          cases z : g.F d with
          | some o =>
            have z1 := rs.frz d o z
            have z2 : H2 d = some (.xd us) := r3.frz d _ h2
            rw [z2] at z1
            cases z1
            exact old d _ z
          | none =>
            show (match g.F d with
              | some o => some o
              | none => match g3.F d with
                | some (.xd us) => some (.xd us)
                | _ => none) = _
            rw [z, show g3.F d = some (.xd us) from h2]
      · rw [if_neg hp] at h
        exact h.elim
theorem st_run {P : Prog} {n : Nat} {K : PySem.W.Frag} {ca : String → Addr} {f : String} {vs : List V} (hf : ∃ F, P.fn f = some F ∧ vs.length = F.np) : StOk K ca (run P n f) vs (spI P n K ca f) := fun fx W g S H ds σ Q k1 k2 r rv h => by
  subst k1 k2
  exact call_st hf h r rv
theorem call_pure {P : Prog} {n : Nat} {fx : Fix} {W : WX} {g : Gh} {σ : L2.St} {f : String} {ds : List D} {vs : List V} {S : Store} {H : Hp} {Q : VK} (hf : ∃ F, P.fn f = some F ∧ vs.length = F.np) (h : ePost fx W g σ (tOf fx Q) (callP (run P n) f ds S)) (r : R fx g S H) (rv : RelL fx.K fx.ca g vs ds) :
    spI P n fx.K fx.ca f vs H Q (fun c d H => W c d σ H) := pure_of (st_run hf) h r rv
theorem call_m {P : Prog} {n : Nat} {fx : Fix} {W : WX} {g : Gh} {σ : L2.St} {m : Mode} {f : String} {ds : List D} {vs : List V} {S : Store} {H : Hp} {Q : VK} (hf : ∃ F, P.fn f = some F ∧ vs.length = F.np) (h : ePost fx W g σ (tOf fx Q) (callM (run P n) m f ds S)) (r : R fx g S H) (rv : RelL fx.K fx.ca g vs ds) :
    spI P n fx.K fx.ca f vs H Q (fun c d H => W c d σ H) := by
  cases m with
  | pure => exact call_pure hf h r rv
  | st => exact call_st hf h r rv
  | flat => exact flat_of (st_run hf) h r rv
/-- what making an instance promises -/
def spMk (sp : L2.Sp) (C : Addr) : L2.Sp := fun vs H Q E => ∀ x dx : Addr, H x = none → H dx = none → dx ≠ x → sp (.ref x :: vs) (upd (upd H dx (.own x)) x (.ins C dx [])) (fun v H2 => v = .non ∧ Q (.ref x) H2) E
theorem st_mk {P : Prog} {n : Nat} {K : PySem.W.Frag} {ca : String → Addr} {c f : String} {vs : List V} (hf : ∃ F, P.fn f = some F ∧ vs.length + 1 = F.np) : StOk K ca (mkK (run P n f) c) vs (spMk (spI P n K ca f) (ca c)) := fun fx W g S H ds σ Q k1 k2 r rv h x dx hx hd ne => by
  subst k1 k2
  obtain ⟨g', l, am, gn, r'⟩ := r.newIns c hx hd ne
  unfold mkK at h
  have rp : RelD fx.K fx.ca g' (.ref x) (.ptr S.length) := by
    rw [← am]
    exact .ptr (by rw [gn]; exact Nat.lt_succ_self _)
  refine call_st (W := W) (σ := σ) (S := S ++ [.ins c []]) (ds := .ptr S.length :: ds) (by rw [List.length_cons]; exact hf) ?_ r' (.cons rp (rv.mono l))
  cases e : run P n f (.ptr S.length :: ds) (S ++ [.ins c []]) with
  | bad => rw [e] at h; exact h
  | ex y S1 => rw [e] at h; exact ePost.up (r := Res.ex y S1) h l
  | ok d S1 =>
    rw [e] at h
    cases d with
    | non =>
      intro g2 H2 l2 r2 v rv2
      refine ⟨rv2.iNon, ?_⟩
      exact h g2 H2 (l.trans l2) r2 (.ref x) (rp.mono l2)
    | _ => exact h.elim
theorem mk_m {P : Prog} {n : Nat} {fx : Fix} {W : WX} {g : Gh} {σ : L2.St} {m : Mode} {c f : String} {ds : List D} {vs : List V} {S : Store} {H : Hp} {Q : VK} (hf : ∃ F, P.fn f = some F ∧ vs.length + 1 = F.np) (h : ePost fx W g σ (tOf fx Q) (mkM (run P n) m c f ds S)) (r : R fx g S H) (rv : RelL fx.K fx.ca g vs ds) :
    spMk (spI P n fx.K fx.ca f) (fx.ca c) vs H Q (fun c d H => W c d σ H) := by
  cases m with
  | pure => exact pure_of (st_mk hf) h r rv
  | st => exact st_mk hf fx W g S H ds σ Q rfl rfl r rv h
  | flat => exact h.elim
end MX
end

section
set_option maxRecDepth 100000
set_option maxHeartbeats 1000000
namespace MX
open PySem PySem.Spec PyProof.Rows L2

section
variable {X : Cx} {fx : Fix} {W : WX} {f h k : DSt → Store → Res D} {a b c : Expr} {pos : Pos}

theorem s_const {v : V} {d : D} {e : Expr} (p : PE X e (tC v)) (hr : ∀ g, RelD fx.K fx.ca g v d) : PE X e (tE fx W fun _ S => .ok d S) :=
  pe_imp p fun σ H Q ⟨g, dσ, S, r, sl, q⟩ => q.ret r (hr g)
theorem s_var {i : Nat} (p : PE X a (tVar i)) : PE X a (tE fx W fun σ S => match σ[i]? with
    | some (some d) => .ok d S
    | _ => .bad) := by
  refine pe_imp p fun σ H Q ⟨g, dσ, S, r, sl, q⟩ => ?_
  cases e : dσ[i]? with
  | none => simp only [e] at q; exact q.elim
  | some o =>
    cases o with
    | none => simp only [e] at q; exact q.elim
    | some d =>
      simp only [e] at q
      obtain ⟨v, h1, h2⟩ := sl.at_ i d e
      exact ⟨v, h1, q.ret r h2⟩

theorem s_two {op : Value → Value → Sem Value} {o : Store → D → D → Res D} (ha : PE X a (tE fx W f)) (hb : PE X b (tE fx W h)) (ho : OpD X fx W op o) {pins : List (Addr × Obj)} {s : Shared} {σ : L2.St} {H : Hp} {Q : VK} (I : Inv X pins σ H s)
    (q : tE fx W (fun σ S => (f σ S).bind fun x S1 => (h σ S1).bind fun y S2 => o S2 x y) σ H Q) :
    wpAny (model X.prog X.w) X.A (eval a X.env) (fun v s₁ => wpAny (model X.prog X.w) X.A (eval b X.env) (fun u s₂ => wpAny (model X.prog X.w) X.A (op v u) (EP X pins σ Q) X.xe s₂) X.xe s₁) X.xe s := by
  obtain ⟨g, dσ, S, r, sl, q⟩ := q
  refine binT (R := fun x y H2 => rD fx W o σ x y H2 Q) ha hb I (tE.bind q r sl fun x S1 v g1 H1 _ l1 r1 x1 q1 => tE.bind q1 r1 (sl.mono l1) fun y S2 w g2 H2 _ l2 r2 y2 q2 => ?_) fun v u s2 x y H2 I2 rx ry z => ho pins s2 σ H2 x y v u Q I2 rx ry z
  exact ⟨g2, S2, x, y, r2, x1.mono l2, y2, q2⟩
theorem s_bin {op : Operator} {o : Store → D → D → Res D} (ho : OpD X fx W (binaryOp op) o) (ha : PE X a (tE fx W f)) (hb : PE X b (tE fx W h)) :
    PE X (.BinOp a op b pos) (tE fx W fun σ S => (f σ S).bind fun x S1 => (h σ S1).bind fun y S2 => o S2 x y) :=
  ⟨fun pins s σ H Q I q => wpAny_BinOp (s_two ha hb ho I q)⟩
theorem s_cmp {op : CmpOp} {o : Store → D → D → Res D} (ho : OpD X fx W (compareOp op) o) (ha : PE X a (tE fx W f)) (hb : PE X b (tE fx W h)) (hm : behindInMarks op b = false) :
    PE X (.Compare a [op] [b] pos) (tE fx W fun σ S => (f σ S).bind fun x S1 => (h σ S1).bind fun y S2 => o S2 x y) :=
  ⟨fun pins s σ H Q I q => wpAny_Compare1 (s_two ha hb ho I q) hm⟩
/-- a value whose truth is asked, when the value is a bool -/
def tV (fx : Fix) (W : WX) (f : DSt → Store → Res D) : TT := fun σ H Q => tE fx W f σ H fun v H' => ∃ b, v = .bl b ∧ Q b H'
theorem ofB_ret {g : Gh} {σ : L2.St} {S : Store} {H : Hp} {o : Option Bool} {T : Gh → D → Store → Hp → Prop} (q : ePost fx W g σ T (ofB S o)) : ∃ b, o = some b ∧ ePost fx W g σ T (.ok (.bl b) S) := by
  cases o with
  | none => exact q.elim
  | some b => exact ⟨b, rfl, q⟩
theorem s_cmpT {op : CmpOp} {o : Store → D → D → Option Bool} (ho : OpD X fx W (compareOp op) (fun S x y => ofB S (o S x y))) (ha : PE X a (tE fx W f)) (hb : PE X b (tE fx W h)) (hm : behindInMarks op b = false) :
    PT X (.Compare a [op] [b] pos) (tT fx W fun σ S => (f σ S).bind fun x S1 => (h σ S1).bind fun y S2 => ofB S2 (o S2 x y)) := by
  refine ⟨fun pins s σ H Q I q => ?_⟩
  obtain ⟨g, dσ, S, r, sl, q⟩ := q
  have q1 : tE fx W f σ H (fun v H1 => tE fx W h σ H1 fun w H2 => rD fx W (fun S x y => ofB S (o S x y)) σ v w H2 fun z H3 => ∃ b, z = .bl b ∧ Q b H3) :=
    tE.bind q r sl fun x S1 v g1 H1 _ l1 r1 x1 q1 => tE.bind q1 r1 (sl.mono l1) fun y S2 w g2 H2 _ l2 r2 y2 q2 => by
      obtain ⟨b, e, q3⟩ := ofB_ret (H := H2) q2
      refine ⟨g2, S2, x, y, r2, x1.mono l2, y2, ?_⟩
      show ePost fx W g2 σ _ (ofB S2 (o S2 x y))
      rw [e]
      intro g3 H3 l3 r3 v3 rv3
      obtain ⟨b', e', q4⟩ := q3 g3 H3 l3 r3
      cases e'
      exact ⟨b, rv3.iBl, q4⟩
  refine wpAny_isTrue_Compare1 (thn (ha.run pins s σ H _ I q1) fun v s1 ⟨x, H1, I1, r1, q1⟩ => thn (hb.run pins s1 σ H1 _ I1 q1) fun u s2 ⟨y, H2, I2, r2, q2⟩ =>
    thn (ho pins s2 σ H2 x y v u _ I2 r1 r2 q2) fun c s3 ⟨z, H3, I3, r3, k, e, q3⟩ => ?_) hm
  subst e
  cases r3
  exact wpAny_truthy_bool ⟨H3, I3, q3⟩
theorem s_neg (ha : PE X a (tE fx W f)) : PE X (.UnaryOp .USub a pos) (tE fx W fun σ S => (f σ S).bind fun x S1 => match x with
    | .int i => .ok (.int (-i)) S1
    | _ => .bad) := by
  refine pe_imp (pe_un un_neg ha) fun σ H Q ⟨g, dσ, S, r, sl, q⟩ => tE.bind q r sl fun x S1 v g1 H1 _ l1 r1 x1 q1 => ?_
  cases x with
  | int i => exact ⟨i, x1.iInt, q1.ret r1 (.int _)⟩
  | _ => exact q1.elim
/-- the truth of a value -/
theorem tru_of {g : Gh} {σ : L2.St} {S : Store} {d : D} {T : Gh → D → Store → Hp → Prop} {kk : Bool → Res D} (q : ePost fx W g σ T (tru S d kk)) : ∃ b, truD (look S d) = some b ∧ ePost fx W g σ T (kk b) := by
  unfold tru at q
  cases e : truD (look S d) with
  | none => rw [e] at q; exact q.elim
  | some b => rw [e] at q; exact ⟨b, rfl, q⟩
theorem s_not (hK : fx.K = X.K) (ha : PE X a (tE fx W f)) : PE X (.UnaryOp .Not a pos) (tE fx W fun σ S => (f σ S).bind fun x S1 => tru S1 x fun b => .ok (.bl (!b)) S1) := by
  refine pe_imp (pe_notT ha) fun σ H Q ⟨g, dσ, S, r, sl, q⟩ => tE.bind q r sl fun x S1 v g1 H1 _ l1 r1 x1 q1 => ?_
  obtain ⟨b, e, q2⟩ := tru_of q1
  exact ⟨b, by rw [← hK]; exact r1.tru x1 e, q2.ret r1 (.bl _)⟩
theorem s_and {rest : List Expr} (hK : fx.K = X.K) (ha : PE X a (tE fx W f)) (hb : PE X (.BoolOp .And (b :: rest) pos) (tE fx W h)) :
    PE X (.BoolOp .And (a :: b :: rest) pos) (tE fx W fun σ S => (f σ S).bind fun x S1 => tru S1 x fun t => if t then h σ S1 else .ok x S1) := by
  refine pe_imp (pe_andT ha hb) fun σ H Q ⟨g, dσ, S, r, sl, q⟩ => tE.bind q r sl fun x S1 v g1 H1 _ l1 r1 x1 q1 => ?_
  obtain ⟨t, e, q2⟩ := tru_of q1
  refine ⟨t, by rw [← hK]; exact r1.tru x1 e, ?_⟩
  cases t with
  | true => exact iteT ⟨g1, dσ, S1, r1, sl.mono l1, q2⟩
  | false => exact iteF (ePost.ret q2 r1 x1)
theorem s_or {rest : List Expr} (hK : fx.K = X.K) (ha : PE X a (tE fx W f)) (hb : PE X (.BoolOp .Or (b :: rest) pos) (tE fx W h)) :
    PE X (.BoolOp .Or (a :: b :: rest) pos) (tE fx W fun σ S => (f σ S).bind fun x S1 => tru S1 x fun t => if t then .ok x S1 else h σ S1) := by
  refine pe_imp (pe_orT ha hb) fun σ H Q ⟨g, dσ, S, r, sl, q⟩ => tE.bind q r sl fun x S1 v g1 H1 _ l1 r1 x1 q1 => ?_
  obtain ⟨t, e, q2⟩ := tru_of q1
  refine ⟨t, by rw [← hK]; exact r1.tru x1 e, ?_⟩
  cases t with
  | false => exact iteF ⟨g1, dσ, S1, r1, sl.mono l1, q2⟩
  | true => exact iteT (ePost.ret q2 r1 x1)
theorem s_ife (hc : PT X c (tT fx W k)) (ha : PE X a (tE fx W f)) (hb : PE X b (tE fx W h)) :
    PE X (.IfExp c a b pos) (tE fx W fun σ S => (k σ S).bind fun x S1 => tru S1 x fun t => if t then f σ S1 else h σ S1) := by
  refine pe_imp (pe_ifExp hc ha hb) fun σ H Q ⟨g, dσ, S, r, sl, q⟩ => tT.bind q r sl fun x S1 g1 H1 _ l1 r1 q1 => ?_
  obtain ⟨t, e, q2⟩ := tru_of q1
  refine ⟨t, e, ?_⟩
  cases t with
  | true => exact iteT ⟨g1, dσ, S1, r1, sl.mono l1, q2⟩
  | false => exact iteF ⟨g1, dσ, S1, r1, sl.mono l1, q2⟩
/-! tests -/
theorem t_truth (hK : fx.K = X.K) (ha : PE X a (tE fx W f)) (he : ∀ whole, isTrue a X.env whole = (do let v ← whole; standAt a.pos; holding [v] (truthy v))) : PT X a (tT fx W f) := by
  refine pt_imp (pt_truth ha he) fun σ H Q ⟨g, dσ, S, r, sl, q⟩ => ⟨g, dσ, S, r, sl, ?_⟩
  cases e : f dσ S with
  | bad => rw [e] at q; exact q
  | ex x S1 => rw [e] at q; exact q
  | ok d S1 =>
    rw [e] at q
    intro g1 H1 l1 r1 v rv
    obtain ⟨b, hb, qb⟩ := q g1 H1 l1 r1
    exact ⟨b, by rw [← hK]; exact r1.tru rv hb, qb⟩
theorem t_not (ha : PT X a (tT fx W f)) : PT X (.UnaryOp .Not a pos) (tT fx W fun σ S => (f σ S).bind fun x S1 => tru S1 x fun b => .ok (.bl (!b)) S1) := by
  refine pt_imp (pt_not ha) fun σ H Q ⟨g, dσ, S, r, sl, q⟩ => tT.bind q r sl fun x S1 g1 H1 _ l1 r1 q1 => ?_
  obtain ⟨b, e, q2⟩ := tru_of q1
  obtain ⟨b', e', q3⟩ := q2 g1 H1 (Gh.le.refl g1) r1
  cases e'
  exact ⟨b, e, q3⟩
theorem w_and {rest : List Expr} (ha : PT X a (tT fx W f)) (hb : PW X (.BoolOp .And (b :: rest) pos) (tT fx W h)) :
    PW X (.BoolOp .And (a :: b :: rest) pos) (tT fx W fun σ S => (f σ S).bind fun x S1 => tru S1 x fun t => if t then h σ S1 else .ok x S1) := by
  refine pw_imp (pw_and ha hb) fun σ H Q ⟨g, dσ, S, r, sl, q⟩ => tT.bind q r sl fun x S1 g1 H1 _ l1 r1 q1 => ?_
  obtain ⟨t, e, q2⟩ := tru_of q1
  refine ⟨t, e, ?_⟩
  cases t with
  | true => exact iteT ⟨g1, dσ, S1, r1, sl.mono l1, q2⟩
  | false =>
    obtain ⟨b', e', q3⟩ := q2 g1 H1 (Gh.le.refl g1) r1
    have e2 : some b' = some false := e'.symm.trans e
    cases e2
    exact iteF q3
theorem w_or {rest : List Expr} (ha : PT X a (tT fx W f)) (hb : PW X (.BoolOp .Or (b :: rest) pos) (tT fx W h)) :
    PW X (.BoolOp .Or (a :: b :: rest) pos) (tT fx W fun σ S => (f σ S).bind fun x S1 => tru S1 x fun t => if t then .ok x S1 else h σ S1) := by
  refine pw_imp (pw_or ha hb) fun σ H Q ⟨g, dσ, S, r, sl, q⟩ => tT.bind q r sl fun x S1 g1 H1 _ l1 r1 q1 => ?_
  obtain ⟨t, e, q2⟩ := tru_of q1
  refine ⟨t, e, ?_⟩
  cases t with
  | false => exact iteF ⟨g1, dσ, S1, r1, sl.mono l1, q2⟩
  | true =>
    obtain ⟨b', e', q3⟩ := q2 g1 H1 (Gh.le.refl g1) r1
    have e2 : some b' = some true := e'.symm.trans e
    cases e2
    exact iteT q3
/-! arguments, displays -/
theorem s_anil : PA X [] (tA fx W fun _ S => .ok (.tup []) S) := pa_imp pa_nil fun σ H Q ⟨g, dσ, S, r, sl, q⟩ => q g H (Gh.le.refl g) r [] .nil
theorem s_acons {es : List Expr} (ha : PE X a (tE fx W f)) (hr : PA X es (tA fx W h)) (hs : starEach (a :: es) X.env = (false, eval a X.env) :: starEach es X.env) :
    PA X (a :: es) (tA fx W fun σ S => (f σ S).bind fun x S1 => (h σ S1).bind fun y S2 => .ok (.tup (x :: unT y)) S2) := by
  refine pa_imp (pa_cons ha hr hs) fun σ H Q ⟨g, dσ, S, r, sl, q⟩ => tE.bind q r sl fun x S1 v g1 H1 _ l1 r1 x1 q1 => tA.bind q1 r1 (sl.mono l1) fun y S2 vs g2 H2 _ l2 r2 y2 q2 => ?_
  exact q2 g2 H2 (Gh.le.refl g2) r2 (v :: vs) (.cons (x1.mono l2) y2)
theorem s_tup {es : List Expr} {x1} (ha : PA X es (tA fx W f)) : PE X (.Tuple es x1 pos) (tE fx W fun σ S => (f σ S).bind fun x S1 => if (unT x).length ≤ sizeLine then .ok (.tup (unT x)) S1 else .bad) := by
  refine pe_imp (pe_tup ha) fun σ H Q ⟨g, dσ, S, r, sl, q⟩ => tA.bind q r sl fun x S1 vs g1 H1 _ l1 r1 x1 q1 => ?_
  by_cases hz : (unT x).length ≤ sizeLine
  · rw [if_pos hz] at q1
    exact ⟨by rw [x1.length]; exact hz, fun p hp => q1.new r1 hp fun g' l e => .tup e (x1.mono l)⟩
  · rw [if_neg hz] at q1
    exact q1.elim
theorem s_lst {es : List Expr} (ha : PA X es (tA fx W f)) : PE X (.List es pos) (tE fx W fun σ S => (f σ S).bind fun x S1 => if (unT x).length ≤ sizeLine then .ok (.lst (unT x)) S1 else .bad) := by
  refine pe_imp (pe_lst ha) fun σ H Q ⟨g, dσ, S, r, sl, q⟩ => tA.bind q r sl fun x S1 vs g1 H1 _ l1 r1 x1 q1 => ?_
  by_cases hz : (unT x).length ≤ sizeLine
  · rw [if_pos hz] at q1
    exact ⟨by rw [x1.length]; exact hz, fun p hp => q1.new r1 hp fun g' l e => .lst e (x1.mono l)⟩
  · rw [if_neg hz] at q1
    exact q1.elim
theorem s_cell {es : List Expr} (ha : PA X es (tA fx W f)) : PE X (.List es pos) (tE fx W fun σ S => (f σ S).bind fun x S1 => if (unT x).length ≤ sizeLine then .ok (.ptr S1.length) (S1 ++ [.lst (unT x)]) else .bad) := by
  refine pe_imp (pe_lst ha) fun σ H Q ⟨g, dσ, S, r, sl, q⟩ => tA.bind q r sl fun x S1 vs g1 H1 _ l1 r1 x1 q1 => ?_
  by_cases hz : (unT x).length ≤ sizeLine
  · rw [if_pos hz] at q1
    refine ⟨by rw [x1.length]; exact hz, fun p hp => ?_⟩
    obtain ⟨g', l, am, n, r'⟩ := r1.cell hp x1
    refine q1 g' _ l r' (.ref p) ?_
    rw [← am]
    exact .ptr (by rw [n]; exact Nat.lt_succ_self _)
  · rw [if_neg hz] at q1
    exact q1.elim
/-- a value, frozen from here on -/
theorem s_frz (ha : PE X a (tE fx W f)) : PE X a (tE fx W fun σ S => (f σ S).bind fun x S1 => frzE S1 x) := by
  refine pe_imp ha fun σ H Q ⟨g, dσ, S, r, sl, q⟩ => tE.bind q r sl fun x S1 v g1 H1 _ l1 r1 x1 q1 => ?_
  unfold frzE at q1
  cases e : frzD frzK S1 x with
  | none => rw [e] at q1; exact q1.elim
  | some p =>
    obtain ⟨x', S2⟩ := p
    rw [e] at q1
    obtain ⟨g2, l2, _, r2, x2, _⟩ := frzD_ok frzK fx g1 S1 H1 v x x' S2 e r1 x1
    exact q1 g2 H1 l2 r2 v x2
theorem opD_cat {X : Cx} {fx : Fix} {W : WX} : OpD X fx W (binaryOp .Add) catD := by
  intro pins s σ H x y v u Q I rx ry h
  obtain ⟨g, S, d, e, r, rd, re, h⟩ := h
  unfold catD at h
  cases e1 : look S d with
  | lst xs =>
    cases e2 : look S e with
    | lst ys =>
      rw [e1, e2] at h
      obtain ⟨a, vs, rfl, ha, ra⟩ := r.lst rd e1
      obtain ⟨b, ws, rfl, hb, rb⟩ := r.lst re e2
      have h : ePost fx W g σ (tOf fx Q) (if xs.length + ys.length ≤ sizeLine then .ok (.ptr S.length) (S ++ [.lst (xs ++ ys)]) else .bad) := h
      by_cases hz : xs.length + ys.length ≤ sizeLine
      · rw [if_pos hz] at h
        refine op_cat pins s σ H _ _ v u Q I rx ry ⟨a, b, vs, ws, rfl, rfl, ha, hb, by rw [ra.length, rb.length]; exact hz, fun p hp => ?_⟩
        obtain ⟨g', l, am, n, r'⟩ := r.cell hp (ra.append rb)
        refine h g' _ l r' (.ref p) ?_
        rw [← am]
        exact .ptr (by rw [n]; exact Nat.lt_succ_self _)
      · rw [if_neg hz] at h
        exact h.elim
    | _ => rw [e1, e2] at h; exact h.elim
  | _ => rw [e1] at h; exact h.elim
/-! subscripts -/
theorem s_idx (hK : fx.K = X.K) (ha : PE X a (tE fx W f)) (hb : PE X b (tE fx W h)) (hs : PlainIx b) : PE X (.Subscript a b pos) (tE fx W fun σ S => (f σ S).bind fun x S1 => (h σ S1).bind fun y S2 => idxD S2 x y) := by
  refine pe_imp (pe_ix ix_seq ha hb hs) fun σ H Q ⟨g, dσ, S, r, sl, q⟩ => tE.bind q r sl fun x S1 v g1 H1 _ l1 r1 x1 q1 => tE.bind q1 r1 (sl.mono l1) fun y S2 w g2 H2 _ l2 r2 y2 q2 => ?_
  have x2 := x1.mono l2
  have key : ∃ i, y = .int i := by
    cases y with
    | int i => exact ⟨i, rfl⟩
    | _ =>
      unfold idxD at q2
      cases z : look S2 x <;> rw [z] at q2 <;> exact q2.elim
  obtain ⟨i, rfl⟩ := key
  have hw := y2.iInt
  subst hw
  unfold idxD at q2
  cases e1 : look S2 x with
  | lst xs =>
    rw [e1] at q2
    obtain ⟨p, vs, rfl, hp, rp⟩ := r2.lst x2 e1
    have q2 : ePost fx W g2 σ (tOf fx Q) (match atD xs i with
      | some d => .ok d S2
      | none => .bad) := q2
    cases e : atD xs i with
    | none => rw [e] at q2; exact q2.elim
    | some d =>
      rw [e] at q2
      obtain ⟨u, hu, ru⟩ := rp.at e
      exact .inl ⟨p, vs, i, u, rfl, rfl, SqL.of hp, hu, ePost.ret q2 r2 ru⟩
  | tup xs =>
    rw [e1] at q2
    obtain ⟨p, vs, rfl, hp, rp⟩ := r2.tup x2 e1
    have q2 : ePost fx W g2 σ (tOf fx Q) (match atD xs i with
      | some d => .ok d S2
      | none => .bad) := q2
    cases e : atD xs i with
    | none => rw [e] at q2; exact q2.elim
    | some d =>
      rw [e] at q2
      obtain ⟨u, hu, ru⟩ := rp.at e
      exact .inr (.inl ⟨p, vs, i, u, rfl, rfl, SqT.of hp, hu, ePost.ret q2 r2 ru⟩)
  | _ => rw [e1] at q2; exact q2.elim
/-- a slice's part -/
def tO (fx : Fix) (W : WX) (f : DSt → Store → Res D) : TO := fun σ H Q => ∃ g dσ S, R fx g S H ∧ Sl fx g dσ σ ∧ ePost fx W g σ (fun _ d _ H' => ∃ o, partD d = some o ∧ Q o H') (f dσ S)
theorem po_imp {X : Cx} {e : Option Expr} {t t' : TO} (h : PO X e t) (i : ∀ σ H Q, t' σ H Q → t σ H Q) : PO X e t' := ⟨fun pins s σ H Q I q => h.run pins s σ H Q I (i σ H Q q)⟩
theorem o_none : PO X none (tO fx W fun _ S => .ok .non S) := po_imp po_none fun σ H Q ⟨g, dσ, S, r, sl, q⟩ => by
  obtain ⟨o, e, q1⟩ := q g H (Gh.le.refl g) r
  cases e
  exact q1
theorem o_some (ha : PE X a (tE fx W f)) : PO X (some a) (tO fx W fun σ S => (f σ S).bind fun x S1 => match x with
    | .int i => .ok (.int i) S1
    | _ => .bad) := po_imp (po_some ha) fun σ H Q ⟨g, dσ, S, r, sl, q⟩ => tE.bind q r sl fun x S1 v g1 H1 _ l1 r1 x1 q1 => by
  cases x with
  | int i =>
    obtain ⟨o, e, q2⟩ := q1 g1 H1 (Gh.le.refl g1) r1
    cases e
    exact ⟨i, x1.iInt, q2⟩
  | _ => exact q1.elim
theorem tO.bind {α : Type} {g : Gh} {σ : L2.St} {H : Hp} {dσ : DSt} {S : Store} {T : Gh → α → Store → Hp → Prop} {f : DSt → Store → Res D} {k : D → Store → Res α} (h : ePost fx W g σ T ((f dσ S).bind k)) (r : R fx g S H) (sl : Sl fx g dσ σ) {Q' : Option Int → Hp → Prop}
    (hq : ∀ x S' g' H', f dσ S = .ok x S' → g.le g' → R fx g' S' H' → ePost fx W g' σ T (k x S') → ∃ o, partD x = some o ∧ Q' o H') : tO fx W f σ H Q' := by
  refine ⟨g, dσ, S, r, sl, ?_⟩
  cases e : f dσ S with
  | ok x S' =>
    rw [e] at h
    intro g' H' l r'
    exact hq x S' g' H' e l r' (ePost.up h l)
  | ex x S' =>
    rw [e] at h
    exact h
  | bad =>
    rw [e] at h
    exact h
theorem part_of {α : Type} {g : Gh} {σ : L2.St} {d : D} {T : Gh → α → Store → Hp → Prop} {kk : Option Int → Res α} (q : ePost fx W g σ T (withPart d kk)) : ∃ o, partD d = some o ∧ ePost fx W g σ T (kk o) := by
  unfold withPart at q
  cases e : partD d with
  | none => rw [e] at q; exact q.elim
  | some o => rw [e] at q; exact ⟨o, rfl, q⟩
theorem s_cut {lo hi : Option Expr} {p2 : Pos} {fl fh : DSt → Store → Res D} (hK : fx.K = X.K) (ha : PE X a (tE fx W f)) (hl : PO X lo (tO fx W fl)) (hh : PO X hi (tO fx W fh)) :
    PE X (.Subscript a (.Slice lo hi none p2) pos) (tE fx W fun σ S => (f σ S).bind fun x S1 => (fl σ S1).bind fun y S2 => withPart y fun l => (fh σ S2).bind fun z S3 => withPart z fun h => cutD S3 x l h) := by
  refine pe_imp (pe_slice (SlR.or sl_list sl_tup) ha hl hh) fun σ H Q ⟨g, dσ, S, r, sl, q⟩ => tE.bind q r sl fun x S1 v g1 H1 _ l1 r1 x1 q1 => tO.bind q1 r1 (sl.mono l1) fun y S2 g2 H2 _ l2 r2 q2 => ?_
  obtain ⟨l, ey, q2⟩ := part_of q2
  refine ⟨l, ey, tO.bind q2 r2 ((sl.mono l1).mono l2) fun z S3 g3 H3 _ l3 r3 q3 => ?_⟩
  obtain ⟨u, ez, q3⟩ := part_of q3
  refine ⟨u, ez, ?_⟩
  have x3 := (x1.mono l2).mono l3
  unfold cutD at q3
  cases e1 : look S3 x with
  | lst xs =>
    rw [e1] at q3
    obtain ⟨p, vs, rfl, hp, rp⟩ := r3.lst x3 e1
    exact .inl ⟨p, vs, rfl, SqL.of hp, fun t ht => ePost.new q3 r3 ht fun g' l e => .lst e ((rp.cut _ _).mono l)⟩
  | tup xs =>
    rw [e1] at q3
    obtain ⟨p, vs, rfl, hp, rp⟩ := r3.tup x3 e1
    have q3 : ePost fx W g3 σ (tOf fx Q) (if HT.sIx xs.length 0 l = 0 ∧ HT.sIx xs.length xs.length u = xs.length then .bad else .ok (.tup (cutL xs l u)) S3) := q3
    by_cases hz : HT.sIx xs.length 0 l = 0 ∧ HT.sIx xs.length xs.length u = xs.length
    · rw [if_pos hz] at q3
      exact q3.elim
    · rw [if_neg hz] at q3
      exact .inr ⟨p, vs, rfl, SqT.of hp, by rw [rp.length]; exact hz, fun t ht => ePost.new q3 r3 ht fun g' l e => .tup e ((rp.cut _ _).mono l)⟩
  | _ => rw [e1] at q3; exact q3.elim
/-! calls of built-ins -/
def CallD (X : Cx) (fx : Fix) (W : WX) (fv : Value) (o : Store → List D → Res D) : Prop :=
  ∀ (pins : List (Addr × Obj)) (s : Shared) (σ : L2.St) (H : Hp) (g : Gh) (S : Store) (vs : List V) (ds : List D) (us : List Value) (Q : VK), Inv X pins σ H s → Vals vs us → R fx g S H → RelL fx.K fx.ca g vs ds → ePost fx W g σ (tOf fx Q) (o S ds) →
    wpAny (model X.prog X.w) X.A (call fv us) (EP X pins σ Q) X.xe s
/-- such a call's arguments, then the call -/
theorem s_args {es : List Expr} {fv : Value} {o : Store → List D → Res D} (hc : CallD X fx W fv o) (ha : PA X es (tA fx W f)) {pins : List (Addr × Obj)} {s : Shared} {σ : L2.St} {H : Hp} {Q : VK} (I : Inv X pins σ H s)
    (q : tE fx W (fun σ S => (f σ S).bind fun x S1 => o S1 (unT x)) σ H Q) (pos : Pos) : wpAny (model X.prog X.w) X.A (spliced (backTo pos (starEach es X.env))) (fun us s1 => wpAny (model X.prog X.w) X.A (call fv us) (EP X pins σ Q) X.xe s1) X.xe s := by
  obtain ⟨g, dσ, S, r, sl, q⟩ := q
  have q1 : tA fx W f σ H (fun vs H1 => ∃ g1 S1 ds, R fx g1 S1 H1 ∧ RelL fx.K fx.ca g1 vs ds ∧ ePost fx W g1 σ (tOf fx Q) (o S1 ds)) :=
    tA.bind q r sl fun x S1 vs g1 H1 _ l1 r1 x1 q1 => ⟨g1, S1, unT x, r1, x1, q1⟩
  refine thn (ha.run pos pins s σ H _ I q1) fun us s1 ⟨vs, H1, I1, rv, g1, S1, ds, r1, rd, q2⟩ => hc pins s1 σ H1 g1 S1 vs ds us Q I1 rv r1 rd q2
theorem s_callB {x : Str} {id : String} {e : Expr} {es : List Expr} {p : Pos} {o : Store → List D → Res D} (hc : CallD X fx W (.builtin id) o) (hg : Gl X x) (hm : X.mg x = none) (hv : bootBuiltins x = some (.builtin id)) (hn : x ≠ "__name__") (hdb : (x == ("__debug__" : Str)) = false) (ha : PA X (e :: es) (tA fx W f))
    (he : starEach (e :: es) X.env = (false, eval e X.env) :: starEach es X.env) (hpl : (backTo pos (starEach es X.env)).any (·.1) = false) : PE X (.Call (.Name x p) (e :: es) [] pos) (tE fx W fun σ S => (f σ S).bind fun x S1 => o S1 (unT x)) := by
  refine ⟨fun pins s σ H Q I h => ?_⟩
  refine wpAny_Call_Name_kw (ld_blt I hg hm hv ?_ hn hdb)
  exact PyProof.Rows.callWith_builtin1 (s_args hc ha I h pos) he hpl
end
end MX
end

section
set_option maxRecDepth 100000
set_option maxHeartbeats 1000000
namespace MX
open PySem PySem.Spec PyProof.Rows L2

/-! ### sums of tuples, any and all of numbers -/
section
variable {prog : Program} {w : World} {A : Around} {E : Value → Shared → Prop} {s : Shared} {l : Addr} {its : List Value} {ns : List Int} {Q : Value → Shared → Prop}
theorem sum_rawT (hh : A.handled = none) (hl : s.heap.IsTuple l its.toArray) (hi : IntsAre its ns)
    (h : ∀ h' tk t', (∀ b o, s.heap.get? b = some o → h'.get? b = some o) → Q (.int ns.sum t') { s with heap := h', toks := tk }) : wpAny (model prog w) A (call (.builtin "sum") [.ref l]) Q E s := by
  obtain ⟨xs, e⟩ := hi.allInts.items
  have hn : numsOf (intItems xs).toList = ns := by rw [← e]; exact hi.numsOf
  rw [nums_intItems] at hn
  rw [e] at hl
  have hlt : l < s.heap.objs.size := by obtain ⟨_, e, _⟩ := hl; exact Heap.lt_size e
  refine call_sum_walkG (wpAny_pyIter_tuple hl ?_)
  refine ⟨_, _, _, _, _, _, numAt xs, rfl, Walks.tuple (A := A.in1) hh _ l (Nat.ne_of_lt hlt) (intItems xs), ⟨⟨_, Heap.get?_push_size _ rfl, rfl, rfl⟩, hl.push _⟩, fun b hb => ?_, (fun _ _ => intItems_at), fun h' tk t' hk => ?_⟩
  · show b < (s.heap.push _).objs.size
    rw [Heap.size_push]
    rcases List.mem_cons.mp hb with rfl | hb
    · exact Nat.lt_succ_self _
    · rcases List.mem_cons.mp hb with rfl | hb
      · exact Nat.lt_succ_of_lt hlt
      · cases hb
  · have := h h' tk t' fun b o eb => hk b o (fun hb => absurd (Heap.lt_size eb) ((List.mem_singleton.mp hb) ▸ Nat.lt_irrefl _)) (Heap.get?_push_of_some _ eb)
    rw [show (intItems xs).size = xs.size by simp [intItems], preSum_eq, List.take_of_length_le (by simp), hn]
    exact this
end
theorem truth_tr {prog : Program} {w : World} {A : Around} : ∀ {vs : List V} {bs : List Bool} {its : List Value}, Vals vs its → Paired TrV vs bs →
    TruthOf prog w A (fun i v => its.toArray[i]? = some v) (fun i => bs.getD i false) := fun {vs} {bs} {its} rv p i v s Q E hv hq => by
  have hv' : its[i]? = some v := by simpa using hv
  clear hv
  induction p generalizing i its with
  | nil => cases rv; simp at hv'
  | cons hb pr ih =>
    rename_i u b us bs'
    cases rv with
    | cons ru rr =>
      cases i with
      | succ i => exact ih rr i hq (by simpa using hv')
      | zero =>
        simp at hv'
        subst hv'
        rcases hb with rfl | ⟨k, rfl, rfl⟩
        · cases ru
          exact wpAny_truthy_bool hq
        · obtain ⟨t, rfl⟩ := ru
          exact truthy_int hq
section
variable {X : Cx}
def rSumT (K : PySem.W.Frag) : List V → Hp → VK → Prop := fun vs H Q => ∃ (a : Addr) (ns : List Int), vs = [V.ref a] ∧ SqT K H a (ns.map V.int) ∧ Q (.int ns.sum) H
theorem cr_sumT (hc : X.calm = true) : CallR X (.builtin "sum") (rSumT X.K) := by
  intro pins s σ H vs us Q I r h
  obtain ⟨a, ns, rfl, hs, q⟩ := h
  obtain ⟨its, rv, hl, _⟩ := I.tuple hs
  rw [Vals.ref1 r]
  exact sum_rawT (I.ok.hd hc) hl rv.ints fun h' tk t' hk => ⟨.int _, H, I.kept hk, ⟨_, rfl⟩, q⟩
def rAnyT (K : PySem.W.Frag) (f : List Bool → Bool) : List V → Hp → VK → Prop := fun vs H Q => ∃ (a : Addr) (xs : List V) (bs : List Bool), vs = [V.ref a] ∧ SqL K H a xs ∧ Paired TrV xs bs ∧ Q (.bl (f bs)) H
theorem paired_len {α β : Type} {F : α → β → Prop} : ∀ {l : List α} {m : List β}, Paired F l m → l.length = m.length
  | _, _, .nil => rfl
  | _, _, .cons _ h => congrArg (· + 1) (paired_len h)
theorem cr_anyT (hc : X.calm = true) : CallR X (.builtin "any") (rAnyT X.K (fun bs => bs.any id)) := by
  intro pins s σ H vs us Q I r h
  obtain ⟨a, xs, bs, rfl, hs, p, q⟩ := h
  obtain ⟨its, rv, hl, _⟩ := I.list hs
  rw [Vals.ref1 r]
  refine call_any_walk (iter_any hl.isList fun s₂ e2 st hne => ?_)
  subst e2
  refine ⟨_, _, _, _, _, _, _, rfl, Walks.list (A := X.A.in1) (I.ok.hd hc) _ a hne its.toArray, st, truth_tr rv p, fun h' tk hk => ?_⟩
  refine ⟨.bl _, H, I.kept fun b o eo => hk b o (fun hmem => ?_) (Heap.get?_push_of_some _ eo), ?_, q⟩
  · rcases List.mem_cons.mp hmem with e1 | hmem
    · exact absurd (e1 ▸ Heap.lt_size eo) (Nat.lt_irrefl _)
    · cases hmem
  · show Value.bool _ = Value.bool (bs.any id)
    rw [← L2.any_range, List.size_toArray, ← rv.length, paired_len p]
theorem cr_allT (hc : X.calm = true) : CallR X (.builtin "all") (rAnyT X.K (fun bs => bs.all id)) := by
  intro pins s σ H vs us Q I r h
  obtain ⟨a, xs, bs, rfl, hs, p, q⟩ := h
  obtain ⟨its, rv, hl, _⟩ := I.list hs
  rw [Vals.ref1 r]
  refine call_all_walk (iter_any hl.isList fun s₂ e2 st hne => ?_)
  subst e2
  refine ⟨_, _, _, _, _, _, _, rfl, Walks.list (A := X.A.in1) (I.ok.hd hc) _ a hne its.toArray, st, truth_tr rv p, fun h' tk hk => ?_⟩
  refine ⟨.bl _, H, I.kept fun b o eo => hk b o (fun hmem => ?_) (Heap.get?_push_of_some _ eo), ?_, q⟩
  · rcases List.mem_cons.mp hmem with e1 | hmem
    · exact absurd (e1 ▸ Heap.lt_size eo) (Nat.lt_irrefl _)
    · cases hmem
  · show Value.bool _ = Value.bool (bs.all id)
    rw [← L2.all_range, List.size_toArray, ← rv.length, paired_len p]
end
/-- the built-in's value -/
def Bi.val : Bi → Value
  | .abs => .builtin "abs"
  | .int => .type "int"
  | .bool => .type "bool"
  | .len => .builtin "len"
  | .sum => .builtin "sum"
  | .list => .type "list"
  | .listc => .type "list"
  | .tuple => .type "tuple"
  | .max2 => .builtin "max"
  | .min2 => .builtin "min"
  | .any => .builtin "any"
  | .all => .builtin "all"
def Bi.nm : Bi → String
  | .abs => "abs"
  | .int => "int"
  | .bool => "bool"
  | .len => "len"
  | .sum => "sum"
  | .list => "list"
  | .listc => "list"
  | .tuple => "tuple"
  | .max2 => "max"
  | .min2 => "min"
  | .any => "any"
  | .all => "all"
section
variable {X : Cx} {fx : Fix} {W : WX}
theorem relL1 {K : PySem.W.Frag} {ca : String → Addr} {g : Gh} {vs : List V} {d : D} (h : RelL K ca g vs [d]) : ∃ v, vs = [v] ∧ RelD K ca g v d := by
  cases h with
  | cons a b =>
    cases b
    exact ⟨_, rfl, a⟩
theorem relL2 {K : PySem.W.Frag} {ca : String → Addr} {g : Gh} {vs : List V} {d e : D} (h : RelL K ca g vs [d, e]) : ∃ v w, vs = [v, w] ∧ RelD K ca g v d ∧ RelD K ca g w e := by
  cases h with
  | cons a b =>
    obtain ⟨w, rfl, r⟩ := relL1 b
    exact ⟨_, w, rfl, a, r⟩
theorem callD_bi (b : Bi) (hK : fx.K = X.K) (hc : X.calm = true) : CallD X fx W b.val (biD b) := by
  intro pins s σ H g S vs ds us Q I rv r rd q
  unfold biD at q
  split at q
  · obtain ⟨v, rfl, r1⟩ := relL1 rd
    have := r1.iInt
    subst this
    exact call_abs pins s σ H _ us Q I rv ⟨_, rfl, ePost.ret q r (.int _)⟩
  · obtain ⟨v, rfl, r1⟩ := relL1 rd
    have := r1.iInt
    subst this
    exact call_int1 pins s σ H _ us Q I rv (.inl ⟨_, rfl, ePost.ret q r (.int _)⟩)
  · obtain ⟨v, rfl, r1⟩ := relL1 rd
    have := r1.iBl
    subst this
    exact call_int1 pins s σ H _ us Q I rv (.inr ⟨_, rfl, ePost.ret q r (.int _)⟩)
  · obtain ⟨v, rfl, r1⟩ := relL1 rd
    have := r1.iInt
    subst this
    exact call_bool1 pins s σ H _ us Q I rv (.inl ⟨_, rfl, ePost.ret q r (.bl _)⟩)
  · obtain ⟨v, rfl, r1⟩ := relL1 rd
    have := r1.iBl
    subst this
    exact call_bool1 pins s σ H _ us Q I rv (.inr ⟨_, rfl, ePost.ret q r (.bl _)⟩)
  · obtain ⟨v, rfl, r1⟩ := relL1 rd
    rename_i d
    cases e : lenD S d with
    | none => rw [e] at q; exact q.elim
    | some n =>
      rw [e] at q
      refine call_len pins s σ H _ us Q I rv ⟨v, n, rfl, ?_, ePost.ret q r (.int _)⟩
      unfold lenD at e
      cases e1 : look S d with
      | lst xs =>
        rw [e1] at e
        cases e
        obtain ⟨a, ws, rfl, h1, h2⟩ := r.lst r1 e1
        exact .inl ⟨ws, SqL.of h1, h2.length.symm⟩
      | tup xs =>
        rw [e1] at e
        cases e
        obtain ⟨a, ws, rfl, h1, h2⟩ := r.tup r1 e1
        exact .inr ⟨ws, SqT.of h1, h2.length.symm⟩
      | str z =>
        rw [e1] at e
        have e : (if z.length ≤ sizeLine then some z.length else none) = some n := e
        by_cases hz : z.length ≤ sizeLine
        · rw [if_pos hz] at e
          cases e
          have := r.str r1 e1
          subst this
          exact ⟨hz, rfl⟩
        · rw [if_neg hz] at e
          cases e
      | scr ns =>
        rw [e1] at e
        cases e
        obtain ⟨a, rfl, h1⟩ := r.scr r1 e1
        rw [hK] at h1
        exact .inl ⟨_, h1, by rw [List.length_map]⟩
      | _ => rw [e1] at e; cases e
  · obtain ⟨v, w, rfl, r1, r2⟩ := relL2 rd
    have h1 := r1.iInt
    have h2 := r2.iInt
    subst h1 h2
    exact call_max2 hc pins s σ H _ us Q I rv ⟨_, _, rfl, ePost.ret q r (.int _)⟩
  · obtain ⟨v, w, rfl, r1, r2⟩ := relL2 rd
    have h1 := r1.iInt
    have h2 := r2.iInt
    subst h1 h2
    exact call_min2 hc pins s σ H _ us Q I rv ⟨_, _, rfl, ePost.ret q r (.int _)⟩
  · obtain ⟨v, rfl, r1⟩ := relL1 rd
    rename_i d
    cases e1 : look S d with
    | lst xs =>
      rw [e1] at q
      have q : ePost fx W g σ (tOf fx Q) (match intsD xs with
        | some ns => .ok (.int ns.sum) S
        | none => .bad) := q
      cases e2 : intsD xs with
      | none => rw [e2] at q; exact q.elim
      | some ns =>
        rw [e2] at q
        obtain ⟨a, ws, rfl, h1, h2⟩ := r.lst r1 e1
        have := h2.ints e2
        subst this
        exact cr_sum hc pins s σ H _ us Q I rv ⟨a, ns, rfl, SqL.of h1, ePost.ret q r (.int _)⟩
    | tup xs =>
      rw [e1] at q
      have q : ePost fx W g σ (tOf fx Q) (match intsD xs with
        | some ns => .ok (.int ns.sum) S
        | none => .bad) := q
      cases e2 : intsD xs with
      | none => rw [e2] at q; exact q.elim
      | some ns =>
        rw [e2] at q
        obtain ⟨a, ws, rfl, h1, h2⟩ := r.tup r1 e1
        have := h2.ints e2
        subst this
        exact cr_sumT hc pins s σ H _ us Q I rv ⟨a, ns, rfl, SqT.of h1, ePost.ret q r (.int _)⟩
    | _ => rw [e1] at q; exact q.elim
  · obtain ⟨v, rfl, r1⟩ := relL1 rd
    rename_i d
    cases e1 : look S d with
    | lst xs =>
      rw [e1] at q
      have q : ePost fx W g σ (tOf fx Q) (match blsD xs with
        | some ns => .ok (.bl (ns.any id)) S
        | none => .bad) := q
      cases e2 : blsD xs with
      | none => rw [e2] at q; exact q.elim
      | some ns =>
        rw [e2] at q
        obtain ⟨a, ws, rfl, h1, h2⟩ := r.lst r1 e1
        exact cr_anyT hc pins s σ H _ us Q I rv ⟨a, ws, ns, rfl, SqL.of h1, h2.bls e2, ePost.ret q r (.bl _)⟩
    | _ => rw [e1] at q; exact q.elim
  · obtain ⟨v, rfl, r1⟩ := relL1 rd
    rename_i d
    cases e1 : look S d with
    | lst xs =>
      rw [e1] at q
      have q : ePost fx W g σ (tOf fx Q) (match blsD xs with
        | some ns => .ok (.bl (ns.all id)) S
        | none => .bad) := q
      cases e2 : blsD xs with
      | none => rw [e2] at q; exact q.elim
      | some ns =>
        rw [e2] at q
        obtain ⟨a, ws, rfl, h1, h2⟩ := r.lst r1 e1
        exact cr_allT hc pins s σ H _ us Q I rv ⟨a, ws, ns, rfl, SqL.of h1, h2.bls e2, ePost.ret q r (.bl _)⟩
    | _ => rw [e1] at q; exact q.elim
  · obtain ⟨v, rfl, r1⟩ := relL1 rd
    rename_i d
    cases e1 : look S d with
    | lst xs =>
      rw [e1] at q
      obtain ⟨a, ws, rfl, h1, h2⟩ := r.lst r1 e1
      exact call_list_of pins s σ H _ us Q I rv ⟨a, ws, rfl, .inl (SqL.of h1), fun l hl => ePost.new q r hl fun g' le e => .lst e (h2.mono le)⟩
    | tup xs =>
      rw [e1] at q
      obtain ⟨a, ws, rfl, h1, h2⟩ := r.tup r1 e1
      exact call_list_of pins s σ H _ us Q I rv ⟨a, ws, rfl, .inr (SqT.of h1), fun l hl => ePost.new q r hl fun g' le e => .lst e (h2.mono le)⟩
    | _ => rw [e1] at q; exact q.elim
  · obtain ⟨v, rfl, r1⟩ := relL1 rd
    rename_i d
    cases e1 : look S d with
    | lst xs =>
      rw [e1] at q
      obtain ⟨a, ws, rfl, h1, h2⟩ := r.lst r1 e1
      exact call_tuple_of pins s σ H _ us Q I rv ⟨a, ws, rfl, .inl ⟨SqL.of h1, fun l hl => ePost.new q r hl fun g' le e => .tup e (h2.mono le)⟩⟩
    | tup xs =>
      rw [e1] at q
      obtain ⟨a, ws, rfl, h1, h2⟩ := r.tup r1 e1
      refine call_tuple_of pins s σ H _ us Q I rv ⟨a, ws, rfl, .inr ⟨SqT.of h1, ?_⟩⟩
      have hd : RelD fx.K fx.ca g (.ref a) (.tup xs) := r.dat r1 e1 (fun _ z => by cases z) (fun _ _ z => by cases z)
      exact ePost.ret q r hd
    | _ => rw [e1] at q; exact q.elim
  · obtain ⟨v, rfl, r1⟩ := relL1 rd
    rename_i d
    cases e1 : look S d with
    | lst xs =>
      rw [e1] at q
      obtain ⟨a, ws, rfl, h1, h2⟩ := r.lst r1 e1
      exact call_list_of pins s σ H _ us Q I rv ⟨a, ws, rfl, .inl (SqL.of h1), fun l hl => by
        obtain ⟨g', le, am, n, r'⟩ := r.cell hl h2
        refine q g' _ le r' (.ref l) ?_
        rw [← am]
        exact .ptr (by rw [n]; exact Nat.lt_succ_self _)⟩
    | tup xs =>
      rw [e1] at q
      obtain ⟨a, ws, rfl, h1, h2⟩ := r.tup r1 e1
      exact call_list_of pins s σ H _ us Q I rv ⟨a, ws, rfl, .inr (SqT.of h1), fun l hl => by
        obtain ⟨g', le, am, n, r'⟩ := r.cell hl h2
        refine q g' _ le r' (.ref l) ?_
        rw [← am]
        exact .ptr (by rw [n]; exact Nat.lt_succ_self _)⟩
    | _ => rw [e1] at q; exact q.elim
  · exact q.elim
/-- a call by name: built-in function or type -/
theorem s_bi {b : Bi} {x : Str} {e : Expr} {es : List Expr} {p pos : Pos} {f : DSt → Store → Res D} (hK : fx.K = X.K) (hc : X.calm = true) (hx : x = Str.ofString b.nm) (hg : Gl X x) (hm : X.mg x = none) (ha : PA X (e :: es) (tA fx W f))
    (he : starEach (e :: es) X.env = (false, eval e X.env) :: starEach es X.env) (hpl : (backTo pos (starEach es X.env)).any (·.1) = false) : PE X (.Call (.Name x p) (e :: es) [] pos) (tE fx W fun σ S => (f σ S).bind fun x S1 => biD b S1 (unT x)) := by
  have hd : CallD X fx W b.val (biD b) := callD_bi b hK hc
  refine ⟨fun pins s σ H Q I h => ?_⟩
  have hdb : (x == ("__debug__" : Str)) = false := by subst hx; cases b <;> decide +kernel
  have hn : x ≠ ("__name__" : Str) := by subst hx; cases b <;> decide +kernel
  have hv : bootBuiltins x = some b.val := by subst hx; cases b <;> decide +kernel
  refine wpAny_Call_Name_kw (ld_blt I hg hm hv ?_ hn hdb)
  have q := s_args hd ha I h pos
  cases b with
  | abs => exact PyProof.Rows.callWith_builtin1 q he hpl
  | len => exact PyProof.Rows.callWith_builtin1 q he hpl
  | sum => exact PyProof.Rows.callWith_builtin1 q he hpl
  | max2 => exact PyProof.Rows.callWith_builtin1 q he hpl
  | min2 => exact PyProof.Rows.callWith_builtin1 q he hpl
  | any => exact PyProof.Rows.callWith_builtin1 q he hpl
  | all => exact PyProof.Rows.callWith_builtin1 q he hpl
  | int => exact PyProof.Rows.callWith_type1 q he hpl
  | bool => exact PyProof.Rows.callWith_type1 q he hpl
  | list => exact PyProof.Rows.callWith_type1 q he hpl
  | listc => exact PyProof.Rows.callWith_type1 q he hpl
  | tuple => exact PyProof.Rows.callWith_type1 q he hpl
/-! isinstance -/
def Ty.nm : Ty → String
  | .int => "int"
  | .bool => "bool"
  | .str => "str"
  | .list => "list"
  | .tuple => "tuple"
  | .cls c => c
def Ty.blt : Ty → Bool
  | .cls _ => false
  | _ => true
/-- the built-in type of plain data -/
def dTy : D → Option String
  | .non => some "NoneType"
  | .bl _ => some "bool"
  | .int _ => some "int"
  | .str _ => some "str"
  | .lst _ => some "list"
  | .tup _ => some "tuple"
  | _ => none
theorem R.ty {g : Gh} {S : Store} {H : Hp} (r : R fx g S H) {v : V} {d : D} (h : RelD fx.K fx.ca g v d) {t : String} (e : dTy (MX.look S d) = some t) : TyX X.K H v (.type t) := by
  cases q : MX.look S d with
  | non => rw [q] at e; cases e; rw [r.non h q]; exact .base .non
  | bl b => rw [q] at e; cases e; rw [r.bl h q]; exact .base (.bl _)
  | int b => rw [q] at e; cases e; rw [r.int h q]; exact .base (.int _)
  | str b => rw [q] at e; cases e; rw [r.str h q]; exact .base (.str _)
  | lst xs =>
    rw [q] at e
    cases e
    obtain ⟨a, vs, rfl, h1, _⟩ := r.lst h q
    exact .base (.lst h1)
  | tup xs =>
    rw [q] at e
    cases e
    obtain ⟨a, vs, rfl, h1, _⟩ := r.tup h q
    exact .base (.tup h1)
  | ins c fs => rw [q] at e; cases e
  | ptr n => rw [q] at e; cases e
  | scr n => rw [q] at e; cases e
theorem isi_kit {K : PySem.W.Frag} {S : Store} {d : D} {t : Ty} {b : Bool} (e : isiD S d t = some b) (ht : t.blt = true) : ∃ n, dTy (look S d) = some n ∧ PySem.W.kitOne K (.type n) (.type t.nm) = some b := by
  unfold isiD at e
  cases q : look S d <;> rw [q] at e <;> first
    | (cases e; done)
    | (refine ⟨_, rfl, kit_ty ?_⟩; cases t <;> first | (cases ht; done) | (cases e; decide +kernel))
theorem isi_any {K : PySem.W.Frag} {S : Store} {d : D} : ∀ {ts : List Ty} {b : Bool}, isiAny S d ts = some b → ts.all Ty.blt = true → ts ≠ [] → ∃ n, dTy (look S d) = some n ∧ PySem.W.kitAny K (.type n) (ts.map fun t => .type t.nm) = some b
  | [], _, _, _, h => absurd rfl h
  | t :: r, b, e, ht, _ => by
    rw [List.all_cons, Bool.and_eq_true] at ht
    have e : (match isiD S d t with
      | some true => some true
      | some false => isiAny S d r
      | none => none) = some b := e
    cases q : isiD S d t with
    | none => rw [q] at e; cases e
    | some c =>
      rw [q] at e
      obtain ⟨n, h1, h2⟩ := isi_kit (K := K) q ht.1
      refine ⟨n, h1, ?_⟩
      rw [List.map_cons]
      cases c with
      | true =>
        cases e
        exact kitAny_cons h2 (fun z => by cases z) fun _ => rfl
      | false =>
        have e : isiAny S d r = some b := e
        refine kitAny_cons h2 (fun _ => ?_) fun z => by cases z
        cases r with
        | nil =>
          cases e
          exact kitAny_nil
        | cons t2 r2 =>
          obtain ⟨m, h3, h4⟩ := isi_any (K := K) e ht.2 (by simp)
          rw [h1] at h3
          cases h3
          exact h4
end
end MX
end

section
set_option maxRecDepth 100000
set_option maxHeartbeats 1000000
namespace MX
open PySem PySem.Spec PyProof.Rows L2

section
variable {X : Cx} {fx : Fix} {W : WX} {f h : DSt → Store → Res D} {a b : Expr} {pos : Pos}
/-! isinstance -/
theorem ty_boot {t : Ty} (ht : t.blt = true) : bootBuiltins (Str.ofString t.nm) = some (.type t.nm) ∧ Str.ofString t.nm ≠ ("__name__" : Str) ∧ (Str.ofString t.nm == ("__debug__" : Str)) = false := by
  cases t <;> first | (cases ht; done) | exact ⟨by decide +kernel, by decide +kernel, by decide +kernel⟩
theorem s_isi {t : Ty} {y : Str} {p p2 : Pos} (hK : fx.K = X.K) (ht : t.blt = true) (hg : Gl X "isinstance") (hm : X.mg "isinstance" = none) (hy : y = Str.ofString t.nm) (hgy : Gl X y) (hmy : X.mg y = none) (ha : PE X a (tE fx W f))
    (he : starEach [a, .Name y p2] X.env = (false, eval a X.env) :: starEach [.Name y p2] X.env) : PE X (.Call (.Name "isinstance" p) [a, .Name y p2] [] pos) (tE fx W fun σ S => (f σ S).bind fun x S1 => ofB S1 (isiAny S1 x [t])) := by
  obtain ⟨h1, h2, h3⟩ := ty_boot ht
  subst hy
  have pn : PE X (.Name (Str.ofString t.nm) p2) (tC (.ty t.nm)) := pe_bltn hgy hmy h1 rfl h2 h3
  refine pe_imp (pe_callB call_isi hg hm PyProof.Rows.boot_isinstance (pa_cons ha (pa_cons pn pa_nil) he) (by decide) (by decide) he (by rfl)) fun σ H Q ⟨g, dσ, S, r, sl, q⟩ => tE.bind q r sl fun x S1 v g1 H1 _ l1 r1 x1 q1 => ?_
  obtain ⟨b, e, q2⟩ := ofB_ret (H := H1) q1
  obtain ⟨n, e1, e2⟩ := isi_any (K := X.K) e (by rw [List.all_cons, ht]; rfl) (by simp)
  have hty : TyX X.K H1 v (.type n) := r1.ty (X := X) x1 e1
  refine ⟨v, .ty t.nm, .type n, .type t.nm, b, rfl, .ty _, hty, ?_, ePost.ret q2 r1 (.bl _)⟩
  have e3 : PySem.W.kitAny X.K (.type n) [.type t.nm] = some b := e2
  unfold PySem.W.kitAny at e3
  cases q3 : PySem.W.kitOne X.K (.type n) (.type t.nm) with
  | none => rw [q3] at e3; cases e3
  | some c =>
    rw [q3] at e3
    cases c with
    | true => cases e3; rfl
    | false => cases e3; rfl
/-- the names of built-in types, as arguments -/
def tyNames : List Ty → List Expr → Bool
  | [], [] => true
  | t :: ts, .Name y _ :: es => t.blt && (decide (y = Str.ofString t.nm) && tyNames ts es)
  | _, _ => false
theorem pa_tys : ∀ {ts : List Ty} {es : List Expr}, tyNames ts es = true → (∀ t ∈ ts, Gl X (Str.ofString t.nm) ∧ X.mg (Str.ofString t.nm) = none) → PA X es (fun _ H Q => Q (ts.map fun t => .ty t.nm) H)
  | [], [], _, _ => pa_nil
  | t :: ts, .Name y p :: es, h, k => by
    unfold tyNames at h
    rw [Bool.and_eq_true, Bool.and_eq_true] at h
    obtain ⟨h1, h2, h3⟩ := ty_boot h.1
    have hy := of_decide_eq_true h.2.1
    subst hy
    obtain ⟨k1, k2⟩ := k t List.mem_cons_self
    have pn : PE X (.Name (Str.ofString t.nm) p) (tC (.ty t.nm)) := pe_bltn k1 k2 h1 rfl h2 h3
    have ih := pa_tys h.2.2 fun u hu => k u (List.mem_cons_of_mem _ hu)
    exact pa_imp (pa_cons pn ih) fun σ H Q q => q
  | [], _ :: _, h, _ => by cases h
  | _ :: _, [], h, _ => by cases h
  | _ :: _, .BoolOp _ _ _ :: _, h, _ => by cases h
  | _ :: _, .NamedExpr _ _ _ :: _, h, _ => by cases h
  | _ :: _, .BinOp _ _ _ _ :: _, h, _ => by cases h
  | _ :: _, .UnaryOp _ _ _ :: _, h, _ => by cases h
  | _ :: _, .Lambda _ _ _ _ :: _, h, _ => by cases h
  | _ :: _, .IfExp _ _ _ _ :: _, h, _ => by cases h
  | _ :: _, .Dict _ _ _ :: _, h, _ => by cases h
  | _ :: _, .Set _ _ _ :: _, h, _ => by cases h
  | _ :: _, .ListComp _ _ _ _ :: _, h, _ => by cases h
  | _ :: _, .SetComp _ _ _ _ :: _, h, _ => by cases h
  | _ :: _, .DictComp _ _ _ _ _ :: _, h, _ => by cases h
  | _ :: _, .GeneratorExp _ _ _ _ :: _, h, _ => by cases h
  | _ :: _, .Await _ _ :: _, h, _ => by cases h
  | _ :: _, .Yield _ _ :: _, h, _ => by cases h
  | _ :: _, .YieldFrom _ _ :: _, h, _ => by cases h
  | _ :: _, .Compare _ _ _ _ :: _, h, _ => by cases h
  | _ :: _, .Call _ _ _ _ :: _, h, _ => by cases h
  | _ :: _, .FormattedValue _ _ _ _ :: _, h, _ => by cases h
  | _ :: _, .JoinedStr _ _ :: _, h, _ => by cases h
  | _ :: _, .Constant _ _ _ :: _, h, _ => by cases h
  | _ :: _, .Attribute _ _ _ :: _, h, _ => by cases h
  | _ :: _, .Subscript _ _ _ :: _, h, _ => by cases h
  | _ :: _, .Starred _ _ :: _, h, _ => by cases h
  | _ :: _, .List _ _ :: _, h, _ => by cases h
  | _ :: _, .Tuple _ _ _ :: _, h, _ => by cases h
  | _ :: _, .Slice _ _ _ _ :: _, h, _ => by cases h
theorem clsAll : ∀ ts : List Ty, Paired ClsV (ts.map fun t => V.ty t.nm) (ts.map fun t => Value.type t.nm)
  | [] => .nil
  | t :: r => .cons (.ty _) (clsAll r)
theorem s_isiT {ts : List Ty} {es : List Expr} {x1} {p p2 : Pos} (hK : fx.K = X.K) (hn : ts ≠ []) (hl : ts.length ≤ sizeLine) (ht : tyNames ts es = true) (hts : ts.all Ty.blt = true) (hg : Gl X "isinstance") (hm : X.mg "isinstance" = none) (hk : ∀ t ∈ ts, Gl X (Str.ofString t.nm) ∧ X.mg (Str.ofString t.nm) = none) (ha : PE X a (tE fx W f))
    (he : starEach [a, .Tuple es x1 p2] X.env = (false, eval a X.env) :: starEach [.Tuple es x1 p2] X.env) : PE X (.Call (.Name "isinstance" p) [a, .Tuple es x1 p2] [] pos) (tE fx W fun σ S => (f σ S).bind fun x S1 => ofB S1 (isiAny S1 x ts)) := by
  have pt : PE X (.Tuple es x1 p2) (tTup (fun _ H Q => Q (ts.map fun t => .ty t.nm) H)) := pe_tup (pa_tys ht hk)
  refine pe_imp (pe_callB call_isiT hg hm PyProof.Rows.boot_isinstance (pa_cons ha (pa_cons pt pa_nil) he) (by decide) (by decide) he (by rfl)) fun σ H Q ⟨g, dσ, S, r, sl, q⟩ => tE.bind q r sl fun x S1 v g1 H1 _ l1 r1 x1 q1 => ?_
  refine ⟨by rw [List.length_map]; exact hl, fun p hp => ?_⟩
  obtain ⟨b, e, q2⟩ := ofB_ret (H := H1) q1
  obtain ⟨n, e1, e2⟩ := isi_any (K := X.K) e hts hn
  obtain ⟨r2, l2⟩ := r1.laid (o := .tup (ts.map fun t => V.ty t.nm)) hp
  have hty := r2.ty (X := X) (x1.mono l2) e1
  exact ⟨v, p, _, .type n, _, b, rfl, upd_same, clsAll ts, hty, e2, ePost.ret (ePost.up q2 l2) r2 (.bl _)⟩
/-! append -/
theorem s_app {apos : Pos} (hK : fx.K = X.K) (ha : PE X a (tE fx W f)) (hb : PE X b (tE fx W h)) (hbase : attributeBase a "append" X.env (eval a X.env) = eval a X.env) (hline : (apos.endLine == pos.line) = true)
    (hs : starEach [b] X.env = (false, eval b X.env) :: starEach [] X.env) :
    PE X (.Call (.Attribute a "append" apos) [b] [] pos) (tE fx W fun σ S => (f σ S).bind fun x S1 => match x with
    | .ptr n => match S1[n]? with
      | some (.lst _) => (h σ S1).bind fun y S2 => match S2[n]? with
        | some (.lst xs) => if xs.length < sizeLine then .ok .non (S2.set n (.lst (xs ++ [y]))) else .bad
        | _ => .bad
      | _ => .bad
    | _ => .bad) := by
  refine pe_imp (pe_bm PySem.F.plainAttrs_list PySem.F.slot_list_append PySem.F.type_list_append mt_append ha (pa_cons hb pa_nil hs) hbase (by rw [hs]; rfl) hline hs rfl) fun σ H Q ⟨g, dσ, S, r, sl, q⟩ => tE.bind q r sl fun x S1 v g1 H1 _ l1 r1 x1 q1 => ?_
  cases x with
  | ptr n =>
    obtain ⟨rfl, hn⟩ := x1.iPtr
    have q1 : ePost fx W g1 σ (tOf fx Q) (match S1[n]? with
      | some (.lst _) => (h dσ S1).bind fun y S2 => match S2[n]? with
        | some (.lst xs) => if xs.length < sizeLine then .ok .non (S2.set n (.lst (xs ++ [y]))) else .bad
        | _ => .bad
      | _ => .bad) := q1
    cases hc : S1[n]? with
    | none => rw [hc] at q1; exact q1.elim
    | some c =>
      rw [hc] at q1
      cases c with
      | lst zs =>
        obtain ⟨_, _, vs0, hv0, _⟩ := r1.cells n _ hc
        refine ⟨.inl ⟨rfl, _, SqL.of hv0⟩, tE.bind q1 r1 (sl.mono l1) fun y S2 w g2 H2 _ l2 r2 y2 q2 => ?_⟩
        cases hc2 : S2[n]? with
        | none => simp only [hc2] at q2; exact q2.elim
        | some c2 =>
          simp only [hc2] at q2
          cases c2 with
          | lst xs =>
            have q2 : ePost fx W g2 σ (tOf fx Q) (if xs.length < sizeLine then .ok .non (S2.set n (.lst (xs ++ [y]))) else .bad) := q2
            have am : g2.am n = g1.am n := l2.am n hn
            obtain ⟨_, _, vs, hv, rv⟩ := r2.cells n _ hc2
            by_cases hz : xs.length < sizeLine
            · rw [if_pos hz] at q2
              have r3 := r2.put hc2 (rv.append (RelL.one y2))
              rw [am] at hv r3
              exact ⟨_, vs, w, rfl, rfl, hv, by rw [rv.length]; exact hz, ePost.ret q2 r3 .non⟩
            · rw [if_neg hz] at q2
              exact q2.elim
          | ins c fs => exact q2.elim
          | frz d => exact q2.elim
      | ins c fs => exact q1.elim
      | frz d => exact q1.elim
  | _ => exact q1.elim
/-! own defs -/
/-- a def that may be called: its promise is its run -/
structure CallOk (P : Prog) (n : Nat) (K : PySem.W.Frag) (ca : String → Addr) (X : Cx) (x : Str) (f : String) : Prop where
  ex : ∃ (k : Nat) (a : Addr) (fd : FuncData) (ps : List Str), X.mg x = some (.ref a) ∧ PySem.W.keepIn X.K (.ref a) = true ∧ Room k X.A ∧ Binds X.K fd ps [] ∧ FnOk X.prog X.w X.K X.mg X.base (L2.CX X.prog X.w) k a fd ps (spI P n K ca f)
theorem run_np {P : Prog} {n : Nat} {f : String} {ds : List D} {S : Store} (h : run P n f ds S ≠ .bad) : ∃ F, P.fn f = some F ∧ ds.length = F.np := by
  cases n with
  | zero => exact absurd rfl h
  | succ n =>
    unfold run at h
    cases q : P.fn f with
    | none => simp only [q] at h; exact absurd rfl h
    | some F =>
      simp only [q] at h
      by_cases hz : ds.length = F.np
      · exact ⟨F, rfl, hz⟩
      · rw [if_neg hz] at h
        exact absurd rfl h
theorem frzL_len {f : Store → D → Option (D × Store)} : ∀ {ds : List D} {S : Store} {es : List D} {S' : Store}, frzL f S ds = some (es, S') → es.length = ds.length
  | [], S, es, S', e => by cases e; rfl
  | d :: r, S, es, S', e => by
    unfold frzL at e
    cases q : f S d with
    | none => rw [q] at e; cases e
    | some p =>
      obtain ⟨e1, S1⟩ := p
      rw [q] at e
      have e : (match frzL f S1 r with
        | some (q, S2) => some (e1 :: q, S2)
        | none => none) = some (es, S') := e
      cases q2 : frzL f S1 r with
      | none => rw [q2] at e; cases e
      | some p2 =>
        obtain ⟨e2, S2⟩ := p2
        rw [q2] at e
        cases e
        rw [List.length_cons, List.length_cons, frzL_len q2]
theorem callP_np {P : Prog} {n : Nat} {f : String} {ds : List D} {S : Store} (h : callP (run P n) f ds S ≠ .bad) : ∃ F, P.fn f = some F ∧ ds.length = F.np := by
  unfold callP pureK at h
  cases q : frzL (frzD frzK) S ds with
  | none => rw [q] at h; exact absurd rfl h
  | some p =>
    obtain ⟨es, S1⟩ := p
    rw [q] at h
    have hr : run P n f es [] ≠ .bad := fun e => by
      simp only [e] at h
      exact h rfl
    obtain ⟨F, h1, h2⟩ := run_np hr
    exact ⟨F, h1, by rw [← h2, frzL_len q]⟩
theorem rdL_len {f : D → Option D} : ∀ {ds es : List D}, rdL f ds = some es → es.length = ds.length
  | [], es, e => by cases e; rfl
  | d :: r, es, e => by
    unfold rdL at e
    cases q : f d with
    | none => rw [q] at e; cases e
    | some e1 =>
      rw [q] at e
      have e : (match rdL f r with
        | some q => some (e1 :: q)
        | none => none) = some es := e
      cases q2 : rdL f r with
      | none => rw [q2] at e; cases e
      | some e2 =>
        rw [q2] at e
        cases e
        rw [List.length_cons, List.length_cons, rdL_len q2]
theorem flat_np {P : Prog} {n : Nat} {f : String} {ds : List D} {S : Store} (h : flatK (run P n f) ds S ≠ .bad) : ∃ F, P.fn f = some F ∧ ds.length = F.np := by
  unfold flatK at h
  cases q : rdL (rdD frzK S) ds with
  | none => rw [q] at h; exact absurd rfl h
  | some es =>
    rw [q] at h
    have hr : run P n f es [] ≠ .bad := fun e => by
      simp only [e] at h
      exact h rfl
    obtain ⟨F, h1, h2⟩ := run_np hr
    exact ⟨F, h1, by rw [← h2, rdL_len q]⟩
theorem post_ne {α : Type} {g : Gh} {σ : L2.St} {T : Gh → α → Store → Hp → Prop} {r : Res α} (h : ePost fx W g σ T r) : r ≠ .bad := fun e => by
  rw [e] at h
  exact h
theorem s_call {P : Prog} {n : Nat} {m : Mode} {fn : String} {x : Str} {e : Expr} {es : List Expr} {p : Pos} (hK : fx.K = X.K) (tk : Takes X W) (hg : Gl X x) (hc : CallOk P n fx.K fx.ca X x fn) (ha : PA X (e :: es) (tA fx W f)) (hdb : (x == ("__debug__" : Str)) = false)
    (he : starEach (e :: es) X.env = (false, eval e X.env) :: starEach es X.env) (hpl : (backTo pos (starEach es X.env)).any (·.1) = false) : PE X (.Call (.Name x p) (e :: es) [] pos) (tE fx W fun σ S => (f σ S).bind fun x S1 => callM (run P n) m fn (unT x) S1) := by
  obtain ⟨k, a, fd, ps, hm, hk, hr, hb, F⟩ := hc.ex
  refine pe_imp (pe_callS F hr hg hm hk hb (fun σ => passAt tk σ) ha hdb he hpl) fun σ H Q ⟨g, dσ, S, r, sl, q⟩ => tA.bind q r sl fun y S1 vs g1 H1 _ l1 r1 y1 q1 => ?_
  cases m with
  | st =>
    have q1 : ePost fx W g1 σ (tOf fx Q) (run P n fn (unT y) S1) := q1
    obtain ⟨G, h1, h2⟩ := run_np (post_ne q1)
    exact call_st ⟨G, h1, by rw [y1.length]; exact h2⟩ q1 r1 y1
  | pure =>
    have q1 : ePost fx W g1 σ (tOf fx Q) (callP (run P n) fn (unT y) S1) := q1
    obtain ⟨G, h1, h2⟩ := callP_np (post_ne q1)
    exact call_pure ⟨G, h1, by rw [y1.length]; exact h2⟩ q1 r1 y1
  | flat =>
    have q1 : ePost fx W g1 σ (tOf fx Q) (flatK (run P n fn) (unT y) S1) := q1
    obtain ⟨G, h1, h2⟩ := flat_np (post_ne q1)
    exact flat_of (st_run ⟨G, h1, by rw [y1.length]; exact h2⟩) q1 r1 y1
end
end MX
end

section
set_option maxRecDepth 100000
set_option maxHeartbeats 1000000
namespace MX
open PySem PySem.Spec PyProof.Rows L2

/-- an iterator that gives these items, as long as the source stands -/
def GoodIt (fx0 : Fix) (g0 : Gh) (ok : Store → Bool) (J : It) (xs : List D) : Prop := ∀ (fx : Fix) (i : Nat) (g : Gh) (S : Store) (H : Hp), fx.K = fx0.K → fx.ca = fx0.ca → g0.le g → R fx g S H → ok S = true →
  (i < xs.length → J.go i H ∧ ∀ x H', J.yld i H x H' → ∃ g' d, g.le g' ∧ R fx g' S H' ∧ xs[i]? = some d ∧ RelD fx.K fx.ca g' x d) ∧ (xs.length ≤ i → J.stop i H)
/-- what is walked -/
def srcPost (fx : Fix) (k : ItK) (Q : It → Hp → Prop) : Gh → D → Store → Hp → Prop := fun g d S H => ∃ s, srcD k S d = some s ∧ ∀ J, GoodIt fx g s.ok J s.xs → Q J H
def tI (fx : Fix) (W : WX) (k : ItK) (f : DSt → Store → Res D) : TI := fun σ H Q => ∃ g dσ S, R fx g S H ∧ Sl fx g dσ σ ∧ ePost fx W g σ (srcPost fx k Q) (f dσ S)
theorem tI.bind {fx : Fix} {W : WX} {g : Gh} {α : Type} {σ : L2.St} {H : Hp} {dσ : DSt} {S : Store} {T : Gh → α → Store → Hp → Prop} {f : DSt → Store → Res D} {k : D → Store → Res α} {kk : ItK} (h : ePost fx W g σ T ((f dσ S).bind k)) (r : R fx g S H) (sl : Sl fx g dσ σ) {Q' : It → Hp → Prop}
    (hq : ∀ x S' g' H', f dσ S = .ok x S' → g.le g' → R fx g' S' H' → ePost fx W g' σ T (k x S') → srcPost fx kk Q' g' x S' H') : tI fx W kk f σ H Q' := by
  refine ⟨g, dσ, S, r, sl, ?_⟩
  cases e : f dσ S with
  | ok x S' =>
    rw [e] at h
    intro g' H' l r'
    exact hq x S' g' H' e l r' (ePost.up h l)
  | ex x S' =>
    rw [e] at h
    exact h
  | bad =>
    rw [e] at h
    exact h
mutual
theorem same_of : ∀ (a b : D), sameB a b = true → a = b
  | .non, b, h => by cases b <;> first | rfl | (unfold sameB at h; cases h)
  | .bl x, b, h => by
    cases b <;> first | (unfold sameB at h; cases h; done) | skip
    unfold sameB at h
    rw [eq_of_beq h]
  | .int x, b, h => by
    cases b <;> first | (unfold sameB at h; cases h; done) | skip
    unfold sameB at h
    rw [eq_of_beq h]
  | .str x, b, h => by
    cases b <;> first | (unfold sameB at h; cases h; done) | skip
    unfold sameB at h
    rw [of_decide_eq_true h]
  | .lst x, b, h => by
    cases b <;> first | (unfold sameB at h; cases h; done) | skip
    unfold sameB at h
    rw [same_ofL _ _ h]
  | .tup x, b, h => by
    cases b <;> first | (unfold sameB at h; cases h; done) | skip
    unfold sameB at h
    rw [same_ofL _ _ h]
  | .ins c x, b, h => by
    cases b <;> first | (unfold sameB at h; cases h; done) | skip
    unfold sameB at h
    rw [Bool.and_eq_true] at h
    rw [of_decide_eq_true h.1, same_ofF _ _ h.2]
  | .ptr x, b, h => by
    cases b <;> first | (unfold sameB at h; cases h; done) | skip
    unfold sameB at h
    rw [eq_of_beq h]
  | .scr x, b, h => by
    cases b <;> first | (unfold sameB at h; cases h; done) | skip
    unfold sameB at h
    rw [of_decide_eq_true h]
theorem same_ofL : ∀ (a b : List D), sameBL a b = true → a = b
  | [], b, h => by cases b <;> first | rfl | (unfold sameBL at h; cases h)
  | x :: r, b, h => by
    cases b <;> first | (unfold sameBL at h; cases h; done) | skip
    unfold sameBL at h
    rw [Bool.and_eq_true] at h
    rw [same_of _ _ h.1, same_ofL _ _ h.2]
theorem same_ofF : ∀ (a b : List (String × D)), sameBF a b = true → a = b
  | [], b, h => by cases b <;> first | rfl | (unfold sameBF at h; cases h)
  | (x, d) :: r, b, h => by
    cases b <;> first | (unfold sameBF at h; cases h; done) | skip
    unfold sameBF at h
    rw [Bool.and_eq_true, Bool.and_eq_true] at h
    rw [of_decide_eq_true h.1, same_of _ _ h.2.1, same_ofF _ _ h.2.2]
end

section
variable {fx : Fix} {g : Gh} {S : Store} {H : Hp}
/-- a frozen source is data -/
theorem R.still (r : R fx g S H) {v : V} {d : D} (h : RelD fx.K fx.ca g v d) (st : still S d = true) : RelD fx.K fx.ca g v (MX.look S d) := by
  rcases r.look h with ⟨n, ys, rfl, rfl, hc, e'⟩ | ⟨n, c, fs, rfl, rfl, hc, e'⟩ | k
  · unfold MX.still at st
    simp only [hc] at st
    cases st
  · unfold MX.still at st
    simp only [hc] at st
    cases st
  · exact k
/-- a source: the list, or the tuple, at its address, with the items, as long as it stands -/
structure Stands (fx0 : Fix) (g0 : Gh) (ok : Store → Bool) (a : Addr) (xs : List D) (tp : Bool) : Prop where
  at_ : ∀ (fx : Fix) (g : Gh) (S : Store) (H : Hp), fx.K = fx0.K → fx.ca = fx0.ca → g0.le g → R fx g S H → ok S = true →
    ∃ vs, (if tp then H a = some (.tup vs) else H a = some (.lst vs) ∨ SqL fx0.K H a vs) ∧ RelL fx.K fx.ca g vs xs
theorem rel_scr {K : PySem.W.Frag} {ca : String → Addr} {g : Gh} : ∀ ns : List Int, RelL K ca g (ns.map V.int) (ns.map D.int)
  | [] => .nil
  | n :: ns => .cons (.int n) (rel_scr ns)
/-- a value that is walked stands at an address -/
theorem R.stands (r : R fx g S H) {v : V} {d : D} (h : RelD fx.K fx.ca g v d) {s : Src} (e : seqD S d = some s) : ∃ a, v = .ref a ∧ ((∃ xs, MX.look S d = .tup xs) ∧ Stands fx g s.ok a s.xs true ∨ (∀ xs, MX.look S d ≠ .tup xs) ∧ Stands fx g s.ok a s.xs false) := by
  unfold seqD at e
  cases hx : itemsD S d with
  | none => rw [hx] at e; cases e
  | some xs =>
    rw [hx] at e
    cases e
    cases st : MX.still S d with
    | true =>
      have k := r.still h st
      unfold itemsD at hx
      cases ex : MX.look S d with
      | lst ys =>
        rw [ex] at k hx
        cases hx
        obtain ⟨p, vs, rfl, h1, h2⟩ := k.iLst
        refine ⟨p, rfl, .inr ⟨fun _ z => (by cases z), ⟨fun fx2 g1 S1 H1 k1 k2 l1 r1 _ => ⟨vs, ?_, by rw [k1, k2]; exact h2.mono l1⟩⟩⟩⟩
        rw [if_neg (by decide)]
        exact .inl (r1.frz _ _ (l1.F _ _ h1))
      | tup ys =>
        rw [ex] at k hx
        cases hx
        obtain ⟨p, vs, rfl, h1, h2⟩ := k.iTup
        refine ⟨p, rfl, .inl ⟨⟨_, rfl⟩, ⟨fun fx2 g1 S1 H1 k1 k2 l1 r1 _ => ⟨vs, ?_, by rw [k1, k2]; exact h2.mono l1⟩⟩⟩⟩
        rw [if_pos rfl]
        exact r1.frz _ _ (l1.F _ _ h1)
      | scr ns =>
        rw [ex] at k hx
        cases hx
        obtain ⟨p, rfl, h1⟩ := k.iScr
        refine ⟨p, rfl, .inr ⟨fun _ z => (by cases z), ⟨fun fx2 g1 S1 H1 k1 k2 l1 r1 _ => ⟨ns.map V.int, ?_, ?_⟩⟩⟩⟩
        · rw [if_neg (by decide)]
          exact .inr ((show Same g.F H1 from fun a o e => r1.frz _ _ (l1.F _ _ e)).seq h1)
        · exact rel_scr ns
      | _ => rw [ex] at hx; cases hx
    | false =>
      cases d with
      | ptr n =>
        obtain ⟨rfl, hn⟩ := h.iPtr
        have hn : n < S.length := by rw [← r.n]; exact hn
        have hcn : S[n]? = some S[n] := List.getElem?_eq_getElem hn
        cases hd : S[n] with
        | frz d =>
          unfold MX.still at st
          simp only [hcn, hd] at st
          cases st
        | ins c fs =>
          unfold itemsD MX.look at hx
          simp only [hcn, hd] at hx
          cases hx
        | lst ys =>
          have e2 : MX.look S (.ptr n) = .lst ys := by unfold MX.look; simp only [hcn, hd]
          refine ⟨_, rfl, .inr ⟨fun _ z => (by rw [e2] at z; cases z), ⟨fun fx2 g1 S1 H1 k1 k2 l1 r1 ho => ?_⟩⟩⟩
          have q1 : RelD fx2.K fx2.ca g1 (.ref (g.am n)) (.ptr n) := by rw [k1, k2]; exact h.mono l1
          have ho : sameSrc S1 (.ptr n) xs = true := ho
          unfold sameSrc at ho
          cases ex : MX.look S1 (.ptr n) with
          | lst zs =>
            rw [ex] at ho
            obtain rfl := same_ofL _ _ ho
            obtain ⟨a, vs, ea, h1, h2⟩ := r1.lst q1 ex
            cases ea
            exact ⟨vs, by rw [if_neg (by decide)]; exact .inl h1, h2⟩
          | _ => rw [ex] at ho; cases ho
      | _ => cases st
theorem Stands.sqL {fx0 : Fix} {g0 : Gh} {ok : Store → Bool} {a : Addr} {xs : List D} (h : Stands fx0 g0 ok a xs false) {fx : Fix} {g : Gh} {S : Store} {H : Hp} (k1 : fx.K = fx0.K) (k2 : fx.ca = fx0.ca) (l : g0.le g) (r : R fx g S H) (o : ok S = true) : ∃ vs, SqL fx0.K H a vs ∧ RelL fx.K fx.ca g vs xs := by
  obtain ⟨vs, h1, h2⟩ := h.at_ fx g S H k1 k2 l r o
  rw [if_neg (by decide)] at h1
  rcases h1 with h1 | h1
  · exact ⟨vs, SqL.of h1, h2⟩
  · exact ⟨vs, h1, h2⟩
theorem Stands.sqT {fx0 : Fix} {g0 : Gh} {ok : Store → Bool} {a : Addr} {xs : List D} (h : Stands fx0 g0 ok a xs true) {fx : Fix} {g : Gh} {S : Store} {H : Hp} (k1 : fx.K = fx0.K) (k2 : fx.ca = fx0.ca) (l : g0.le g) (r : R fx g S H) (o : ok S = true) : ∃ vs, SqT fx0.K H a vs ∧ RelL fx.K fx.ca g vs xs := by
  obtain ⟨vs, h1, h2⟩ := h.at_ fx g S H k1 k2 l r o
  rw [if_pos rfl] at h1
  exact ⟨vs, SqT.of h1, h2⟩
theorem Stands.imp {fx0 : Fix} {g0 g1 : Gh} {ok ok' : Store → Bool} {a : Addr} {xs : List D} {tp : Bool} (h : Stands fx0 g0 ok a xs tp) (l : g0.le g1) (i : ∀ S, ok' S = true → ok S = true) : Stands fx0 g1 ok' a xs tp := ⟨fun fx g S H k1 k2 l1 r o => h.at_ fx g S H k1 k2 (l.trans l1) r (i S o)⟩
theorem good_list {a : Addr} {xs : List D} {ok : Store → Bool} (h : Stands fx g ok a xs false) : GoodIt fx g ok (Itl fx.K a) xs := by
  intro fx2 i g1 S1 H1 k1 k2 l1 r1 o
  obtain ⟨vs, h1, rv⟩ := h.sqL k1 k2 l1 r1 o
  refine ⟨fun hi => ?_, fun hi => ⟨vs, h1, by rw [rv.length]; exact hi⟩⟩
  obtain ⟨v, e1, e2⟩ := rv.get (List.getElem?_eq_getElem hi)
  refine ⟨⟨vs, v, h1, e1⟩, fun x H' ⟨eh, hx⟩ => ?_⟩
  subst eh
  have hxv := hx vs h1
  rw [e1] at hxv
  cases hxv
  exact ⟨g1, _, Gh.le.refl g1, r1, List.getElem?_eq_getElem hi, e2⟩
theorem good_tup {a : Addr} {xs : List D} {ok : Store → Bool} (h : Stands fx g ok a xs true) : GoodIt fx g ok (Itt fx.K a) xs := by
  intro fx2 i g1 S1 H1 k1 k2 l1 r1 o
  obtain ⟨vs, h1, rv⟩ := h.sqT k1 k2 l1 r1 o
  refine ⟨fun hi => ?_, fun hi => ⟨vs, h1, by rw [rv.length]; exact hi⟩⟩
  obtain ⟨v, e1, e2⟩ := rv.get (List.getElem?_eq_getElem hi)
  refine ⟨⟨vs, v, h1, e1⟩, fun x H' ⟨eh, hx⟩ => ?_⟩
  subst eh
  have hxv := hx vs h1
  rw [e1] at hxv
  cases hxv
  exact ⟨g1, _, Gh.le.refl g1, r1, List.getElem?_eq_getElem hi, e2⟩
theorem good_rng {lo : Int} {n : Nat} {ok : Store → Bool} : GoodIt fx g ok (Itr lo n) ((List.range n).map fun (k : Nat) => D.int (lo + (k : Int))) := by
  intro fx2 i g1 S1 H1 k1 k2 l1 r1 o
  refine ⟨fun hi => ?_, fun hi => ?_⟩
  · rw [List.length_map, List.length_range] at hi
    refine ⟨hi, fun x H' ⟨eh, hx⟩ => ?_⟩
    subst eh
    subst hx
    exact ⟨g1, .int (lo + (i : Int)), Gh.le.refl g1, r1, by rw [List.getElem?_map, List.getElem?_range hi]; rfl, .int _⟩
  · rw [List.length_map, List.length_range] at hi
    exact hi
end

mutual
theorem same_refl : ∀ a : D, sameB a a = true
  | .non => by unfold sameB; rfl
  | .bl x => by unfold sameB; exact beq_self_eq_true x
  | .int x => by unfold sameB; exact beq_self_eq_true x
  | .str x => by unfold sameB; exact decide_eq_true rfl
  | .lst x => by unfold sameB; exact same_reflL x
  | .tup x => by unfold sameB; exact same_reflL x
  | .ins c x => by unfold sameB; rw [decide_eq_true rfl, same_reflF x]; rfl
  | .ptr x => by unfold sameB; exact beq_self_eq_true x
  | .scr x => by unfold sameB; exact decide_eq_true rfl
theorem same_reflL : ∀ a : List D, sameBL a a = true
  | [] => by unfold sameBL; rfl
  | x :: r => by unfold sameBL; rw [same_refl x, same_reflL r]; rfl
theorem same_reflF : ∀ a : List (String × D), sameBF a a = true
  | [] => by unfold sameBF; rfl
  | (x, d) :: r => by unfold sameBF; rw [decide_eq_true rfl, same_refl d, same_reflF r]; rfl
end
/-- a source stands where it is told -/
theorem seq_ok0 {S : Store} {d : D} {s : Src} (h : seqD S d = some s) : s.ok S = true := by
  unfold seqD at h
  cases hx : itemsD S d with
  | none => rw [hx] at h; cases h
  | some xs =>
    rw [hx] at h
    cases h
    cases st : MX.still S d with
    | true => rfl
    | false =>
      show sameSrc S d xs = true
      unfold sameSrc
      unfold itemsD at hx
      cases ex : MX.look S d with
      | lst ys => rw [ex] at hx; cases hx; exact same_reflL _
      | tup ys =>
        exfalso
        cases d with
        | ptr n =>
          unfold MX.still at st
          unfold MX.look at ex
          cases hc : S[n]? with
          | none => simp only [hc] at ex; cases ex
          | some c =>
            simp only [hc] at ex
            cases c with
            | frz d => simp [hc] at st
            | _ => cases ex
        | _ => cases st
      | scr ys =>
        exfalso
        cases d with
        | ptr n =>
          unfold MX.still at st
          unfold MX.look at ex
          cases hc : S[n]? with
          | none => simp only [hc] at ex; cases ex
          | some c =>
            simp only [hc] at ex
            cases c with
            | frz d => simp [hc] at st
            | _ => cases ex
        | _ => cases st
      | _ => rw [ex] at hx; cases hx
section
variable {X : Cx} {fx : Fix} {W : WX} {f h : DSt → Store → Res D} {a b tg : Expr} {pos : Pos}
theorem pi_or {wi wj : TI} (h1 : PI X tg a wi) (h2 : PI X tg a wj) : PI X tg a (fun σ H Q => wi σ H Q ∨ wj σ H Q) := ⟨fun pins s σ H Q I q => by
  rcases q with q | q
  · exact h1.run pins s σ H Q I q
  · exact h2.run pins s σ H Q I q⟩
theorem pi_imp {wi wj : TI} (h1 : PI X tg a wi) (i : ∀ σ H Q, wj σ H Q → wi σ H Q) : PI X tg a wj := ⟨fun pins s σ H Q I q => h1.run pins s σ H Q I (i σ H Q q)⟩
/-- a value that is walked -/
theorem i_seq (hK : fx.K = X.K) (ha : PE X a (tE fx W f)) : PI X tg a (tI fx W .seq f) := by
  refine pi_imp (pi_or (pi_list ha) (pi_tup ha)) fun σ H Q ⟨g, dσ, S, r, sl, q⟩ => ?_
  cases e : f dσ S with
  | bad => rw [e] at q; exact q.elim
  | ex x S1 =>
    rw [e] at q
    exact .inl ⟨g, dσ, S, r, sl, by rw [e]; exact q⟩
  | ok d S1 =>
    rw [e] at q
    have key : (∃ xs, MX.look S1 d = .tup xs) ∨ ∀ xs, MX.look S1 d ≠ .tup xs := by
      cases MX.look S1 d <;> first | exact .inl ⟨_, rfl⟩ | exact .inr fun _ z => by cases z
    rcases key with ⟨xs, ex⟩ | nt
    · refine .inr ⟨g, dσ, S, r, sl, ?_⟩
      rw [e]
      intro g1 H1 l1 r1 v rv
      obtain ⟨s, hs, hJ⟩ := q g1 H1 l1 r1
      have hs : seqD S1 d = some s := hs
      obtain ⟨p, rfl, ⟨_, st⟩ | ⟨no, _⟩⟩ := r1.stands rv hs
      · obtain ⟨vs, h1, _⟩ := st.sqT rfl rfl (Gh.le.refl g1) r1 (seq_ok0 hs)
        rw [← hK]
        exact ⟨p, rfl, ⟨vs, h1⟩, hJ _ (good_tup st)⟩
      · exact absurd ex (no _)
    · refine .inl ⟨g, dσ, S, r, sl, ?_⟩
      rw [e]
      intro g1 H1 l1 r1 v rv
      obtain ⟨s, hs, hJ⟩ := q g1 H1 l1 r1
      have hs : seqD S1 d = some s := hs
      obtain ⟨p, rfl, ⟨⟨_, y⟩, _⟩ | ⟨_, st⟩⟩ := r1.stands rv hs
      · exact absurd y (nt _)
      · obtain ⟨vs, h1, _⟩ := st.sqL rfl rfl (Gh.le.refl g1) r1 (seq_ok0 hs)
        rw [← hK]
        exact ⟨p, rfl, ⟨vs, h1⟩, hJ _ (good_list st)⟩
/-- a range -/
theorem rng_ret {g : Gh} {σ : L2.St} {S : Store} {o : Option (List D)} {T : Gh → D → Store → Hp → Prop} (q : ePost fx W g σ T (match o with
    | some xs => .ok (.lst xs) S
    | none => .bad)) : ∃ xs, o = some xs ∧ ePost fx W g σ T (.ok (.lst xs) S) := by
  cases o with
  | none => exact q.elim
  | some xs => exact ⟨xs, rfl, q⟩
theorem i_rng1 {p : Pos} (hg : Gl X "range") (hm : X.mg "range" = none) (ha : PE X a (tE fx W f)) (hs : starEach [a] X.env = [(false, eval a X.env)]) : PI X tg (.Call (.Name "range" p) [a] [] pos) (tI fx W .seq fun σ S => (f σ S).bind fun x S1 => match rngD [x] with
    | some xs => .ok (.lst xs) S1
    | none => .bad) := by
  refine pi_imp (pi_range1 hg hm (pa_cons ha pa_nil hs) hs) fun σ H Q ⟨g, dσ, S, r, sl, q⟩ => tE.bind q r sl fun x S1 v g1 H1 _ l1 r1 x1 q1 => ?_
  obtain ⟨xs, e, q2⟩ := rng_ret q1
  cases x with
  | int n =>
    have := x1.iInt
    subst this
    have e : (if -(2 ^ 62) ≤ n ∧ n < 2 ^ 62 then some ((List.range n.toNat).map fun (k : Nat) => D.int (0 + (k : Int))) else none) = some xs := e
    by_cases hz : -(2 ^ 62) ≤ n ∧ n < 2 ^ 62
    · rw [if_pos hz] at e
      cases e
      obtain ⟨s, hy, hJ⟩ := q2 g1 H1 (Gh.le.refl g1) r1
      cases hy
      exact ⟨n, rfl, hz.1, hz.2, hJ _ good_rng⟩
    · rw [if_neg hz] at e
      cases e
  | _ => cases e
theorem i_rng2 {p : Pos} (hg : Gl X "range") (hm : X.mg "range" = none) (ha : PE X a (tE fx W f)) (hb : PE X b (tE fx W h)) (hs : starEach [a, b] X.env = [(false, eval a X.env), (false, eval b X.env)]) (hs2 : starEach [b] X.env = [(false, eval b X.env)]) :
    PI X tg (.Call (.Name "range" p) [a, b] [] pos) (tI fx W .seq fun σ S => (f σ S).bind fun x S1 => (h σ S1).bind fun y S2 => match rngD [x, y] with
    | some xs => .ok (.lst xs) S2
    | none => .bad) := by
  refine pi_imp (pi_range2 hg hm (pa_cons ha (pa_cons hb pa_nil hs2) (by rw [hs, hs2])) hs hs2) fun σ H Q ⟨g, dσ, S, r, sl, q⟩ => tE.bind q r sl fun x S1 v g1 H1 _ l1 r1 x1 q1 => tE.bind q1 r1 (sl.mono l1) fun y S2 w g2 H2 _ l2 r2 y2 q2 => ?_
  obtain ⟨xs, e, q3⟩ := rng_ret q2
  cases x with
  | int n =>
    cases y with
    | int m =>
      have h1 := x1.iInt
      have h2 := y2.iInt
      subst h1 h2
      have e : (if -(2 ^ 62) ≤ n ∧ n < 2 ^ 62 ∧ -(2 ^ 62) ≤ m ∧ m < 2 ^ 62 then some ((List.range (m - n).toNat).map fun (k : Nat) => D.int (n + (k : Int))) else none) = some xs := e
      by_cases hz : -(2 ^ 62) ≤ n ∧ n < 2 ^ 62 ∧ -(2 ^ 62) ≤ m ∧ m < 2 ^ 62
      · rw [if_pos hz] at e
        cases e
        obtain ⟨s, hy, hJ⟩ := q3 g2 H2 (Gh.le.refl g2) r2
        cases hy
        exact ⟨n, m, rfl, hz, hJ _ good_rng⟩
      · rw [if_neg hz] at e
        cases e
    | _ => cases e
  | _ => cases y <;> cases e
/-! ### comprehensions -/
def W0 : WX := fun _ _ _ _ => False
theorem nox_of {α : Type} {g : Gh} {σ : L2.St} {T : Gh → α → Store → Hp → Prop} {r : Res α} (q : ePost fx W g σ T (noEx r)) : ePost fx W0 g σ T r := by
  cases r with
  | ok a S => exact q
  | ex x S => exact q.elim
  | bad => exact q
theorem wipe_key : ∀ (own : List Nat) (ρ τ : L2.St), ρ.length = τ.length → (∀ i, i ∉ own → ρ[i]? = τ[i]?) → L2.wipe ρ own = L2.wipe τ own := fun own => by
  induction own with
  | nil => exact fun ρ τ hl h => List.ext_getElem? fun i => h i (by simp)
  | cons v r ih =>
    intro ρ τ hl h
    show (L2.wipe ρ r).set v none = (L2.wipe τ r).set v none
    refine List.ext_getElem? fun i => ?_
    by_cases hv : v = i
    · subst hv
      rw [List.getElem?_set, List.getElem?_set, if_pos rfl, if_pos rfl, L2.wipe_length, L2.wipe_length, hl]
    · rw [List.getElem?_set_ne hv, List.getElem?_set_ne hv]
      by_cases hr : i ∈ r
      · have w1 : ∀ (κ : L2.St) (l : List Nat), i ∈ l → (L2.wipe κ l)[i]? = if i < κ.length then some none else none := fun κ l => by
          induction l with
          | nil => exact fun z => by cases z
          | cons u s ih2 =>
            intro z
            show ((L2.wipe κ s).set u none)[i]? = _
            rw [List.getElem?_set, L2.wipe_length]
            by_cases hu : u = i
            · rw [if_pos hu, hu]
            · rw [if_neg hu]
              exact ih2 (by rcases List.mem_cons.mp z with e | e; exact absurd e.symm hu; exact e)
        rw [w1 _ _ hr, w1 _ _ hr, hl]
      · rw [L2.wipe_out hr, L2.wipe_out hr]
        exact h i fun z => by rcases List.mem_cons.mp z with e | e; exact hv e.symm; exact hr e
theorem wipe_wipe {σ : L2.St} {own : List Nat} : L2.wipe (L2.wipe σ own) own = L2.wipe σ own := wipe_key own _ _ (L2.wipe_length _ _) fun i hi => L2.wipe_out hi
theorem wipe_put {σ : L2.St} {t : Nat} {v : Option V} {own : List Nat} (ht : t ∈ own) : L2.wipe (σ.set t v) own = L2.wipe σ own := wipe_key own _ _ (List.length_set ..) fun i hi => List.getElem?_set_ne (fun z => hi (by rw [← z]; exact ht))
theorem wipe_set {σ : L2.St} {t : Nat} {v : Option V} : ∀ {own : List Nat}, t ∈ own → L2.wipe ((L2.wipe σ own).set t v) own = L2.wipe σ own := by
  intro own ht
  have e1 : L2.wipe (L2.wipe σ own) own = L2.wipe σ own := by
    refine wipe_key own _ _ (L2.wipe_length _ _) fun i hi => L2.wipe_out hi
  rw [← e1]
  refine wipe_key own _ _ (by rw [List.length_set, L2.wipe_length, L2.wipe_length]) fun i hi => ?_
  rw [e1, List.getElem?_set_ne (fun z => hi (by rw [← z]; exact ht))]
/-- an object kept beside the state -/
theorem R.withB {fx : Fix} {g : Gh} {S : Store} {H : Hp} {p : Addr} {o : HO} (r : R fx g S H) (hp : H p = none) : R { fx with B := upd fx.B p o } g S (upd H p o) := by
  have nF : ∀ a u, g.F a = some u → a ≠ p := fun a u e => ne_of_none (r.frz a u e) hp
  refine ⟨fun a u e => ?_, fun a u e => ?_, fun a u e => ?_, r.f0, r.n, fun n c e => ?_, r.inj⟩
  · have e : upd fx.B p o a = some u := e
    by_cases ha : a = p
    · subst ha
      rw [upd_same] at e ⊢
      exact e
    · rw [upd_ne ha] at e ⊢
      exact r.frame a u e
  · rw [upd_ne (nF a u e)]
    exact r.frz a u e
  · rcases r.fresh a u e with h | h
    · exact .inl h
    · refine .inr ?_
      show upd fx.B p o a = none
      rw [upd_ne (nF a u e)]
      exact h
  · have q := r.cells n c e
    cases c with
    | lst xs =>
      obtain ⟨h1, h2, vs, h3, h4⟩ := q
      have ne := ne_of_none h3 hp
      exact ⟨h1, by show upd fx.B p o (g.am n) = none; rw [upd_ne ne]; exact h2, vs, by rw [upd_ne ne]; exact h3, h4⟩
    | ins c fs =>
      obtain ⟨h1, h2, dx, vs, h3, h4⟩ := q
      have ne := ne_of_none h3 hp
      exact ⟨h1, by show upd fx.B p o (g.am n) = none; rw [upd_ne ne]; exact h2, dx, vs, by rw [upd_ne ne]; exact h3, h4⟩
    | frz d => exact q
def hid (H : Hp) (p : Addr) : Hp := fun b => if b = p then none else H b
theorem hid_ne {H : Hp} {p a : Addr} (h : a ≠ p) : hid H p a = H a := if_neg h
theorem hid_same {H : Hp} {p : Addr} : hid H p p = none := if_pos rfl
theorem upd_hid {H : Hp} {p : Addr} {o : HO} : upd (hid H p) p o = upd H p o := by
  funext b
  unfold upd hid
  split <;> rfl
theorem R.dropB {fx : Fix} {g : Gh} {S : Store} {H : Hp} {p : Addr} {o : HO} (r : R { fx with B := upd fx.B p o } g S H) (hB : fx.B p = none) (h0 : fx.F0 p = none) : R fx g S (hid H p) ∧ H p = some o := by
  have hp : H p = some o := r.frame p o (show upd fx.B p o p = some o from upd_same)
  have nF : ∀ a u, g.F a = some u → a ≠ p := fun a u e z => by
    subst z
    rcases r.fresh a u e with h | h
    · rw [show fx.F0 a = some u from h] at h0
      cases h0
    · have h : upd fx.B a o a = none := h
      rw [upd_same] at h
      cases h
  refine ⟨⟨fun a u e => ?_, fun a u e => ?_, fun a u e => ?_, r.f0, r.n, fun n c e => ?_, r.inj⟩, hp⟩
  · have ne := ne_of_none e hB
    rw [hid_ne ne]
    exact r.frame a u (by show upd fx.B p o a = some u; rw [upd_ne ne]; exact e)
  · rw [hid_ne (nF a u e)]
    exact r.frz a u e
  · rcases r.fresh a u e with h | h
    · exact .inl h
    · refine .inr ?_
      have h : upd fx.B p o a = none := h
      rw [upd_ne (nF a u e)] at h
      exact h
  · have q := r.cells n c e
    have key : ∀ n, upd fx.B p o (g.am n) = none → g.am n ≠ p ∧ fx.B (g.am n) = none := fun n z => by
      have ne : g.am n ≠ p := fun y => by
        rw [y, upd_same] at z
        cases z
      rw [upd_ne ne] at z
      exact ⟨ne, z⟩
    cases c with
    | lst xs =>
      obtain ⟨h1, h2, vs, h3, h4⟩ := q
      obtain ⟨k1, k2⟩ := key n h2
      exact ⟨h1, k2, vs, by rw [hid_ne k1]; exact h3, h4⟩
    | ins c fs =>
      obtain ⟨h1, h2, dx, vs, h3, h4⟩ := q
      obtain ⟨k1, k2⟩ := key n h2
      exact ⟨h1, k2, dx, vs, by rw [hid_ne k1]; exact h3, h4⟩
    | frz d => exact q
/-- readings over any ground -/
def tE' (fx : Fix) (W : WX) (f : DSt → Store → Res D) : TE := fun σ H Q => ∃ fx' : Fix, fx'.K = fx.K ∧ fx'.ca = fx.ca ∧ tE fx' W f σ H Q
def tT' (fx : Fix) (W : WX) (f : DSt → Store → Res D) : TT := fun σ H Q => ∃ fx' : Fix, fx'.K = fx.K ∧ fx'.ca = fx.ca ∧ tT fx' W f σ H Q
theorem pe_all {X : Cx} {e : Expr} {fx : Fix} {W : WX} {f : DSt → Store → Res D} (h : ∀ fx' : Fix, fx'.K = fx.K → fx'.ca = fx.ca → PE X e (tE fx' W f)) : PE X e (tE' fx W f) :=
  ⟨fun pins s σ H Q I ⟨fx', k1, k2, q⟩ => (h fx' k1 k2).run pins s σ H Q I q⟩
theorem pt_all {X : Cx} {e : Expr} {fx : Fix} {W : WX} {f : DSt → Store → Res D} (h : ∀ fx' : Fix, fx'.K = fx.K → fx'.ca = fx.ca → PT X e (tT fx' W f)) : PT X e (tT' fx W f) :=
  ⟨fun pins s σ H Q I ⟨fx', k1, k2, q⟩ => (h fx' k1 k2).run pins s σ H Q I q⟩
theorem compK_ok {g : Gh} {σ : L2.St} {T : Gh → D → Store → Hp → Prop} {ok : Store → Bool} {f : D → Store → Res (Option D)} (hf : ∀ x S y S1, f x S ≠ .ex y S1) {k : List D → Store → Res D} : ∀ {xs : List D} {S : Store}, ePost fx W g σ T ((compK ok f xs S).bind k) → ∃ ys S1, compK ok f xs S = .ok ys S1 := by
  intro xs S q
  have nex : ∀ (xs : List D) (S : Store) y S1, compK ok f xs S ≠ .ex y S1 := fun xs => by
    induction xs with
    | nil =>
      intro S y S1 e
      unfold compK at e
      split at e <;> cases e
    | cons x r ih =>
      intro S y S1 e
      unfold compK at e
      split at e
      · cases q1 : f x S with
        | bad => rw [q1] at e; cases e
        | ex z S2 => exact hf _ _ _ _ q1
        | ok o S2 =>
          rw [q1] at e
          have e : ((compK ok f r S2).bind fun ys S2 => .ok (o.toList ++ ys) S2) = .ex y S1 := e
          cases q2 : compK ok f r S2 with
          | bad => rw [q2] at e; cases e
          | ex z S3 => exact ih _ _ _ q2
          | ok o S3 => rw [q2] at e; cases e
      · cases e
  cases e : compK ok f xs S with
  | ok ys S1 => exact ⟨ys, S1, rfl⟩
  | ex y S1 => exact absurd e (nex _ _ _ _)
  | bad => rw [e] at q; exact q.elim
theorem compK_here {g : Gh} {σ : L2.St} {T : Gh → D → Store → Hp → Prop} {ok : Store → Bool} {f : D → Store → Res (Option D)} {k : List D → Store → Res D} {xs : List D} {S : Store} (q : ePost fx W g σ T ((compK ok f xs S).bind k)) : ok S = true := by
  cases e : ok S with
  | true => rfl
  | false =>
    cases xs <;> (unfold compK at q; rw [e] at q; exact q.elim)
/-- a list just made: frozen, or a cell -/
theorem ePost.newL {g : Gh} {σ : L2.St} {H : Hp} {S : Store} {Q : VK} {nw : Bool} {xs : List D} {vs : List V} (h : ePost fx W g σ (tOf fx Q) (newL nw S xs)) (r : R fx g S H) {p : Addr} (hp : H p = none) (rv : RelL fx.K fx.ca g vs xs) : Q (.ref p) (upd H p (.lst vs)) := by
  cases nw with
  | false => exact ePost.new (d := .lst xs) h r hp fun g' l e => .lst e (rv.mono l)
  | true =>
    obtain ⟨g', l, am, n, r'⟩ := r.cell hp rv
    refine h g' _ l r' (.ref p) ?_
    rw [← am]
    exact .ptr (by rw [n]; exact Nat.lt_succ_self _)
/-- the turn of a comprehension over any target -/
def turnG (sg : DSt → D → Option DSt) (own : List Nat) (dσ : DSt) (fc fe : DSt → Store → Res D) : D → Store → Res (Option D) := fun x S => match sg (wipeD dσ own) x with
  | some dσ1 => noEx ((fc dσ1 S).bind fun y S2 => match truD (look S2 y) with
    | some true => (fe dσ1 S2).bind fun z S3 => .ok (some z) S3
    | some false => .ok none S2
    | none => .bad)
  | none => .bad
/-- a target stores as sg says, within own -/
structure TgOk (K : PySem.W.Frag) (ca : String → Addr) (G : TG) (sg : DSt → D → Option DSt) (own : List Nat) : Prop where
  run : ∀ (fx : Fix) (g : Gh) (S : Store) (H : Hp) (dσ dσ' : DSt) (σ : L2.St) (x : V) (dx : D) (Q : L2.St → Hp → Prop), fx.K = K → fx.ca = ca → R fx g S H → Sl fx g dσ σ → RelD K ca g x dx → sg dσ dx = some dσ' →
    (∀ σ', Sl fx g dσ' σ' → L2.wipe σ' own = L2.wipe σ own → Q σ' H) → G x σ H Q
theorem tg_name {K : PySem.W.Frag} {ca : String → Addr} {t : Nat} {own : List Nat} (ht : t ∈ own) : TgOk K ca (gName t) (fun σ x => some (σ.set t (some x))) own := ⟨fun fx g S H dσ dσ' σ x dx Q k1 k2 r sl rx e h => by
  cases e
  subst k1 k2
  exact h _ (sl.set t rx) (wipe_put ht)⟩
theorem turn_nex {sg : DSt → D → Option DSt} {own : List Nat} {dσ : DSt} {fc fe : DSt → Store → Res D} : ∀ x S y S1, turnG sg own dσ fc fe x S ≠ .ex y S1 := fun x S y S1 e => by
  unfold turnG noEx at e
  split at e
  · split at e
    · cases e
    · rename_i h
      exact h _ _ e
  · cases e
/-- the reading of a comprehension -/
theorem lc_readG {k : ItK} {nw : Bool} {fi : DSt → Store → Res D} {fc fe : DSt → Store → Res D} {sg : DSt → D → Option DSt} {G : TG} {own : List Nat} {tt : TT} (tg : TgOk fx.K fx.ca G sg own) (htt : tt = tT' fx W0 fc ∨ (tt = tYes ∧ fc = fun _ S => .ok (.bl true) S)) : ∀ (σ : L2.St) (H : Hp) (Q : VK), tE fx W (fun σ S => (fi σ S).bind fun d S1 => match srcD k S1 d with
    | some s => (compK s.ok (turnG sg own σ fc fe) s.xs S1).bind fun ys S2 => if ys.length ≤ sizeLine then newL nw S2 ys else .bad
    | none => .bad) σ H Q → tLc (tI fx W k fi) G tt (tE' fx W0 fe) own σ H Q := by
  intro σ H Q ⟨g, dσ, S, r, sl, q⟩
  show tI fx W k fi σ H _
  refine tI.bind q r sl fun d S1 g1 H1 _ l1 r1 q1 => ?_
  cases hx : srcD k S1 d with
  | none => rw [hx] at q1; exact q1.elim
  | some s =>
      rw [hx] at q1
      refine ⟨s, hx, fun J hJ D0 hD => ?_⟩
      obtain ⟨xs, ok⟩ := s
      generalize es : Src.mk xs ok = s at *
      obtain rfl : xs = s.xs := by rw [← es]
      have q1 : ePost fx W g1 σ (tOf fx Q) ((compK s.ok (turnG sg own dσ fc fe) s.xs S1).bind fun ys S2 => if ys.length ≤ sizeLine then newL nw S2 ys else .bad) := q1
      generalize s.xs = xs at *
      have nB : fx.B D0 = none := by
        cases z : fx.B D0 with
        | none => rfl
        | some u => rw [r1.frame _ _ z] at hD; cases hD
      have n0 : fx.F0 D0 = none := by
        cases z : fx.F0 D0 with
        | none => rfl
        | some u => rw [r1.frz _ _ (r1.f0 _ _ z)] at hD; cases hD
      -- the invariant: what is made so far, the rest to come
      refine ⟨fun i m H' => m + i = xs.length ∧ ∃ (g' : Gh) (S' : Store) (acc : List V) (dacc : List D) (H0 : Hp), g1.le g' ∧ R fx g' S' H0 ∧ H0 D0 = none ∧ H' = upd H0 D0 (.lst acc) ∧ RelL fx.K fx.ca g' acc dacc ∧
        ePost fx W g' σ (tOf fx Q) ((compK s.ok (turnG sg own dσ fc fe) (xs.drop i) S').bind fun ys S2 => if (dacc ++ ys).length ≤ sizeLine then newL nw S2 (dacc ++ ys) else .bad), ?_, ?_⟩
      · refine ⟨xs.length, rfl, g1, S1, [], [], H1, Gh.le.refl g1, r1, hD, rfl, .nil, ?_⟩
        rw [List.drop_zero]
        exact q1
      · intro i m H' ⟨hm, g', S', acc, dacc, H0, le, r', hD0, hH', ra, q'⟩
        subst hH'
        have hr : R { fx with B := upd fx.B D0 (.lst acc) } g' S' (upd H0 D0 (.lst acc)) := r'.withB hD0
        rcases Nat.lt_or_ge i xs.length with hi | hi
        · right
          have ho := compK_here q'
          obtain ⟨hgo, hyl⟩ := (hJ { fx with B := upd fx.B D0 (.lst acc) } i g' S' _ rfl rfl le hr ho).1 hi
          refine ⟨hgo, fun H2 => m - 1 + (i + 1) = xs.length ∧ ∃ (g' : Gh) (S' : Store) (acc : List V) (dacc : List D) (H0 : Hp), g1.le g' ∧ R fx g' S' H0 ∧ H0 D0 = none ∧ H2 = upd H0 D0 (.lst acc) ∧ RelL fx.K fx.ca g' acc dacc ∧
            ePost fx W g' σ (tOf fx Q) ((compK s.ok (turnG sg own dσ fc fe) (xs.drop (i + 1)) S').bind fun ys S2 => if (dacc ++ ys).length ≤ sizeLine then newL nw S2 (dacc ++ ys) else .bad), fun H2 h2 => ⟨m - 1, by omega, h2⟩, fun x H2 hy => ?_⟩
          obtain ⟨g2, dx, l2, r2, ex, rx⟩ := hyl x H2 hy
          have hd : xs.drop i = dx :: xs.drop (i + 1) := by
            rw [List.drop_eq_getElem_cons hi]
            rw [List.getElem?_eq_getElem hi] at ex
            rw [Option.some.inj ex]
          rw [hd] at q'
          have s0 : Sl { fx with B := upd fx.B D0 (.lst acc) } g2 dσ σ := ⟨((sl.mono l1).mono le).len, fun i d e => by
              obtain ⟨v, h1, h2⟩ := sl.at_ i d e
              exact ⟨v, h1, ((h2.mono l1).mono le).mono l2⟩⟩
          rw [show compK s.ok (turnG sg own dσ fc fe) (dx :: xs.drop (i + 1)) S' = (turnG sg own dσ fc fe dx S').bind fun o S3 => (compK s.ok (turnG sg own dσ fc fe) (xs.drop (i + 1)) S3).bind fun ys S4 => .ok (o.toList ++ ys) S4 from by conv => lhs; unfold compK; rw [if_pos ho]] at q'
          have q' : ePost fx W g' σ (tOf fx Q) (((turnG sg own dσ fc fe dx S').bind fun o S3 => (compK s.ok (turnG sg own dσ fc fe) (xs.drop (i + 1)) S3).bind fun ys S4 => .ok (o.toList ++ ys) S4).bind fun ys S2 => if (dacc ++ ys).length ≤ sizeLine then newL nw S2 (dacc ++ ys) else .bad) := q'
          cases e0 : sg (wipeD dσ own) dx with
          | none =>
            have et : turnG sg own dσ fc fe dx S' = .bad := by unfold turnG; rw [e0]
            rw [et] at q'
            exact q'.elim
          | some dσ1 =>
          have et : turnG sg own dσ fc fe dx S' = noEx ((fc dσ1 S').bind fun y S2 => match truD (look S2 y) with
            | some true => (fe dσ1 S2).bind fun z S3 => .ok (some z) S3
            | some false => .ok none S2
            | none => .bad) := by unfold turnG; rw [e0]
          rw [et] at q'
          refine tg.run { fx with B := upd fx.B D0 (.lst acc) } g2 S' H2 (wipeD dσ own) dσ1 (L2.wipe σ own) x dx _ rfl rfl r2 (s0.wipe own) rx e0 fun σ1 sl2 hw => ⟨hw.trans wipe_wipe, ?_⟩
          -- a turn that is kept, a turn that is not
          have yes : ∀ (S2 : Store) (g3 : Gh) (H3 : Hp), g2.le g3 → R { fx with B := upd fx.B D0 (.lst acc) } g3 S2 H3 → ePost fx W g3 σ (tOf fx Q) (((noEx ((fe dσ1 S2).bind fun z S3 => .ok (some z) S3)).bind fun o S3 => (compK s.ok (turnG sg own dσ fc fe) (xs.drop (i + 1)) S3).bind fun ys S4 => .ok (o.toList ++ ys) S4).bind fun ys S2 => if (dacc ++ ys).length ≤ sizeLine then newL nw S2 (dacc ++ ys) else .bad) →
              tE' fx W0 fe σ1 H3 fun y H4 => ∃ acc', H4 D0 = some (.lst acc') ∧ acc'.length < sizeLine ∧ (m - 1 + (i + 1) = xs.length ∧ ∃ (g' : Gh) (S' : Store) (acc : List V) (dacc : List D) (H0 : Hp), g1.le g' ∧ R fx g' S' H0 ∧ H0 D0 = none ∧ upd H4 D0 (.lst (acc' ++ [y])) = upd H0 D0 (.lst acc) ∧ RelL fx.K fx.ca g' acc dacc ∧
            ePost fx W g' σ (tOf fx Q) ((compK s.ok (turnG sg own dσ fc fe) (xs.drop (i + 1)) S').bind fun ys S2 => if (dacc ++ ys).length ≤ sizeLine then newL nw S2 (dacc ++ ys) else .bad)) := by
            intro S2 g3 H3 l3 r3 q3
            refine ⟨{ fx with B := upd fx.B D0 (.lst acc) }, rfl, rfl, g3, _, S2, r3, sl2.mono l3, ?_⟩
            cases e4 : fe dσ1 S2 with
            | bad => rw [e4] at q3; exact q3.elim
            | ex z S3 => rw [e4] at q3; exact q3.elim
            | ok z S3 =>
              rw [e4] at q3
              intro g4 H4 l4 r4 y ry
              obtain ⟨r5, h5⟩ := R.dropB r4 nB n0
              have q3 : ePost fx W g3 σ (tOf fx Q) (((compK s.ok (turnG sg own dσ fc fe) (xs.drop (i + 1)) S3).bind fun ys S4 => .ok (z :: ys) S4).bind fun ys S2 => if (dacc ++ ys).length ≤ sizeLine then newL nw S2 (dacc ++ ys) else .bad) := q3
              have ra4 : RelL fx.K fx.ca g4 acc dacc := ((ra.mono l2).mono l3).mono l4
              have q4 : ePost fx W g4 σ (tOf fx Q) ((compK s.ok (turnG sg own dσ fc fe) (xs.drop (i + 1)) S3).bind fun ys S2 => if ((dacc ++ [z]) ++ ys).length ≤ sizeLine then newL nw S2 ((dacc ++ [z]) ++ ys) else .bad) := by
                refine ePost.up ?_ l4
                cases e5 : compK s.ok (turnG sg own dσ fc fe) (xs.drop (i + 1)) S3 with
                | bad => rw [e5] at q3; exact q3.elim
                | ex w S4 => rw [e5] at q3; exact q3
                | ok w S4 =>
                  rw [e5] at q3
                  show ePost fx W g3 σ (tOf fx Q) (if ((dacc ++ [z]) ++ w).length ≤ sizeLine then newL nw S4 ((dacc ++ [z]) ++ w) else .bad)
                  rw [List.append_assoc]
                  exact q3
              have hlen : dacc.length < sizeLine := by
                obtain ⟨ys, S5, e5⟩ := compK_ok turn_nex q4
                rw [e5] at q4
                have q4 : ePost fx W g4 σ (tOf fx Q) (if ((dacc ++ [z]) ++ ys).length ≤ sizeLine then newL nw S5 ((dacc ++ [z]) ++ ys) else .bad) := q4
                by_cases hz : ((dacc ++ [z]) ++ ys).length ≤ sizeLine
                · simp only [List.length_append, List.length_cons, List.length_nil] at hz
                  omega
                · rw [if_neg hz] at q4
                  exact q4.elim
              exact ⟨acc, h5, by rw [ra4.length]; exact hlen, by omega, g4, S3, acc ++ [y], dacc ++ [z], hid H4 D0, ((le.trans l2).trans l3).trans l4, r5, hid_same, upd_hid.symm, ra4.append (RelL.one ry), q4⟩
          rcases htt with htt | ⟨htt, hfc⟩
          · subst htt
            refine ⟨{ fx with B := upd fx.B D0 (.lst acc) }, rfl, rfl, g2, _, S', r2, sl2, ?_⟩
            cases e3 : fc dσ1 S' with
            | bad => rw [e3] at q'; exact q'.elim
            | ex z S3 => rw [e3] at q'; exact q'.elim
            | ok z S3 =>
              rw [e3] at q'
              have q' : ePost fx W g' σ (tOf fx Q) (((noEx (match truD (look S3 z) with
                | some true => (fe dσ1 S3).bind fun z S3 => .ok (some z) S3
                | some false => .ok none S3
                | none => .bad)).bind fun o S3 => (compK s.ok (turnG sg own dσ fc fe) (xs.drop (i + 1)) S3).bind fun ys S4 => .ok (o.toList ++ ys) S4).bind fun ys S2 => if (dacc ++ ys).length ≤ sizeLine then newL nw S2 (dacc ++ ys) else .bad) := q'
              intro g3 H3 l3 r3
              cases e4 : truD (look S3 z) with
              | none => rw [e4] at q'; exact q'.elim
              | some b =>
                rw [e4] at q'
                refine ⟨b, e4, ?_⟩
                cases b with
                | true => exact iteT (yes S3 g3 H3 l3 r3 (ePost.up q' (l2.trans l3)))
                | false =>
                  refine iteF ?_
                  obtain ⟨r5, h5⟩ := R.dropB r3 nB n0
                  have q5 : ePost fx W g' σ (tOf fx Q) ((compK s.ok (turnG sg own dσ fc fe) (xs.drop (i + 1)) S3).bind fun ys S2 => if (dacc ++ ys).length ≤ sizeLine then newL nw S2 (dacc ++ ys) else .bad) := by
                    cases e5 : compK s.ok (turnG sg own dσ fc fe) (xs.drop (i + 1)) S3 with
                    | bad =>
                      have q' : ePost fx W g' σ (tOf fx Q) (((compK s.ok (turnG sg own dσ fc fe) (xs.drop (i + 1)) S3).bind fun ys S4 => .ok ([] ++ ys) S4).bind fun ys S2 => if (dacc ++ ys).length ≤ sizeLine then newL nw S2 (dacc ++ ys) else .bad) := q'
                      rw [e5] at q'
                      exact q'.elim
                    | ex w S4 =>
                      have q' : ePost fx W g' σ (tOf fx Q) (((compK s.ok (turnG sg own dσ fc fe) (xs.drop (i + 1)) S3).bind fun ys S4 => .ok ([] ++ ys) S4).bind fun ys S2 => if (dacc ++ ys).length ≤ sizeLine then newL nw S2 (dacc ++ ys) else .bad) := q'
                      rw [e5] at q'
                      exact q'
                    | ok w S4 =>
                      have q' : ePost fx W g' σ (tOf fx Q) (((compK s.ok (turnG sg own dσ fc fe) (xs.drop (i + 1)) S3).bind fun ys S4 => .ok ([] ++ ys) S4).bind fun ys S2 => if (dacc ++ ys).length ≤ sizeLine then newL nw S2 (dacc ++ ys) else .bad) := q'
                      rw [e5] at q'
                      exact q'
                  refine ⟨by omega, g3, S3, acc, dacc, hid H3 D0, (le.trans l2).trans l3, r5, hid_same, ?_, ((ra.mono l2).mono l3), ePost.up q5 (l2.trans l3)⟩
                  rw [upd_hid]
                  funext b
                  unfold upd
                  split
                  · rename_i hb
                    rw [hb, h5]
                  · rfl
          · subst htt hfc
            have z := yes S' g2 H2 (Gh.le.refl g2) r2 (ePost.up q' l2)
            simp only [tYes, ↓reduceIte]
            exact z
        · left
          have hr0 : R fx g' S' (upd H0 D0 (.lst acc)) := r'.same fun b o e => by rw [upd_ne (ne_of_none e hD0)]; exact e
          have ho := compK_here q'
          refine ⟨(hJ _ i g' S' _ rfl rfl le hr0 ho).2 hi, ?_⟩
          rw [List.drop_eq_nil_of_le hi, show compK s.ok (turnG sg own dσ fc fe) [] S' = .ok [] S' from by unfold compK; rw [if_pos ho]] at q'
          have q' : ePost fx W g' σ (tOf fx Q) (if (dacc ++ []).length ≤ sizeLine then newL nw S' (dacc ++ []) else .bad) := q'
          rw [List.append_nil] at q'
          by_cases hz : dacc.length ≤ sizeLine
          · rw [if_pos hz] at q'
            exact ePost.newL q' r' hD0 ra
          · rw [if_neg hz] at q'
            exact q'.elim
end
end MX
end

section
set_option maxRecDepth 100000
set_option maxHeartbeats 1000000
namespace MX
open PySem PySem.Spec PyProof.Rows L2

def sPost (fx : Fix) (W : WX) (g : Gh) (D : Ends) : SR → Prop
  | .nx dσ S => ∀ g' H' σ', g.le g' → R fx g' S H' → Sl fx g' dσ σ' → D.nx σ' H'
  | .bk dσ S => ∀ g' H' σ', g.le g' → R fx g' S H' → Sl fx g' dσ σ' → D.bk σ' H'
  | .ct dσ S => ∀ g' H' σ', g.le g' → R fx g' S H' → Sl fx g' dσ σ' → D.ct σ' H'
  | .rt d S => ∀ g' H' v, g.le g' → R fx g' S H' → RelD fx.K fx.ca g' v d → D.rt v H'
  | .ex x dσ S => ∀ cls dx g' H' σ', g.le g' → R fx g' S H' → Sl fx g' dσ σ' → RelX fx g' cls dx x → W cls dx σ' H'
  | .bad => False
def tS (fx : Fix) (W : WX) (f : DSt → Store → SR) : TS := fun D σ H => ∃ g dσ S, R fx g S H ∧ Sl fx g dσ σ ∧ sPost fx W g D (f dσ S)
theorem sPost.up {fx : Fix} {W : WX} {g g1 : Gh} {D : Ends} {r : SR} (h : sPost fx W g D r) (l : g.le g1) : sPost fx W g1 D r := by
  cases r with
  | nx d S => exact fun g' H' σ' l' => h g' H' σ' (l.trans l')
  | bk d S => exact fun g' H' σ' l' => h g' H' σ' (l.trans l')
  | ct d S => exact fun g' H' σ' l' => h g' H' σ' (l.trans l')
  | rt d S => exact fun g' H' v l' => h g' H' v (l.trans l')
  | ex x d S => exact fun c d g' H' σ' l' => h c d g' H' σ' (l.trans l')
  | bad => exact h
section
variable {fx : Fix} {W : WX} {g : Gh} {D : Ends} {σ : L2.St} {H : Hp} {dσ : DSt} {S : Store}
/-- an expression, then the rest -/
theorem tE.sr {f : DSt → Store → Res MX.D} {k : MX.D → Store → SR} (h : sPost fx W g D ((f dσ S).sr dσ k)) (r : R fx g S H) (sl : Sl fx g dσ σ) {Q' : VK}
    (hq : ∀ x S' v g' H', f dσ S = .ok x S' → g.le g' → R fx g' S' H' → RelD fx.K fx.ca g' v x → sPost fx W g' D (k x S') → Q' v H') : tE fx W f σ H Q' := by
  refine ⟨g, dσ, S, r, sl, ?_⟩
  cases e : f dσ S with
  | ok x S' =>
    rw [e] at h
    intro g' H' l r' v rv
    exact hq x S' v g' H' e l r' rv (sPost.up h l)
  | ex x S' =>
    rw [e] at h
    intro c d g' H' l r' rx
    exact h c d g' H' σ l r' (sl.mono l) rx
  | bad =>
    rw [e] at h
    exact h
theorem tT.sr {f : DSt → Store → Res MX.D} {k : MX.D → Store → SR} (h : sPost fx W g D ((f dσ S).sr dσ k)) (r : R fx g S H) (sl : Sl fx g dσ σ) {Q' : Bool → Hp → Prop}
    (hq : ∀ x S' g' H', f dσ S = .ok x S' → g.le g' → R fx g' S' H' → sPost fx W g' D (k x S') → ∃ b, truD (look S' x) = some b ∧ Q' b H') : tT fx W f σ H Q' := by
  refine ⟨g, dσ, S, r, sl, ?_⟩
  cases e : f dσ S with
  | ok x S' =>
    rw [e] at h
    intro g' H' l r'
    exact hq x S' g' H' e l r' (sPost.up h l)
  | ex x S' =>
    rw [e] at h
    intro c d g' H' l r' rx
    exact h c d g' H' σ l r' (sl.mono l) rx
  | bad =>
    rw [e] at h
    exact h
theorem tI.sr {f : DSt → Store → Res MX.D} {k : MX.D → Store → SR} (h : sPost fx W g D ((f dσ S).sr dσ k)) (r : R fx g S H) (sl : Sl fx g dσ σ) {kk : ItK} {Q' : It → Hp → Prop}
    (hq : ∀ x S' g' H', f dσ S = .ok x S' → g.le g' → R fx g' S' H' → sPost fx W g' D (k x S') → srcPost fx kk Q' g' x S' H') : tI fx W kk f σ H Q' := by
  refine ⟨g, dσ, S, r, sl, ?_⟩
  cases e : f dσ S with
  | ok x S' =>
    rw [e] at h
    intro g' H' l r'
    exact hq x S' g' H' e l r' (sPost.up h l)
  | ex x S' =>
    rw [e] at h
    intro c d g' H' l r' rx
    exact h c d g' H' σ l r' (sl.mono l) rx
  | bad =>
    rw [e] at h
    exact h
end
section
variable {X : Cx} {fx : Fix} {W : WX} {f h : DSt → Store → SR} {e : Expr} {fe : DSt → Store → Res D} {pos : Pos} {st : Stmt} {rest sb sc : List Stmt}
theorem ss_next {f : TS} : PSs X [] (tS fx W fun σ S => .nx σ S) := pss_imp pss_nil fun D σ H ⟨g, dσ, S, r, sl, q⟩ => q g H σ (Gh.le.refl g) r sl
theorem ss_pass : PS X (.Pass pos) (tS fx W fun σ S => .nx σ S) := ps_imp ps_pass fun D σ H ⟨g, dσ, S, r, sl, q⟩ => q g H σ (Gh.le.refl g) r sl
theorem ss_brk : PS X (.Break pos) (tS fx W fun σ S => .bk σ S) := ps_imp ps_break fun D σ H ⟨g, dσ, S, r, sl, q⟩ => q g H σ (Gh.le.refl g) r sl
theorem ss_cont : PS X (.Continue pos) (tS fx W fun σ S => .ct σ S) := ps_imp ps_continue fun D σ H ⟨g, dσ, S, r, sl, q⟩ => q g H σ (Gh.le.refl g) r sl
theorem ss_doc {x j p p'} : PS X (.Expr (.Constant (.str x) j p) p') (tS fx W fun σ S => .nx σ S) := ps_imp ps_doc fun D σ H ⟨g, dσ, S, r, sl, q⟩ => q g H σ (Gh.le.refl g) r sl
def seqS (f h : DSt → Store → SR) : DSt → Store → SR := fun σ S => match f σ S with
  | .nx σ1 S1 => h σ1 S1
  | r => r
theorem ss_seq (h1 : PS X st (tS fx W f)) (h2 : PSs X rest (tS fx W h)) : PSs X (st :: rest) (tS fx W (seqS f h)) := by
  refine pss_imp (pss_cons h1 h2) fun D σ H ⟨g, dσ, S, r, sl, q⟩ => ⟨g, dσ, S, r, sl, ?_⟩
  unfold seqS at q
  cases e : f dσ S with
  | nx d1 S1 =>
    rw [e] at q
    exact fun g' H' σ' l r' s' => ⟨g', d1, S1, r', s', sPost.up q l⟩
  | bk d1 S1 => rw [e] at q; exact q
  | ct d1 S1 => rw [e] at q; exact q
  | rt d1 S1 => rw [e] at q; exact q
  | ex x d1 S1 => rw [e] at q; exact q
  | bad => rw [e] at q; exact q
theorem ss_one (h1 : PS X st (tS fx W f)) : PSs X [st] (tS fx W f) := pss_one h1
theorem ss_asg {i : Nat} {x : Str} {p : Pos} (hN : X.N.Nodup) (hi : X.N[i]? = some x) (hx : Loc X.env.scope x) (he : PE X e (tE fx W fe)) (hs : swapsWith e (some (.Name x p)) pos.line X.env = pure false) (hf : X.fn x = true ∨ X.env.scope.names.lookup x = some .local) :
    PS X (.Assign [.Name x p] e pos) (tS fx W fun σ S => (fe σ S).sr σ fun d S1 => .nx (σ.set i (some d)) S1) := by
  refine ps_imp (ps_set hN hi hx he hs hf) fun D σ H ⟨g, dσ, S, r, sl, q⟩ => tE.sr q r sl fun d S1 v g1 H1 _ l1 r1 rv q1 => ?_
  exact q1 g1 H1 _ (Gh.le.refl g1) r1 ((sl.mono l1).set i rv)
theorem ss_ex (he : PE X e (tE fx W fe)) (hs : swapsWith e none pos.line X.env = pure false) : PS X (.Expr e pos) (tS fx W fun σ S => (fe σ S).sr σ fun _ S1 => .nx σ S1) := by
  refine ps_imp (ps_expr he hs) fun D σ H ⟨g, dσ, S, r, sl, q⟩ => tE.sr q r sl fun d S1 v g1 H1 _ l1 r1 rv q1 => ?_
  exact q1 g1 H1 σ (Gh.le.refl g1) r1 (sl.mono l1)
theorem ss_ret (he : PE X e (tE fx W fe)) : PS X (.Return (some e) pos) (tS fx W fun σ S => (fe σ S).sr σ fun d S1 => .rt d S1) := by
  refine ps_imp (ps_ret he) fun D σ H ⟨g, dσ, S, r, sl, q⟩ => tE.sr q r sl fun d S1 v g1 H1 _ l1 r1 rv q1 => ?_
  exact q1 g1 H1 v (Gh.le.refl g1) r1 rv
theorem ss_retN : PS X (.Return none pos) (tS fx W fun _ S => .rt .non S) := ps_imp ps_retN fun D σ H ⟨g, dσ, S, r, sl, q⟩ => q g H .non (Gh.le.refl g) r .non
theorem ss_if {fb fc : DSt → Store → SR} (he : PT X e (tT fx W fe)) (hb : PSs X sb (tS fx W fb)) (hc : PSs X sc (tS fx W fc)) : PS X (.If e sb sc pos) (tS fx W fun σ S => (fe σ S).sr σ fun x S1 => match truD (look S1 x) with
    | some true => fb σ S1
    | some false => fc σ S1
    | none => .bad) := by
  refine ps_imp (ps_if he hb hc) fun D σ H ⟨g, dσ, S, r, sl, q⟩ => tT.sr q r sl fun x S1 g1 H1 _ l1 r1 q1 => ?_
  cases e : truD (look S1 x) with
  | none => simp only [e] at q1; exact q1.elim
  | some b =>
    simp only [e] at q1
    refine ⟨b, rfl, ?_⟩
    cases b with
    | true => exact iteT ⟨g1, dσ, S1, r1, sl.mono l1, q1⟩
    | false => exact iteF ⟨g1, dσ, S1, r1, sl.mono l1, q1⟩
/-! ### while -/
theorem ss_whl {n : Nat} {fb : DSt → Store → SR} (hp : PassesOwn (model X.prog X.w) X.A X.env X.xe) (he : PT X e (tT fx W fe)) (hb : PSs X sb (tS fx W fb)) : PS X (.While e sb [] pos) (tS fx W fun σ S => whlL fe fb n σ S) := by
  refine ps_imp (ps_while hp he hb) fun D σ H ⟨g, dσ, S, r, sl, q⟩ => ?_
  refine ⟨fun m σ' H' => ∃ g' dσ' S', R fx g' S' H' ∧ Sl fx g' dσ' σ' ∧ sPost fx W g' D (whlL fe fb m dσ' S'), ⟨n, g, dσ, S, r, sl, q⟩, fun m σ' H' ⟨g', dσ', S', r', sl', q'⟩ => ?_⟩
  cases m with
  | zero => exact q'.elim
  | succ m =>
    have q' : sPost fx W g' D ((fe dσ' S').sr dσ' fun x S1 => match truD (look S1 x) with
      | some true => match fb dσ' S1 with
        | .nx σ1 S2 => whlL fe fb m σ1 S2
        | .ct σ1 S2 => whlL fe fb m σ1 S2
        | .bk σ1 S2 => .nx σ1 S2
        | .rt d S2 => .rt d S2
        | .ex x σ1 S2 => .ex x σ1 S2
        | .bad => .bad
      | some false => .nx dσ' S1
      | none => .bad) := q'
    refine tT.sr q' r' sl' fun x S1 g1 H1 _ l1 r1 q1 => ?_
    cases e : truD (look S1 x) with
    | none => simp only [e] at q1; exact q1.elim
    | some b =>
      simp only [e] at q1
      refine ⟨b, rfl, ?_⟩
      cases b with
      | false => exact iteF (q1 g1 H1 σ' (Gh.le.refl g1) r1 (sl'.mono l1))
      | true =>
        refine iteT ⟨fun σ2 H2 => ∃ g' dσ' S', R fx g' S' H2 ∧ Sl fx g' dσ' σ2 ∧ sPost fx W g' D (whlL fe fb m dσ' S'), fun σ2 H2 h2 => ⟨m, Nat.lt_succ_self m, h2⟩, g1, dσ', S1, r1, sl'.mono l1, ?_⟩
        have q1 : sPost fx W g1 D (match fb dσ' S1 with
          | .nx σ1 S2 => whlL fe fb m σ1 S2
          | .ct σ1 S2 => whlL fe fb m σ1 S2
          | .bk σ1 S2 => .nx σ1 S2
          | .rt d S2 => .rt d S2
          | .ex x σ1 S2 => .ex x σ1 S2
          | .bad => .bad) := q1
        cases e2 : fb dσ' S1 with
        | nx d1 S2 => rw [e2] at q1; exact fun g2 H2 σ2 l2 r2 s2 => ⟨g2, d1, S2, r2, s2, sPost.up q1 l2⟩
        | ct d1 S2 => rw [e2] at q1; exact fun g2 H2 σ2 l2 r2 s2 => ⟨g2, d1, S2, r2, s2, sPost.up q1 l2⟩
        | bk d1 S2 => rw [e2] at q1; exact q1
        | rt d1 S2 => rw [e2] at q1; exact q1
        | ex x d1 S2 => rw [e2] at q1; exact q1
        | bad => rw [e2] at q1; exact q1
/-! ### for -/
/-- a turn of a for over any target -/
def bodyG (sg : DSt → D → Option DSt) (fb : DSt → Store → SR) (x : D) (σ : DSt) (S : Store) : SR := match sg σ x with
  | some σ1 => fb σ1 S
  | none => .bad
theorem forK_here {ok : Store → Bool} {f : MX.D → DSt → Store → SR} {xs : List MX.D} {dσ : DSt} {S : Store} {g : Gh} {D : Ends} (q : sPost fx W g D (forK ok f xs dσ S)) : ok S = true := by
  cases e : ok S with
  | true => rfl
  | false => cases xs <;> (unfold forK at q; rw [e] at q; exact q.elim)
theorem ss_forG {k : ItK} {sg : DSt → D → Option DSt} {G : TG} {own : List Nat} {tg : Expr} {fb : DSt → Store → SR} (hp : PassesOwn (model X.prog X.w) X.A X.env X.xe) (hc : X.calm = true) (hi : PI X tg e (tI fx W k fe)) (hg : PG X tg G) (tk : TgOk fx.K fx.ca G sg own) (hb : PSs X sb (tS fx W fb)) (hs : ∀ x, foldedSetIterable e X.env x = pure x) :
    PS X (.For tg e sb [] pos) (tS fx W fun σ S => (fe σ S).sr σ fun d S1 => match srcD k S1 d with
      | some s => forK s.ok (fun x σ S => bodyG sg fb x σ S) s.xs σ S1
      | none => .bad) := by
  refine ps_imp (ps_for hp hc hi hg hb hs) fun D σ H ⟨g, dσ, S, r, sl, q⟩ => ?_
  show tI fx W k fe σ H _
  refine tI.sr q r sl fun d S1 g1 H1 _ l1 r1 q1 => ?_
  cases hx : srcD k S1 d with
  | none => rw [hx] at q1; exact q1.elim
  | some s =>
      rw [hx] at q1
      refine ⟨s, hx, fun J hJ => ?_⟩
      have q1 : sPost fx W g1 D (forK s.ok (fun x σ S => bodyG sg fb x σ S) s.xs dσ S1) := q1
      generalize s.xs = xs at *
      generalize s.ok = ok at *
      refine ⟨fun i m σ' H' => m + i = xs.length ∧ ∃ g' dσ' S', g1.le g' ∧ R fx g' S' H' ∧ Sl fx g' dσ' σ' ∧ sPost fx W g' D (forK ok (fun x σ S => bodyG sg fb x σ S) (xs.drop i) dσ' S'), ⟨xs.length, rfl, g1, dσ, S1, Gh.le.refl g1, r1, sl.mono l1, by rw [List.drop_zero]; exact q1⟩, ?_⟩
      intro i m σ' H' ⟨hm, g', dσ', S', le, r', sl', q'⟩
      have ho := forK_here q'
      rcases Nat.lt_or_ge i xs.length with hi | hi
      · right
        obtain ⟨hgo, hyl⟩ := (hJ fx i g' S' _ rfl rfl le r' ho).1 hi
        refine ⟨hgo, fun σ2 H2 => m - 1 + (i + 1) = xs.length ∧ ∃ g' dσ' S', g1.le g' ∧ R fx g' S' H2 ∧ Sl fx g' dσ' σ2 ∧ sPost fx W g' D (forK ok (fun x σ S => bodyG sg fb x σ S) (xs.drop (i + 1)) dσ' S'), fun σ2 H2 h2 => ⟨m - 1, by omega, h2⟩, fun x H2 hy => ?_⟩
        obtain ⟨g2, dx, l2, r2, ex, rx⟩ := hyl x H2 hy
        have hd : xs.drop i = dx :: xs.drop (i + 1) := by
          rw [List.drop_eq_getElem_cons hi]
          rw [List.getElem?_eq_getElem hi] at ex
          rw [Option.some.inj ex]
        rw [hd] at q'
        have q' : sPost fx W g' D (if ok S' then match bodyG sg fb dx dσ' S' with
          | .nx σ1 S1 => forK ok (fun x σ S => bodyG sg fb x σ S) (xs.drop (i + 1)) σ1 S1
          | .ct σ1 S1 => forK ok (fun x σ S => bodyG sg fb x σ S) (xs.drop (i + 1)) σ1 S1
          | .bk σ1 S1 => .nx σ1 S1
          | .rt d S1 => .rt d S1
          | .ex x σ1 S1 => .ex x σ1 S1
          | .bad => .bad
          else .bad) := q'
        rw [if_pos ho] at q'
        cases e0 : sg dσ' dx with
        | none =>
          have et : bodyG sg fb dx dσ' S' = .bad := by unfold bodyG; rw [e0]
          rw [et] at q'
          exact q'.elim
        | some dσ1 =>
        have et : bodyG sg fb dx dσ' S' = fb dσ1 S' := by unfold bodyG; rw [e0]
        rw [et] at q'
        refine tk.run fx g2 S' H2 dσ' dσ1 σ' x dx _ rfl rfl r2 (sl'.mono l2) rx e0 fun σ1 sl1 _ => ⟨g2, dσ1, S', r2, sl1, ?_⟩
        cases e2 : fb dσ1 S' with
        | nx d1 S2 =>
          rw [e2] at q'
          exact fun g3 H3 σ3 l3 r3 s3 => ⟨by omega, g3, d1, S2, (le.trans l2).trans l3, r3, s3, sPost.up q' (l2.trans l3)⟩
        | ct d1 S2 =>
          rw [e2] at q'
          exact fun g3 H3 σ3 l3 r3 s3 => ⟨by omega, g3, d1, S2, (le.trans l2).trans l3, r3, s3, sPost.up q' (l2.trans l3)⟩
        | bk d1 S2 =>
          rw [e2] at q'
          exact fun g3 H3 σ3 l3 r3 s3 => q' g3 H3 σ3 (l2.trans l3) r3 s3
        | rt d1 S2 =>
          rw [e2] at q'
          exact fun g3 H3 σ3 l3 r3 s3 => q' g3 H3 σ3 (l2.trans l3) r3 s3
        | ex x d1 S2 =>
          rw [e2] at q'
          exact fun c dd g3 H3 σ3 l3 r3 s3 => q' c dd g3 H3 σ3 (l2.trans l3) r3 s3
        | bad => rw [e2] at q'; exact q'
      · left
        refine ⟨(hJ fx i g' S' _ rfl rfl le r' ho).2 hi, ?_⟩
        rw [List.drop_eq_nil_of_le hi] at q'
        have q' : sPost fx W g' D (if ok S' then .nx dσ' S' else .bad) := q'
        rw [if_pos ho] at q'
        exact q' g' H' σ' (Gh.le.refl g') r' sl'
/-! ### x op= e -/
theorem aug_op {op : Bop} {x y : D} {k : Int} (h : augI op x y = some k) : ∃ i j, x = .int i ∧ y = .int j ∧ ((op = .add ∧ k = i + j) ∨ (op = .sub ∧ k = i - j)) := by
  unfold augI at h
  split at h
  · cases h; exact ⟨_, _, rfl, rfl, .inl ⟨rfl, rfl⟩⟩
  · cases h; exact ⟨_, _, rfl, rfl, .inr ⟨rfl, rfl⟩⟩
  · cases h
end
end MX
end

section
set_option maxRecDepth 100000
set_option maxHeartbeats 1000000
namespace MX
open PySem PySem.Spec PyProof.Rows L2
/-! ### targets of names; zip, enumerate, reversed -/
def gL : List Nat → TGs
  | [] => gNil
  | i :: is => gCons (gName i) (gL is)
def gT (K : PySem.W.Frag) : Tg → TG
  | .n i => gName i
  | .t is => gTup K is.length (gL is)
def Tg.slots : Tg → List Nat
  | .n i => [i]
  | .t is => is
theorem setL_len : ∀ {is : List Nat} {xs : List D} {σ σ' : DSt}, setL is xs σ = some σ' → is.length = xs.length
  | [], [], _, _, _ => rfl
  | [], _ :: _, _, _, h => by cases h
  | _ :: _, [], _, _, h => by cases h
  | i :: is, x :: xs, σ, σ', h => by
    have h : setL is xs (σ.set i (some x)) = some σ' := h
    rw [List.length_cons, List.length_cons, setL_len h]
theorem gL_run {fx : Fix} {g : Gh} {H : Hp} {own : List Nat} {dσ' : DSt} {Q : L2.St → Hp → Prop} : ∀ {is : List Nat} {vs : List V} {xs : List D} {dσ : DSt} {σ : L2.St}, (∀ i ∈ is, i ∈ own) → RelL fx.K fx.ca g vs xs → Sl fx g dσ σ → setL is xs dσ = some dσ' → (∀ σ', Sl fx g dσ' σ' → L2.wipe σ' own = L2.wipe σ own → Q σ' H) → gL is vs σ H Q
  | [], _, _, dσ, σ, _, .nil, sl, e, h => by
    cases e
    exact ⟨rfl, h _ sl rfl⟩
  | _ :: _, _, _, _, _, _, .nil, _, e, _ => by cases e
  | [], _, _, _, _, _, .cons _ _, _, e, _ => by cases e
  | i :: is, _, _, dσ, σ, ho, .cons (v := v) (vs := vs) (d := d) (ds := ds) a b, sl, e, h => by
    have e : setL is ds (dσ.set i (some d)) = some dσ' := e
    refine ⟨v, vs, rfl, ?_⟩
    show gL is vs (σ.set i (some v)) H Q
    exact gL_run (fun j hj => ho j (List.mem_cons_of_mem _ hj)) b (sl.set i a) e fun σ' s w => h σ' s (w.trans (wipe_put (ho i List.mem_cons_self)))
theorem tg_ok {K : PySem.W.Frag} {ca : String → Addr} {own : List Nat} : ∀ {tg : Tg}, (∀ i ∈ tg.slots, i ∈ own) → TgOk K ca (gT K tg) (fun σ x => setT tg σ x) own
  | .n i, ho => tg_name (ho i (List.mem_singleton.mpr rfl))
  | .t is, ho => ⟨fun fx g S H dσ dσ' σ x dx Q k1 k2 r sl rx e h => by
    subst k1 k2
    cases dx with
    | tup xs =>
      have e : setL is xs dσ = some dσ' := e
      obtain ⟨p, vs, rfl, h1, h2⟩ := rx.iTup
      exact ⟨p, vs, rfl, SqT.of (r.frz _ _ h1), by rw [h2.length, setL_len e], gL_run ho h2 sl e h⟩
    | _ => cases e⟩
/-- a target's text -/
def chkTL (p : Nat → Str → Bool) : List Nat → List Expr → Bool
  | [], [] => true
  | i :: is, .Name x _ :: es => p i x && chkTL p is es
  | _, _ => false
def chkT (p : Nat → Str → Bool) : Tg → Expr → Bool
  | .n i, .Name x _ => p i x
  | .t is, .Tuple es _ _ => chkTL p is es
  | _, _ => false
theorem pgs_of {X : Cx} {p : Nat → Str → Bool} (hp : ∀ i x q, p i x = true → PG X (.Name x q) (gName i)) : ∀ {is : List Nat} {es : List Expr}, chkTL p is es = true → PGs X es (gL is) ∧ (assignEach es X.env).length = is.length ∧ (assignEach es X.env).findIdx? (·.1) = none
  | [], [], _ => ⟨pgs_nil, rfl, rfl⟩
  | [], e :: es, h => by cases e <;> cases h
  | _ :: _, [], h => by cases h
  | i :: is, e :: es, h => by
    cases e with
    | Name x q =>
      have h : (p i x && chkTL p is es) = true := h
      rw [Bool.and_eq_true] at h
      obtain ⟨h1, h2, h3⟩ := pgs_of hp h.2
      have ea : assignEach (.Name x q :: es) X.env = (false, assign (.Name x q) X.env) :: assignEach es X.env := rfl
      refine ⟨pgs_cons (hp i x q h.1) h1, by rw [ea, List.length_cons, List.length_cons, h2], ?_⟩
      rw [ea, List.findIdx?_cons]
      simp only [Bool.false_eq_true, if_false, h3, Option.map_none]
    | _ => cases h
theorem pg_of {X : Cx} {p : Nat → Str → Bool} {tg : Tg} {e : Expr} (hc : X.calm = true) (hp : ∀ i x q, p i x = true → PG X (.Name x q) (gName i)) (h : chkT p tg e = true) : PG X e (gT X.K tg) := by
  cases tg with
  | n i =>
    cases e with
    | Name x q => exact hp i x q h
    | _ => cases h
  | t is =>
    cases e with
    | Tuple es k q =>
      obtain ⟨h1, h2, h3⟩ := pgs_of hp (show chkTL p is es = true from h)
      exact pg_tup hc h1 h2 h3
    | _ => cases h
section
variable {fx : Fix} {g : Gh}
theorem zip_at {xs ys : List D} {i : Nat} (i1 : i < xs.length) (i2 : i < ys.length) : ((List.zip xs ys).map fun p => D.tup [p.1, p.2])[i]? = some (.tup [xs[i], ys[i]]) := by
  rw [List.getElem?_map]
  have z : (List.zip xs ys)[i]? = some (xs[i], ys[i]) := by
    rw [List.getElem?_zip_eq_some]
    exact ⟨List.getElem?_eq_getElem i1, List.getElem?_eq_getElem i2⟩
  rw [z]
  rfl
theorem good_zip {a b : Addr} {xs ys : List D} {o1 o2 : Store → Bool} (hv : Stands fx g o1 a xs false) (hw : Stands fx g o2 b ys false) : GoodIt fx g (fun S => o1 S && o2 S) (Itz fx.K a b) ((List.zip xs ys).map fun p => D.tup [p.1, p.2]) := by
  intro fx2 i g1 S1 H1 k1 k2 l1 r1 o
  rw [Bool.and_eq_true] at o
  obtain ⟨vs, h1, rv⟩ := hv.sqL k1 k2 l1 r1 o.1
  obtain ⟨ws, h2, rw_⟩ := hw.sqL k1 k2 l1 r1 o.2
  have lz := rv.length
  have lw := rw_.length
  refine ⟨fun hi => ?_, fun hi => ⟨vs, ws, h1, h2, ?_⟩⟩
  · rw [List.length_map, List.length_zip] at hi
    have i1 : i < xs.length := by omega
    have i2 : i < ys.length := by omega
    obtain ⟨v, e1, e2⟩ := rv.get (List.getElem?_eq_getElem i1)
    obtain ⟨w, e3, e4⟩ := rw_.get (List.getElem?_eq_getElem i2)
    refine ⟨⟨vs, ws, v, w, h1, h2, e1, e3⟩, fun x H' ⟨T, x0, y0, eT, hT, eh, hx, hy⟩ => ?_⟩
    subst eT eh
    have hxv := hx vs h1
    rw [e1] at hxv
    cases hxv
    have hyw := hy ws h2
    rw [e3] at hyw
    cases hyw
    obtain ⟨r', l'⟩ := r1.laid (o := .tup [v, w]) hT
    exact ⟨_, .tup [xs[i], ys[i]], l', r', zip_at i1 i2, .tup (show upd g1.F T _ T = _ from upd_same) (.cons (e2.mono l') (.cons (e4.mono l') .nil))⟩
  · rw [List.length_map, List.length_zip] at hi
    omega
theorem good_zipT {a b : Addr} {xs ys : List D} {o1 o2 : Store → Bool} (hv : Stands fx g o1 a xs true) (hw : Stands fx g o2 b ys true) : GoodIt fx g (fun S => o1 S && o2 S) (RZ.ItzT fx.K a b) ((List.zip xs ys).map fun p => D.tup [p.1, p.2]) := by
  intro fx2 i g1 S1 H1 k1 k2 l1 r1 o
  rw [Bool.and_eq_true] at o
  obtain ⟨vs, h1, rv⟩ := hv.sqT k1 k2 l1 r1 o.1
  obtain ⟨ws, h2, rw_⟩ := hw.sqT k1 k2 l1 r1 o.2
  have lz := rv.length
  have lw := rw_.length
  refine ⟨fun hi => ?_, fun hi => ⟨vs, ws, h1, h2, ?_⟩⟩
  · rw [List.length_map, List.length_zip] at hi
    have i1 : i < xs.length := by omega
    have i2 : i < ys.length := by omega
    obtain ⟨v, e1, e2⟩ := rv.get (List.getElem?_eq_getElem i1)
    obtain ⟨w, e3, e4⟩ := rw_.get (List.getElem?_eq_getElem i2)
    refine ⟨⟨vs, ws, v, w, h1, h2, e1, e3⟩, fun x H' ⟨T, x0, y0, eT, hT, eh, hx, hy⟩ => ?_⟩
    subst eT eh
    have hxv := hx vs h1
    rw [e1] at hxv
    cases hxv
    have hyw := hy ws h2
    rw [e3] at hyw
    cases hyw
    obtain ⟨r', l'⟩ := r1.laid (o := .tup [v, w]) hT
    exact ⟨_, .tup [xs[i], ys[i]], l', r', zip_at i1 i2, .tup (show upd g1.F T _ T = _ from upd_same) (.cons (e2.mono l') (.cons (e4.mono l') .nil))⟩
  · rw [List.length_map, List.length_zip] at hi
    omega
theorem enumL_at : ∀ {xs : List D} {k i : Nat} {d : D}, xs[i]? = some d → (enumL k xs)[i]? = some (.tup [.int ((k + i : Nat) : Int), d])
  | [], k, i, d, h => by simp at h
  | x :: xs, k, 0, d, h => by
    simp at h
    subst h
    rfl
  | x :: xs, k, i + 1, d, h => by
    have h : xs[i]? = some d := by simpa using h
    show (enumL (k + 1) xs)[i]? = _
    rw [enumL_at h, show k + 1 + i = k + (i + 1) by omega]
theorem enumL_len : ∀ (xs : List D) (k : Nat), (enumL k xs).length = xs.length
  | [], _ => rfl
  | x :: xs, k => by
    show (enumL (k + 1) xs).length + 1 = _
    rw [enumL_len xs, List.length_cons]
theorem good_enum {a : Addr} {xs : List D} {ok : Store → Bool} (hv : Stands fx g ok a xs false) : GoodIt fx g ok (Ite fx.K a) (enumL 0 xs) := by
  intro fx2 i g1 S1 H1 k1 k2 l1 r1 o
  obtain ⟨vs, h1, rv⟩ := hv.sqL k1 k2 l1 r1 o
  have lz := rv.length
  refine ⟨fun hi => ?_, fun hi => ⟨vs, h1, by rw [enumL_len] at hi; omega⟩⟩
  rw [enumL_len] at hi
  obtain ⟨v, e1, e2⟩ := rv.get (List.getElem?_eq_getElem hi)
  refine ⟨⟨vs, v, h1, e1⟩, fun x H' ⟨T, x0, eT, hT, eh, hx⟩ => ?_⟩
  subst eT eh
  have hxv := hx vs h1
  rw [e1] at hxv
  cases hxv
  obtain ⟨r', l'⟩ := r1.laid (o := .tup [.int ((i : Nat) : Int), v]) hT
  exact ⟨_, .tup [.int ((0 + i : Nat) : Int), xs[i]], l', r', enumL_at (List.getElem?_eq_getElem hi), .tup (show upd g1.F T _ T = _ from upd_same) (.cons (by rw [Nat.zero_add]; exact .int _) (.cons (e2.mono l') .nil))⟩
theorem good_rev {a : Addr} {xs : List D} {ok : Store → Bool} (hv : Stands fx g ok a xs false) : GoodIt fx g ok (Itv fx.K a xs.length) xs.reverse := by
  intro fx2 i g1 S1 H1 k1 k2 l1 r1 o
  obtain ⟨vs, h1, rv⟩ := hv.sqL k1 k2 l1 r1 o
  have lz := rv.length
  refine ⟨fun hi => ?_, fun hi => (by rw [List.length_reverse] at hi; exact hi)⟩
  rw [List.length_reverse] at hi
  have hj : xs.length - 1 - i < xs.length := by omega
  obtain ⟨v, e1, e2⟩ := rv.get (List.getElem?_eq_getElem hj)
  refine ⟨⟨hi, vs, v, h1, e1⟩, fun x H' ⟨eh, hx⟩ => ?_⟩
  subst eh
  have hxv := hx vs h1
  rw [e1] at hxv
  cases hxv
  exact ⟨g1, _, Gh.le.refl g1, r1, by rw [List.getElem?_reverse hi, List.getElem?_eq_getElem hj], e2⟩
end
theorem RelL.reverse {K : PySem.W.Frag} {ca : String → Addr} {g : Gh} : ∀ {vs : List V} {ds : List D}, RelL K ca g vs ds → RelL K ca g vs.reverse ds.reverse
  | _, _, .nil => .nil
  | _, _, .cons a b => by
    rw [List.reverse_cons, List.reverse_cons]
    exact b.reverse.append (RelL.one a)
section
variable {X : Cx} {fx : Fix} {W : WX} {f h : DSt → Store → Res D} {a b : Expr} {pos tpos : Pos} {elts : List Expr} {kk : Nat}
/-- a[::-1] -/
theorem s_rev {k : Nat} {p1 p2 p3 : Pos} (hK : fx.K = X.K) (ha : PE X a (tE fx W f)) : PE X (.Subscript a (.Slice none none (some (.UnaryOp .USub (.Constant (.int 1) k p1) p2)) p3) pos) (tE fx W fun σ S => (f σ S).bind fun x S1 => match MX.look S1 x with
    | .lst xs => .ok (.lst xs.reverse) S1
    | _ => .bad) := by
  refine pe_imp (L2.pe_revL ha) fun σ H Q ⟨g, dσ, S, r, sl, q⟩ => tE.bind q r sl fun x S1 v g1 H1 _ l1 r1 x1 q1 => ?_
  cases ex : MX.look S1 x with
  | lst xs =>
    simp only [ex] at q1
    obtain ⟨a, ws, rfl, h1, h2⟩ := r1.lst x1 ex
    exact ⟨a, ws, rfl, SqL.of h1, fun p hp => q1.new r1 hp fun g' le e => .lst e (h2.reverse.mono le)⟩
  | _ => simp only [ex] at q1; exact q1.elim
/-- what the arguments of a walk's call are -/
theorem tA.src {kk : ItK} {σ : L2.St} {H : Hp} {Q : It → Hp → Prop} (q : tI fx W kk f σ H Q) {Q' : List V → Hp → Prop} (hq : ∀ x S' vs g' H', R fx g' S' H' → RelL fx.K fx.ca g' vs (unT x) → srcPost fx kk Q g' x S' H' → Q' vs H') : tA fx W f σ H Q' := by
  obtain ⟨g, dσ, S, r, sl, q⟩ := q
  refine ⟨g, dσ, S, r, sl, ?_⟩
  cases e : f dσ S with
  | ok x S' =>
    rw [e] at q
    intro g' H' l r' vs rv
    exact hq x S' vs g' H' r' rv (q g' H' l r')
  | ex x S' =>
    rw [e] at q
    exact q
  | bad =>
    rw [e] at q
    exact q
theorem RelL.one_of {K : PySem.W.Frag} {ca : String → Addr} {g : Gh} {vs : List V} {a : D} (r : RelL K ca g vs [a]) : ∃ x, vs = [x] ∧ RelD K ca g x a := by
  cases r with
  | cons h1 r1 =>
    cases r1
    exact ⟨_, rfl, h1⟩
theorem RelL.two {K : PySem.W.Frag} {ca : String → Addr} {g : Gh} {vs : List V} {a b : D} (r : RelL K ca g vs [a, b]) : ∃ x y, vs = [x, y] ∧ RelD K ca g x a ∧ RelD K ca g y b := by
  cases r with
  | cons h1 r1 =>
    obtain ⟨y, rfl, h2⟩ := r1.one_of
    exact ⟨_, _, rfl, h1, h2⟩
theorem srcD_zip {S : Store} {d : D} {s : Src} (h : srcD .zip S d = some s) : ∃ a b, d = .tup [a, b] ∧ zipG (alikeS S a b) (seqD S a) (seqD S b) = some s := by
  cases d with
  | tup l =>
    match l, h with
    | [a, b], h => exact ⟨a, b, rfl, h⟩
    | [], h => cases h
    | [_], h => cases h
    | _ :: _ :: _ :: _, h => cases h
  | _ => cases h
theorem srcD_enum {S : Store} {d : D} {s : Src} (h : srcD .enum S d = some s) : ∃ a, d = .tup [a] ∧ enumG (isLst S a) (seqD S a) = some s := by
  cases d with
  | tup l =>
    match l, h with
    | [a], h => exact ⟨a, rfl, h⟩
    | [], h => cases h
    | _ :: _ :: _, h => cases h
  | _ => cases h
theorem srcD_rev {S : Store} {d : D} {s : Src} (h : srcD .rev S d = some s) : ∃ a, d = .tup [a] ∧ revG (isLst S a) (seqD S a) = some s := by
  cases d with
  | tup l =>
    match l, h with
    | [a], h => exact ⟨a, rfl, h⟩
    | [], h => cases h
    | _ :: _ :: _, h => cases h
  | _ => cases h
/-- zip(a, b) -/
theorem i_zip {p : Pos} (hK : fx.K = X.K) (hg : Gl X "zip") (hm : X.mg "zip" = none) (ha : PA X [a, b] (tA fx W f)) (hs : starEach [a, b] X.env = (false, eval a X.env) :: starEach [b] X.env) (hs2 : starEach [b] X.env = (false, eval b X.env) :: starEach [] X.env) :
    PI X (.Tuple elts kk tpos) (.Call (.Name "zip" p) [a, b] [] pos) (tI fx W .zip f) := by
  refine pi_imp (RZ.pi_zipA hg hm ha hs (by rw [hs2]; rfl)) fun σ H Q q => ?_
  refine tA.src q fun x S' vs g' H' r' rv ⟨s, hs, hJ⟩ => ?_
  rw [← hK]
  obtain ⟨a, b, rfl, hz⟩ := srcD_zip hs
  · replace hs := hz
    obtain ⟨v, w, rfl, ra, rb⟩ := RelL.two rv
    cases ea : seqD S' a with
    | none =>
      cases h : alikeS S' a b <;> (rw [h, ea] at hs; cases hs)
    | some s1 =>
      cases eb : seqD S' b with
      | none => cases h : alikeS S' a b <;> (rw [h, ea, eb] at hs; cases hs)
      | some s2 =>
        cases h : alikeS S' a b with
        | false => rw [h, ea, eb] at hs; cases hs
        | true =>
          rw [h, ea, eb] at hs
          cases hs
          have o1 := seq_ok0 ea
          have o2 := seq_ok0 eb
          obtain ⟨pa, rfl, ha⟩ := r'.stands ra ea
          obtain ⟨pb, rfl, hb⟩ := r'.stands rb eb
          unfold alikeS at h
          rcases ha with ⟨⟨xs, exa⟩, sa⟩ | ⟨na, sa⟩
          · rcases hb with ⟨⟨ys, exb⟩, sb⟩ | ⟨nb, sb⟩
            · obtain ⟨vs, h1, _⟩ := sa.sqT rfl rfl (Gh.le.refl g') r' o1
              obtain ⟨ws, h2, _⟩ := sb.sqT rfl rfl (Gh.le.refl g') r' o2
              exact ⟨pa, pb, vs, ws, rfl, .inr ⟨h1, h2, hJ _ (good_zipT sa sb)⟩⟩
            · rw [exa] at h
              cases exb : MX.look S' b <;> rw [exb] at h <;> first | exact absurd exb (nb _) | cases h
          · rcases hb with ⟨⟨ys, exb⟩, sb⟩ | ⟨nb, sb⟩
            · rw [exb] at h
              cases exa : MX.look S' a <;> rw [exa] at h <;> first | exact absurd exa (na _) | cases h
            · obtain ⟨vs, h1, _⟩ := sa.sqL rfl rfl (Gh.le.refl g') r' o1
              obtain ⟨ws, h2, _⟩ := sb.sqL rfl rfl (Gh.le.refl g') r' o2
              exact ⟨pa, pb, vs, ws, rfl, .inl ⟨h1, h2, hJ _ (good_zip sa sb)⟩⟩
/-- a list that stands -/
theorem lst_stands {g : Gh} {S : Store} {H : Hp} {v : V} {d : D} {s : Src} (r : R fx g S H) (h : RelD fx.K fx.ca g v d) (e : seqD S d = some s) (l : isLst S d = true) : ∃ a vs, v = .ref a ∧ Stands fx g s.ok a s.xs false ∧ SqL fx.K H a vs ∧ vs.length = s.xs.length := by
  obtain ⟨p, rfl, ⟨⟨_, y⟩, _⟩ | ⟨_, st⟩⟩ := r.stands h e
  · unfold isLst at l
    rw [y] at l
    cases l
  · obtain ⟨vs, h1, h2⟩ := st.sqL rfl rfl (Gh.le.refl g) r (seq_ok0 e)
    exact ⟨p, vs, rfl, st, h1, h2.length⟩
/-- enumerate(a) -/
theorem i_enum {p : Pos} (hK : fx.K = X.K) (hg : Gl X "enumerate") (hm : X.mg "enumerate" = none) (ha : PA X [a] (tA fx W f)) (hs : starEach [a] X.env = (false, eval a X.env) :: starEach [] X.env) :
    PI X (.Tuple elts kk tpos) (.Call (.Name "enumerate" p) [a] [] pos) (tI fx W .enum f) := by
  refine pi_imp (pi_enum hg hm ha hs) fun σ H Q q => ?_
  refine tA.src q fun x S' vs g' H' r' rv ⟨s, hs, hJ⟩ => ?_
  rw [← hK]
  obtain ⟨a, rfl, hz⟩ := srcD_enum hs
  · replace hs := hz
    obtain ⟨v, rfl, ra⟩ := RelL.one_of rv
    cases ea : seqD S' a with
    | none => cases h : isLst S' a <;> (rw [h, ea] at hs; cases hs)
    | some s1 =>
      cases h : isLst S' a with
      | false => rw [h, ea] at hs; cases hs
      | true =>
        rw [h, ea] at hs
        cases hs
        obtain ⟨p, vs, rfl, st, h1, _⟩ := lst_stands r' ra ea h
        exact ⟨p, vs, rfl, h1, hJ _ (good_enum st)⟩
/-- reversed(a) -/
theorem i_rev {p : Pos} {tg : Expr} (hK : fx.K = X.K) (hg : Gl X "reversed") (hm : X.mg "reversed" = none) (ha : PA X [a] (tA fx W f)) (hs : starEach [a] X.env = (false, eval a X.env) :: starEach [] X.env) :
    PI X tg (.Call (.Name "reversed" p) [a] [] pos) (tI fx W .rev f) := by
  refine pi_imp (pi_reversed hg hm ha hs) fun σ H Q q => ?_
  refine tA.src q fun x S' vs g' H' r' rv ⟨s, hs, hJ⟩ => ?_
  rw [← hK]
  obtain ⟨a, rfl, hz⟩ := srcD_rev hs
  · replace hs := hz
    obtain ⟨v, rfl, ra⟩ := RelL.one_of rv
    cases ea : seqD S' a with
    | none => cases h : isLst S' a <;> (rw [h, ea] at hs; cases hs)
    | some s1 =>
      cases h : isLst S' a with
      | false => rw [h, ea] at hs; cases hs
      | true =>
        rw [h, ea] at hs
        cases hs
        obtain ⟨p, vs, rfl, st, h1, hl⟩ := lst_stands r' ra ea h
        exact ⟨p, vs, rfl, h1, by rw [hl]; exact hJ _ (good_rev st)⟩
end
end MX
end

section
set_option maxRecDepth 100000
set_option maxHeartbeats 1000000
namespace MX
open PySem PySem.Spec PyProof.Rows L2

theorem ofStr_inj {a b : String} (h : Str.ofString a = Str.ofString b) : a = b := by
  rw [Str.ofString_eq_toList, Str.ofString_eq_toList] at h
  have h2 : a.toList.map Char.toNat = b.toList.map Char.toNat := by
    have := congrArg (fun s : Str => s.cps.toList) h
    simpa using this
  exact String.toList_inj.mp ((List.map_inj_right (fun x y e => Char.toNat_inj.mp e)).mp h2)
theorem RelF.look {K : PySem.W.Frag} {ca : String → Addr} {g : Gh} {x : String} {d : D} : ∀ {vs : List (Str × V)} {fs : List (String × D)}, RelF K ca g vs fs → fs.lookup x = some d → ∃ v, vs.lookup (Str.ofString x) = some v ∧ RelD K ca g v d
  | _, _, .nil, e => by cases e
  | _, _, .cons (x := y) (v := v) (vs := vs) (ds := ds) a b, e => by
    rw [List.lookup_cons] at e
    by_cases hy : x = y
    · subst hy
      rw [beq_self_eq_true] at e
      cases e
      exact ⟨v, by rw [List.lookup_cons, beq_self_eq_true], a⟩
    · rw [beq_eq_false_iff_ne.mpr hy] at e
      obtain ⟨u, h1, h2⟩ := RelF.look b e
      exact ⟨u, by rw [List.lookup_cons, beq_eq_false_iff_ne.mpr fun z => hy (ofStr_inj z)]; exact h1, h2⟩
theorem RelF.lookN {K : PySem.W.Frag} {ca : String → Addr} {g : Gh} {x : String} : ∀ {vs : List (Str × V)} {fs : List (String × D)}, RelF K ca g vs fs → fs.lookup x = none → vs.lookup (Str.ofString x) = none
  | _, _, .nil, _ => rfl
  | _, _, .cons (x := y) (v := v) (vs := vs) (ds := ds) a b, e => by
    rw [List.lookup_cons] at e
    by_cases hy : x = y
    · subst hy
      rw [beq_self_eq_true] at e
      cases e
    · rw [beq_eq_false_iff_ne.mpr hy] at e
      rw [List.lookup_cons, beq_eq_false_iff_ne.mpr fun z => hy (ofStr_inj z)]
      exact RelF.lookN b e
theorem RelF.put {K : PySem.W.Frag} {ca : String → Addr} {g : Gh} {x : String} {d : D} {v : V} (r : RelD K ca g v d) : ∀ {vs : List (Str × V)} {fs : List (String × D)}, RelF K ca g vs fs → RelF K ca g (putF (Str.ofString x) v vs) (putD x d fs)
  | _, _, .nil => .cons r .nil
  | _, _, .cons (x := y) (v := w) (vs := vs) (d := e) (ds := ds) a b => by
    unfold putF putD
    by_cases hy : y = x
    · subst hy
      rw [if_pos rfl, if_pos rfl]
      exact .cons r b
    · rw [if_neg hy, if_neg fun z => hy (ofStr_inj z)]
      exact .cons a (RelF.put r b)
theorem RelF.length {K : PySem.W.Frag} {ca : String → Addr} {g : Gh} : ∀ {vs : List (Str × V)} {fs : List (String × D)}, RelF K ca g vs fs → vs.length = fs.length
  | _, _, .nil => rfl
  | _, _, .cons _ b => congrArg (· + 1) (RelF.length b)
section
variable {fx : Fix} {g : Gh} {S : Store} {H : Hp}
/-- an instance, frozen or not -/
theorem R.insD (r : R fx g S H) {v : V} {d : D} {c : String} {fs : List (String × D)} (h : RelD fx.K fx.ca g v d) (e : MX.insD S d = some (c, fs)) : ∃ a dx vs, v = .ref a ∧ H a = some (.ins (fx.ca c) dx vs) ∧ RelF fx.K fx.ca g vs fs := by
  unfold MX.insD at e
  rcases r.look h with ⟨n, ys, rfl, rfl, hc, e'⟩ | ⟨n, k, gs, rfl, rfl, hc, e'⟩ | k
  · rw [e'] at e
    cases e
  · rw [e'] at e
    cases e
    obtain ⟨_, _, dx, vs, h3, h4⟩ := r.cells n _ hc
    exact ⟨_, dx, vs, rfl, h3, h4⟩
  · cases q : MX.look S d with
    | ins k0 gs =>
      rw [q] at e k
      cases e
      cases k with
      | ins h1 h2 => exact ⟨_, _, _, rfl, r.frz _ _ h1, h2⟩
    | _ => rw [q] at e; cases e
end
/-- a class's facts -/
structure ClsBits (K : PySem.W.Frag) (C : Addr) : Prop where
  cls : Cls K C
  sf : PySem.W.selfFirst K C = true
  ni : PySem.W.subIn K (.ref C) (.type "int") = some false
  ob : PySem.W.subIn K (.ref C) (.type "object") = some true
  ne : PySem.W.findIn K (.ref C) "__ne__" = some (some (.builtin "object.__ne__"))
  gt : PySem.W.findIn K (.ref C) "__gt__" = some (some (.builtin "object.__gt__"))
  ge : PySem.W.findIn K (.ref C) "__ge__" = some (some (.builtin "object.__ge__"))
  ns : PySem.W.noSeq K C = true
  fg : ∀ f, PySem.W.findIn K (.ref C) "__getitem__" = some (some (.ref f)) → PySem.W.fnIn K f = true
  fc : ∀ f, PySem.W.findIn K (.ref C) "__call__" = some (some (.ref f)) → PySem.W.fnIn K f = true
/-- a method that may be called -/
structure MethOk (P : Prog) (n : Nat) (K : PySem.W.Frag) (ca : String → Addr) (X : Cx) (c x f : String) : Prop where
  ex : ∃ (k : Nat) (a : Addr) (fd : FuncData) (ps : List Str), Meth X.K (ca c) (Str.ofString x) a ∧ Room (k + 4) X.A ∧ Binds X.K fd ps [] ∧ FnOk X.prog X.w X.K X.mg X.base (L2.CX X.prog X.w) k a fd ps (spI P n K ca f)
/-- what an __iter__ promises that hands back iter(self.f) -/
def spIt (K : PySem.W.Frag) (C : Addr) (f : Str) : L2.Sp := fun vs H Q _ => ∃ a dx fs l zs, vs = [.ref a] ∧ H a = some (.ins C dx fs) ∧ fs.lookup f = some (.ref l) ∧ SqL K H l zs ∧ ∀ it, H it = none → (∀ b o, H b = some o → b < it) → Q (.ref it) (upd H it (ItO l it 0))
/-- such an __iter__ -/
structure IterOk (X : Cx) (C : Addr) (f : Str) : Prop where
  ex : ∃ (k : Nat) (a : Addr) (fd : FuncData) (ps : List Str), Meth X.K C "__iter__" a ∧ Room (k + 3) X.A ∧ Binds X.K fd ps [] ∧ FnOk X.prog X.w X.K X.mg X.base (L2.CX X.prog X.w) k a fd ps (spIt X.K C f)
/-- a def that hands back NotImplemented where its second argument is of none of these types -/
structure NimOk (K : PySem.W.Frag) (ca : String → Addr) (X : Cx) (kn : String → Bool) (C : Addr) (x : Str) (cs : List Ty) : Prop where
  ex : ∃ (k : Nat) (a : Addr) (fd : FuncData) (ps : List Str), Meth X.K C x a ∧ Room (k + 3) X.A ∧ Binds X.K fd ps [] ∧ ps.length = 2 ∧
    ∀ (A : Around) (outer : List Env) (s : Shared) (H : Hp) (args : Args) (us : List Value) (vs : List V) (fx : Fix) (g : Gh) (S : Store) (d e : D), fx.K = K → fx.ca = ca → Room k A → Env0 X.prog X.w X.K X.mg X.base A outer s H → BindsTo s fd args (ps.zip us) → Vals vs us → R fx g S H → RelL fx.K fx.ca g vs [d, e] → isiXs kn S e cs = some false →
      codeAny (model X.prog X.w) A (.call (.ref a) args) (fun r s' => r = .ok (.ret .notImplemented) ∧ ∃ g' H', s'.os = s.os ∧ AllBare s'.gens ∧ Un (frs outer) [] H H' s.heap s'.heap ∧ HOk X.prog X.w H' s'.heap ∧ g.le g' ∧ R fx g' S H') s
/-- C.m is a staticmethod: its def at g -/
structure CStat (K : PySem.W.Frag) (C : Addr) (m : Str) (g : Addr) : Prop where
  rd : PySem.W.readsIn K C (.type "type") = true
  ga : PySem.W.specialIn K (.ref C) "__getattribute__" = some (some (.builtin "type.__getattribute__"))
  ex : ∃ p rest, PySem.W.findCls K (.ref C) (.type "type") m = some (.get (.builtin "staticmethod.__get__") (.ref p) .none (.ref C)) ∧ PySem.W.recIn K p "staticmethod" = some (.ref g :: rest)
  kp : PySem.W.keepIn K (.ref g) = true
/-- a staticmethod that may be called -/
structure StatOk (P : Prog) (n : Nat) (K : PySem.W.Frag) (ca : String → Addr) (X : Cx) (c x f : String) : Prop where
  ex : ∃ (k : Nat) (a : Addr) (fd : FuncData) (ps : List Str), CStat X.K (ca c) (Str.ofString x) a ∧ X.mg (Str.ofString c) = some (.ref (ca c)) ∧ Room (k + 4) X.A ∧ Binds X.K fd ps [] ∧ FnOk X.prog X.w X.K X.mg X.base (L2.CX X.prog X.w) k a fd ps (spI P n K ca f)
/-- a property that may be read -/
structure PropOk (P : Prog) (n : Nat) (K : PySem.W.Frag) (ca : String → Addr) (X : Cx) (c x f : String) : Prop where
  ex : ∃ (k : Nat) (p a : Addr) (fd : FuncData) (ps : List Str), PropOf X.K (ca c) (Str.ofString x) p a ∧ Room (k + 4) X.A ∧ Binds X.K fd ps [] ∧ FnOk X.prog X.w X.K X.mg X.base (L2.CX X.prog X.w) k a fd ps (spI P n K ca f)
/-- a class that may be called -/
structure MkOk (P : Prog) (n : Nat) (K : PySem.W.Frag) (ca : String → Addr) (X : Cx) (c f : String) : Prop where
  ex : ∃ (k : Nat) (a : Addr) (fd : FuncData) (ps : List Str), Mk X.K (ca c) a ∧ X.mg (Str.ofString c) = some (.ref (ca c)) ∧ Room (k + 1) X.A ∧ Binds X.K fd ps [] ∧ FnOk X.prog X.w X.K X.mg X.base (L2.CX X.prog X.w) k a fd ps (spI P n K ca f)
/-- what is known of own classes as types -/
structure OwnK (K : PySem.W.Frag) (ca : String → Addr) (kn : String → Bool) : Prop where
  cls : ∀ c, kn c = true → Cls K (ca c)
  at_ : ∀ c, kn c = true → PySem.W.findIn K (.ref (ca c)) "__class__" = some (some (.builtin "object.__class__"))
  sp : PySem.W.specialIn K (.builtin "object.__class__") "__get__" = some (some (.builtin "getset_descriptor.__get__"))
  tk : PySem.W.takesIn K (.builtin "object.__class__") = some true
  mro : ∀ c, kn c = true → PySem.W.mroIn K (ca c) (.type "object") = some true
  own : ∀ c, kn c = true → ∀ e, kn e = true → PySem.W.kitOne K (.ref (ca c)) (.ref (ca e)) = some (c == e)
  out : ∀ c, kn c = true → ∀ t : Ty, t.blt = true → PySem.W.kitOne K (.ref (ca c)) (.type t.nm) = some false
  inn : ∀ c, kn c = true → ∀ d n, dTy d = some n → PySem.W.kitOne K (.type n) (.ref (ca c)) = some false
  sub : ∀ c, kn c = true → ∀ e, kn e = true → (c == e) = false → ca c ≠ ca e ∧ PySem.W.subIn K (.ref (ca c)) (.ref (ca e)) = some false
/-- a place's facts of the own classes -/
structure ObjF (P : Prog) (n : Nat) (fx : Fix) (X : Cx) : Prop where
  bits : ∀ c, P.kn c = true → ClsBits X.K (fx.ca c)
  lacks : ∀ c x, P.lacks c x = true → NoAttr X.K (fx.ca c) (Str.ofString x)
  meth : ∀ c x f m, P.meth c x = some (f, m) → MethOk P n fx.K fx.ca X c x f
  mkk : ∀ c k f m, P.ct c = some k → k.init = some (f, m) → MkOk P n fx.K fx.ca X c f
  own : (∃ c, P.kn c = true) → OwnK X.K fx.ca P.kn
  iter : ∀ c f, P.itF c = some f → IterOk X (fx.ca c) (Str.ofString f)
  nim : ∀ c x f m F cs, P.meth c x = some (f, m) → P.fn f = some F → nimC F.body = some cs → F.np = 2 → NimOk fx.K fx.ca X P.kn (fx.ca c) (Str.ofString x) cs
  stat : ∀ c x f m, P.stat c x = some (f, m) → StatOk P n fx.K fx.ca X c x f
  prop : ∀ c x f m, P.prop c x = some (f, m) → PropOk P n fx.K fx.ca X c x f
theorem kn_of_lacks {P : Prog} {c x : String} (h : P.lacks c x = true) : P.kn c = true := by
  unfold Prog.lacks at h
  unfold Prog.kn
  cases e : P.ct c with
  | none => rw [e] at h; cases h
  | some k => rfl
theorem kn_of_meth {P : Prog} {c x : String} {o : String × Mode} (h : P.meth c x = some o) : P.kn c = true := by
  unfold Prog.meth at h
  unfold Prog.kn
  cases e : P.ct c with
  | none => rw [e] at h; cases h
  | some k => rfl
section
variable {X : Cx} {fx : Fix} {W : WX} {f h : DSt → Store → Res D} {o a b : Expr} {pos : Pos}
/-- o.x -/
theorem s_fld {P : Prog} {n : Nat} {x : String} {m : Str} (hm : m = Str.ofString x) (ob : ObjF P n fx X) (ho : PE X o (tE fx W f)) (hb : attributeBase o m X.env (eval o X.env) = eval o X.env) : PE X (.Attribute o m pos) (tE fx W fun σ S => (f σ S).bind fun d S1 => fldD P x S1 d) := by
  subst hm
  refine pe_imp (pe_fld ho hb) fun σ H Q ⟨g, dσ, S, r, sl, q⟩ => tE.bind q r sl fun d S1 v g1 H1 _ l1 r1 x1 q1 => ?_
  unfold fldD at q1
  cases e : insD S1 d with
  | none => rw [e] at q1; exact q1.elim
  | some cf =>
    obtain ⟨c, fs⟩ := cf
    rw [e] at q1
    obtain ⟨p, dx, vs, rfl, h1, h2⟩ := r1.insD x1 e
    have q1 : ePost fx W g1 σ (tOf fx Q) (if P.lacks c x then match fs.lookup x with
      | some e => .ok e S1
      | none => .bad
      else .bad) := q1
    by_cases hl : P.lacks c x = true
    · rw [if_pos hl] at q1
      cases e2 : fs.lookup x with
      | none => rw [e2] at q1; exact q1.elim
      | some y =>
        rw [e2] at q1
        obtain ⟨u, h3, h4⟩ := h2.look e2
        exact ⟨p, _, dx, vs, u, rfl, h1, (ob.bits c (kn_of_lacks hl)).cls, ob.lacks c x hl, h3, ePost.ret q1 r1 h4⟩
    · rw [if_neg hl] at q1
      exact q1.elim
theorem callM_np {P : Prog} {n : Nat} {m : Mode} {f : String} {ds : List D} {S : Store} (h : callM (run P n) m f ds S ≠ .bad) : ∃ F, P.fn f = some F ∧ ds.length = F.np := by
  cases m with
  | pure => exact callP_np h
  | st => exact run_np h
  | flat => exact flat_np h
/-- the call behind a method, an operator: self and the arguments -/
theorem run_m {P : Prog} {n : Nat} {m : Mode} {c x fn : String} {pins : List (Addr × Obj)} {σ : L2.St} {H : Hp} {s : Shared} {Q : VK} {us : List Value} {vs : List V} {ds : List D} {g : Gh} {S : Store} {adr : Addr}
    (hK : fx.K = X.K) (tk : Takes X W) {k : Nat} {fd : FuncData} {ps : List Str} (hr : Room k X.A) (hb : Binds X.K fd ps []) (F : FnOk X.prog X.w X.K X.mg X.base (L2.CX X.prog X.w) k adr fd ps (spI P n fx.K fx.ca fn))
    (I : Inv X pins σ H s) (r : R fx g S H) (rv : RelL fx.K fx.ca g vs ds) (ru : Vals vs us) (q : ePost fx W g σ (tOf fx Q) (callM (run P n) m fn ds S)) : wpAny (model X.prog X.w) X.A (call (.ref adr) us) (EP X pins σ Q) X.xe s := by
  obtain ⟨G, h1, h2⟩ := callM_np (post_ne q)
  exact run_fnS (E := fun σ => WE W σ) F hr hb (passAt tk σ) I ru (call_m ⟨G, h1, by rw [rv.length]; exact h2⟩ q r rv)
theorem methD_of {P : Prog} {x : String} {S : Store} {d : D} {f : String} {m : Mode} (h : methD P x S d = some (f, m)) : ∃ c fs, insD S d = some (c, fs) ∧ fs.lookup x = none ∧ P.meth c x = some (f, m) := by
  unfold methD at h
  cases e : insD S d with
  | none => rw [e] at h; cases h
  | some cf =>
    obtain ⟨c, fs⟩ := cf
    rw [e] at h
    have h : (if (fs.lookup x).isNone then P.meth c x else none) = some (f, m) := h
    by_cases hn : (fs.lookup x).isNone = true
    · rw [if_pos hn] at h
      exact ⟨c, fs, rfl, Option.isNone_iff_eq_none.mp hn, h⟩
    · rw [if_neg hn] at h
      cases h
theorem s_meth {P : Prog} {n : Nat} {x : String} {y : Str} {e : Expr} {es : List Expr} {ap : Pos} {pl : Sem Bool} (hy : y = Str.ofString x) (hK : fx.K = X.K) (tk : Takes X W) (ob : ObjF P n fx X) (ho : PE X o (tE fx W f)) (ha : PA X (e :: es) (tA fx W h))
    (he : starEach (e :: es) X.env = (false, eval e X.env) :: starEach es X.env) (hpl : (backTo pos (starEach es X.env)).any (·.1) = false)
    (ht : eval (.Call (.Attribute o y ap) (e :: es) [] pos) X.env = (do
      let z ← eval o X.env
      standAt ap.atName
      let (q, i) ← holding [z] (getMethod z y pl)
      callWith pos q i (backTo pos (starEach (e :: es) X.env)) (backToKw pos (keywordEach [] X.env)))) :
    PE X (.Call (.Attribute o y ap) (e :: es) [] pos) (tE fx W fun σ S => (f σ S).bind fun d S1 => match methD P x S1 d with
      | some (fn, m) => (h σ S1).bind fun z S2 => callM (run P n) m fn (d :: unT z) S2
      | none => .bad) := by
  subst hy
  refine ⟨fun pins s σ H Q I ⟨g, dσ, S, r, sl, q⟩ => ?_⟩
  have q0 : tE fx W f σ H fun v H1 => ∃ C a p dx fs, v = .ref p ∧ H1 p = some (.ins C dx fs) ∧ fs.lookup (Str.ofString x) = none ∧ Cls X.K C ∧ Meth X.K C (Str.ofString x) a ∧
      tA fx W h σ H1 fun vs H2 => ∀ us s2, Inv X pins σ H2 s2 → Vals vs us → wpAny (model X.prog X.w) X.A (call (.ref a) (.ref p :: us)) (EP X pins σ Q) X.xe s2 := by
    refine tE.bind q r sl fun d S1 v g1 H1 _ l1 r1 x1 q1 => ?_
    cases hh : methD P x S1 d with
    | none => rw [hh] at q1; exact q1.elim
    | some fm =>
      obtain ⟨fn, m⟩ := fm
      rw [hh] at q1
      obtain ⟨c, fs, e1, e2, e3⟩ := methD_of hh
      obtain ⟨k, a, fd, ps, hm, hr, hb, F⟩ := (ob.meth c x fn m e3).ex
      obtain ⟨p, dx, vs, rfl, h1, h2⟩ := r1.insD x1 e1
      refine ⟨_, a, p, dx, vs, rfl, h1, h2.lookN e2, (ob.bits c (kn_of_meth e3)).cls, hm, ?_⟩
      refine tA.bind q1 r1 (sl.mono l1) fun z S2 ws g2 H2 _ l2 r2 y2 q2 us s2 I2 ru => ?_
      exact run_m (vs := .ref p :: ws) (ds := d :: unT z) (c := c) (x := x) hK tk (hr.mono (Nat.le_add_right _ 4)) hb F I2 r2 (.cons (x1.mono l2) y2) (.cons rfl ru) q2
  refine PySem.W.methodCall_KW (pl := pl) (thn (ho.run pins s σ H _ I q0) fun u s1 ⟨v, H1, I1, rx, C, a, p, dx, fs, ex, ea, l, hc, hm, q1⟩ => ?_) ht
  subst ex
  obtain rfl : u = Value.ref p := rx
  refine getmeth_ok I1 ea hc hm l ?_
  exact PySem.W.callWith_K (first := [.ref p]) (h₀ := X.base) I.ok.mod.kin hm.kp (thn (ha.run pos pins s1 σ H1 _ I1 q1) fun us s2 ⟨vs, H2, I2, ru, q2⟩ => ⟨I2.kIn, q2 us s2 I2 ru⟩) he hpl
theorem s_meth0 {P : Prog} {n : Nat} {x : String} {y : Str} {ap : Pos} {pl : Sem Bool} (hy : y = Str.ofString x) (hK : fx.K = X.K) (tk : Takes X W) (ob : ObjF P n fx X) (ho : PE X o (tE fx W f))
    (ht : eval (.Call (.Attribute o y ap) [] [] pos) X.env = (do
      let z ← eval o X.env
      standAt ap.atName
      let (q, i) ← holding [z] (getMethod z y pl)
      callWith pos q i (backTo pos (starEach [] X.env)) (backToKw pos (keywordEach [] X.env)))) :
    PE X (.Call (.Attribute o y ap) [] [] pos) (tE fx W fun σ S => (f σ S).bind fun d S1 => match methD P x S1 d with
      | some (fn, m) => (Res.ok (.tup []) S1).bind fun z S2 => callM (run P n) m fn (d :: unT z) S2
      | none => .bad) := by
  subst hy
  refine ⟨fun pins s σ H Q I ⟨g, dσ, S, r, sl, q⟩ => ?_⟩
  have q0 : tE fx W f σ H fun v H1 => ∃ C a p dx fs, v = .ref p ∧ H1 p = some (.ins C dx fs) ∧ fs.lookup (Str.ofString x) = none ∧ Cls X.K C ∧ Meth X.K C (Str.ofString x) a ∧
      ∀ s2, Inv X pins σ H1 s2 → wpAny (model X.prog X.w) X.A (call (.ref a) [.ref p]) (EP X pins σ Q) X.xe s2 := by
    refine tE.bind q r sl fun d S1 v g1 H1 _ l1 r1 x1 q1 => ?_
    cases hh : methD P x S1 d with
    | none => rw [hh] at q1; exact q1.elim
    | some fm =>
      obtain ⟨fn, m⟩ := fm
      rw [hh] at q1
      obtain ⟨c, fs, e1, e2, e3⟩ := methD_of hh
      obtain ⟨k, a, fd, ps, hm, hr, hb, F⟩ := (ob.meth c x fn m e3).ex
      obtain ⟨p, dx, vs, rfl, h1, h2⟩ := r1.insD x1 e1
      refine ⟨_, a, p, dx, vs, rfl, h1, h2.lookN e2, (ob.bits c (kn_of_meth e3)).cls, hm, fun s2 I2 => ?_⟩
      exact run_m (vs := [.ref p]) (ds := [d]) (c := c) (x := x) hK tk (hr.mono (Nat.le_add_right _ 4)) hb F I2 r1 (.cons x1 .nil) (.cons rfl .nil) q1
  refine PySem.W.methodCall_KW (pl := pl) (thn (ho.run pins s σ H _ I q0) fun u s1 ⟨v, H1, I1, rx, C, a, p, dx, fs, ex, ea, l, hc, hm, q1⟩ => ?_) ht
  subst ex
  obtain rfl : u = Value.ref p := rx
  refine getmeth_ok I1 ea hc hm l ?_
  exact PySem.W.callWith_K0 (first := [.ref p]) I1.kIn hm.kp (q1 s1 I1)
theorem callO_some_of {cb : Cb} {o : Option (String × Mode)} {ds : List D} {S : Store} (h : callO cb o ds S ≠ .bad) : ∃ f m, o = some (f, m) ∧ callO cb o ds S = callM cb m f ds S := by
  cases o with
  | none => exact absurd rfl h
  | some fm => exact ⟨fm.1, fm.2, rfl, rfl⟩
theorem getmethsm_ok {pins : List (Addr × Obj)} {σ : L2.St} {H : Hp} {s : Shared} {A : Around} {E : Value → Shared → Prop} {C g : Addr} {m : Str} {pl : Sem Bool} {Q : Value × List Value → Shared → Prop} (I : Inv X pins σ H s) (k : CStat X.K C m g)
    (h : ∀ s', Inv X pins σ H s' → Q (.ref g, []) s') : wpAny (model X.prog X.w) A (getMethod (.ref C) m pl) Q E s := by
  obtain ⟨p, rest, e1, e2⟩ := k.ex
  refine PySem.W.method_cls I.kIn k.ga ?_
  refine PySem.W.cls_bind I.kIn k.rd e1 (wpAny_call (PySem.W.sm_get (s := { s with toks := s.toks + 1 }) I.kIn e2 (PySem.W.handed_on rfl ?_)))
  exact h _ (I.tok _)
/-- C.x(..), x a staticmethod of C -/
theorem s_scall {P : Prog} {n : Nat} {c x : String} {z y : Str} {e : Expr} {es : List Expr} {zp ap : Pos} {pl : Sem Bool} (hz : z = Str.ofString c) (hy : y = Str.ofString x) (hK : fx.K = X.K) (tk : Takes X W) (ob : ObjF P n fx X) (hg : Gl X z) (hdb : (z == ("__debug__" : Str)) = false) (ha : PA X (e :: es) (tA fx W h))
    (he : starEach (e :: es) X.env = (false, eval e X.env) :: starEach es X.env) (hpl : (backTo pos (starEach es X.env)).any (·.1) = false)
    (ht : eval (.Call (.Attribute (.Name z zp) y ap) (e :: es) [] pos) X.env = (do
      let v ← eval (.Name z zp) X.env
      standAt ap.atName
      let (q, i) ← holding [v] (getMethod v y pl)
      callWith pos q i (backTo pos (starEach (e :: es) X.env)) (backToKw pos (keywordEach [] X.env)))) :
    PE X (.Call (.Attribute (.Name z zp) y ap) (e :: es) [] pos) (tE fx W fun σ S => match P.stat c x with
      | some (f, m) => (h σ S).bind fun v S1 => callM (run P n) m f (unT v) S1
      | none => .bad) := by
  subst hz hy
  refine ⟨fun pins s σ H Q I ⟨g, dσ, S, r, sl, q⟩ => ?_⟩
  cases st : P.stat c x with
  | none => rw [st] at q; exact q.elim
  | some fm =>
    obtain ⟨fn, m⟩ := fm
    rw [st] at q
    have q : ePost fx W g σ (tOf fx Q) ((h dσ S).bind fun v S1 => callM (run P n) m fn (unT v) S1) := q
    obtain ⟨k, a, fd, ps, hs, hmg, hr, hb, F⟩ := (ob.stat c x fn m st).ex
    have q0 : tA fx W h σ H fun vs H1 => ∀ us s2, Inv X pins σ H1 s2 → Vals vs us → wpAny (model X.prog X.w) X.A (call (.ref a) us) (EP X pins σ Q) X.xe s2 :=
      tA.bind q r sl fun y S1 vs g1 H1 _ l1 r1 y1 q1 us s2 I2 ru => run_m (c := c) (x := x) hK tk (hr.mono (Nat.le_add_right _ 4)) hb F I2 r1 y1 ru q1
    refine PySem.W.methodCall_KW (pl := pl) (thn ((pe_glob (X := X) (v := V.ref (fx.ca c)) hg hmg rfl hdb).run pins s σ H (fun v H1 => v = V.ref (fx.ca c) ∧ H1 = H) I ⟨rfl, rfl⟩) fun u s1 ⟨v, H1, I1, rx, ev, eH⟩ => ?_) ht
    subst ev eH
    obtain rfl : u = Value.ref (fx.ca c) := rx
    refine getmethsm_ok I1 hs fun s2 I2 => ?_
    exact PySem.W.callWith_K (first := []) (h₀ := X.base) I2.ok.mod.kin hs.kp (thn (ha.run pos pins s2 σ H1 _ I2 q0) fun us s3 ⟨vs, H2, I3, ru, q2⟩ => ⟨I3.kIn, q2 us s3 I3 ru⟩) he hpl
/-- o.x, a property -/
theorem s_prop {P : Prog} {n : Nat} {x : String} {m : Str} (hm : m = Str.ofString x) (hK : fx.K = X.K) (ob : ObjF P n fx X) (ho : PE X o (tE fx W f)) (hb : attributeBase o m X.env (eval o X.env) = eval o X.env) : PE X (.Attribute o m pos) (tE fx W fun σ S => (f σ S).bind fun d S1 => propX P (run P n) x S1 d) := by
  subst hm
  refine ⟨fun pins s σ H Q I ⟨g, dσ, S, r, sl, q⟩ => ?_⟩
  refine attr_of hb (thn (ho.run pins s σ H (fun v H1 => ∃ g1 d S1, R fx g1 S1 H1 ∧ RelD fx.K fx.ca g1 v d ∧ ePost fx W g1 σ (tOf fx Q) (propX P (run P n) x S1 d)) I (tE.bind q r sl fun d S1 v g1 H1 _ l1 r1 x1 q1 => ⟨g1, d, S1, r1, x1, q1⟩)) fun u s1 ⟨v, H1, I1, rx, g1, d, S1, r1, x1, q1⟩ => ?_)
  unfold propX at q1
  cases e : insD S1 d with
  | none => rw [e] at q1; exact q1.elim
  | some cf =>
    obtain ⟨c, fs⟩ := cf
    rw [e] at q1
    have q1 : ePost fx W0 g1 σ (tOf fx Q) (callO (run P n) (P.prop c x) [d] S1) := nox_of q1
    obtain ⟨fn, md, ep, ec⟩ := callO_some_of (post_ne q1)
    rw [ec] at q1
    obtain ⟨k, p, a, fd, ps, hp, hr, hbi, F⟩ := (ob.prop c x fn md ep).ex
    obtain ⟨adr, dx, vs, rfl, h1, h2⟩ := r1.insD x1 e
    obtain rfl : u = Value.ref adr := rx
    obtain ⟨G, g1', g2'⟩ := callM_np (post_ne q1)
    have kn : P.kn c = true := by
      unfold Prog.prop at ep
      unfold Prog.kn
      cases e0 : P.ct c with
      | none => rw [e0] at ep; cases ep
      | some k => rfl
    have sp := call_m ⟨G, g1', by rw [(RelL.cons x1 .nil).length]; exact g2'⟩ q1 r1 (.cons x1 .nil)
    exact getprop_ok (dvs := []) (ds := []) I1 h1 (ob.bits c kn).cls hp F (hr.mono (by omega)) hbi .nil (fun _ _ _ _ _ _ _ ⟨_, _, _, _, _, _, _, _, _, _, _, _, hE⟩ => hE) sp
theorem mkM_np {P : Prog} {n : Nat} {m : Mode} {c f : String} {ds : List D} {S : Store} (h : mkM (run P n) m c f ds S ≠ .bad) : ∃ F, P.fn f = some F ∧ ds.length + 1 = F.np := by
  have key : ∀ (ds : List D) (S : Store), mkK (run P n f) c ds S ≠ .bad → ∃ F, P.fn f = some F ∧ ds.length + 1 = F.np := fun ds S h => by
    have hr : run P n f (.ptr S.length :: ds) (S ++ [.ins c []]) ≠ .bad := fun e => by
      unfold mkK at h
      rw [e] at h
      exact h rfl
    exact run_np hr
  cases m with
  | pure =>
    have h : pureK (mkK (run P n f) c) ds S ≠ .bad := h
    unfold pureK at h
    cases q : frzL (frzD frzK) S ds with
    | none => rw [q] at h; exact absurd rfl h
    | some p =>
      obtain ⟨es, S1⟩ := p
      rw [q] at h
      obtain ⟨F, h1, h2⟩ := key es [] fun e => by
        simp only [e] at h
        exact h rfl
      exact ⟨F, h1, by rw [← h2, frzL_len q]⟩
  | st => exact key ds S h
  | flat => exact absurd rfl h
theorem run_mk {P : Prog} {n : Nat} {m : Mode} {c fn : String} {pins : List (Addr × Obj)} {σ : L2.St} {H : Hp} {s : Shared} {Q : VK} {us : List Value} {vs : List V} {ds : List D} {g : Gh} {S : Store} {adr : Addr}
    (tk : Takes X W) {k : Nat} {fd : FuncData} {ps : List Str} (M : Mk X.K (fx.ca c) adr) (hr : Room (k + 1) X.A) (hb : Binds X.K fd ps []) (F : FnOk X.prog X.w X.K X.mg X.base (L2.CX X.prog X.w) k adr fd ps (spI P n fx.K fx.ca fn))
    (I : Inv X pins σ H s) (r : R fx g S H) (rv : RelL fx.K fx.ca g vs ds) (ru : Vals vs us) (q : ePost fx W g σ (tOf fx Q) (mkM (run P n) m c fn ds S)) : wpAny (model X.prog X.w) X.A (call (.ref (fx.ca c)) us) (EP X pins σ Q) X.xe s := by
  obtain ⟨G, g1, g2⟩ := mkM_np (post_ne q)
  have sp := mk_m ⟨G, g1, by rw [rv.length]; exact g2⟩ q r rv
  have want := sp (s.heap.objs.size + 1) s.heap.objs.size (I.hok.fresh (Nat.le_succ _)) (I.hok.fresh (Nat.le_refl _)) (Nat.ne_of_lt (Nat.lt_succ_self _))
  have I1 := Inv.made (C := fx.ca c) I
  have rel : Vals (V.ref (s.heap.objs.size + 1) :: vs) (Value.ref (s.heap.objs.size + 1) :: us) := .cons rfl ru
  have len : (Value.ref (s.heap.objs.size + 1) :: us ++ []).length = ps.length := by
    rw [List.append_nil, ← rel.length]
    exact F.len _ _ _ _ want
  have bnd := hb { s with heap := (s.heap.push PySem.W.emptyDict).push (PySem.W.instObj (fx.ca c) s.heap.objs.size) } (Value.ref (s.heap.objs.size + 1) :: us) I1.kIn len
  rw [List.append_nil] at bnd
  have go := F.run (X.A.under (.builtin "type.__call__" ⟨.ref (fx.ca c) :: us, []⟩)) X.stack _ _ ⟨Value.ref (s.heap.objs.size + 1) :: us, []⟩ (Value.ref (s.heap.objs.size + 1) :: us) _ _ _ (hr.make _ us []) (I1.env0.make _ us []) bnd rel want
  refine wpAny_call (make_map (f := adr) I.kIn M.makes M.init (beq_iff_eq.mp M.fn) (codeAny_mono go fun t s2 hq => ?_))
  cases t with
  | error z => exact passAt tk σ pins _ _ z s2 I1 hq
  | ok flow =>
    cases flow with
    | ret z =>
      obtain ⟨v, H2, I2, rz, ez, q3⟩ := I1.after hq
      subst ez
      exact ⟨rz, ⟨V.ref (s.heap.objs.size + 1), H2, I2, rfl, q3⟩⟩
    | _ => exact hq.elim
theorem mkX_of {P : Prog} {cb : Cb} {c : String} {ds : List D} {S : Store} (h : mkX P cb c ds S ≠ .bad) : ∃ k f m, P.ct c = some k ∧ k.init = some (f, m) ∧ mkX P cb c ds S = mkM cb m c f ds S := by
  unfold mkX at h ⊢
  cases e : P.ct c with
  | none => rw [e] at h; exact absurd rfl h
  | some k =>
    rw [e] at h
    cases e2 : k.init with
    | none => simp only [e2] at h; exact absurd rfl h
    | some fm => exact ⟨k, fm.1, fm.2, rfl, e2, by simp only [e2]⟩
theorem s_mk {P : Prog} {n : Nat} {c : String} {y : Str} {e : Expr} {es : List Expr} {p : Pos} (hy : y = Str.ofString c) (tk : Takes X W) (hg : Gl X y) (hmg : X.mg y = some (.ref (fx.ca c))) (ob : ObjF P n fx X) (kp : PySem.W.keepIn X.K (.ref (fx.ca c)) = true) (ha : PA X (e :: es) (tA fx W f)) (hdb : (y == ("__debug__" : Str)) = false)
    (he : starEach (e :: es) X.env = (false, eval e X.env) :: starEach es X.env) (hpl : (backTo pos (starEach es X.env)).any (·.1) = false) : PE X (.Call (.Name y p) (e :: es) [] pos) (tE fx W fun σ S => (f σ S).bind fun x S1 => mkX P (run P n) c (unT x) S1) := by
  subst hy
  refine ⟨fun pins s σ H Q I ⟨g, dσ, S, r, sl, q⟩ => ?_⟩
  have q0 : tA fx W f σ H fun vs H1 => ∀ us s2, Inv X pins σ H1 s2 → Vals vs us → wpAny (model X.prog X.w) X.A (call (.ref (fx.ca c)) us) (EP X pins σ Q) X.xe s2 :=
    tA.bind q r sl fun y S1 vs g1 H1 _ l1 r1 y1 q1 us s2 I2 ru => by
      obtain ⟨k, fn, m, e1, e2, e3⟩ := mkX_of (post_ne q1)
      rw [e3] at q1
      obtain ⟨k, a, fd, ps, M, hc, hr, hb, F⟩ := (ob.mkk c k fn m e1 e2).ex
      exact run_mk tk M hr hb F I2 r1 y1 ru q1
  refine wpAny_Call_Name_kw (ld_glob I hg hmg ?_ hdb)
  exact PySem.W.callWith_K (h₀ := X.base) I.ok.mod.kin kp (thn (ha.run pos pins s σ H _ I q0) fun us s1 ⟨vs, H1, I1, ru, q1⟩ => ⟨I1.kIn, q1 us s1 I1 ru⟩) he hpl
theorem s_mk0 {P : Prog} {n : Nat} {c : String} {y : Str} {p : Pos} (hy : y = Str.ofString c) (tk : Takes X W) (hg : Gl X y) (hmg : X.mg y = some (.ref (fx.ca c))) (ob : ObjF P n fx X) (kp : PySem.W.keepIn X.K (.ref (fx.ca c)) = true) (hdb : (y == ("__debug__" : Str)) = false) :
    PE X (.Call (.Name y p) [] [] pos) (tE fx W fun σ S => (Res.ok (.tup []) S).bind fun x S1 => mkX P (run P n) c (unT x) S1) := by
  subst hy
  refine ⟨fun pins s σ H Q I ⟨g, dσ, S, r, sl, q⟩ => ?_⟩
  refine wpAny_Call_Name_kw (ld_glob I hg hmg ?_ hdb)
  refine PySem.W.callWith_K0 I.kIn kp ?_
  obtain ⟨k, fn, m, e1, e2, e3⟩ := mkX_of (post_ne q)
  have q : ePost fx W g σ (tOf fx Q) (mkX P (run P n) c [] S) := q
  rw [show mkX P (run P n) c [] S = mkM (run P n) m c fn [] S from e3] at q
  obtain ⟨k, a, fd, ps, M, hc, hr, hb, F⟩ := (ob.mkk c k fn m e1 e2).ex
  exact run_mk (us := []) (vs := []) (ds := []) tk M hr hb F I r .nil .nil q
/-- o.x = e -/
theorem s_sfld {P : Prog} {n : Nat} {x : String} {m : Str} {v : Expr} {ap : Pos} (hm : m = Str.ofString x) (ob : ObjF P n fx X) (hv : PE X v (tE fx W f)) (ho : PE X o (tE fx W h)) (hs : swapsWith v (some (.Attribute o m ap)) pos.line X.env = pure false) :
    PS X (.Assign [.Attribute o m ap] v pos) (tS fx W fun σ S => (f σ S).sr σ fun d S1 => (h σ S1).sr σ fun p S2 => match sfldD P x S2 p d with
      | some S3 => .nx σ S3
      | none => .bad) := by
  subst hm
  refine ps_imp (ps_fld ho hv hs) fun D σ H ⟨g, dσ, S, r, sl, q⟩ => tE.sr q r sl fun d S1 u g1 H1 _ l1 r1 d1 q1 => tE.sr q1 r1 (sl.mono l1) fun p S2 w g2 H2 _ l2 r2 p2 q2 => ?_
  unfold sfldD at q2
  cases p with
  | ptr n =>
    have q2 : sPost fx W g2 D (match (match S2[n]? with
      | some (.ins c fs) => if P.lacks c x = true ∧ fs.length < 1000 then some (S2.set n (.ins c (putD x d fs))) else none
      | _ => none) with
      | some S3 => .nx dσ S3
      | none => .bad) := q2
    cases e : S2[n]? with
    | none => rw [e] at q2; exact q2.elim
    | some k =>
      cases k with
      | ins c fs =>
        rw [e] at q2
        have q2 : sPost fx W g2 D (match (if P.lacks c x = true ∧ fs.length < 1000 then some (S2.set n (.ins c (putD x d fs))) else none) with
          | some S3 => .nx dσ S3
          | none => .bad) := q2
        by_cases hk : P.lacks c x = true ∧ fs.length < 1000
        · rw [if_pos hk] at q2
          obtain ⟨hl0, hl⟩ := hk
          obtain ⟨a1, a2, dx, vs, a3, a4⟩ := r2.cells n _ e
          cases p2 with
          | ptr hn2 =>
            refine ⟨g2.am n, _, dx, vs, rfl, a3, (ob.bits c (kn_of_lacks hl0)).cls, ob.lacks c x hl0, by rw [a4.length]; exact hl, ?_⟩
            have r3 := r2.putIns (dx := dx) e (a4.put (x := x) (d1.mono l2))
            exact q2 g2 _ σ (Gh.le.refl _) r3 ((sl.mono l1).mono l2)
        · rw [if_neg hk] at q2
          exact q2.elim
      | _ => rw [e] at q2; exact q2.elim
  | _ => exact q2.elim

end
end MX
end

section
set_option maxRecDepth 100000
set_option maxHeartbeats 1000000
namespace MX
open PySem PySem.Spec PyProof.Rows
section
open PySem.W
variable {prog : Program} {w : World} {A : Around} {E : Value → Shared → Prop} {s : Shared} {K : Frag} {x C f : Addr} {ox : Obj} {od : Option Obj}
/-- own operator, the right side of the same class -/
theorem own_same {op : Operator} {b : Value} {Q : Value → Shared → Prop} (kin : K.In s.heap) (at_ : InstAt s.heap x ox C od) (tb : Looks (model prog w) s.heap (typeOf b) (.ref C)) (sf : selfFirst K C = true)
    (fnd : findIn K (.ref C) (PySem.dunder op.info.2) = some (some (.ref f))) (isf : isFn K (.ref f) = true)
    (go : wpAny (model prog w) A (call (.ref f) [.ref x, b]) (PySem.W.CmpBack Q) E s) : wpAny (model prog w) A (binaryOp op (.ref x) b) Q E s := by
  obtain ⟨cd, tl, hcd, hmro⟩ := ksp_first sf
  unfold binaryOp
  refine wpAny_holding (wpAny_bind ?_)
  unfold binaryOp1
  refine wpAny_bind (at_.type.here (wpAny_bind (tb.here (wpAny_bind ((fills_K kin hcd hmro fnd).here ?_)))))
  simp only [beq_self_eq_true, if_true]
  refine wpAny_bind (wpAny_pure ?_)
  simp only [Bool.and_false, Bool.false_eq_true, if_false, Bool.false_and]
  refine wpAny_bind (wpAny_pure ?_)
  simp only [Bool.false_eq_true, if_false]
  refine wpAny_bind (m := tryMethod (.ref x) _ b) ?_
  unfold tryMethod
  refine wpAny_bind (special_fn kin at_ fnd (beq_iff_eq.mp isf) (wpAny_mono go (fun z s2 hz => ?_) fun _ _ y => y))
  cases z <;> first | exact hz.elim | exact wpAny_pure (wpAny_pure (wpAny_pure hz))
/-- own operator, the right side of a built-in type -/
theorem own_int {op : Operator} {b : Value} {T : String} {fo ro rc : Option Value} {Q : Value → Shared → Prop} (kin : K.In s.heap) (at_ : InstAt s.heap x ox C od) (tb : typeOf b = pure (.type T)) (sf : selfFirst K C = true)
    (fnd : findIn K (.ref C) (PySem.dunder op.info.2) = some (some (.ref f))) (isf : isFn K (.ref f) = true) (fr : findIn K (.ref C) (dunderR op.info.2) = some rc) (pr : rc = none ∨ ∃ g : Addr, rc = some (.ref g))
    (t1 : findIn K (.type T) (PySem.dunder op.info.2) = some fo) (t2 : findIn K (.type T) (dunderR op.info.2) = some ro) (nsub : subIn K (.type T) (.ref C) = some false)
    (go : wpAny (model prog w) A (call (.ref f) [.ref x, b]) (PySem.W.CmpBack Q) E s) : wpAny (model prog w) A (binaryOp op (.ref x) b) Q E s := by
  obtain ⟨cd, tl, hcd, hmro⟩ := ksp_first sf
  have first := ksp_try kin at_ fnd isf go
  rcases io : op.info with ⟨sy, nn⟩
  rw [io] at fnd fr t1 t2 first
  dsimp only at fnd fr t1 t2 first
  obtain ⟨h0, gs, dr, tk, os⟩ := s
  have k1 : Looks (model prog w) h0 (typeOf (.ref x)) (.ref C) := at_.type
  have k2 : Looks (model prog w) h0 (typeOf b) (.type T) := Looks.of_pure tb
  have k3 : Looks (model prog w) h0 (fillsNumberSlot (.ref C) nn) true := fills_K kin hcd hmro fnd
  have k4 : Looks (model prog w) h0 (fillsNumberSlot (.type T) nn) ((fo.isSome && !isSeqSlot fo) || (ro.isSome && !isSeqSlot ro)) := ksp_fillsT kin t1 t2
  have k5 : Looks (model prog w) h0 (isSubtype (.type T) (.ref C)) false := looks_subIn kin nsub
  have k6 : Looks (model prog w) h0 (numberSlotInPython (.ref C) nn) true := ksp_inPy kin fnd fr pr
  have k7 : Looks (model prog w) h0 (numberSlotInPython (.type T) nn) false := Looks.of_pure rfl
  have k8 : Looks (model prog w) h0 (typeLookup (.type T) (dunderR nn)) ro := looks_findIn kin t2
  generalize ((fo.isSome && !isSeqSlot fo) || (ro.isSome && !isSeqSlot ro)) = rb at k4
  have ne : (Value.ref C == Value.type T) = false := Bool.eq_false_iff.mpr fun q => by cases beq_iff_eq.mp q
  simp only [binaryOp, io]
  refine wpAny_holding (wpAny_bind ?_)
  unfold binaryOp1
  refine wpAny_bind (k1.at (wpAny_bind (k2.at (wpAny_bind (k3.at ?_)))))
  simp only [ne, Bool.false_eq_true, if_false]
  cases rb with
  | false =>
    ksp_lk
    refine wpAny_mono first (fun r s2 ⟨z, ez, hz⟩ => ?_) fun _ _ y => y
    subst ez
    ksp_lk
    exact hz
  | true =>
    ksp_lk
    refine wpAny_mono first (fun r s2 ⟨z, ez, hz⟩ => ?_) fun _ _ y => y
    subst ez
    ksp_lk
    exact hz
end
end MX
end

section
set_option maxRecDepth 100000
set_option maxHeartbeats 1000000
namespace MX
open PySem PySem.Spec PyProof.Rows
section
open PySem.W
variable {prog : Program} {w : World} {A : Around} {E : Value → Shared → Prop} {s : Shared} {K : Frag} {x C f : Addr} {ox : Obj} {od : Option Obj} {i v : Value}
/-- o[i] = v by the class's own -/
theorem own_set {M : Model} {Q : Unit → Shared → Prop} (X : K.In s.heap) (I : InstAt s.heap x ox C od) (hq : noSeq K C = true) (hs : findIn K (.ref C) "__setitem__" = some (some (.ref f))) (hf : isFn K (.ref f) = true)
    (h : wpAny M A (call (.ref f) [.ref x, i, v]) (fun _ s' => Q () s') E s) : wpAny M A (setItem (.ref x) i v) Q E s := by
  unfold setItem sequenceKey
  refine wpAny_holding (wpAny_bind (wpAny_bind (I.type.here ?_)))
  refine wpAny_bind ((anyM_none X hq).here ?_)
  rw [if_pos (show (!false) = true from rfl)]
  exact wpAny_pure (wpAny_bind (special_fn X I hs (beq_iff_eq.mp hf) (wpAny_mono h (fun _ _ z => wpAny_pure z) fun _ _ z => z)))
/-- o[i] by the class's own -/
theorem own_sub {value slice : Expr} {Q : Value → Shared → Prop} (X : K.In s.heap) (I : InstAt s.heap x ox C od) (hs : findIn K (.ref C) "__getitem__" = some (some (.ref f))) (hf : fnIn K f = true) (hfn : isFn K (.ref f) = true)
    (h : wpAny (model prog w) A.in1 (call (.ref f) [.ref x, i]) Q E s)
    (hsl : subscripted slice true (.ref x) i = runValue (.builtin "lifetime.subscript" ⟨[.ref x, i], []⟩)) :
    wpAny (model prog w) A (subscriptTail value slice (.ref x) i) Q E s := by
  unfold fnIn at hf
  split at hf
  · rename_i e
    unfold subscriptTail getitemInPython
    refine wpAny_bind (wpAny_bind (wpAny_bind (I.type.here ((looks_findIn X hs).here ?_))))
    dsimp only
    refine wpAny_bind (wpAny_load (X _ _ e) (wpAny_pure ?_))
    dsimp only
    rw [hsl]
    refine wpAny_bind (wpAny_runValue (codeAny_builtin entry_sub ?_))
    unfold Builtin.«lifetime.subscript»
    refine wpAny_bind (special_fn X I hs (beq_iff_eq.mp hfn) (wpAny_mono h (fun v s' z => ?_) fun _ _ z => z))
    refine wpAny_pure ?_
    show wpAny (model prog w) A (letTemporaryGo value (.ref x) v >>= fun _ => pure v) Q E s'
    exact wpAny_bind (wpAny_letTemporaryGo (wpAny_pure z))
  · cases hf
/-- o op= v by the class's own -/
theorem own_inp {op : Operator} {b : Value} {Q : Value → Shared → Prop} (X : K.In s.heap) (I : InstAt s.heap x ox C od) (hc : selfFirst K C = true) (hs : findIn K (.ref C) (dunderI op.info.2) = some (some (.ref f)))
    (hf : isFn K (.ref f) = true) (h : wpAny (model prog w) A (call (.ref f) [.ref x, b]) (PySem.W.CmpBack Q) E s) : wpAny (model prog w) A (inplaceOp op (.ref x) b) Q E s := by
  obtain ⟨cd, rest, hcd, hm⟩ := ksp_first hc
  have one := ksp_try X I hs hf h
  obtain ⟨hh, g, d, tt, os⟩ := s
  unfold inplaceOp
  refine wpAny_holding (wpAny_bind (I.type.here (wpAny_bind ((ksp_fillsI X hcd hm hs).here ?_))))
  simp only [if_true]
  refine wpAny_bind (wpAny_mono one (fun r s2 ⟨z, ez, hz⟩ => ?_) fun _ _ y => y)
  subst ez
  exact wpAny_bind (wpAny_rule (wpAny_pure hz))
/-- len(o) by the class's own -/
theorem own_len {Q : Value → Shared → Prop} (X : K.In s.heap) (I : InstAt s.heap x ox C od) (hs : findIn K (.ref C) "__len__" = some (some (.ref f))) (hf : isFn K (.ref f) = true)
    (h : wpAny (model prog w) A.in1 (call (.ref f) [.ref x]) (PySem.W.LenBack Q) E s) : wpAny (model prog w) A (call (.builtin "len") [.ref x]) Q E s := by
  refine Calls.call_function_entry kind_len plain_len entry_len (args_len1 _) ?_
  unfold Builtin.«len»
  refine wpAny_bind (m := oneArg "len" _) (wpAny_pure ?_)
  refine wpAny_bind (m := callSpecial? (.ref x) (Str.ofString "__len__")) (special_fn X I hs (beq_iff_eq.mp hf) (wpAny_mono h (fun r s' hr => ?_) fun _ _ y => y))
  cases r <;> first | exact hr.elim | skip
  rename_i n u
  obtain ⟨⟨h0, h1⟩, hq⟩ := hr
  refine wpAny_bind (wpAny_holding (wpAny_pure ?_))
  refine wpAny_bind (wpAny_letGo ?_)
  show wpAny _ _ (if n < 0 then _ else _) _ _ _
  rw [if_neg (by omega)]
  show wpAny _ _ (if n ≥ 2 ^ 63 then _ else _) _ _ _
  rw [if_neg (by omega)]
  exact wpAny_bind (wpAny_mkInt (wpAny_pure ⟨_, rfl, hq⟩))
end
section
open PySem.W
variable {M : Model} {A : Around} {E : Value → Shared → Prop} {s : Shared} {env : Env} {pos : Pos} {x : Addr} {Q : Value → Shared → Prop}
/-- a plain instance is called: the arguments, then the call -/
theorem own_with {f : Value} {e : Expr} {rest : List Expr} (h : wpAny M A (spliced (backTo pos (starEach (e :: rest) env))) (fun vs s₁ => (∃ x C ox od, f = .ref x ∧ InstAt s₁.heap x ox C od ∧ ox.data = .plain) ∧ wpAny M A (call f vs) Q E s₁) E s)
    (he : starEach (e :: rest) env = (false, eval e env) :: starEach rest env) (hpl : (backTo pos (starEach rest env)).any (·.1) = false) :
    wpAny M A (callWith pos f [] (backTo pos (starEach (e :: rest) env)) []) Q E s := by
  rw [he] at h ⊢
  have hp : ((backTo pos ((false, eval e env) :: starEach rest env)).any (·.1) || ([] : List (Option Str × Sem Value)).any (·.1.isNone)) = false := by
    show ((false || (backTo pos (starEach rest env)).any (·.1)) || false) = false
    rw [hpl]
    rfl
  unfold callWith
  refine wpAny_bind (wpAny_holding (wpAny_mono (Calls.evalArgs_plain (f := f) (Q := fun a s₁ => (∃ x C ox od, f = .ref x ∧ InstAt s₁.heap x ox C od ∧ ox.data = .plain) ∧ wpAny M A (call f a.pos a.kw) Q E s₁) h) (fun a s₁ h₁ => ?_) fun _ _ y => y))
  obtain ⟨⟨x, C, ox, od, rfl, J, hd⟩, go⟩ := h₁
  refine wpAny_bind (wpAny_standAt ?_)
  simp only [hp]
  refine wpAny_bind ((kco_keeper (M := M) J hd).here ?_)
  exact wpAny_bind (wpAny_mono (wpAny_operateT go) (fun r s₂ hr => wpAny_bind (wpAny_holding (wpAny_point (wpAny_pure hr)))) fun _ _ y => y)
end
end MX
end

section
set_option maxRecDepth 100000
set_option maxHeartbeats 1000000
namespace MX
open PySem PySem.Spec PyProof.Rows
section
open PySem.W
variable {prog : Program} {w : World} {A : Around} {E : Value → Shared → Prop} {s : Shared} {K : Frag} {x C f y D f2 g2 : Addr} {ox oy : Obj} {od oe : Option Obj}
/-- own operator, the right side of another own class: the left side's, and the right side's where the left declines -/
theorem own_two {op : Operator} {rc : Option Value} {Q : Value → Shared → Prop} (kin : K.In s.heap) (at_ : InstAt s.heap x ox C od) (atY : InstAt s.heap y oy D oe) (ne : C ≠ D) (nsub : subIn K (.ref D) (.ref C) = some false) (sf : selfFirst K C = true) (sfD : selfFirst K D = true)
    (fnd : findIn K (.ref C) (PySem.dunder op.info.2) = some (some (.ref f))) (isf : isFn K (.ref f) = true) (fr : findIn K (.ref C) (dunderR op.info.2) = some rc) (pr : rc = none ∨ ∃ g : Addr, rc = some (.ref g))
    (fndD : findIn K (.ref D) (PySem.dunder op.info.2) = some (some (.ref f2))) (frD : findIn K (.ref D) (dunderR op.info.2) = some (some (.ref g2))) (isg : isFn K (.ref g2) = true)
    (go : wpAny (model prog w) A (call (.ref f) [.ref x, .ref y]) (fun z s2 => PySem.W.CmpBack Q z s2 ∨ (z = .notImplemented ∧ K.In s2.heap ∧ (∃ ox od, InstAt s2.heap x ox C od) ∧ (∃ oy oe, InstAt s2.heap y oy D oe) ∧ wpAny (model prog w) A (call (.ref g2) [.ref y, .ref x]) (PySem.W.CmpBack Q) E s2)) E s) :
    wpAny (model prog w) A (binaryOp op (.ref x) (.ref y)) Q E s := by
  obtain ⟨cd, tl, hcd, hmro⟩ := ksp_first sf
  obtain ⟨cd2, tl2, hcd2, hmro2⟩ := ksp_first sfD
  rcases io : op.info with ⟨sy, nn⟩
  rw [io] at fnd fr fndD frD
  dsimp only at fnd fr fndD frD
  have first : wpAny (model prog w) A (tryMethod (.ref x) (PySem.dunder nn) (.ref y)) (fun r s2 => (∃ v, r = some v ∧ Q v s2) ∨ (r = none ∧ K.In s2.heap ∧ (∃ ox od, InstAt s2.heap x ox C od) ∧ (∃ oy oe, InstAt s2.heap y oy D oe) ∧ wpAny (model prog w) A (call (.ref g2) [.ref y, .ref x]) (PySem.W.CmpBack Q) E s2)) E s := by
    unfold tryMethod
    refine wpAny_bind (special_fn kin at_ fnd (beq_iff_eq.mp isf) (wpAny_mono go (fun v s2 hv => ?_) fun _ _ e => e))
    rcases hv with hv | ⟨rfl, hv⟩
    · cases v <;> first | exact hv.elim | exact wpAny_pure (.inl ⟨_, rfl, hv⟩)
    · exact wpAny_pure (.inr ⟨rfl, hv⟩)
  obtain ⟨h0, gs, dr, tk, os⟩ := s
  have k1 : Looks (model prog w) h0 (typeOf (.ref x)) (.ref C) := at_.type
  have k2 : Looks (model prog w) h0 (typeOf (.ref y)) (.ref D) := atY.type
  have k3 : Looks (model prog w) h0 (fillsNumberSlot (.ref C) nn) true := fills_K kin hcd hmro fnd
  have k4 : Looks (model prog w) h0 (fillsNumberSlot (.ref D) nn) true := fills_K kin hcd2 hmro2 fndD
  have k5 : Looks (model prog w) h0 (isSubtype (.ref D) (.ref C)) false := looks_subIn kin nsub
  have k6 : Looks (model prog w) h0 (numberSlotInPython (.ref C) nn) true := ksp_inPy kin fnd fr pr
  have k7 : Looks (model prog w) h0 (numberSlotInPython (.ref D) nn) true := ksp_inPy kin fndD frD (.inr ⟨g2, rfl⟩)
  have nee : (Value.ref C == Value.ref D) = false := Bool.eq_false_iff.mpr fun q => by
    cases beq_iff_eq.mp q
    exact ne rfl
  simp only [binaryOp, io]
  refine wpAny_holding (wpAny_bind ?_)
  unfold binaryOp1
  refine wpAny_bind (k1.at (wpAny_bind (k2.at (wpAny_bind (k3.at ?_)))))
  simp only [nee, Bool.false_eq_true, if_false]
  ksp_lk
  refine wpAny_mono first (fun r s2 hr => ?_) fun _ _ y => y
  rcases hr with ⟨z, ez, hz⟩ | ⟨ez, kin2, ⟨ox2, od2, ax2⟩, ⟨oy2, oe2, ay2⟩, go2⟩
  · subst ez
    ksp_lk
    exact hz
  · subst ez
    have last := ksp_try kin2 ay2 frD isg go2
    obtain ⟨h3, gs3, dr3, tk3, os3⟩ := s2
    have j1 : Looks (model prog w) h3 (typeOf (.ref x)) (.ref C) := ax2.type
    have j2 : Looks (model prog w) h3 (typeOf (.ref y)) (.ref D) := ay2.type
    ksp_lk
    simp only [nee, Bool.false_eq_true, if_false, Bool.not_false, Bool.and_self, if_true]
    refine wpAny_bind (wpAny_mono last (fun r s3 ⟨z, ez, hz⟩ => ?_) fun _ _ e => e)
    subst ez
    exact wpAny_bind (wpAny_rule (wpAny_pure (wpAny_pure hz)))
end
end MX
end

section
set_option maxRecDepth 100000
set_option maxHeartbeats 1000000
namespace MX
open PySem PySem.Spec PyProof.Rows
section
open PySem.W
variable {prog : Program} {w : World} {A : Around} {E : Value → Shared → Prop} {s : Shared} {K : Frag} {x C f : Addr} {ox : Obj} {od : Option Obj}
/-- int.__op__ of an instance: not implemented -/
theorem int_ni {nm : String} {g : Int → Int → Sem Fin} {i : Int} {t : Tok} {y : Addr} {oy : Obj} {Q : Fin → Shared → Prop} (hy : s.heap.get? y = some oy) (hd : ∀ k u, oy.data ≠ .prim (.int k u)) (q : Q (.done (.ret .notImplemented)) s) :
    wpAny (model prog w) A (Builtin.Int.intBinary nm g false ⟨[.int i t, .ref y], []⟩) Q E s := by
  unfold Builtin.Int.intBinary slotArgs
  refine wpAny_bind (m := pure (Value.int i t, [Value.ref y])) (wpAny_pure ?_)
  refine wpAny_bind (m := pure i) (wpAny_pure ?_)
  refine wpAny_bind ?_
  show wpAny (model prog w) A (asInt? (.ref y)) _ E s
  unfold asInt?
  refine wpAny_bind (wpAny_load hy ?_)
  split
  · rename_i k u h
    exact absurd h (hd k u)
  · exact wpAny_pure (wpAny_bind (wpAny_rule (wpAny_pure q)))
/-- a builtin that answers an int and an instance by not implemented -/
def NiOk (B : Builtin) : Prop := ∀ (prog : Program) (w : World) (A : Around) (E : Value → Shared → Prop) (s : Shared) (i : Int) (t : Tok) (y : Addr) (oy : Obj) (Q : Fin → Shared → Prop), s.heap.get? y = some oy → (∀ k u, oy.data ≠ .prim (.int k u)) → Q (.done (.ret .notImplemented)) s → wpAny (model prog w) A (B ⟨[.int i t, .ref y], []⟩) Q E s
theorem ni_bin {nm : String} {g : Int → Int → Sem Fin} : NiOk (Builtin.Int.intBinary nm g false) := fun prog w A E s i t y oy Q hy hd q => int_ni hy hd q
/-- int op instance: the instance's own reflected operator -/
theorem own_refl {op : Operator} {i : Int} {t : Tok} {idl : String} {B : Builtin} {f0 : Addr} {fo ro : Option Value} {Q : Value → Shared → Prop} (kin : K.In s.heap) (at_ : InstAt s.heap x ox C od) (hd : ∀ k u, ox.data ≠ .prim (.int k u)) (sf : selfFirst K C = true)
    (fnd0 : findIn K (.ref C) (PySem.dunder op.info.2) = some (some (.ref f0))) (fnd : findIn K (.ref C) (dunderR op.info.2) = some (some (.ref f))) (isf : isFn K (.ref f) = true)
    (t1 : findIn K (.type "int") (PySem.dunder op.info.2) = some fo) (t2 : findIn K (.type "int") (dunderR op.info.2) = some ro) (fil : ((fo.isSome && !isSeqSlot fo) || (ro.isSome && !isSeqSlot ro)) = true) (nsub : subIn K (.ref C) (.type "int") = some false)
    (sl : Slot "int" (PySem.dunder op.info.2) idl) (ar : argsOk idl ⟨[.int i t, .ref x], []⟩) (en : entryFor table idl = some B) (ni : NiOk B)
    (go : wpAny (model prog w) A (call (.ref f) [.ref x, .int i t]) (PySem.W.CmpBack Q) E s) : wpAny (model prog w) A (binaryOp op (.int i t) (.ref x)) Q E s := by
  obtain ⟨cd, tl, hcd, hmro⟩ := ksp_first sf
  have last := ksp_try kin at_ fnd isf go
  have hx : s.heap.get? x = some ox := at_.1
  rcases io : op.info with ⟨sy, nn⟩
  rw [io] at fnd0 fnd t1 t2 last sl
  dsimp only at fnd0 fnd t1 t2 last sl
  obtain ⟨h0, gs, dr, tk, os⟩ := s
  have k1 : Looks (model prog w) h0 (typeOf (.ref x)) (.ref C) := at_.type
  have k2 : Looks (model prog w) h0 (typeOf (.int i t)) (.type "int") := Looks.of_pure rfl
  have k3 : Looks (model prog w) h0 (fillsNumberSlot (.ref C) nn) true := fills_K kin hcd hmro fnd0
  have k4 : Looks (model prog w) h0 (fillsNumberSlot (.type "int") nn) true := fil ▸ ksp_fillsT kin t1 t2
  have k5 : Looks (model prog w) h0 (isSubtype (.ref C) (.type "int")) false := looks_subIn kin nsub
  have k7 : Looks (model prog w) h0 (numberSlotInPython (.type "int") nn) false := Looks.of_pure rfl
  have ne : (Value.type "int" == Value.ref C) = false := Bool.eq_false_iff.mpr fun q => by cases beq_iff_eq.mp q
  simp only [binaryOp, io]
  refine wpAny_holding (wpAny_bind ?_)
  unfold binaryOp1
  refine wpAny_bind (k2.at (wpAny_bind (k1.at (wpAny_bind (k4.at ?_)))))
  simp only [ne, Bool.false_eq_true, if_false]
  ksp_lk
  refine wpAny_bind (m := callSpecial? (.int i t) (PySem.dunder nn) [.ref x]) ?_
  refine wpAny_callSpecial?_slot (T := "int") rfl sl ?_
  refine wpAny_call (codeAny_call_builtin sl.plain en (sl.check _ _ _ _ _ _ _ _ rfl ar ?_))
  refine ni _ _ _ _ _ _ _ _ _ _ hx hd ?_
  show wpAny (model prog w) A (pure none) _ E _
  refine wpAny_pure ?_
  ksp_lk
  refine wpAny_mono last (fun r s2 ⟨z, ez, hz⟩ => ?_) fun _ _ y => y
  subst ez
  ksp_lk
  exact hz
end
end MX
end

section
set_option maxRecDepth 100000
set_option maxHeartbeats 1000000
namespace MX
open PySem PySem.Spec PyProof.Rows L2
theorem Bop.dn_ok (op : Bop) : PySem.dunder op.op.info.2 = Str.ofString op.dn := by cases op <;> decide +kernel
theorem Bop.rn_ok (op : Bop) : dunderR op.op.info.2 = Str.ofString op.rn := by cases op <;> decide +kernel
theorem back_of {X : Cx} {pins : List (Addr × Obj)} {σ : L2.St} {Q : VK} {v : Value} {s : Shared} (h : EP X pins σ Q v s) : PySem.W.CmpBack (EP X pins σ Q) v s := by
  obtain ⟨x, H, I, r, q⟩ := h
  cases v with
  | notImplemented => cases x <;> first | (obtain ⟨_, z⟩ := r; cases z; done) | exact absurd r (by intro z; cases z)
  | _ => exact ⟨x, H, I, r, q⟩
theorem ins_at {X : Cx} {pins : List (Addr × Obj)} {σ : L2.St} {H : Hp} {s : Shared} {a C dx : Addr} {vs : List (Str × V)} (I : Inv X pins σ H s) (e : H a = some (.ins C dx vs)) : ∃ od, PySem.W.InstAt s.heap a (PySem.W.instObj C dx) C (some od) := by
  obtain ⟨mA, O, _⟩ := ins_get I.hok e
  obtain ⟨od, h1, _⟩ := O.look
  exact ⟨od, h1⟩
theorem int_fnd (K : PySem.W.Frag) (op : Bop) : ∃ fo ro, PySem.W.findIn K (.type "int") (PySem.dunder op.op.info.2) = some fo ∧ PySem.W.findIn K (.type "int") (dunderR op.op.info.2) = some ro ∧ ((fo.isSome && !isSeqSlot fo) || (ro.isSome && !isSeqSlot ro)) = true := by
  cases op <;> exact ⟨_, _, rfl, rfl, rfl⟩
theorem int_sub (K : PySem.W.Frag) (C : Addr) : PySem.W.subIn K (.type "int") (.ref C) = some false := rfl
theorem int_slot (op : Bop) : op = .add ∨ op = .sub ∨ op = .mul ∨ op = .fdiv → ∃ idl B, Slot "int" (PySem.dunder op.op.info.2) idl ∧ (∀ i t x, argsOk idl ⟨[.int i t, .ref x], []⟩) ∧ entryFor table idl = some B ∧ NiOk B := by
  rintro (rfl | rfl | rfl | rfl)
  · exact ⟨"int.__add__", _, slot_int_add, fun i t x => rfl, entryFor_of_tree (b := Builtin.«int.__add__») (by kernel_rfl), ni_bin⟩
  · exact ⟨"int.__sub__", _, slot_int_sub, fun i t x => rfl, entryFor_of_tree (b := Builtin.«int.__sub__») (by kernel_rfl), ni_bin⟩
  · exact ⟨"int.__mul__", _, slot_int_mul, fun i t x => rfl, entryFor_of_tree (b := Builtin.«int.__mul__») (by kernel_rfl), ni_bin⟩
  · refine ⟨"int.__floordiv__", _, slot_int_floordiv, fun i t x => rfl, entryFor_of_tree (b := Builtin.«int.__floordiv__») (by kernel_rfl), fun prog w A E s i t y oy Q hy hd q => ?_⟩
    unfold Builtin.«int.__floordiv__» Builtin.exactOperandsForPylong
    refine wpAny_bind ?_
    rw [if_pos (show ([Value.int i t, Value.ref y].any Value.onHeap) = true from rfl)]
    refine wpAny_bind (m := pure (some i)) (wpAny_pure (wpAny_bind ?_))
    show wpAny (model prog w) A (asInt? (.ref y)) _ E s
    unfold asInt?
    refine wpAny_bind (wpAny_load hy ?_)
    split
    · rename_i k u h
      exact absurd h (hd k u)
    · exact wpAny_pure (wpAny_pure (int_ni hy hd q))
end MX
end

section
set_option maxRecDepth 100000
set_option maxHeartbeats 1000000
namespace MX
open PySem PySem.Spec PyProof.Rows L2
section
variable {X : Cx} {fx : Fix} {W : WX} {P : Prog} {n : Nat}
theorem isInt_of {d : D} (h : isInt d = true) : ∃ i, d = .int i := by
  cases d with
  | int i => exact ⟨i, rfl⟩
  | _ => cases h
theorem callO_of {cb : Cb} {o : Option (String × Mode)} {ds : List D} {S : Store} (h : callO cb o ds S ≠ .bad) : ∃ f m, o = some (f, m) ∧ callO cb o ds S = callM cb m f ds S := by
  cases o with
  | none => exact absurd rfl h
  | some fm => exact ⟨fm.1, fm.2, rfl, rfl⟩
/-- the reflected name: a method, or none -/
def RefOk (P : Prog) (n : Nat) (fx : Fix) (X : Cx) (c : String) (op : Bop) : Prop :=
  NoAttr X.K (fx.ca c) (Str.ofString op.rn) ∨ ∃ g, MethOk P n fx.K fx.ca X c op.rn g ∧ (op = .add ∨ op = .sub ∨ op = .mul ∨ op = .fdiv)
theorem rok_op {op : Bop} (h : op.rok = true) : op = .add ∨ op = .sub ∨ op = .mul ∨ op = .fdiv := by cases op <;> first | (cases h; done) | simp
theorem refOk_of {c : String} {op : Bop} (ob : ObjF P n fx X) (h : P.rok c op = true) : RefOk P n fx X c op := by
  unfold Prog.rok at h
  rw [Bool.or_eq_true, Bool.and_eq_true] at h
  rcases h with h | ⟨h1, h2⟩
  · exact .inl (ob.lacks c _ h)
  · obtain ⟨fm, e⟩ := Option.isSome_iff_exists.mp h2
    exact .inr ⟨fm.1, ob.meth c _ fm.1 fm.2 e, rok_op h1⟩
theorem opD_own {op : Bop} (hK : fx.K = X.K) (tk : Takes X W) (ob : ObjF P n fx X) : OpD X fx W (binaryOp op.op) (binX P (run P n) op) := by
  intro pins s σ H x y v u Q I rx ry h
  obtain ⟨gh, S, d, e, r, rd, re, h⟩ := h
  unfold binX at h
  cases e1 : insD S d with
  | some cf =>
    obtain ⟨c, fs⟩ := cf
    rw [e1] at h
    obtain ⟨a, dx, vs, rfl, ha, _⟩ := r.insD rd e1
    obtain rfl : v = .ref a := rx
    obtain ⟨od, at_⟩ := ins_at I ha
    have go0 : ePost fx W gh σ (tOf fx Q) (callO (run P n) (P.meth c op.dn) [d, e] S) → ∃ ad : Addr, PySem.W.findIn X.K (.ref (fx.ca c)) (PySem.dunder op.op.info.2) = some (some (.ref ad)) ∧ PySem.W.isFn X.K (.ref ad) = true ∧ PySem.W.selfFirst X.K (fx.ca c) = true ∧
        wpAny (model X.prog X.w) X.A (call (.ref ad) [.ref a, u]) (PySem.W.CmpBack (EP X pins σ Q)) X.xe s := fun h => by
      obtain ⟨f, m, em, ec⟩ := callO_of (post_ne h)
      rw [ec] at h
      obtain ⟨k, ad, fd, ps, M, hr, hb, F⟩ := (ob.meth c _ f m em).ex
      have go := wpAny_mono (run_m (c := c) (x := op.dn) (vs := [.ref a, y]) (us := [.ref a, u]) hK tk (hr.mono (Nat.le_add_right _ 4)) hb F I r (.cons rd (.cons re .nil)) (.cons rfl (.cons ry .nil)) h) (fun z s2 hz => back_of hz) fun _ _ q => q
      exact ⟨ad, by rw [op.dn_ok]; exact M.at_, M.fn, (ob.bits c (kn_of_meth em)).sf, go⟩
    cases e2 : insD S e with
    | some cf2 =>
      obtain ⟨c2, fs2⟩ := cf2
      rw [e2] at h
      have h : ePost fx W gh σ (tOf fx Q) (if c2 = c then callO (run P n) (P.meth c op.dn) [d, e] S else if P.rok c op && ((P.meth c2 op.dn).isSome && (P.meth c2 op.rn).isSome) then binY P (run P n) op c c2 S d e else .bad) := h
      by_cases h2 : c2 = c
      · rw [if_pos h2] at h
        subst h2
        obtain ⟨ad, fnd, isf, sf, go⟩ := go0 h
        obtain ⟨b, dx2, vs2, rfl, hb2, _⟩ := r.insD re e2
        obtain rfl : u = .ref b := ry
        obtain ⟨od2, at2⟩ := ins_at I hb2
        exact own_same I.kIn at_ at2.type sf fnd isf go
      · rw [if_neg h2] at h
        by_cases h3 : (P.rok c op && ((P.meth c2 op.dn).isSome && (P.meth c2 op.rn).isSome)) = true
        · rw [if_pos h3] at h
          rw [Bool.and_eq_true, Bool.and_eq_true] at h3
          obtain ⟨h4, h5, h6⟩ := h3
          obtain ⟨fm2, em2⟩ := Option.isSome_iff_exists.mp h5
          obtain ⟨gm2, en2⟩ := Option.isSome_iff_exists.mp h6
          obtain ⟨b, dx2, vs2, rfl, hb2, _⟩ := r.insD re e2
          obtain rfl : u = .ref b := ry
          obtain ⟨od2, at2⟩ := ins_at I hb2
          obtain ⟨kf, af, fdf, psf, Mf, _⟩ := (ob.meth c2 _ fm2.1 fm2.2 em2).ex
          obtain ⟨kg, ag, fdg, psg, Mg, hrg, hbg, Fg⟩ := (ob.meth c2 _ gm2.1 gm2.2 en2).ex
          have kc2 : P.kn c2 = true := kn_of_meth em2
          unfold binY at h
          by_cases h7 : nimB P (P.meth c op.dn) S e = true
          · rw [if_pos h7] at h
            unfold nimB at h7
            cases q1 : P.meth c op.dn with
            | none => rw [q1] at h7; cases h7
            | some fm =>
              obtain ⟨f, m⟩ := fm
              rw [q1] at h7
              cases q2 : P.fn f with
              | none => simp only [q2] at h7; cases h7
              | some F =>
                simp only [q2] at h7
                cases q3 : nimC F.body with
                | none => simp only [q3] at h7; cases h7
                | some cs =>
                  simp only [q3] at h7
                  cases q4 : isiXs P.kn S e cs with
                  | none => simp only [q4] at h7; cases h7
                  | some t =>
                    simp only [q4] at h7
                    cases t with
                    | true => cases h7
                    | false =>
                      have hnp := of_decide_eq_true h7
                      obtain ⟨k, ad, fd, ps, M, hr, hb, hps, run⟩ := (ob.nim c _ f m F cs q1 q2 q3 hnp).ex
                      have kc : P.kn c = true := kn_of_meth q1
                      obtain ⟨ne, ns⟩ := (ob.own ⟨c, kc⟩).sub c2 kc2 c kc (beq_eq_false_iff_ne.mpr h2)
                      rw [en2] at h
                      have h : ePost fx W gh σ (tOf fx Q) (callM (MX.run P n) gm2.2 gm2.1 [e, d] S) := h
                      have bnd := hb s [.ref a, .ref b] I.kIn (by rw [List.append_nil]; exact hps.symm)
                      rw [List.append_nil] at bnd
                      have go : wpAny (model X.prog X.w) X.A (call (.ref ad) [.ref a, .ref b]) (fun z s2 => PySem.W.CmpBack (EP X pins σ Q) z s2 ∨ (z = .notImplemented ∧ X.K.In s2.heap ∧ (∃ ox od, PySem.W.InstAt s2.heap a ox (fx.ca c) od) ∧ (∃ oy oe, PySem.W.InstAt s2.heap b oy (fx.ca c2) oe) ∧ wpAny (model X.prog X.w) X.A (call (.ref ag) [.ref b, .ref a]) (PySem.W.CmpBack (EP X pins σ Q)) X.xe s2)) X.xe s := by
                        refine wpAny_call (codeAny_mono (run X.A X.stack s H ⟨[.ref a, .ref b], []⟩ [.ref a, .ref b] [.ref a, .ref b] fx gh S d e rfl rfl (hr.mono (Nat.le_add_right _ 3)) I.env0 bnd (.cons rfl (.cons rfl .nil)) r (.cons rd (.cons re .nil)) q4) fun t s2 hq => ?_)
                        obtain ⟨rfl, g', H', os, bare, un, hok, le, r'⟩ := hq
                        obtain ⟨_, _, I', _, rfl, rfl⟩ := I.after (u := .none) (Q := fun v H1 => v = .non ∧ H1 = H') ⟨.non, H', os, bare, un, hok, rfl, rfl, rfl⟩
                        refine .inr ⟨rfl, I'.kIn, ?_, ?_, ?_⟩
                        · obtain ⟨a', dx', vs', ea, ha', _⟩ := r'.insD (rd.mono le) e1
                          cases ea
                          obtain ⟨od', at'⟩ := ins_at I' ha'
                          exact ⟨_, _, at'⟩
                        · obtain ⟨a', dx', vs', ea, ha', _⟩ := r'.insD (re.mono le) e2
                          cases ea
                          obtain ⟨od', at'⟩ := ins_at I' ha'
                          exact ⟨_, _, at'⟩
                        · exact wpAny_mono (run_m (c := c2) (x := op.rn) (vs := [.ref b, .ref a]) (us := [.ref b, .ref a]) hK tk (hrg.mono (Nat.le_add_right _ 4)) hbg Fg I' r' (.cons (re.mono le) (.cons (rd.mono le) .nil)) (.cons rfl (.cons rfl .nil)) (ePost.up h le)) (fun z s2 hz => back_of hz) fun _ _ q => q
                      rcases refOk_of ob h4 with hn | ⟨g0, hm0, _⟩
                      · exact own_two (rc := none) I.kIn at_ at2 (Ne.symm ne) ns (ob.bits c kc).sf (ob.bits c2 kc2).sf (by rw [op.dn_ok]; exact M.at_) M.fn (by rw [op.rn_ok]; exact hn) (.inl rfl) (by rw [op.dn_ok]; exact Mf.at_) (by rw [op.rn_ok]; exact Mg.at_) Mg.fn go
                      · obtain ⟨k', ad', fd', ps', M', _⟩ := hm0.ex
                        exact own_two (rc := some (.ref ad')) I.kIn at_ at2 (Ne.symm ne) ns (ob.bits c kc).sf (ob.bits c2 kc2).sf (by rw [op.dn_ok]; exact M.at_) M.fn (by rw [op.rn_ok]; exact M'.at_) (.inr ⟨ad', rfl⟩) (by rw [op.dn_ok]; exact Mf.at_) (by rw [op.rn_ok]; exact Mg.at_) Mg.fn go
          · rw [if_neg h7] at h
            obtain ⟨f, m, em, ec⟩ := callO_of (post_ne h)
            have kc : P.kn c = true := kn_of_meth em
            obtain ⟨ne, ns⟩ := (ob.own ⟨c, kc⟩).sub c2 kc2 c kc (beq_eq_false_iff_ne.mpr h2)
            obtain ⟨ad, fnd, isf, sf, go⟩ := go0 h
            have go := wpAny_mono go (fun z s2 hz => (.inl hz : PySem.W.CmpBack (EP X pins σ Q) z s2 ∨ (z = .notImplemented ∧ X.K.In s2.heap ∧ (∃ ox od, PySem.W.InstAt s2.heap a ox (fx.ca c) od) ∧ (∃ oy oe, PySem.W.InstAt s2.heap b oy (fx.ca c2) oe) ∧ wpAny (model X.prog X.w) X.A (call (.ref ag) [.ref b, .ref a]) (PySem.W.CmpBack (EP X pins σ Q)) X.xe s2))) fun _ _ q => q
            rcases refOk_of ob h4 with hn | ⟨g0, hm0, _⟩
            · exact own_two (rc := none) I.kIn at_ at2 (Ne.symm ne) ns sf (ob.bits c2 kc2).sf fnd isf (by rw [op.rn_ok]; exact hn) (.inl rfl) (by rw [op.dn_ok]; exact Mf.at_) (by rw [op.rn_ok]; exact Mg.at_) Mg.fn go
            · obtain ⟨k', ad', fd', ps', M', _⟩ := hm0.ex
              exact own_two (rc := some (.ref ad')) I.kIn at_ at2 (Ne.symm ne) ns sf (ob.bits c2 kc2).sf fnd isf (by rw [op.rn_ok]; exact M'.at_) (.inr ⟨ad', rfl⟩) (by rw [op.dn_ok]; exact Mf.at_) (by rw [op.rn_ok]; exact Mg.at_) Mg.fn go
        · rw [if_neg h3] at h
          exact h.elim
    | none =>
      rw [e2] at h
      have h : ePost fx W gh σ (tOf fx Q) (if (isInt e && P.rok c op) = true then callO (run P n) (P.meth c op.dn) [d, e] S else .bad) := h
      by_cases h2 : (isInt e && P.rok c op) = true
      · rw [if_pos h2] at h
        rw [Bool.and_eq_true] at h2
        obtain ⟨ad, fnd, isf, sf, go⟩ := go0 h
        obtain ⟨i, rfl⟩ := isInt_of h2.1
        obtain rfl := re.iInt
        obtain ⟨t, rfl⟩ := ry
        obtain ⟨fo, ro, t1, t2, fil⟩ := int_fnd X.K op
        rcases refOk_of ob h2.2 with hn | ⟨g, hm, _⟩
        · exact own_int (rc := none) I.kIn at_ rfl sf fnd isf (by rw [op.rn_ok]; exact hn) (.inl rfl) t1 t2 (int_sub _ _) go
        · obtain ⟨k', ad', fd', ps', M', _⟩ := hm.ex
          exact own_int (rc := some (.ref ad')) I.kIn at_ rfl sf fnd isf (by rw [op.rn_ok]; exact M'.at_) (.inr ⟨ad', rfl⟩) t1 t2 (int_sub _ _) go
      · rw [if_neg h2] at h
        exact h.elim
  | none =>
    rw [e1] at h
    cases e2 : insD S e with
    | some cf2 =>
      obtain ⟨c, fs2⟩ := cf2
      rw [e2] at h
      have h : ePost fx W gh σ (tOf fx Q) (if (isInt d && (op.rok && (P.meth c op.dn).isSome)) = true then callO (run P n) (P.meth c op.rn) [e, d] S else .bad) := h
      by_cases h2 : (isInt d && (op.rok && (P.meth c op.dn).isSome)) = true
      · rw [if_pos h2] at h
        rw [Bool.and_eq_true, Bool.and_eq_true] at h2
        obtain ⟨h3, hop, hdn⟩ := h2
        obtain ⟨i, rfl⟩ := isInt_of h3
        obtain ⟨fm0, em0⟩ := Option.isSome_iff_exists.mp hdn
        obtain ⟨f, m, em, ec⟩ := callO_of (post_ne h)
        rw [ec] at h
        obtain rfl := rd.iInt
        obtain ⟨t, rfl⟩ := rx
        obtain ⟨a, dx, vs, rfl, ha, _⟩ := r.insD re e2
        obtain rfl : u = .ref a := ry
        obtain ⟨od, at_⟩ := ins_at I ha
        obtain ⟨k, ad, fd, ps, M, hr, hb, F⟩ := (ob.meth c _ f m em).ex
        obtain ⟨k0, ad0, fd0, ps0, M0, _⟩ := (ob.meth c _ fm0.1 fm0.2 em0).ex
        obtain ⟨fo, ro, t1, t2, fil⟩ := int_fnd X.K op
        obtain ⟨idl, B, sl, ar, en, ni⟩ := int_slot op (rok_op hop)
        have bt := ob.bits c (kn_of_meth em)
        have go := wpAny_mono (run_m (c := c) (x := op.rn) (vs := [.ref a, .int i]) (us := [.ref a, .int i t]) hK tk (hr.mono (Nat.le_add_right _ 4)) hb F I r (.cons re (.cons rd .nil)) (.cons rfl (.cons ⟨t, rfl⟩ .nil)) h) (fun z s2 hz => back_of hz) fun _ _ q => q
        exact own_refl I.kIn at_ (fun k u z => by cases z) bt.sf (by rw [op.dn_ok]; exact M0.at_) (by rw [op.rn_ok]; exact M.at_) M.fn t1 t2 fil bt.ni sl (ar _ _ _) en ni go
      · rw [if_neg h2] at h
        exact h.elim
    | none =>
      rw [e2] at h
      exact opD_bin op hK pins s σ H x y v u Q I rx ry ⟨gh, S, d, e, r, rd, re, h⟩
end
end MX
end

section
set_option maxRecDepth 100000
set_option maxHeartbeats 1000000
namespace MX
open PySem PySem.Spec PyProof.Rows L2
section
variable {X : Cx} {fx : Fix} {W : WX} {P : Prog} {n : Nat}
/-- a def run within a builtin's steps: what its end is, as it is told -/
theorem run_ce {k : Nat} {adr : Addr} {fd : FuncData} {ps : List Str} {sp : L2.Sp} {A : Around} {pins : List (Addr × Obj)} {σ : L2.St} {H : Hp} {s : Shared} {Q : VK} {E : XK} {us : List Value} {vs : List V} {EE : Value → Shared → Prop}
    (F : FnOk X.prog X.w X.K X.mg X.base (L2.CX X.prog X.w) k adr fd ps sp) (sb : Sub X k A) (hb : Binds X.K fd ps []) (I : Inv X pins σ H s) (ru : Vals vs us) (want : sp vs H Q E) (herr : ∀ e s', L2.CX X.prog X.w X.stack H s E e s' → EE e s') :
    wpAny (model X.prog X.w) A (call (.ref adr) us) (fun z s' => CE X.stack X.prog X.w H s Q z s') EE s := by
  have e0 : Env0 X.prog X.w X.K X.mg X.base A X.stack s H := by
    have e := I.env0
    exact ⟨by rw [sb.fr]; exact e.frames, e.mod, e.bs, e.bsz, e.funs, e.frf, e.hok, e.bare⟩
  have len : us.length = ps.length := by
    rw [← ru.length]
    exact F.len _ _ _ _ want
  have bnd := hb s us I.kIn (by rw [List.append_nil]; exact len)
  rw [List.append_nil] at bnd
  refine wpAny_call (codeAny_mono (F.run A X.stack s H ⟨us, []⟩ us vs Q E sb.room e0 bnd ru want) fun r s' hq => ?_)
  cases r with
  | error e => exact herr e s' hq
  | ok fl =>
    cases fl with
    | ret u => exact hq
    | next => exact False.elim hq
    | brk => exact False.elim hq
    | cont => exact False.elim hq
/-- no exception is in the air -/
theorem cx_false {H : Hp} {s s' : Shared} {e : Value} (h : L2.CX X.prog X.w X.stack H s (fun _ _ _ => False) e s') : False := by
  obtain ⟨_, _, _, _, _, _, _, _, _, _, _, _, z⟩ := h
  exact z
/-- an untracked list of ours is tracked -/
theorem Inv.adopt {pins : List (Addr × Obj)} {σ : L2.St} {H : Hp} {s : Shared} {h' : Heap} {t' : Nat} {ch : List Addr} {T : Addr} {ob : HO} (I : Inv X pins σ H s) (k : ∀ b o, b ∉ ch → s.heap.get? b = some o → h'.get? b = some o) (hf : ∀ b ∈ ch, FpOk X pins H b) (hT : T ∈ ch)
    (new : ObjOk X.prog X.w (upd H T ob) h' T ob) : Inv X pins σ (upd H T ob) { s with heap := h', toks := t' } := by
  have hn : H T = none := (hf T hT).1
  have nit : ∀ b u, H b = some u → b ∉ ch := fun b u e z => by
    have q := (hf b z).1
    rw [q] at e; cases e
  refine I.step (g' := s.gens) (d' := s.drawn) (ch := ch) (fun b hb => ⟨(hf b hb).2.2.2.1, (hf b hb).2.1, (hf b hb).2.2.2.2.1, (hf b hb).2.2.2.2.2⟩) (fun b o _ _ hc e _ => k b o hc e) (fun b o _ _ hc e _ => ⟨o.slots, k b o hc e⟩)
    (fun b o hc e n => ?_) (fun b o hc e => ⟨o, k b o hc e⟩) (fun b xs e => ?_) (fun b o u e => ?_) (fun b ps e => ⟨#[], ?_⟩) (fun m hm => ?_) (fun b u e => ?_) I.bare
  · rw [upd_ne (fun z => hc (by rw [z]; exact hT))]; exact n
  · rw [upd_ne (ne_of_none e hn)]; exact e
  · rw [upd_ne (ne_of_none e hn)]; exact e
  · rw [upd_ne (ne_of_none e hn), e]; simp
  · obtain ⟨o, es, ep, ho, r⟩ := hm
    exact ⟨o, es, ep, k _ o (fun z => (hf _ z).2.1 rfl) ho, r⟩
  · by_cases hb : b = T
    · subst hb
      rw [upd_same] at e
      cases e
      exact new
    · rw [upd_ne hb] at e
      refine (I.hok b u e).stay (fun c v hc q => k c v ?_ q) (fun c q => by rw [upd_ne (ne_of_none q hn)]; exact q) fun c xs q => by rw [upd_ne (ne_of_none q hn)]; exact q
      rcases hc with z | z
      · rw [z]; exact nit b u e
      · exact nit c _ z
theorem pin2 {pins : List (Addr × Obj)} {σ : L2.St} {H : Hp} {s : Shared} {a : Addr} {o : Obj} (I : Inv X pins σ H s) (f : FpOk X pins H a) (ho : s.heap.get? a = some o) (hc : ∀ v, o.data ≠ .cell v) : Inv X ((a, o) :: pins) σ H s := by
  refine I.pins_of fun p hp => ?_
  rcases List.mem_cons.mp hp with e | e
  · subst e
    exact ⟨ho, f.1, f.2.1, f.2.2.1, hc⟩
  · exact I.pin p (List.mem_append_right _ e)
theorem fp_less {pins : List (Addr × Obj)} {H : Hp} {a : Addr} {p : Addr × Obj} (f : FpOk X (p :: pins) H a) : FpOk X pins H a :=
  ⟨f.1, f.2.1, f.2.2.1, f.2.2.2.1, f.2.2.2.2.1, fun q hq => f.2.2.2.2.2 q (by
    rcases List.mem_append.mp hq with z | z
    · exact List.mem_append_left _ z
    · exact List.mem_append_right _ (List.mem_cons_of_mem _ z))⟩
/-- what is pinned stays so: of a young address -/
theorem fp_at {pins pl : List (Addr × Obj)} {H H' : Hp} {a : Addr} (f : FpOk X pl H a) (h : H' a = none) (np : ∀ p ∈ X.pn ++ pins, p.1 ≠ a) : FpOk X pins H' a := ⟨h, f.2.1, f.2.2.1, f.2.2.2.1, f.2.2.2.2.1, np⟩
/-- the length that list(o) asks for -/
theorem own_hint {A : Around} {prog : Program} {w : World} {E : Value → Shared → Prop} {s : Shared} {K : PySem.W.Frag} {x C f : Addr} {ox : Obj} {od : Option Obj} {Q : Bool → Shared → Prop} (kin : K.In s.heap) (J : PySem.W.InstAt s.heap x ox C od) (fnd : PySem.W.findIn K (.ref C) "__len__" = some (some (.ref f))) (isf : PySem.W.isFn K (.ref f) = true)
    (go : wpAny (model prog w) A.in1 (call (.ref f) [.ref x]) (fun z s2 => ∃ j t, z = .int j t ∧ (0 ≤ j ∧ j ≤ 1000000) ∧ ∀ b, Q b { s2 with toks := s2.toks + 1 }) (fun _ _ => False) s) : wpAny (model prog w) A (Builtin.List.listLengthHint (.ref x)) Q E s := by
  unfold Builtin.List.listLengthHint
  refine wpAny_bind (wpAny_bind (J.type.here ((PySem.W.looks_findIn kin fnd).here ?_)))
  refine PySem.W.KFB.if_not rfl ?_
  show wpAny _ _ (rule "list.length-hint.len" >>= fun _ => (call (.builtin "len") [.ref x]).attempt >>= _) _ _ _
  refine wpAny_bind (wpAny_rule (wpAny_bind (wpAny_attempt (wpAny_mono (own_len (Q := fun z s2 => ∃ j t, z = .int j t ∧ (0 ≤ j ∧ j ≤ 1000000) ∧ ∀ b, Q b s2) kin J fnd isf (wpAny_mono go (fun z s2 ⟨j, t, ez, hj, hq⟩ => ?_) fun _ _ y => y)) (fun z s2 ⟨j, t, ez, hj, hq⟩ => ?_) fun _ _ y => y.elim))))
  · subst ez
    exact ⟨⟨hj.1, by omega⟩, j, _, rfl, hj, hq⟩
  · subst ez
    dsimp only
    refine wpAny_bind (m := asInt? (.int j t)) (wpAny_pure ?_)
    show wpAny _ _ (if Builtin.List.listTooLong j.toNat = true then _ else _) _ _ _
    rw [if_neg (by unfold Builtin.List.listTooLong; rw [sizeLine_eq]; simp; omega)]
    exact wpAny_pure (hq _)
/-- list(o): the new list lies there, empty and out of reach, while o's own defs run -/
theorem call_listI {pins : List (Addr × Obj)} {σ : L2.St} {H : Hp} {s : Shared} {Q : VK} {g : Gh} {S : Store} {d : D} {v : V} {u : Value} {c : String} {fs : List (String × D)} {kk : Store → D → Res D} (hc : X.calm = true) (hK : fx.K = X.K) (tk : Takes X W) (ob : ObjF P n fx X) (I : Inv X pins σ H s) (r : R fx g S H) (rd : RelD fx.K fx.ca g v d) (ru : RelV v u) (e1 : insD S d = some (c, fs))
    (q : ePost fx W g σ (tOf fx Q) (iterX P (run P n) c fs S d kk))
    (hk : ∀ (g2 : Gh) (S1 : Store) (H2 : Hp) (l : V) (e : D), R fx g2 S1 H2 → RelD fx.K fx.ca g2 l e → isLst S1 e = true → ePost fx W g2 σ (tOf fx Q) (kk S1 e) → ∃ a ys, l = .ref a ∧ SqL X.K H2 a ys ∧ ∀ p, H2 p = none → Q (.ref p) (upd H2 p (.lst ys))) :
    wpAny (model X.prog X.w) X.A (call (.type "list") [u]) (EP X pins σ Q) X.xe s := by
  obtain ⟨a, dx, vs, rfl, ha, hF⟩ := r.insD rd e1
  obtain rfl : u = .ref a := ru
  obtain ⟨od, J⟩ := ins_at I ha
  unfold iterX at q
  cases q1 : P.itF c with
  | none => rw [q1] at q; exact q.elim
  | some f =>
    simp only [q1] at q
    cases q2 : fs.lookup f with
    | none => simp only [q2] at q; exact q.elim
    | some e =>
      simp only [q2] at q
      by_cases q3 : isLst S e = true
      · rw [if_pos q3] at q
        cases q4 : callO (run P n) (P.meth c "__len__") [d] S with
        | bad => rw [q4] at q; exact q.elim
        | ex x S1 => rw [q4] at q; exact q.elim
        | ok z S1 =>
          rw [q4] at q
          cases z with
          | int j =>
            have q : ePost fx W g σ (tOf fx Q) (if (0 ≤ j ∧ j ≤ 1000000) ∧ isLst S1 e = true then kk S1 e else .bad) := q
            by_cases q5 : (0 ≤ j ∧ j ≤ 1000000) ∧ isLst S1 e = true
            · rw [if_pos q5] at q
              obtain ⟨fl, ml, em, ec⟩ := callO_of (cb := run P n) (o := P.meth c "__len__") (ds := [d]) (S := S) (by rw [q4]; intro z; cases z)
              obtain ⟨kl, adl, fdl, psl, Ml, hrl, hbl, Fl⟩ := (ob.meth c _ fl ml em).ex
              obtain ⟨ki, adi, fdi, psi, Mi, hri, hbi, Fi⟩ := (ob.iter c f q1).ex
              obtain ⟨lv, hlv, rlv⟩ := hF.look q2
              obtain ⟨xs, ex⟩ : ∃ xs, MX.look S e = .lst xs := by
                unfold isLst at q3
                cases w : MX.look S e with
                | lst xs => exact ⟨xs, rfl⟩
                | _ => rw [w] at q3; cases q3
              obtain ⟨l, zs, rfl, hl, _⟩ := r.lst rlv ex
              refine callType_codes (Q₁ := fun obj s₁ => obj = .ref s.heap.objs.size ∧ s₁ = { s with heap := s.heap.push { cls := .type "list", data := .seq #[] } }) PySem.F.called_list (PySem.F.typeCall_list_1 _) PySem.F.entry_list_init
                (code_list_new _ ⟨rfl, rfl⟩) fun obj s₁ h₁ => ?_
              obtain ⟨rfl, rfl⟩ := h₁
              have hS : (s.heap.push { cls := .type "list", data := .seq #[] }).get? s.heap.objs.size = some { cls := .type "list", data := .seq #[] } := Heap.get?_push_size _ rfl
              refine ⟨⟨_, hS, rfl⟩, PySem.F.args_list_init_2 _ _, ?_⟩
              show wpAny _ _ (do let old ← Builtin.List.listItems (.ref s.heap.objs.size); Builtin.List.listUpdate (.ref s.heap.objs.size) (fun _ => #[]); letGo old.toList.reverse; Builtin.List.listExtendWith (.ref s.heap.objs.size) (.ref a) .none) _ _ _
              refine wpAny_bind ?_
              unfold Builtin.List.listItems
              refine wpAny_bind (wpAny_seqItems hS rfl (wpAny_pure ?_))
              show wpAny _ _ (updateSeq s.heap.objs.size (fun _ => #[]) >>= fun _ => letGo (#[] : Array Value).toList.reverse >>= fun _ => Builtin.List.listExtendWith (.ref s.heap.objs.size) (.ref a) .none) _ _ _
              refine wpAny_bind (wpAny_updateSeq hS rfl ?_)
              have hS2 := Heap.get?_update_self (Obj.mapSeq (fun _ => (#[] : Array Value))) hS rfl
              generalize hh2 : (s.heap.push { cls := .type "list", data := .seq #[] }).update s.heap.objs.size (Obj.mapSeq (fun _ => (#[] : Array Value))) = h2 at hS2 ⊢
              have keep2 : ∀ b o, s.heap.get? b = some o → h2.get? b = some o := fun b o e => by
                rw [← hh2]
                exact (Heap.get?_update_other _ _ (Ne.symm (Nat.ne_of_lt (Heap.lt_size e)))).trans (Heap.get?_push_of_some _ e)
              refine wpAny_bind (wpAny_letGo ?_)
              obtain ⟨o2, ho2, d2, c2⟩ : ∃ o2 : Obj, h2.get? s.heap.objs.size = some o2 ∧ (∃ n, o2 = { cls := .type "list", dict := none, data := .seq #[] n, slots := #[] }) ∧ ∀ v, o2.data ≠ .cell v := ⟨_, hS2, ⟨_, rfl⟩, fun v z => by cases z⟩
              have I1 : Inv X pins σ (upd H s.heap.objs.size (.ext fun h => h.get? s.heap.objs.size = some o2)) { s with heap := h2 } := I.laid (t' := s.toks) keep2 (Nat.le_refl _) ⟨ho2, ⟨_, ho2⟩, fun _ _ q k => k _ q⟩
              have hqa : s.heap.objs.size ≠ a := Nat.ne_of_gt (I.hok.lt ha)
              have hql : s.heap.objs.size ≠ l := Nat.ne_of_gt (I.hok.lt hl)
              have hqn : H s.heap.objs.size = none := I.hok.fresh (Nat.le_refl _)
              have ha1 : upd H s.heap.objs.size (.ext fun h => h.get? s.heap.objs.size = some o2) a = some (.ins (fx.ca c) dx vs) := by rw [upd_ne (Ne.symm hqa)]; exact ha
              have hl1 : upd H s.heap.objs.size (.ext fun h => h.get? s.heap.objs.size = some o2) l = some (.lst zs) := by rw [upd_ne (Ne.symm hql)]; exact hl
              obtain ⟨od2, J2⟩ := ins_at I1 ha1
              unfold Builtin.List.listExtendWith
              refine wpAny_bind (J2.type.here ?_)
              have z1 : Builtin.List.listSameRef (.ref s.heap.objs.size) (.ref a) = false := by simp [Builtin.List.listSameRef, hqa]
              have z2 : (Value.ref (fx.ca c) == Value.type "list") = false := rfl
              have z3 : (Value.ref (fx.ca c) == Value.type "tuple") = false := rfl
              simp only [z1, z2, z3, Bool.or_false, Bool.false_eq_true, if_false]
              obtain ⟨m0, hFr⟩ := I1.fr
              refine wpAny_bind (PySem.W.owit_iter hFr I1.ok.mod.kin J2 Mi.at_ Mi.fn ?_)
              have sb : ∀ {k : Nat}, Room (k + 4) X.A → Sub X (k + 2) X.A.in1.in1 := fun hr => (Sub.in1 (Sub.in1 (⟨hr, rfl⟩ : Sub X (_ + 4) X.A)))
              refine wpAny_mono (run_ce (Q := fun v H' => ∃ it, v = .ref it ∧ upd H s.heap.objs.size (.ext fun h => h.get? s.heap.objs.size = some o2) it = none ∧ s.heap.objs.size < it ∧ H' = upd (upd H s.heap.objs.size (.ext fun h => h.get? s.heap.objs.size = some o2)) it (ItO l it 0)) (E := fun c d H => W c d σ H) (us := [.ref a]) (vs := [.ref a]) Fi ((Sub.in1 (Sub.in1 (⟨hri, rfl⟩ : Sub X (ki + 3) X.A))).mono (Nat.le_add_right _ 1)) hbi I1 (.cons rfl .nil)
                ⟨a, dx, vs, l, zs, rfl, ha1, hlv, SqL.of hl1, fun it h k => ⟨it, rfl, h, k _ _ upd_same, rfl⟩⟩ (fun e s' h => passAt tk σ _ _ _ e s' I1 h)) (fun z s3 hz => ?_) fun _ _ y => y
              obtain ⟨v3, H3, I3, rv3, it, ev, hn, hge, eH⟩ := I1.after hz
              subst ev eH
              obtain rfl : z = Value.ref it := rv3
              have hit := itO_get I3 upd_same
              have fpI0 := ItX.inv_fp I3 upd_same (Nat.le_trans I.sz (Nat.le_of_lt hge))
              have I4a := ItX.inv_drop I3 (upd_same (o := ItO l it 0))
              rw [ItX.dropH_upd hn] at fpI0 I4a
              have I4 := ItX.inv_drop I4a upd_same
              rw [ItX.dropH_upd hqn] at I4
              have hq3 : s3.heap.get? s.heap.objs.size = some o2 := (I4a.hok _ _ upd_same).1
              have hnit : H it = none := by rw [upd_ne (Nat.ne_of_gt hge)] at hn; exact hn
              have fpI : FpOk X pins H it := fp_at fpI0 hnit fpI0.2.2.2.2.2
              have fpQ : FpOk X pins H s.heap.objs.size := I.fpOk (Nat.le_refl _) hqn
              have I5q : Inv X ((s.heap.objs.size, o2) :: pins) σ H s3 := pin2 I4 fpQ hq3 c2
              have fpI2 : FpOk X ((s.heap.objs.size, o2) :: pins) H it := fp_at fpI hnit fun p hp => by
                rcases List.mem_append.mp hp with z | z
                · exact fpI.2.2.2.2.2 p (List.mem_append_left _ z)
                · rcases List.mem_cons.mp z with z | z
                  · rw [z]
                    exact Nat.ne_of_lt hge
                  · exact fpI.2.2.2.2.2 p (List.mem_append_right _ z)
              have I5 : Inv X ((it, GNX.itObj l 0) :: (s.heap.objs.size, o2) :: pins) σ H s3 := pin2 I5q fpI2 hit fun v z => by cases z
              unfold PySem.W.OwitIt
              refine wpAny_specialOf (name := Str.ofString "__next__") (T := "list_iterator") ⟨_, hit, rfl⟩ slot_listiter_next.lookup ?_
              obtain ⟨od5, J5⟩ := ins_at I5 ha
              have rv1 : RelL fx.K fx.ca g [.ref a] [d] := .cons rd .nil
              rw [ec] at q4
              have qL : ePost fx (fun _ _ _ _ => False) g σ (tOf fx fun v H2 => ∃ g2, g.le g2 ∧ R fx g2 S1 H2 ∧ v = .int j) (callM (run P n) ml fl [d] S) := by
                rw [q4]
                exact fun g' H' l r' v rv => ⟨g', l, r', rv.iInt⟩
              obtain ⟨G, hG1, hG2⟩ := callM_np (post_ne qL)
              have wantL := call_m ⟨G, hG1, by rw [rv1.length]; exact hG2⟩ qL r rv1
              refine wpAny_bind (wpAny_holding (own_hint I5.kIn J5 Ml.at_ Ml.fn (wpAny_mono (run_ce (us := [.ref a]) Fl ((Sub.in1 ((sb hrl).mono (Nat.le_refl _))).mono (Nat.le_add_right _ 1)) hbl I5 (vs := [.ref a]) (.cons rfl .nil) wantL (fun e s' h => cx_false h)) (fun z s6 hz => ?_) fun _ _ y => y)))
              obtain ⟨v6, H6, I6, rz, g2, l2, r2, ev⟩ := I5.after hz
              subst ev
              obtain ⟨t6, rfl⟩ : ∃ t, z = Value.int j t := rz
              refine ⟨j, t6, rfl, q5.1, fun b => ?_⟩
              have I7 := I6.tok (s6.toks + 1)
              generalize hs7 : ({ s6 with toks := s6.toks + 1 } : Shared) = s7 at I7 ⊢
              have hit7 : s7.heap.get? it = some (GNX.itObj l 0) := ClX.pin_at I7
              have hq7 : s7.heap.get? s.heap.objs.size = some o2 := ClX.pin_at (ClX.unpin I7)
              have nit7 : H6 it = none := ClX.pin_un I7
              have nq7 : H6 s.heap.objs.size = none := ClX.pin_un (ClX.unpin I7)
              have Iz : Inv X pins σ H6 s7 := ClX.unpin (ClX.unpin I7)
              obtain ⟨l', ys, el, hsq, hfin⟩ := hk g2 S1 H6 (.ref l) e r2 (rlv.mono l2) q5.2 (ePost.up q l2)
              cases el
              obtain ⟨its, rvs, pl, hzz⟩ := Iz.list hsq
              have fq : FpOk X pins H6 s.heap.objs.size := I.fpOk (Nat.le_refl _) nq7
              have fi : FpOk X pins H6 it := fp_at fpI nit7 fpI.2.2.2.2.2
              have key : ∀ (h8 : Heap) (tk8 n8 : Nat), (∀ b o, b ≠ s.heap.objs.size → s7.heap.get? b = some o → h8.get? b = some o) → h8.get? s.heap.objs.size = some { cls := .type "list", dict := none, data := .seq #[] n8, slots := #[] } →
                  codeAny (model X.prog X.w) X.A.in1 (.builtin "list.extend.loop" ⟨[.ref s.heap.objs.size, .ref it, .none], []⟩) (wants (fun r s₂ => r = .none ∧ EP X pins σ Q (.ref s.heap.objs.size) s₂) X.xe) { s7 with heap := h8, toks := tk8 } := fun h8 tk8 n8 k8 e8 => by
                have hne : l ≠ it := Nat.ne_of_lt (Nat.lt_trans (I.hok.lt hl) hge)
                have W8 := (Walks.list (prog := X.prog) (w := X.w) (A := X.A.in1.in1) (I.ok.hd hc) it l hne its.toArray).toS
                refine codeAny_extend_loopS W8 (by rw [List.size_toArray, ← rvs.length]; exact hzz) s.heap.objs.size (by simp; exact ⟨Nat.ne_of_lt hge, hql⟩) .none its.toArray.size 0 _ #[] n8 (by simp) (Nat.zero_le _) ⟨?_, ?_⟩ e8 (ItemsOf.nil _) fun s' acc' c' hm hS' hacc => ?_
                · exact (show s7.heap.IsListIter it l 0 from ⟨_, hit7, rfl, rfl⟩).at fun o e => k8 it o (Nat.ne_of_gt hge) e
                · obtain ⟨ol, hol, rl⟩ := pl.isList
                  exact ⟨ol, k8 l ol (Ne.symm hql) hol, rl⟩
                · rw [Moved.eq_with hm]
                  have ea : acc' = its.toArray := by
                    apply Array.ext_getElem?
                    intro i
                    by_cases hi : i < acc'.size
                    · rw [Array.getElem?_eq_getElem hi]
                      exact (hacc.2 i _ (Array.getElem?_eq_getElem hi)).symm
                    · rw [Array.getElem?_eq_none (by omega), Array.getElem?_eq_none (by rw [← hacc.1]; omega)]
                  refine ⟨rfl, .ref s.heap.objs.size, _, Inv.adopt (s := s7) (t' := s'.toks) (ch := [s.heap.objs.size, it]) Iz (fun b o hb e => ?_) (fun b hb => ?_) List.mem_cons_self (show ObjOk X.prog X.w _ _ _ (.lst ys) from ⟨hzz, its, c', rvs, by rw [← ea]; exact hS'⟩), rfl, hfin _ nq7⟩
                  · have hb' : b ≠ s.heap.objs.size ∧ b ≠ it := by simpa using hb
                    exact hm.heap b o (by simp; exact hb') (k8 b o hb'.1 e)
                  · have hb' : b = s.heap.objs.size ∨ b = it := by simpa using hb
                    rcases hb' with rfl | rfl
                    · exact fq
                    · exact fi
              obtain ⟨n2, rfl⟩ := d2
              refine wpAny_ite_split (fun _ => ?_) (fun _ => wpAny_pure ⟨plainId_quiet PySem.F.plain_extend_loop _, key s7.heap s7.toks n2 (fun _ _ _ e => e) hq7⟩)
              refine wpAny_bind (wpAny_rule ?_)
              refine wpAny_bind ?_
              show wpAny _ _ (updateSeq s.heap.objs.size (·.push .none) >>= fun _ => updateSeq s.heap.objs.size (·.pop)) _ _ _
              refine wpAny_bind (wpAny_updateSeq hq7 rfl ?_)
              have hS₂ := Heap.get?_update_self (Obj.mapSeq (·.push Value.none)) hq7 rfl
              refine wpAny_updateSeq (hz := by seq_fits) hS₂ rfl ?_
              have hS₃ := Heap.get?_update_self (Obj.mapSeq (·.pop)) hS₂ rfl
              refine wpAny_pure ⟨plainId_quiet PySem.F.plain_extend_loop _, key _ _ _ (fun b o hb e => ?_) hS₃⟩
              exact (Heap.get?_update_other _ _ (Ne.symm hb)).trans ((Heap.get?_update_other _ _ (Ne.symm hb)).trans e)
            · rw [if_neg q5] at q
              exact q.elim
          | _ => exact q.elim
      · rw [if_neg q3] at q
        exact q.elim
end
end MX
end

section
set_option maxRecDepth 100000
set_option maxHeartbeats 1000000
namespace MX
open PySem PySem.Spec PyProof.Rows
section
open PySem.W
variable {prog : Program} {w : World} {A : Around} {E : Value → Shared → Prop} {s : Shared} {K : Frag} {x C f : Addr} {ox : Obj} {od : Option Obj}
/-- a comparison that the class has of its own -/
theorem own_cmp {op : CmpOp} {b tb : Value} {Q : Value → Shared → Prop} (room : A.units < cLine) (kin : K.In s.heap) (at_ : InstAt s.heap x ox C od) (ty : Looks (model prog w) s.heap (typeOf b) tb) (nf : tb = .ref C ∨ subIn K tb (.ref C) = some false)
    (fnd : findIn K (.ref C) (cmpInfo op).2.1 = some (some (.ref f))) (isf : isFn K (.ref f) = true)
    (go : wpAny (model prog w) A (call (.ref f) [.ref x, b]) (PySem.W.CmpBack Q) E s) : wpAny (model prog w) A (richCompare op (.ref x) b) Q E s := by
  have first : wpAny (model prog w) A (tryCompare (.ref x) (cmpInfo op).2.1 b) (fun r s2 => ∃ z, r = some z ∧ Q z s2) E s := by
    unfold tryCompare
    refine wpAny_bind (ifBound_K kin at_ fnd isf (wpAny_mono go (fun z s2 hz => ?_) fun _ _ y => y))
    cases z <;> first | exact hz.elim | exact wpAny_pure ⟨_, rfl, hz⟩
  have fin := wpAny_mono first (fun r s2 (hz : ∃ z, r = some z ∧ Q z s2) => hz) fun _ _ y => y
  unfold richCompare
  simp only [oneThing_ref]
  refine wpAny_holding (wpAny_bind (wpAny_cRoomFor room ?_))
  refine wpAny_bind (at_.type.here (wpAny_bind (ty.here ?_)))
  split
  · rename_i q
    have ns : subIn K tb (.ref C) = some false := nf.resolve_left fun z => by
      rw [z] at q
      simp at q
    refine wpAny_bind ((looks_subIn kin ns).here ?_)
    simp only [Bool.false_eq_true, if_false]
    refine wpAny_bind (wpAny_mono first (fun r s2 ⟨z, ez, hz⟩ => ?_) fun _ _ y => y)
    subst ez
    exact wpAny_pure hz
  · refine wpAny_bind (wpAny_pure ?_)
    simp only [Bool.false_eq_true, if_false]
    refine wpAny_bind (wpAny_mono first (fun r s2 ⟨z, ez, hz⟩ => ?_) fun _ _ y => y)
    subst ez
    exact wpAny_pure hz
theorem own_neg {Q : Value → Shared → Prop} (kin : K.In s.heap) (at_ : InstAt s.heap x ox C od) (fnd : findIn K (.ref C) "__neg__" = some (some (.ref f))) (isf : isFn K (.ref f) = true)
    (go : wpAny (model prog w) A (call (.ref f) [.ref x]) Q E s) : wpAny (model prog w) A (unaryOp .USub (.ref x)) Q E s := by
  unfold unaryOp
  refine wpAny_holding (wpAny_bind (special_fn kin at_ fnd (beq_iff_eq.mp isf) ?_))
  exact wpAny_mono go (fun _ _ q => wpAny_pure q) fun _ _ q => q
theorem own_tru {Q : Bool → Shared → Prop} (kin : K.In s.heap) (at_ : InstAt s.heap x ox C od) (fnd : findIn K (.ref C) "__bool__" = some (some (.ref f))) (isf : isFn K (.ref f) = true)
    (go : wpAny (model prog w) A (call (.ref f) [.ref x]) (fun r s2 => ∃ b, r = .bool b ∧ Q b s2) E s) : wpAny (model prog w) A (truthy (.ref x)) Q E s := by
  unfold truthy
  refine wpAny_bind (m := callSpecial? (.ref x) (Str.ofString "__bool__")) (special_fn kin at_ fnd (beq_iff_eq.mp isf) (wpAny_mono go (fun r s2 ⟨b, eb, hb⟩ => ?_) fun _ _ y => y))
  subst eb
  exact wpAny_pure hb
end
end MX
end

section
set_option maxRecDepth 100000
set_option maxHeartbeats 1000000
namespace MX
open PySem PySem.Spec PyProof.Rows
theorem slot_ne : Slot "object" "__ne__" "object.__ne__" :=
  .of (owner := "object") (n := "__ne__") (by rw [typeLookup_type, builtinLookup_eq_fast]; kernel_rfl) (by decide +kernel) (by decide +kernel) (by decide +kernel) (.inl (by decide +kernel)) (by rw [isSubtype_type]; kernel_rfl)
section
open PySem.W
variable {prog : Program} {w : World} {A : Around} {E : Value → Shared → Prop} {s : Shared} {K : Frag} {x C f : Addr} {ox : Obj} {od : Option Obj}
/-- a builtin of object, found by an instance -/
theorem bound_obj {M : Model} {name : Str} {id : String} {args : List Value} {Q : Option Value → Shared → Prop} (kin : K.In s.heap) (at_ : InstAt s.heap x ox C od) (fnd : findIn K (.ref C) name = some (some (.builtin id))) (bd : ∀ self, bindSpecial (.builtin id) self = pure (.builtin id, [self]))
    (go : wpAny M A (call (.builtin id) (.ref x :: args)) (fun v => Q (some v)) E s) : wpAny M A (callSpecialIfBound? (.ref x) name args) Q E s := by
  simp only [callSpecialIfBound?, bindSpecialIfBound?]
  refine wpAny_holding (wpAny_bind (wpAny_bind (wpAny_bind (at_.type.here ((looks_findIn kin fnd).here ?_)))))
  refine wpAny_bind (wpAny_askSetting (wpAny_ite ?_))
  have last : wpAny M A (call (.builtin id) ([.ref x] ++ args) >>= fun v => pure (some v)) Q E s := wpAny_bind (wpAny_mono go (fun z s2 hz => wpAny_pure hz) fun _ _ y => y)
  simp only [bd]
  split
  · exact wpAny_bind (wpAny_pure (wpAny_pure (by exact last)))
  · exact wpAny_tryCatch (wpAny_bind (wpAny_pure (wpAny_pure (by exact last))))
theorem check_ne {M : Model} {b : Value} {Q : Unit → Shared → Prop} (kin : K.In s.heap) (at_ : InstAt s.heap x ox C od) (sub : subIn K (.ref C) (.type "object") = some true) (q : Q () s) : wpAny M A (checkBuiltinCall "object.__ne__" ⟨[.ref x, b], []⟩) Q E s := by
  simp only [checkBuiltinCall, PySem.F.cmpKind_ne, PySem.F.cmpSplit_ne]
  refine wpAny_bind ?_
  unfold isInstance
  refine wpAny_bind (at_.type.here ((looks_subIn kin sub).here ?_))
  simp only [Bool.not_true, Bool.false_eq_true, if_false]
  cases hsig : Manifest.signature? "object.__ne__" with
  | none => exact wpAny_pure q
  | some sig =>
    have ha := PySem.F.cmpArgs_ne (.ref x) b
    simp only [argsOk, hsig] at ha
    have h2 : Bind.checkArgs "object.__ne__" sig ⟨[.ref x, b], []⟩ = pure () := ha
    show wpAny M A (Bind.checkArgs "object.__ne__" sig ⟨[.ref x, b], []⟩) Q E s
    rw [h2]
    exact wpAny_pure q
/-- x != y by the class's own __eq__ -/
theorem own_ne {b tb : Value} {Q : Value → Shared → Prop} (room : A.units + 1 < cLine) (kin : K.In s.heap) (at_ : InstAt s.heap x ox C od) (ty : Looks (model prog w) s.heap (typeOf b) tb) (nf : tb = .ref C ∨ subIn K tb (.ref C) = some false)
    (fnd : findIn K (.ref C) "__eq__" = some (some (.ref f))) (isf : isFn K (.ref f) = true) (fne : findIn K (.ref C) "__ne__" = some (some (.builtin "object.__ne__"))) (sub : subIn K (.ref C) (.type "object") = some true)
    (go : wpAny (model prog w) A.in1 (call (.ref f) [.ref x, b]) (fun v s2 => ∃ t, v = .bool t ∧ Q (.bool (!t)) s2) E s) : wpAny (model prog w) A (richCompare .NotEq (.ref x) b) Q E s := by
  have body : wpAny (model prog w) A.in1 (Builtin.«object.__ne__» ⟨[.ref x, b], []⟩) (fun fin s2 => ∃ t, fin = .done (.ret (.bool (!t))) ∧ Q (.bool (!t)) s2) E s := by
    unfold Builtin.«object.__ne__» slotArgs
    refine wpAny_bind (m := pure (Value.ref x, [b])) (wpAny_pure ?_)
    refine wpAny_bind (wpAny_cRoomFor (by exact room) ?_)
    refine wpAny_bind (m := callSpecialIfBound? (.ref x) (Str.ofString "__eq__") [b]) (ifBound_K kin at_ fnd isf (wpAny_mono go (fun z s2 ⟨t, ez, hz⟩ => ?_) fun _ _ y => y))
    subst ez
    exact wpAny_bind (m := truthy (.bool t)) (wpAny_pure (wpAny_pure ⟨t, rfl, hz⟩))
  have first : wpAny (model prog w) A (tryCompare (.ref x) (cmpInfo .NotEq).2.1 b) (fun r s2 => ∃ z, r = some z ∧ Q z s2) E s := by
    unfold tryCompare
    refine wpAny_bind (bound_obj kin at_ (by exact fne) slot_ne.bind (wpAny_call (codeAny_call_builtin slot_ne.plain PySem.F.cmpEntry_ne (check_ne kin at_ sub ?_))))
    refine wpAny_mono body (fun fin s2 ⟨t, ef, ht⟩ => ?_) fun _ _ y => y
    subst ef
    exact wpAny_pure ⟨_, rfl, ht⟩
  unfold richCompare
  simp only [oneThing_ref]
  refine wpAny_holding (wpAny_bind (wpAny_cRoomFor (Nat.lt_of_succ_lt room) ?_))
  refine wpAny_bind (at_.type.here (wpAny_bind (ty.here ?_)))
  split
  · rename_i q
    have ns : subIn K tb (.ref C) = some false := nf.resolve_left fun z => by
      rw [z] at q
      simp at q
    refine wpAny_bind ((looks_subIn kin ns).here ?_)
    simp only [Bool.false_eq_true, if_false]
    refine wpAny_bind (wpAny_mono first (fun r s2 ⟨z, ez, hz⟩ => ?_) fun _ _ y => y)
    subst ez
    exact wpAny_pure hz
  · refine wpAny_bind (wpAny_pure ?_)
    simp only [Bool.false_eq_true, if_false]
    refine wpAny_bind (wpAny_mono first (fun r s2 ⟨z, ez, hz⟩ => ?_) fun _ _ y => y)
    subst ez
    exact wpAny_pure hz
theorem check_slot2 {M : Model} {id nm : String} {b : Value} {Q : Unit → Shared → Prop} (hk : builtinKind id = some .slot) (hs : splitId id = some ("object", nm)) (ha : argsOk id ⟨[.ref x, b], []⟩) (kin : K.In s.heap) (at_ : InstAt s.heap x ox C od) (sub : subIn K (.ref C) (.type "object") = some true) (q : Q () s) : wpAny M A (checkBuiltinCall id ⟨[.ref x, b], []⟩) Q E s := by
  simp only [checkBuiltinCall, hk, hs]
  refine wpAny_bind ?_
  unfold isInstance
  refine wpAny_bind (at_.type.here ((looks_subIn kin sub).here ?_))
  simp only [Bool.not_true, Bool.false_eq_true, if_false]
  cases hsig : Manifest.signature? id with
  | none => exact wpAny_pure q
  | some sig =>
    simp only [argsOk, hsig] at ha
    have h2 : Bind.checkArgs id sig ⟨[.ref x, b], []⟩ = pure () := ha
    show wpAny M A (Bind.checkArgs id sig ⟨[.ref x, b], []⟩) Q E s
    rw [h2]
    exact wpAny_pure q
/-- x > y, x >= y where the class has no such method: the other side's __lt__, __le__ -/
theorem own_rev {op : CmpOp} {id nm : String} {bi : Builtin} {y : Addr} {oy : Obj} {oe : Option Obj} {Q : Value → Shared → Prop} (room : A.units < cLine) (kin : K.In s.heap) (atx : InstAt s.heap x ox C od) (aty : InstAt s.heap y oy C oe)
    (sl : Slot "object" (cmpInfo op).2.1 id) (hk : builtinKind id = some .slot) (hs : splitId id = some ("object", nm)) (ha : argsOk id ⟨[.ref x, .ref y], []⟩) (ent : entryFor table id = some bi) (hb : bi ⟨[.ref x, .ref y], []⟩ = pure (.done (.ret .notImplemented)))
    (fx : findIn K (.ref C) (cmpInfo op).2.1 = some (some (.builtin id))) (sub : subIn K (.ref C) (.type "object") = some true)
    (fnd : findIn K (.ref C) (cmpInfo op).2.2 = some (some (.ref f))) (isf : isFn K (.ref f) = true)
    (go : wpAny (model prog w) A (call (.ref f) [.ref y, .ref x]) (PySem.W.CmpBack Q) E s) (ho : op = .Gt ∨ op = .GtE) : wpAny (model prog w) A (richCompare op (.ref x) (.ref y)) Q E s := by
  have first : wpAny (model prog w) A (tryCompare (.ref x) (cmpInfo op).2.1 (.ref y)) (fun r s2 => r = none ∧ s2 = s) E s := by
    unfold tryCompare
    refine wpAny_bind (bound_obj kin atx (by exact fx) sl.bind (wpAny_call (codeAny_call_builtin sl.plain ent (check_slot2 hk hs ha kin atx sub ?_))))
    rw [hb]
    exact wpAny_pure (wpAny_pure ⟨rfl, rfl⟩)
  have second : wpAny (model prog w) A (tryCompare (.ref y) (cmpInfo op).2.2 (.ref x)) (fun r s2 => ∃ z, r = some z ∧ Q z s2) E s := by
    unfold tryCompare
    refine wpAny_bind (ifBound_K kin aty fnd isf (wpAny_mono go (fun z s2 hz => ?_) fun _ _ y => y))
    cases z <;> first | exact hz.elim | exact wpAny_pure ⟨_, rfl, hz⟩
  unfold richCompare
  simp only [oneThing_ref]
  refine wpAny_holding (wpAny_bind (wpAny_cRoomFor room ?_))
  refine wpAny_bind (atx.type.here (wpAny_bind (aty.type.here ?_)))
  split
  · rename_i q
    exact absurd q (by simp)
  · refine wpAny_bind (wpAny_pure ?_)
    simp only [Bool.false_eq_true, if_false]
    refine wpAny_bind (wpAny_mono first (fun r s2 ⟨er, es⟩ => ?_) fun _ _ y => y)
    subst er es
    simp only [Bool.not_false, if_true]
    refine wpAny_bind (wpAny_mono second (fun r s2 ⟨z, ez, hz⟩ => ?_) fun _ _ y => y)
    subst ez
    exact wpAny_pure hz
theorem declines_gt (a b : Value) : Builtin.«object.__gt__» ⟨[a, b], []⟩ = pure (.done (.ret .notImplemented)) := rfl
theorem declines_ge (a b : Value) : Builtin.«object.__ge__» ⟨[a, b], []⟩ = pure (.done (.ret .notImplemented)) := rfl
end
end MX
end

section
set_option maxRecDepth 100000
set_option maxHeartbeats 1000000
namespace MX
open PySem PySem.Spec PyProof.Rows L2
section
variable {X : Cx} {fx : Fix} {W : WX} {P : Prog} {n : Nat}
/-- a call within a builtin's own step -/
theorem run_m1 {m : Mode} {fn : String} {pins : List (Addr × Obj)} {σ : L2.St} {H : Hp} {s : Shared} {Q : VK} {us : List Value} {vs : List V} {ds : List D} {g : Gh} {S : Store} {adr : Addr}
    (tk : Takes X W) {k : Nat} {fd : FuncData} {ps : List Str} (hr : Room (k + 1) X.A) (hb : Binds X.K fd ps []) (F : FnOk X.prog X.w X.K X.mg X.base (L2.CX X.prog X.w) k adr fd ps (spI P n fx.K fx.ca fn))
    (I : Inv X pins σ H s) (r : R fx g S H) (rv : RelL fx.K fx.ca g vs ds) (ru : Vals vs us) (q : ePost fx W g σ (tOf fx Q) (callM (run P n) m fn ds S)) : wpAny (model X.prog X.w) X.A.in1 (call (.ref adr) us) (EP X pins σ Q) X.xe s := by
  obtain ⟨G, h1, h2⟩ := callM_np (post_ne q)
  have want := call_m ⟨G, h1, by rw [rv.length]; exact h2⟩ q r rv
  have len : us.length = ps.length := by
    rw [← ru.length]
    exact F.len _ _ _ _ want
  have bnd := hb s us I.kIn (by rw [List.append_nil]; exact len)
  rw [List.append_nil] at bnd
  refine wpAny_call (codeAny_mono (F.run X.A.in1 X.stack s H ⟨us, []⟩ us vs Q _ hr.in1 I.env0.in1 bnd ru want) fun t s2 hq => ?_)
  cases t with
  | error z => exact passAt tk σ pins H s z s2 I hq
  | ok flow =>
    cases flow with
    | ret z => exact I.after hq
    | _ => exact hq.elim
theorem asBl_post {g : Gh} {σ : L2.St} {Q : VK} {r : Res D} {k : Bool → Bool} (h : ePost fx W g σ (tOf fx Q) (asBl r k)) : ePost fx W g σ (tOf fx fun v H => ∃ b, v = .bl b ∧ Q (.bl (k b)) H) r := by
  cases r with
  | bad => exact h
  | ex y S1 => exact h
  | ok d S1 =>
    cases d with
    | bl b =>
      intro g2 H2 l2 r2 v rv
      obtain rfl := rv.iBl
      exact ⟨b, rfl, h g2 H2 l2 r2 _ (.bl _)⟩
    | _ => exact h.elim
theorem opD_cmpX {op : Cop} (hK : fx.K = X.K) (tk : Takes X W) (room : X.A.units + 64 < cLine) (ob : ObjF P n fx X) (plain : OpD X fx W (compareOp op.op) (fun S x y => ofB S (cmpB op S x y))) : OpD X fx W (compareOp op.op) (cmpX P (run P n) op) := by
  intro pins s σ H x y v u Q I rx ry h
  obtain ⟨gh, S, d, e, r, rd, re, h⟩ := h
  unfold cmpX at h
  cases e1 : insD S d with
  | none =>
    rw [e1] at h
    exact plain pins s σ H x y v u Q I rx ry ⟨gh, S, d, e, r, rd, re, h⟩
  | some cf =>
    obtain ⟨c, fs⟩ := cf
    rw [e1] at h
    obtain ⟨a, dx, vs, rfl, ha, _⟩ := r.insD rd e1
    obtain rfl : v = .ref a := rx
    obtain ⟨od, at_⟩ := ins_at I ha
    have h : ePost fx W gh σ (tOf fx Q) (if op = .eq ∨ op = .ne then
      if (isInt e || (match insD S e with
        | some (c2, _) => c2 == c
        | none => false)) = true then asBl (callO (run P n) (P.meth c "__eq__") [d, e] S) (fun t => (op == .ne) != t) else .bad
      else if op = .is_ ∨ op = .isn then ofB S (cmpB op S d e)
      else if sameC S c e then ordX P (run P n) c S d e op else .bad) := h
    by_cases h0 : op = .eq ∨ op = .ne
    · rw [if_pos h0] at h
      by_cases h2 : (isInt e || (match insD S e with
        | some (c2, _) => c2 == c
        | none => false)) = true
      · rw [if_pos h2] at h
        have h := asBl_post h
        obtain ⟨f, m, em, ec⟩ := callO_of (post_ne h)
        rw [ec] at h
        obtain ⟨k, ad, fd, ps, M, hr, hb, F⟩ := (ob.meth c _ f m em).ex
        have bt := ob.bits c (kn_of_meth em)
        have ty : ∃ tb, PySem.W.Looks (model X.prog X.w) s.heap (typeOf u) tb ∧ (tb = .ref (fx.ca c) ∨ PySem.W.subIn X.K tb (.ref (fx.ca c)) = some false) := by
          by_cases h3 : isInt e = true
          · obtain ⟨i, rfl⟩ := isInt_of h3
            obtain rfl := re.iInt
            obtain ⟨t, rfl⟩ := ry
            exact ⟨.type "int", PySem.W.Looks.of_pure rfl, .inr (int_sub _ _)⟩
          · rw [Bool.or_eq_true] at h2
            have h4 := h2.resolve_left h3
            cases e2 : insD S e with
            | none => rw [e2] at h4; cases h4
            | some cf2 =>
              obtain ⟨c2, fs2⟩ := cf2
              rw [e2] at h4
              obtain rfl := eq_of_beq (show (c2 == c) = true from h4)
              obtain ⟨b, dx2, vs2, rfl, hb2, _⟩ := r.insD re e2
              obtain rfl : u = .ref b := ry
              obtain ⟨od2, at2⟩ := ins_at I hb2
              exact ⟨_, at2.type, .inl rfl⟩
        obtain ⟨tb, ty, nf⟩ := ty
        rcases h0 with rfl | rfl
        · have go := wpAny_mono (run_m (c := c) (x := "__eq__") (vs := [.ref a, y]) (us := [.ref a, u]) hK tk (hr.mono (Nat.le_add_right _ 4)) hb F I r (.cons rd (.cons re .nil)) (.cons rfl (.cons ry .nil)) h) (fun z s2 ⟨w0, H2, I2, rz, b, ew, q⟩ => back_of (Q := Q) ⟨w0, H2, I2, rz, by subst ew; cases b <;> exact q⟩) fun _ _ q => q
          exact own_cmp (op := .Eq) (by omega) I.kIn at_ ty nf M.at_ M.fn go
        · have go := wpAny_mono (run_m1 (vs := [.ref a, y]) (us := [.ref a, u]) tk (hr.mono (Nat.le_add_right (_ + 1) 3)) hb F I r (.cons rd (.cons re .nil)) (.cons rfl (.cons ry .nil)) h) (fun z s2 ⟨w0, H2, I2, rz, b, ew, q⟩ => (show ∃ t, z = Value.bool t ∧ EP X pins σ Q (Value.bool (!t)) s2 from by
            subst ew
            obtain rfl : z = Value.bool b := rz
            exact ⟨b, rfl, .bl (!b), H2, I2, rfl, by cases b <;> exact q⟩)) fun _ _ q => q
          exact own_ne (by omega) I.kIn at_ ty nf M.at_ M.fn bt.ne bt.ob go
      · rw [if_neg h2] at h
        exact h.elim
    · rw [if_neg h0] at h
      by_cases h1 : op = .is_ ∨ op = .isn
      · rw [if_pos h1] at h
        exact plain pins s σ H (.ref a) y (.ref a) u Q I rfl ry ⟨gh, S, d, e, r, rd, re, h⟩
      rw [if_neg h1] at h
      by_cases h3 : sameC S c e = true
      · rw [if_pos h3] at h
        unfold sameC at h3
        cases e2 : insD S e with
        | none => rw [e2] at h3; cases h3
        | some cf2 =>
          obtain ⟨c2, fs2⟩ := cf2
          rw [e2] at h3
          obtain rfl := eq_of_beq (show (c2 == c) = true from h3)
          obtain ⟨b, dx2, vs2, rfl, hb2, _⟩ := r.insD re e2
          obtain rfl : u = .ref b := ry
          obtain ⟨od2, at2⟩ := ins_at I hb2
          have key1 : ∀ {x : String} {ds : List D} {vs : List V} {us : List Value}, ePost fx W gh σ (tOf fx Q) (asBl (callO (run P n) (P.meth c2 x) ds S) id) → RelL fx.K fx.ca gh vs ds → Vals vs us →
              PySem.W.subIn X.K (.ref (fx.ca c2)) (.type "object") = some true ∧ PySem.W.findIn X.K (.ref (fx.ca c2)) "__gt__" = some (some (.builtin "object.__gt__")) ∧ PySem.W.findIn X.K (.ref (fx.ca c2)) "__ge__" = some (some (.builtin "object.__ge__")) ∧
              ∃ ad, PySem.W.findIn X.K (.ref (fx.ca c2)) (Str.ofString x) = some (some (.ref ad)) ∧ PySem.W.isFn X.K (.ref ad) = true ∧ wpAny (model X.prog X.w) X.A (call (.ref ad) us) (PySem.W.CmpBack (EP X pins σ Q)) X.xe s := fun {x} {ds} {vs} {us} h rv ru => by
            have h := asBl_post h
            obtain ⟨f, m, em, ec⟩ := callO_of (post_ne h)
            rw [ec] at h
            obtain ⟨k, ad, fd, ps, M, hr, hb, F⟩ := (ob.meth c2 _ f m em).ex
            have bt := ob.bits c2 (kn_of_meth em)
            exact ⟨bt.ob, bt.gt, bt.ge, ad, M.at_, M.fn, wpAny_mono (run_m (c := c2) (x := x) (vs := vs) (us := us) hK tk (hr.mono (Nat.le_add_right _ 4)) hb F I r rv ru h) (fun z s2 ⟨w0, H2, I2, rz, b, ew, q⟩ => back_of (Q := Q) ⟨w0, H2, I2, rz, by subst ew; cases b <;> exact q⟩) fun _ _ q => q⟩
          cases op with
          | eq => exact absurd (.inl rfl) h0
          | ne => exact absurd (.inr rfl) h0
          | is_ => exact absurd (.inl rfl) h1
          | isn => exact absurd (.inr rfl) h1
          | in_ => exact h.elim
          | nin => exact h.elim
          | lt =>
            obtain ⟨_, _, _, ad, fnd, isf, go⟩ := key1 (x := "__lt__") (vs := [.ref a, .ref b]) (us := [.ref a, .ref b]) h (.cons rd (.cons re .nil)) (.cons rfl (.cons rfl .nil))
            exact own_cmp (op := .Lt) (by omega) I.kIn at_ at2.type (.inl rfl) fnd isf go
          | le =>
            obtain ⟨_, _, _, ad, fnd, isf, go⟩ := key1 (x := "__le__") (vs := [.ref a, .ref b]) (us := [.ref a, .ref b]) h (.cons rd (.cons re .nil)) (.cons rfl (.cons rfl .nil))
            exact own_cmp (op := .LtE) (by omega) I.kIn at_ at2.type (.inl rfl) fnd isf go
          | gt =>
            obtain ⟨so, fg, _, ad, fnd, isf, go⟩ := key1 (x := "__lt__") (vs := [.ref b, .ref a]) (us := [.ref b, .ref a]) h (.cons re (.cons rd .nil)) (.cons rfl (.cons rfl .nil))
            exact own_rev (op := .Gt) (nm := "__gt__") (by omega) I.kIn at_ at2 PySem.F.slot_object_gt (by decide +kernel) (by decide +kernel) (PySem.F.args_object_gt_2 _ _) PySem.F.entry_object_gt (declines_gt _ _) fg so fnd isf go (.inl rfl)
          | ge =>
            obtain ⟨so, _, fg, ad, fnd, isf, go⟩ := key1 (x := "__le__") (vs := [.ref b, .ref a]) (us := [.ref b, .ref a]) h (.cons re (.cons rd .nil)) (.cons rfl (.cons rfl .nil))
            exact own_rev (op := .GtE) (nm := "__ge__") (by omega) I.kIn at_ at2 PySem.F.slot_object_ge (by decide +kernel) (by decide +kernel) (PySem.F.args_object_ge_2 _ _) PySem.F.entry_object_ge (declines_ge _ _) fg so fnd isf go (.inr rfl)
      · rw [if_neg h3] at h
        exact h.elim
end
end MX
end

section
set_option maxRecDepth 100000
set_option maxHeartbeats 1000000
namespace MX
open PySem PySem.Spec PyProof.Rows L2
section
variable {X : Cx} {fx : Fix} {W : WX} {P : Prog} {n : Nat} {f : DSt → Store → Res D} {a : Expr} {pos : Pos}
theorem s_nego (hK : fx.K = X.K) (tk : Takes X W) (ob : ObjF P n fx X) (ha : PE X a (tE fx W f)) :
    PE X (.UnaryOp .USub a pos) (tE fx W fun σ S => (f σ S).bind fun x S1 => negX P (run P n) S1 x) := by
  refine ⟨fun pins s σ H Q I ⟨g, dσ, S, r, sl, q⟩ => ?_⟩
  have q0 : tE fx W f σ H fun v H1 => ∀ u s1, Inv X pins σ H1 s1 → RelV v u → wpAny (model X.prog X.w) X.A (unaryOp .USub u) (EP X pins σ Q) X.xe s1 := by
    refine tE.bind q r sl fun d S1 v g1 H1 _ l1 r1 d1 q1 u s1 I1 ru => ?_
    unfold negX at q1
    cases e1 : insD S1 d with
    | some cf =>
      obtain ⟨c, fs⟩ := cf
      rw [e1] at q1
      obtain ⟨p, dx, vs, rfl, hp, _⟩ := r1.insD d1 e1
      obtain rfl : u = .ref p := ru
      obtain ⟨od, at_⟩ := ins_at I1 hp
      have q1 : ePost fx W g1 σ (tOf fx Q) (callO (run P n) (P.meth c "__neg__") [d] S1) := q1
      obtain ⟨fn, m, em, ec⟩ := callO_of (post_ne q1)
      rw [ec] at q1
      obtain ⟨k, ad, fd, ps, M, hr, hb, F⟩ := (ob.meth c _ fn m em).ex
      exact own_neg I1.kIn at_ M.at_ M.fn (run_m (c := c) (x := "__neg__") (vs := [.ref p]) (us := [.ref p]) hK tk (hr.mono (Nat.le_add_right _ 4)) hb F I1 r1 (.cons d1 .nil) (.cons rfl .nil) q1)
    | none =>
      rw [e1] at q1
      cases d with
      | int i =>
        obtain rfl := d1.iInt
        exact un_neg pins s1 σ H1 _ u Q I1 ru ⟨i, rfl, ePost.ret q1 r1 (.int _)⟩
      | _ => exact q1.elim
  exact UnaryOp_ (thn (ha.run pins s σ H _ I q0) fun u s1 ⟨v, H1, I1, ru, q1⟩ => q1 u s1 I1 ru)
end
section
variable {prog : Program} {w : World} {A : Around} {E : Value → Shared → Prop} {s : Shared}
/-- bool(x) where the truth of x is told by a walk -/
theorem bool_walk {x : Value} {Q : Value → Shared → Prop} (go : wpAny (model prog w) A.in1.in1 (truthy x) (fun b s2 => Q (.bool b) s2) E s) : wpAny (model prog w) A (call (.type "bool") [x]) Q E s := by
  have ft := F.called_bool
  obtain ⟨_, _, hmro⟩ := ft.mro
  have mb := ft.made
  have sb := ft.sub
  have f1 := F.conv_sub_bool
  have step : wpAny (model prog w) A.in1.in1 (Builtin.«bool.__new__» ⟨[.type "bool", x], []⟩) (fun fin s' => match fin with | .done f => wants (fun obj s₁ => s₁.TypeIs obj "bool" ∧ Q obj s₁) E (.ok f) s' | .again c' => c'.quiet = true ∧ codeAny (model prog w) A.in1 c' (wants (fun obj s₁ => s₁.TypeIs obj "bool" ∧ Q obj s₁) E) s') (fun e s' => wants (fun obj s₁ => s₁.TypeIs obj "bool" ∧ Q obj s₁) E (.error e) s') s := by
    unfold Builtin.«bool.__new__»
    refine wpAny_bind (m := isType (.type "bool")) (wpAny_pure ?_)
    show wpAny _ _ (isSubtype (.type "bool") (.type "bool") >>= _) _ _ _
    refine wpAny_bind (wpAny_of_eq f1 ?_)
    show wpAny _ _ (someArgs "bool" 0 1 ⟨[x], []⟩ >>= _) _ _ _
    refine wpAny_bind (m := someArgs "bool" 0 1 ⟨[x], []⟩) (wpAny_of_eq (a := [x]) (by rfl) ?_)
    show wpAny _ _ (truthy x >>= _) _ _ _
    exact wpAny_bind (wpAny_mono go (fun b s2 hb => wpAny_pure ⟨rfl, hb⟩) fun _ _ y => y)
  refine wpAny_call (codeAny_of_tree ?_)
  show wpAny (model prog w) _ (callAny (.type "bool") ⟨[x], []⟩) _ _ s
  refine wpAny_pure ⟨Code.quiet_builtin _ (by decide +kernel), codeAny_builtin F.entry_type_call ?_⟩
  rw [Around.under_plain (weight_type_call_type "bool" [x] []) (units_type_call_type "bool" [x] [])]
  have nt := ft.notType
  have cc := ft.canCreate
  have ct := F.typeCall_bool_1 x
  repeat (any_goals (first | assumption | wp_step))
  refine codeAny_mono (codeAny_call_builtin ft.plain F.entry_bool_new (wpAny_of_eq (F.newCall_bool_1 x) step)) fun r s1 hr => ?_
  cases r with
  | error e => exact hr
  | ok fl =>
    cases fl with
    | ret obj =>
      obtain ⟨hT, hq⟩ := hr
      have li := ft.init.lookup
      have bi := ft.init.bind obj
      repeat (any_goals (first | assumption | wp_step))
      refine codeAny_mono (codeAny_call_builtin ft.init.plain F.entry_object_init (ft.init.check _ _ _ _ _ _ _ _ hT (F.args_object_init_2 obj x) (object_init_meets ft.init.lookup ft.made F.newNe_bool prog w A.in1 (wants (fun r s2 => r = .none ∧ Q obj s2) E) s1 ⟨hT, rfl, hq⟩))) fun r2 s2 hr2 => ?_
      cases r2 with
      | error e => exact hr2
      | ok fl2 =>
        cases fl2 with
        | ret r =>
          obtain ⟨rfl, hq2⟩ := hr2
          repeat (any_goals (first | assumption | wp_step))
        | _ => exact hr2.elim
    | _ => exact hr.elim
end
section
variable {X : Cx} {fx : Fix} {W : WX} {P : Prog} {n : Nat}
theorem run_m2 {m : Mode} {fn : String} {pins : List (Addr × Obj)} {σ : L2.St} {H : Hp} {s : Shared} {Q : VK} {us : List Value} {vs : List V} {ds : List D} {g : Gh} {S : Store} {adr : Addr}
    (tk : Takes X W) {k : Nat} {fd : FuncData} {ps : List Str} (hr : Room (k + 2) X.A) (hb : Binds X.K fd ps []) (F : FnOk X.prog X.w X.K X.mg X.base (L2.CX X.prog X.w) k adr fd ps (spI P n fx.K fx.ca fn))
    (I : Inv X pins σ H s) (r : R fx g S H) (rv : RelL fx.K fx.ca g vs ds) (ru : Vals vs us) (q : ePost fx W g σ (tOf fx Q) (callM (run P n) m fn ds S)) : wpAny (model X.prog X.w) X.A.in1.in1 (call (.ref adr) us) (EP X pins σ Q) X.xe s := by
  obtain ⟨G, h1, h2⟩ := callM_np (post_ne q)
  have want := call_m ⟨G, h1, by rw [rv.length]; exact h2⟩ q r rv
  have len : us.length = ps.length := by
    rw [← ru.length]
    exact F.len _ _ _ _ want
  have bnd := hb s us I.kIn (by rw [List.append_nil]; exact len)
  rw [List.append_nil] at bnd
  refine wpAny_call (codeAny_mono (F.run X.A.in1.in1 X.stack s H ⟨us, []⟩ us vs Q _ hr.in1.in1 I.env0.in1.in1 bnd ru want) fun t s2 hq => ?_)
  cases t with
  | error z => exact passAt tk σ pins H s z s2 I hq
  | ok flow =>
    cases flow with
    | ret z => exact I.after hq
    | _ => exact hq.elim
/-- bool(x) of an instance, by its __bool__ -/
theorem call_boolO (tk : Takes X W) (ob : ObjF P n fx X) {pins : List (Addr × Obj)} {σ : L2.St} {H : Hp} {s : Shared} {Q : VK} {g : Gh} {S : Store} {d : D} {v : V} {u : Value} {c : String} {fs : List (String × D)} (I : Inv X pins σ H s) (r : R fx g S H) (rd : RelD fx.K fx.ca g v d) (ru : RelV v u) (e1 : insD S d = some (c, fs))
    (q : ePost fx W g σ (tOf fx Q) (asBl (callO (run P n) (P.meth c "__bool__") [d] S) id)) : wpAny (model X.prog X.w) X.A (call (.type "bool") [u]) (EP X pins σ Q) X.xe s := by
  obtain ⟨p, dx, vs, rfl, hp, _⟩ := r.insD rd e1
  obtain rfl : u = .ref p := ru
  obtain ⟨od, at_⟩ := ins_at I hp
  have q := asBl_post q
  obtain ⟨fn, m, em, ec⟩ := callO_of (post_ne q)
  rw [ec] at q
  obtain ⟨k, ad, fd, ps, M, hr, hb, F⟩ := (ob.meth c _ fn m em).ex
  refine bool_walk (own_tru I.kIn at_ M.at_ M.fn (wpAny_mono (run_m2 (vs := [.ref p]) (us := [.ref p]) tk (hr.mono (Nat.le_add_right _ 2)) hb F I r (.cons rd .nil) (.cons rfl .nil) q) (fun z s2 ⟨w0, H2, I2, rz, b, ew, hq⟩ => ?_) fun _ _ y => y))
  subst ew
  obtain rfl : z = Value.bool b := rz
  exact ⟨b, rfl, .bl b, H2, I2, rfl, hq⟩
end
end MX
end

section
set_option maxRecDepth 100000
set_option maxHeartbeats 1000000
namespace MX
open PySem PySem.Spec PyProof.Rows L2
def tyV (ca : String → Addr) (d : D) : Option Value :=
  match d with
  | .ins k _ => some (.ref (ca k))
  | d => (dTy d).map Value.type
def clsV (ca : String → Addr) : Ty → Value
  | .cls c => .ref (ca c)
  | t => .type t.nm
theorem isiX_kit {K : PySem.W.Frag} {ca : String → Addr} {kn : String → Bool} (ok : OwnK K ca kn) {S : Store} {d : D} {t : Ty} {b : Bool} (e : isiX kn S d t = some b) : ∃ v, tyV ca (look S d) = some v ∧ PySem.W.kitOne K v (clsV ca t) = some b ∧ (∀ k fs, look S d = .ins k fs → kn k = true) := by
  unfold isiX at e
  cases t with
  | cls c =>
    cases q : look S d with
    | ins k fs =>
      simp only [q] at e
      by_cases h : (kn k && kn c) = true
      · rw [if_pos h] at e
        cases e
        rw [Bool.and_eq_true] at h
        exact ⟨_, rfl, ok.own k h.1 c h.2, fun k' fs' z => by cases z; exact h.1⟩
      · rw [if_neg h] at e
        cases e
    | scr ns => simp only [q] at e; cases e
    | ptr n => simp only [q] at e; cases e
    | _ =>
      simp only [q] at e
      by_cases h : kn c = true
      · rw [if_pos h] at e
        cases e
        exact ⟨_, rfl, ok.inn c h (look S d) _ (by rw [q]; rfl), fun k' fs' z => by cases z⟩
      · rw [if_neg h] at e
        cases e
  | _ =>
    cases q : look S d with
    | ins k fs =>
      simp only [q] at e
      by_cases h : kn k = true
      · rw [if_pos h] at e
        cases e
        exact ⟨_, rfl, ok.out k h _ rfl, fun k' fs' z => by cases z; exact h⟩
      · rw [if_neg h] at e
        cases e
    | _ =>
      simp only [q] at e
      obtain ⟨n, h1, h2⟩ := isi_kit (K := K) e rfl
      rw [q] at h1
      refine ⟨.type n, ?_, h2, fun k' fs' z => by cases z⟩
      exact congrArg (Option.map Value.type) h1
theorem isiXs_kit {K : PySem.W.Frag} {ca : String → Addr} {kn : String → Bool} (ok : OwnK K ca kn) {S : Store} {d : D} : ∀ {ts : List Ty} {b : Bool}, isiXs kn S d ts = some b → ts ≠ [] → ∃ v, tyV ca (look S d) = some v ∧ PySem.W.kitAny K v (ts.map (clsV ca)) = some b ∧ (∀ k fs, look S d = .ins k fs → kn k = true)
  | [], _, _, h => absurd rfl h
  | t :: r, b, e, _ => by
    have e : (match isiX kn S d t with
      | some true => some true
      | some false => isiXs kn S d r
      | none => none) = some b := e
    cases q : isiX kn S d t with
    | none => rw [q] at e; cases e
    | some c =>
      rw [q] at e
      obtain ⟨v, h1, h2, h3⟩ := isiX_kit ok q
      refine ⟨v, h1, ?_, h3⟩
      rw [List.map_cons]
      unfold PySem.W.kitAny
      rw [h2]
      cases c with
      | true => exact e
      | false =>
        have e : isiXs kn S d r = some b := e
        cases r with
        | nil => exact e
        | cons t2 r2 =>
          obtain ⟨v', k1, k2, _⟩ := isiXs_kit ok e (by simp)
          rw [h1] at k1
          cases k1
          exact k2
theorem R.tyX {X : Cx} {fx : Fix} {g : Gh} {S : Store} {H : Hp} {kn : String → Bool} (r : R fx g S H) (hK : fx.K = X.K) (ok : OwnK X.K fx.ca kn) {v : V} {d : D} (h : RelD fx.K fx.ca g v d) {t : Value} (e : tyV fx.ca (MX.look S d) = some t) (hk : ∀ k fs, MX.look S d = .ins k fs → kn k = true) : TyX X.K H v t := by
  cases q : MX.look S d with
  | ins k fs =>
    rw [q] at e
    cases e
    have m := hk k fs q
    have hi : MX.insD S d = some (k, fs) := by
      unfold MX.insD
      rw [q]
    obtain ⟨a, dx, vs, rfl, ha, _⟩ := r.insD h hi
    exact .base (.ins ha (ok.cls k m) (ok.at_ k m) ok.sp ok.tk (ok.mro k m))
  | _ =>
    rw [q] at e
    first
    | (cases e; done)
    | (cases e; exact r.ty (X := X) h (by rw [q]; rfl))
end MX
end

section
set_option maxRecDepth 100000
set_option maxHeartbeats 1000000
namespace MX
open PySem PySem.Spec PyProof.Rows L2
def nmX : Ty → String
  | .cls c => c
  | t => t.nm
def clsU (ca : String → Addr) : Ty → V
  | .cls c => .ref (ca c)
  | t => .ty t.nm
/-- a class's name, as a module sees it -/
def NmOk (X : Cx) (ca : String → Addr) (t : Ty) : Prop :=
  Gl X (Str.ofString (nmX t)) ∧ match t with
    | .cls c => X.mg (Str.ofString c) = some (.ref (ca c)) ∧ (Str.ofString c == ("__debug__" : Str)) = false
    | t => X.mg (Str.ofString t.nm) = none
section
variable {X : Cx} {fx : Fix} {W : WX} {f : DSt → Store → Res D} {a : Expr} {pos : Pos}
theorem pe_cls {ca : String → Addr} {t : Ty} {p : Pos} (h : NmOk X ca t) : PE X (.Name (Str.ofString (nmX t)) p) (tC (clsU ca t)) := by
  obtain ⟨hg, hm⟩ := h
  have key : ∀ t : Ty, t.blt = true → Gl X (Str.ofString t.nm) → X.mg (Str.ofString t.nm) = none → PE X (.Name (Str.ofString t.nm) p) (tC (.ty t.nm)) := fun t hb g m => by
    obtain ⟨h1, h2, h3⟩ := ty_boot hb
    exact pe_bltn g m h1 rfl h2 h3
  cases t with
  | cls c => exact pe_glob hg hm.1 rfl hm.2
  | int => exact key .int rfl hg hm
  | bool => exact key .bool rfl hg hm
  | str => exact key .str rfl hg hm
  | list => exact key .list rfl hg hm
  | tuple => exact key .tuple rfl hg hm
theorem clsU_v (ca : String → Addr) (t : Ty) : ClsV (clsU ca t) (clsV ca t) := by
  cases t with
  | cls c => exact .own _
  | _ => exact .ty _
theorem s_isio {kn : String → Bool} {t : Ty} {p p2 : Pos} (hK : fx.K = X.K) (ok : OwnK X.K fx.ca kn) (hg : Gl X "isinstance") (hm : X.mg "isinstance" = none) (hn : NmOk X fx.ca t) (ha : PE X a (tE fx W f))
    (he : starEach [a, .Name (Str.ofString (nmX t)) p2] X.env = (false, eval a X.env) :: starEach [.Name (Str.ofString (nmX t)) p2] X.env) : PE X (.Call (.Name "isinstance" p) [a, .Name (Str.ofString (nmX t)) p2] [] pos) (tE fx W fun σ S => (f σ S).bind fun x S1 => ofB S1 (isiXs kn S1 x [t])) := by
  refine pe_imp (pe_callB call_isi hg hm PyProof.Rows.boot_isinstance (pa_cons ha (pa_cons (pe_cls hn) pa_nil) he) (by decide) (by decide) he (by rfl)) fun σ H Q ⟨g, dσ, S, r, sl, q⟩ => tE.bind q r sl fun x S1 v g1 H1 _ l1 r1 x1 q1 => ?_
  obtain ⟨b, e, q2⟩ := ofB_ret (H := H1) q1
  obtain ⟨u, e1, e2, e3⟩ := isiXs_kit ok e (by simp)
  refine ⟨v, clsU fx.ca t, u, clsV fx.ca t, b, rfl, clsU_v _ _, r1.tyX hK ok x1 e1 e3, ?_, ePost.ret q2 r1 (.bl _)⟩
  have e4 : PySem.W.kitAny X.K u [clsV fx.ca t] = some b := e2
  unfold PySem.W.kitAny at e4
  cases q3 : PySem.W.kitOne X.K u (clsV fx.ca t) with
  | none => rw [q3] at e4; cases e4
  | some c =>
    rw [q3] at e4
    cases c with
    | true => cases e4; rfl
    | false => cases e4; rfl
def tyNamesX : List Ty → List Expr → Bool
  | [], es => es.isEmpty
  | t :: ts, e :: es => (match e with
    | .Name y _ => decide (y = Str.ofString (nmX t))
    | _ => false) && tyNamesX ts es
  | _ :: _, [] => false
theorem pa_clsX {ca : String → Addr} : ∀ {ts : List Ty} {es : List Expr}, tyNamesX ts es = true → (∀ t ∈ ts, NmOk X ca t) → PA X es (fun _ H Q => Q (ts.map (clsU ca)) H)
  | [], [], _, _ => pa_nil
  | [], _ :: _, h, _ => by cases h
  | _ :: _, [], h, _ => by cases h
  | t :: ts, e :: es, h, k => by
    unfold tyNamesX at h
    rw [Bool.and_eq_true] at h
    obtain ⟨h1, h2⟩ := h
    cases e with
    | Name y p =>
      have hy := of_decide_eq_true h1
      subst hy
      have ih := pa_clsX (ca := ca) h2 fun u hu => k u (List.mem_cons_of_mem _ hu)
      exact pa_imp (pa_cons (pe_cls (k t List.mem_cons_self)) ih) fun σ H Q q => q
    | _ => cases h1
theorem clsU_all (ca : String → Addr) : ∀ ts : List Ty, Paired ClsV (ts.map (clsU ca)) (ts.map (clsV ca))
  | [] => .nil
  | t :: r => .cons (clsU_v ca t) (clsU_all ca r)
theorem s_isioT {kn : String → Bool} {ts : List Ty} {es : List Expr} {x1} {p p2 : Pos} (hK : fx.K = X.K) (ok : OwnK X.K fx.ca kn) (hne : ts ≠ []) (hl : ts.length ≤ sizeLine) (ht : tyNamesX ts es = true) (hg : Gl X "isinstance") (hm : X.mg "isinstance" = none) (hn : ∀ t ∈ ts, NmOk X fx.ca t) (ha : PE X a (tE fx W f))
    (he : starEach [a, .Tuple es x1 p2] X.env = (false, eval a X.env) :: starEach [.Tuple es x1 p2] X.env) : PE X (.Call (.Name "isinstance" p) [a, .Tuple es x1 p2] [] pos) (tE fx W fun σ S => (f σ S).bind fun x S1 => ofB S1 (isiXs kn S1 x ts)) := by
  have pt : PE X (.Tuple es x1 p2) (tTup (fun _ H Q => Q (ts.map (clsU fx.ca)) H)) := pe_tup (pa_clsX ht hn)
  refine pe_imp (pe_callB call_isiT hg hm PyProof.Rows.boot_isinstance (pa_cons ha (pa_cons pt pa_nil) he) (by decide) (by decide) he (by rfl)) fun σ H Q ⟨g, dσ, S, r, sl, q⟩ => tE.bind q r sl fun x S1 v g1 H1 _ l1 r1 d1 q1 => ?_
  refine ⟨by rw [List.length_map]; exact hl, fun tp hp => ?_⟩
  obtain ⟨b, e, q2⟩ := ofB_ret (H := H1) q1
  obtain ⟨u, e1, e2, e3⟩ := isiXs_kit ok e hne
  obtain ⟨r2, l2⟩ := r1.laid (o := .tup (ts.map (clsU fx.ca))) hp
  exact ⟨v, tp, _, u, _, b, rfl, upd_same, clsU_all _ ts, r2.tyX hK ok (d1.mono l2) e1 e3, e2, ePost.ret (ePost.up q2 l2) r2 (.bl _)⟩
end
end MX
end

section
set_option maxRecDepth 100000
set_option maxHeartbeats 1000000
namespace MX
open PySem PySem.Spec PyProof.Rows L2
section
variable {X : Cx} {fx : Fix} {W : WX} {P : Prog} {n : Nat} {f h k : DSt → Store → Res D} {a b c : Expr} {pos : Pos}
theorem asLen_post {g : Gh} {σ : L2.St} {Q : VK} {r : Res D} (h : ePost fx W g σ (tOf fx Q) (asLen r)) : ePost fx W g σ (tOf fx fun v H => ∃ n : Int, v = .int n ∧ (0 ≤ n ∧ n < 2 ^ 63) ∧ Q (.int n) H) r := by
  cases r with
  | bad => exact h
  | ex y S1 => exact h
  | ok d S1 =>
    cases d with
    | int n =>
      have h : ePost fx W g σ (tOf fx Q) (if 0 ≤ n ∧ n < 2 ^ 63 then .ok (.int n) S1 else .bad) := h
      by_cases hz : 0 ≤ n ∧ n < 2 ^ 63
      · rw [if_pos hz] at h
        intro g2 H2 l2 r2 v rv
        obtain rfl := rv.iInt
        exact ⟨n, rfl, hz, h g2 H2 l2 r2 _ (.int _)⟩
      · rw [if_neg hz] at h
        exact h.elim
    | _ => exact h.elim
theorem call_lenO (tk : Takes X W) (ob : ObjF P n fx X) {pins : List (Addr × Obj)} {σ : L2.St} {H : Hp} {s : Shared} {Q : VK} {g : Gh} {S : Store} {d : D} {v : V} {u : Value} {c : String} {fs : List (String × D)} (I : Inv X pins σ H s) (r : R fx g S H) (rd : RelD fx.K fx.ca g v d) (ru : RelV v u) (e1 : insD S d = some (c, fs))
    (q : ePost fx W g σ (tOf fx Q) (asLen (callO (run P n) (P.meth c "__len__") [d] S))) : wpAny (model X.prog X.w) X.A (call (.builtin "len") [u]) (EP X pins σ Q) X.xe s := by
  obtain ⟨p, dx, vs, rfl, hp, _⟩ := r.insD rd e1
  obtain rfl : u = .ref p := ru
  obtain ⟨od, at_⟩ := ins_at I hp
  have q := asLen_post q
  obtain ⟨fn, m, em, ec⟩ := callO_of (post_ne q)
  rw [ec] at q
  obtain ⟨k, ad, fd, ps, M, hr, hb, F⟩ := (ob.meth c _ fn m em).ex
  refine own_len I.kIn at_ M.at_ M.fn (wpAny_mono (run_m1 (vs := [.ref p]) (us := [.ref p]) tk (hr.mono (Nat.le_add_right (_ + 1) 3)) hb F I r (.cons rd .nil) (.cons rfl .nil) q) (fun z s2 ⟨w0, H2, I2, rz, n, ew, hn, hq⟩ => ?_) fun _ _ y => y)
  subst ew
  obtain ⟨t, rfl⟩ : ∃ t, z = Value.int n t := rz
  exact ⟨hn, .int n, H2, I2.tok _, ⟨_, rfl⟩, hq⟩
/-- the built-ins, asked of instances too -/
theorem callD_biX (b : Bi) (hK : fx.K = X.K) (hc : X.calm = true) (tk : Takes X W) (ob : ObjF P n fx X) : CallD X fx W b.val (biX P (run P n) b) := by
  have pl := callD_bi (W := W) b hK hc
  cases b with
  | bool =>
    intro pins s σ H g S vs ds us Q I rv r rd q
    match ds, rd, q with
    | [d], rd, q =>
      have q : ePost fx W g σ (tOf fx Q) (match insD S d with
        | some (c, _) => asBl (callO (run P n) (P.meth c "__bool__") [d] S) id
        | none => biD .bool S [d]) := q
      cases e : insD S d with
      | some cf =>
        obtain ⟨c, fs⟩ := cf
        rw [e] at q
        cases rd with
        | cons r1 rr =>
          cases rr
          cases rv with
          | cons ru rr =>
            cases rr
            exact call_boolO tk ob I r r1 ru e q
      | none =>
        rw [e] at q
        exact pl pins s σ H g S vs [d] us Q I rv r rd q
    | [], rd, q => exact pl pins s σ H g S vs [] us Q I rv r rd q
    | x :: y :: z, rd, q => exact pl pins s σ H g S vs (x :: y :: z) us Q I rv r rd q
  | len =>
    intro pins s σ H g S vs ds us Q I rv r rd q
    match ds, rd, q with
    | [d], rd, q =>
      have q : ePost fx W g σ (tOf fx Q) (match insD S d with
        | some (c, _) => asLen (callO (run P n) (P.meth c "__len__") [d] S)
        | none => biD .len S [d]) := q
      cases e : insD S d with
      | some cf =>
        obtain ⟨c, fs⟩ := cf
        rw [e] at q
        cases rd with
        | cons r1 rr =>
          cases rr
          cases rv with
          | cons ru rr =>
            cases rr
            exact call_lenO tk ob I r r1 ru e q
      | none =>
        rw [e] at q
        exact pl pins s σ H g S vs [d] us Q I rv r rd q
    | [], rd, q => exact pl pins s σ H g S vs [] us Q I rv r rd q
    | x :: y :: z, rd, q => exact pl pins s σ H g S vs (x :: y :: z) us Q I rv r rd q
  | list =>
    intro pins s σ H g S vs ds us Q I rv r rd q
    match ds, rd, q with
    | [d], rd, q =>
      have q : ePost fx W g σ (tOf fx Q) (match insD S d with
        | some (c, fs) => iterX P (run P n) c fs S d fun S1 e => biD .list S1 [e]
        | none => biD .list S [d]) := q
      cases e : insD S d with
      | some cf =>
        obtain ⟨c, fs⟩ := cf
        rw [e] at q
        cases rd with
        | cons r1 rr =>
          cases rr
          cases rv with
          | cons ru rr =>
            cases rr
            refine call_listI hc hK tk ob I r r1 ru e q fun g2 S1 H2 l e2 r2 rl il q2 => ?_
            cases ex : look S1 e2 with
            | lst xs =>
              obtain ⟨a, ws, rfl, h1, h2⟩ := r2.lst rl ex
              have q2 : ePost fx W g2 σ (tOf fx Q) (match look S1 e2 with
                | .lst xs => .ok (D.lst xs) S1
                | .tup xs => .ok (D.lst xs) S1
                | _ => .bad) := q2
              rw [ex] at q2
              exact ⟨a, ws, rfl, SqL.of h1, fun p hp => q2.new r2 hp fun g' le e => .lst e (h2.mono le)⟩
            | _ => unfold isLst at il; rw [ex] at il; cases il
      | none =>
        rw [e] at q
        exact pl pins s σ H g S vs [d] us Q I rv r rd q
    | [], rd, q => exact pl pins s σ H g S vs [] us Q I rv r rd q
    | x :: y :: z, rd, q => exact pl pins s σ H g S vs (x :: y :: z) us Q I rv r rd q
  | listc =>
    intro pins s σ H g S vs ds us Q I rv r rd q
    match ds, rd, q with
    | [d], rd, q =>
      have q : ePost fx W g σ (tOf fx Q) (match insD S d with
        | some (c, fs) => iterX P (run P n) c fs S d fun S1 e => biD .listc S1 [e]
        | none => biD .listc S [d]) := q
      cases e : insD S d with
      | some cf =>
        obtain ⟨c, fs⟩ := cf
        rw [e] at q
        cases rd with
        | cons r1 rr =>
          cases rr
          cases rv with
          | cons ru rr =>
            cases rr
            refine call_listI hc hK tk ob I r r1 ru e q fun g2 S1 H2 l e2 r2 rl il q2 => ?_
            cases ex : look S1 e2 with
            | lst xs =>
              obtain ⟨a, ws, rfl, h1, h2⟩ := r2.lst rl ex
              have q2 : ePost fx W g2 σ (tOf fx Q) (match look S1 e2 with
                | .lst xs => .ok (D.ptr S1.length) (S1 ++ [.lst xs])
                | .tup xs => .ok (D.ptr S1.length) (S1 ++ [.lst xs])
                | _ => .bad) := q2
              rw [ex] at q2
              refine ⟨a, ws, rfl, SqL.of h1, fun p hp => ?_⟩
              obtain ⟨g', le, am, gn, r'⟩ := r2.cell hp h2
              exact q2 g' _ le r' _ (by rw [← am]; exact .ptr (by rw [gn]; exact Nat.lt_succ_self _))
            | _ => unfold isLst at il; rw [ex] at il; cases il
      | none =>
        rw [e] at q
        exact pl pins s σ H g S vs [d] us Q I rv r rd q
    | [], rd, q => exact pl pins s σ H g S vs [] us Q I rv r rd q
    | x :: y :: z, rd, q => exact pl pins s σ H g S vs (x :: y :: z) us Q I rv r rd q
  | _ => exact pl
theorem s_biX {b : Bi} {x : Str} {e : Expr} {es : List Expr} {p pos : Pos} {f : DSt → Store → Res D} (hK : fx.K = X.K) (hc : X.calm = true) (tk : Takes X W) (ob : ObjF P n fx X) (hx : x = Str.ofString b.nm) (hg : Gl X x) (hm : X.mg x = none) (ha : PA X (e :: es) (tA fx W f))
    (he : starEach (e :: es) X.env = (false, eval e X.env) :: starEach es X.env) (hpl : (backTo pos (starEach es X.env)).any (·.1) = false) : PE X (.Call (.Name x p) (e :: es) [] pos) (tE fx W fun σ S => (f σ S).bind fun x S1 => biX P (run P n) b S1 (unT x)) := by
  have hd : CallD X fx W b.val (biX P (run P n) b) := callD_biX b hK hc tk ob
  refine ⟨fun pins s σ H Q I h => ?_⟩
  have hdb : (x == ("__debug__" : Str)) = false := by subst hx; cases b <;> decide +kernel
  have hn : x ≠ ("__name__" : Str) := by subst hx; cases b <;> decide +kernel
  have hv : bootBuiltins x = some b.val := by subst hx; cases b <;> decide +kernel
  refine wpAny_Call_Name_kw (ld_blt I hg hm hv ?_ hn hdb)
  have q := s_args hd ha I h pos
  cases b with
  | int => exact callWith_type1 q he hpl
  | bool => exact callWith_type1 q he hpl
  | list => exact callWith_type1 q he hpl
  | listc => exact callWith_type1 q he hpl
  | tuple => exact callWith_type1 q he hpl
  | _ => exact PyProof.Rows.callWith_builtin1 q he hpl
/-- a comparison hands back a bool -/
theorem cmpX_bl {op : Cop} {S S' : Store} {x y d : D} (e : cmpX P (run P n) op S x y = .ok d S') : ∃ b, d = .bl b := by
  unfold cmpX at e
  have key : ∀ (r : Res D) (k : Bool → Bool), asBl r k = .ok d S' → ∃ b, d = .bl b := fun r k e => by
    unfold asBl at e
    cases r with
    | ok z S1 =>
      cases z <;> first | (cases e; exact ⟨_, rfl⟩) | cases e
    | ex z S1 => cases e
    | bad => cases e
  cases e1 : insD S x with
  | some cf =>
    obtain ⟨c, fs⟩ := cf
    rw [e1] at e
    have e : (if op = .eq ∨ op = .ne then
      if (isInt y || (match insD S y with
        | some (c2, _) => c2 == c
        | none => false)) = true then asBl (callO (run P n) (P.meth c "__eq__") [x, y] S) (fun t => (op == .ne) != t) else .bad
      else if op = .is_ ∨ op = .isn then ofB S (cmpB op S x y)
      else if sameC S c y then ordX P (run P n) c S x y op else .bad) = .ok d S' := e
    by_cases h0 : op = .eq ∨ op = .ne
    · rw [if_pos h0] at e
      by_cases h2 : (isInt y || (match insD S y with
        | some (c2, _) => c2 == c
        | none => false)) = true
      · rw [if_pos h2] at e
        exact key _ _ e
      · rw [if_neg h2] at e
        cases e
    · rw [if_neg h0] at e
      by_cases h1 : op = .is_ ∨ op = .isn
      · rw [if_pos h1] at e
        cases q : cmpB op S x y with
        | none => rw [q] at e; cases e
        | some b => rw [q] at e; cases e; exact ⟨_, rfl⟩
      rw [if_neg h1] at e
      by_cases h3 : sameC S c y = true
      · rw [if_pos h3] at e
        cases op <;> first | exact key _ _ e | cases e
      · rw [if_neg h3] at e
        cases e
  | none =>
    rw [e1] at e
    have e : ofB S (cmpB op S x y) = .ok d S' := e
    cases q : cmpB op S x y with
    | none => rw [q] at e; cases e
    | some b => rw [q] at e; cases e; exact ⟨_, rfl⟩
theorem s_cmpTX {op : CmpOp} {o : Store → D → D → Res D} (ho : OpD X fx W (compareOp op) o) (hbl : ∀ {S S' x y d}, o S x y = .ok d S' → ∃ b, d = .bl b) (ha : PE X a (tE fx W f)) (hb : PE X b (tE fx W h)) (hm : behindInMarks op b = false) :
    PT X (.Compare a [op] [b] pos) (tT fx W fun σ S => (f σ S).bind fun x S1 => (h σ S1).bind fun y S2 => o S2 x y) := by
  refine ⟨fun pins s σ H Q I q => ?_⟩
  obtain ⟨g, dσ, S, r, sl, q⟩ := q
  have q1 : tE fx W f σ H (fun v H1 => tE fx W h σ H1 fun w H2 => rD fx W o σ v w H2 fun z H3 => ∃ b, z = .bl b ∧ Q b H3) :=
    tE.bind q r sl fun x S1 v g1 H1 _ l1 r1 x1 q1 => tE.bind q1 r1 (sl.mono l1) fun y S2 w g2 H2 _ l2 r2 y2 q2 => by
      refine ⟨g2, S2, x, y, r2, x1.mono l2, y2, ?_⟩
      cases e : o S2 x y with
      | bad => rw [e] at q2; exact q2.elim
      | ex z S3 => rw [e] at q2; exact q2
      | ok d S3 =>
        rw [e] at q2
        obtain ⟨b, rfl⟩ := hbl e
        intro g3 H3 l3 r3 v3 rv3
        obtain ⟨b', e', q4⟩ := q2 g3 H3 l3 r3
        cases e'
        exact ⟨b, rv3.iBl, q4⟩
  refine wpAny_isTrue_Compare1 (thn (ha.run pins s σ H _ I q1) fun v s1 ⟨x, H1, I1, r1, q1⟩ => thn (hb.run pins s1 σ H1 _ I1 q1) fun u s2 ⟨y, H2, I2, r2, q2⟩ =>
    thn (ho pins s2 σ H2 x y v u _ I2 r1 r2 q2) fun c s3 ⟨z, H3, I3, r3, k, e, q3⟩ => ?_) hm
  subst e
  cases r3
  exact wpAny_truthy_bool ⟨H3, I3, q3⟩
/-- what a link of a chain wants -/
theorem chain_q {o1 o2 : Store → D → D → Option Bool} {σ : L2.St} {H : Hp} {T : Gh → D → Store → Hp → Prop} {Q : VK} (hT : ∀ g d S H, T g d S H → True) (q : tE fx W (fun σ S => (f σ S).bind fun x S1 => (h σ S1).bind fun y S2 => match o1 S2 x y with
      | some true => (k σ S2).bind fun z S3 => ofB S3 (o2 S3 y z)
      | some false => .ok (.bl false) S2
      | none => .bad) σ H Q) :
    tE fx W f σ H fun v H1 => tE fx W h σ H1 fun w H2 => rD fx W (fun S x y => ofB S (o1 S x y)) σ v w H2 fun z H3 => ∃ b, z = .bl b ∧ (if b = true then tE fx W k σ H3 fun v' H4 => rD fx W (fun S x y => ofB S (o2 S x y)) σ w v' H4 Q else Q (.bl false) H3) := by
  obtain ⟨g, dσ, S, r, sl, q⟩ := q
  refine tE.bind q r sl fun x S1 v g1 H1 _ l1 r1 x1 q1 => tE.bind q1 r1 (sl.mono l1) fun y S2 w g2 H2 _ l2 r2 y2 q2 => ?_
  refine ⟨g2, S2, x, y, r2, x1.mono l2, y2, ?_⟩
  cases e : o1 S2 x y with
  | none => rw [e] at q2; exact q2.elim
  | some b =>
    rw [e] at q2
    show ePost fx W g2 σ (tOf fx _) (ofB S2 (o1 S2 x y))
    rw [e]
    intro g3 H3 l3 r3 v3 rv3
    refine ⟨b, rv3.iBl, ?_⟩
    cases b with
    | false =>
      refine (if_neg (by simp)).mpr ?_
      exact q2 g3 H3 l3 r3 (V.bl false) (RelD.bl _)
    | true =>
      refine (if_pos rfl).mpr ?_
      have q2 : ePost fx W g2 σ (tOf fx Q) ((k dσ S2).bind fun z S3 => ofB S3 (o2 S3 y z)) := q2
      refine tE.bind (ePost.up q2 l3) r3 (((sl.mono l1).mono l2).mono l3) fun z S4 w' g4 H4 _ l4 r4 z4 q4 => ?_
      exact ⟨g4, S4, y, z, r4, (y2.mono l3).mono l4, z4, q4⟩
theorem s_chain {o1 o2 : CmpOp} {d1 d2 : Store → D → D → Option Bool} (ho : OpD X fx W (compareOp o1) (fun S x y => ofB S (d1 S x y))) (ho' : OpD X fx W (compareOp o2) (fun S x y => ofB S (d2 S x y))) (ha : PE X a (tE fx W f)) (hb : PE X b (tE fx W h)) (hc : PE X c (tE fx W k))
    (hm : lastMarks [o1, o2] [b, c] = false) : PE X (.Compare a [o1, o2] [b, c] pos) (tE fx W fun σ S => (f σ S).bind fun x S1 => (h σ S1).bind fun y S2 => match d1 S2 x y with
      | some true => (k σ S2).bind fun z S3 => ofB S3 (d2 S3 y z)
      | some false => .ok (.bl false) S2
      | none => .bad) := by
  refine ⟨fun pins s σ H Q I q => ?_⟩
  have q := chain_q (T := fun _ _ _ _ => True) (fun _ _ _ _ _ => trivial) q
  refine Compare_chain (thn (ha.run pins s σ H _ I q) fun v s1 ⟨x, H1, I1, r1, q1⟩ => chain_link (thn (hb.run pins s1 σ H1 _ I1 q1) fun u s2 ⟨y, H2, I2, r2, q2⟩ =>
    thn (ho pins s2 σ H2 x y v u _ I2 r1 r2 q2) fun d s3 ⟨z, H3, I3, r3, kk, e, q3⟩ => ?_)) hm
  subst e
  cases r3
  refine wpAny_truthy_bool ?_
  cases kk with
  | false => exact ite_ff ⟨.bl false, H3, I3, rfl, q3⟩
  | true => exact ite_tt (chain_last (thn (hc.run pins s3 σ H3 _ I3 q3) fun w' s4 ⟨z', H4, I4, r4, q4⟩ => ho' pins s4 σ H4 y z' u w' Q I4 r2 r4 q4))
theorem asT {g : Gh} {σ : L2.St} {Q : Bool → Hp → Prop} {res : Res D} (bl : ∀ d S', res = .ok d S' → ∃ b, d = .bl b) (q : ePost fx W g σ (tOfT Q) res) : ePost fx W g σ (tOf fx fun v H => ∃ b, v = .bl b ∧ Q b H) res := by
  cases res with
  | bad => exact q
  | ex x S1 => exact q
  | ok d S1 =>
    obtain ⟨b, rfl⟩ := bl d S1 rfl
    intro g1 H1 l1 r1 v rv
    obtain ⟨b', e', q4⟩ := q g1 H1 l1 r1
    cases e'
    exact ⟨b, rv.iBl, q4⟩
theorem t_chain {o1 o2 : CmpOp} {d1 d2 : Store → D → D → Option Bool} (ho : OpD X fx W (compareOp o1) (fun S x y => ofB S (d1 S x y))) (ho' : OpD X fx W (compareOp o2) (fun S x y => ofB S (d2 S x y))) (ha : PE X a (tE fx W f)) (hb : PE X b (tE fx W h)) (hc : PE X c (tE fx W k))
    (hm : lastMarks [o1, o2] [b, c] = false) : PT X (.Compare a [o1, o2] [b, c] pos) (tT fx W fun σ S => (f σ S).bind fun x S1 => (h σ S1).bind fun y S2 => match d1 S2 x y with
      | some true => (k σ S2).bind fun z S3 => ofB S3 (d2 S3 y z)
      | some false => .ok (.bl false) S2
      | none => .bad) := by
  refine ⟨fun pins s σ H Q I q => ?_⟩
  have q : tE fx W (fun σ S => (f σ S).bind fun x S1 => (h σ S1).bind fun y S2 => match d1 S2 x y with
      | some true => (k σ S2).bind fun z S3 => ofB S3 (d2 S3 y z)
      | some false => .ok (.bl false) S2
      | none => .bad) σ H (fun v H => ∃ b, v = .bl b ∧ Q b H) := by
    obtain ⟨g, dσ, S, r, sl, q⟩ := q
    refine ⟨g, dσ, S, r, sl, asT (fun d S' e => ?_) q⟩
    have fin : ∀ (S : Store) (o : Option Bool) (d : D) (S' : Store), ofB S o = .ok d S' → ∃ b, d = .bl b := fun S o d S' e => by
      cases o with
      | none => cases e
      | some b => cases e; exact ⟨_, rfl⟩
    have bd : ∀ {r : Res D} {g : D → Store → Res D} {d : D} {S' : Store}, r.bind g = .ok d S' → ∃ x S1, g x S1 = .ok d S' := fun {r g d S'} e => by
      cases r with
      | ok x S1 => exact ⟨x, S1, e⟩
      | ex x S1 => cases e
      | bad => cases e
    obtain ⟨x, S1, e⟩ := bd e
    obtain ⟨y, S2, e⟩ := bd e
    cases q2 : d1 S2 x y with
    | none => rw [q2] at e; cases e
    | some t =>
      rw [q2] at e
      cases t with
      | false => cases e; exact ⟨_, rfl⟩
      | true =>
        obtain ⟨z, S3, e⟩ := bd e
        exact fin _ _ _ _ e
  have q := chain_q (T := fun _ _ _ _ => True) (fun _ _ _ _ _ => trivial) q
  refine isTrue_chain (thn (ha.run pins s σ H _ I q) fun v s1 ⟨x, H1, I1, r1, q1⟩ => test_link (thn (hb.run pins s1 σ H1 _ I1 q1) fun u s2 ⟨y, H2, I2, r2, q2⟩ =>
    thn (ho pins s2 σ H2 x y v u _ I2 r1 r2 q2) fun d s3 ⟨z, H3, I3, r3, kk, e, q3⟩ => ?_)) hm
  subst e
  cases r3
  refine wpAny_truthy_bool ?_
  cases kk with
  | false =>
    obtain ⟨k', e', q'⟩ := q3
    cases e'
    exact ite_ff ⟨H3, I3, q'⟩
  | true =>
    refine ite_tt (test_last (thn (hc.run pins s3 σ H3 _ I3 q3) fun w' s4 ⟨z', H4, I4, r4, q4⟩ => thn (ho' pins s4 σ H4 y z' u w' _ I4 r2 r4 q4) fun d' s5 ⟨z2, H5, I5, r5, k2, e2, q5⟩ => ?_))
    subst e2
    cases r5
    exact wpAny_truthy_bool ⟨H5, I5, q5⟩
end
end MX
end

section
set_option maxRecDepth 100000
set_option maxHeartbeats 1000000
namespace MX
open PySem PySem.Spec PyProof.Rows L2
section
variable {X : Cx} {fx : Fix} {W : WX} {P : Prog} {n : Nat} {f h k : DSt → Store → Res D} {a b c : Expr} {pos : Pos}
/-- an index in a list or a tuple, by values -/
theorem ixD_of {σ : L2.St} {H : Hp} {Q : VK} {v w : V} (hK : fx.K = X.K) (q : rD fx W idxD σ v w H Q) : rIx X.K v w H Q := by
  obtain ⟨g2, S2, x, y, r2, x2, y2, q2⟩ := q
  have key : ∃ i, y = .int i := by
    cases y with
    | int i => exact ⟨i, rfl⟩
    | _ =>
      unfold idxD at q2
      cases z : look S2 x <;> rw [z] at q2 <;> exact q2.elim
  obtain ⟨i, rfl⟩ := key
  have hw := y2.iInt
  subst hw
  unfold idxD at q2
  cases e1 : look S2 x with
  | lst xs =>
    rw [e1] at q2
    obtain ⟨p, vs, rfl, hp, rp⟩ := r2.lst x2 e1
    have q2 : ePost fx W g2 σ (tOf fx Q) (match atD xs i with
      | some d => .ok d S2
      | none => .bad) := q2
    cases e : atD xs i with
    | none => rw [e] at q2; exact q2.elim
    | some d =>
      rw [e] at q2
      obtain ⟨u, hu, ru⟩ := rp.at e
      exact .inl ⟨p, vs, i, u, rfl, rfl, SqL.of hp, hu, ePost.ret q2 r2 ru⟩
  | tup xs =>
    rw [e1] at q2
    obtain ⟨p, vs, rfl, hp, rp⟩ := r2.tup x2 e1
    have q2 : ePost fx W g2 σ (tOf fx Q) (match atD xs i with
      | some d => .ok d S2
      | none => .bad) := q2
    cases e : atD xs i with
    | none => rw [e] at q2; exact q2.elim
    | some d =>
      rw [e] at q2
      obtain ⟨u, hu, ru⟩ := rp.at e
      exact .inr (.inl ⟨p, vs, i, u, rfl, rfl, SqT.of hp, hu, ePost.ret q2 r2 ru⟩)
  | _ => rw [e1] at q2; exact q2.elim
/-- what stands as an index of an own class's subscript -/
def OwnIx (b : Expr) : Prop := ∀ o i, subscripted b true o i = runValue (.builtin "lifetime.subscript" ⟨[o, i], []⟩)
theorem s_idxX (hK : fx.K = X.K) (tk : Takes X W) (ob : ObjF P n fx X) (ha : PE X a (tE fx W f)) (hb : PE X b (tE fx W h)) (hs : PlainIx b) (ho : OwnIx b) :
    PE X (.Subscript a b pos) (tE fx W fun σ S => (f σ S).bind fun x S1 => (h σ S1).bind fun y S2 => idxX P (run P n) S2 x y) := by
  refine ⟨fun pins s σ H Q I ⟨g, dσ, S, r, sl, q⟩ => ?_⟩
  have q0 : tE fx W f σ H fun v H1 => tE fx W h σ H1 fun w H2 => rD fx W (idxX P (run P n)) σ v w H2 Q :=
    tE.bind q r sl fun x S1 v g1 H1 _ l1 r1 x1 q1 => tE.bind q1 r1 (sl.mono l1) fun y S2 w g2 H2 _ l2 r2 y2 q2 => ⟨g2, S2, x, y, r2, x1.mono l2, y2, q2⟩
  refine Subscript_ (binT ha hb I q0 fun v u s2 x y H2 I2 rx ry ⟨g2, S2, d, e, r2, rd, re, q2⟩ => ?_)
  unfold idxX at q2
  cases e1 : insD S2 d with
  | none =>
    rw [e1] at q2
    exact ix_seq a b pins s2 σ H2 x y v u Q I2 rx ry (ixD_of (W := W) (σ := σ) hK ⟨g2, S2, d, e, r2, rd, re, q2⟩) (hs _ _)
  | some cf =>
    obtain ⟨c, fs⟩ := cf
    rw [e1] at q2
    obtain ⟨p, dx, vs, rfl, hp, _⟩ := r2.insD rd e1
    obtain rfl : v = .ref p := rx
    obtain ⟨od, at_⟩ := ins_at I2 hp
    have q2 : ePost fx W g2 σ (tOf fx Q) (callO (run P n) (P.meth c "__getitem__") [d, e] S2) := q2
    obtain ⟨fn, m, em, ec⟩ := callO_of (post_ne q2)
    rw [ec] at q2
    obtain ⟨k, ad, fd, ps, M, hr, hbd, F⟩ := (ob.meth c _ fn m em).ex
    exact own_sub I2.kIn at_ M.at_ ((ob.bits c (kn_of_meth em)).fg _ M.at_) M.fn (run_m1 (vs := [.ref p, y]) (us := [.ref p, u]) tk (hr.mono (Nat.le_add_right (_ + 1) 3)) hbd F I2 r2 (.cons rd (.cons re .nil)) (.cons rfl (.cons ry .nil)) q2) (ho _ _)
/-! statements: o[i] = e, x op= e -/
theorem ePost.drop {g : Gh} {σ : L2.St} {Q : Hp → Prop} {r : Res MX.D} (q : ePost fx W g σ (fun _ _ _ H => Q H) r) : ePost fx W g σ (tOf fx fun _ H => Q H) r := by
  cases r with
  | ok d S => exact fun g' H' l r v rv => q g' H' l r
  | ex x S => exact q
  | bad => exact q
/-- a Res, then the rest of a statement -/
theorem sPost.res {g : Gh} {D : Ends} {σ : L2.St} {dσ : DSt} {r : Res MX.D} {k : MX.D → Store → SR} {T : Gh → MX.D → Store → Hp → Prop} (q : sPost fx W g D (r.sr dσ k)) (sl : Sl fx g dσ σ) (hk : ∀ d S g' H', g.le g' → R fx g' S H' → sPost fx W g' D (k d S) → T g' d S H') : ePost fx W g σ T r := by
  cases r with
  | ok d S => exact fun g' H' l r => hk d S g' H' l r (sPost.up q l)
  | ex x S => exact fun cls dx g' H' l r rx => q cls dx g' H' σ l r (sl.mono l) rx
  | bad => exact q
theorem setD {pins : List (Addr × Obj)} {s : Shared} {σ : L2.St} {H : Hp} {o i z : V} {ov iv u : Value} {Q : Hp → Prop} {g : Gh} {S : Store} {p j d : MX.D} (hK : fx.K = X.K) (tk : Takes X W) (ob : ObjF P n fx X) (I : Inv X pins σ H s) (ro : RelV o ov) (ri : RelV i iv) (rz : RelV z u)
    (r : R fx g S H) (rp : RelD fx.K fx.ca g o p) (rj : RelD fx.K fx.ca g i j) (rd : RelD fx.K fx.ca g z d) (q : ePost fx W g σ (fun _ _ _ H => Q H) (sidxX P (run P n) S p j d)) :
    wpAny (model X.prog X.w) X.A (setItem ov iv u) (fun _ s' => ∃ H', Inv X pins σ H' s' ∧ Q H') X.xe s := by
  unfold sidxX at q
  cases e1 : insD S p with
  | some cf =>
    obtain ⟨c, fs⟩ := cf
    rw [e1] at q
    obtain ⟨a, dx, vs, rfl, ha, _⟩ := r.insD rp e1
    obtain rfl : ov = .ref a := ro
    obtain ⟨od, at_⟩ := ins_at I ha
    have q : ePost fx W g σ (fun _ _ _ H => Q H) (callO (run P n) (P.meth c "__setitem__") [p, j, d] S) := q
    have q := ePost.drop q
    obtain ⟨fn, m, em, ec⟩ := callO_of (post_ne q)
    rw [ec] at q
    obtain ⟨k, ad, fd, ps, M, hr, hb, F⟩ := (ob.meth c _ fn m em).ex
    refine own_set I.kIn at_ (ob.bits c (kn_of_meth em)).ns M.at_ M.fn (wpAny_mono (run_m (c := c) (x := "__setitem__") (vs := [.ref a, i, z]) (us := [.ref a, iv, u]) hK tk (hr.mono (Nat.le_add_right _ 4)) hb F I r (.cons rp (.cons rj (.cons rd .nil))) (.cons rfl (.cons ri (.cons rz .nil))) q) (fun y s2 hy => ?_) fun _ _ q => q)
    obtain ⟨v2, H2, I2, _, q2⟩ := hy
    exact ⟨H2, I2, q2⟩
  | none =>
    rw [e1] at q
    have q : ePost fx W g σ (fun _ _ _ H => Q H) (match sidxD S p j d with
      | some S1 => .ok D.non S1
      | none => .bad) := q
    refine set_list pins s σ H o i z ov iv u Q I ro ri rz ?_
    unfold sidxD at q
    cases p with
    | ptr n =>
      cases j with
      | int j =>
        cases e : S[n]? with
        | none => simp only [e] at q; exact q.elim
        | some c =>
          cases c with
          | lst xs =>
            simp only [e] at q
            cases e2 : L2.ixN xs.length j with
            | none => simp only [e2] at q; exact q.elim
            | some m =>
              simp only [e2] at q
              obtain ⟨rfl, hn⟩ := rp.iPtr
              obtain rfl := rj.iInt
              obtain ⟨_, _, vs, hv2, rv⟩ := r.cells n _ e
              have r4 := r.put e (RelL.set rd m rv)
              exact ⟨_, vs, j, m, rfl, rfl, hv2, by rw [rv.length]; exact e2, q g _ (Gh.le.refl _) r4⟩
          | _ => simp only [e] at q; exact q.elim
      | _ => exact q.elim
    | _ => exact q.elim
theorem s_sidxX {v o i : Expr} {sp : Pos} (hK : fx.K = X.K) (tk : Takes X W) (ob : ObjF P n fx X) (hv : PE X v (tE fx W f)) (ho : PE X o (tE fx W h)) (hi : PE X i (tE fx W k)) (hs : swapsWith v (some (.Subscript o i sp)) pos.line X.env = pure false)
    (ha : ∀ u, assign (.Subscript o i sp) X.env u = (do
      let ov ← holding [u] (eval o X.env)
      let iv ← holding [u, ov] (eval i X.env)
      standAt sp
      holding [u, ov, iv] (setItem ov iv u)
      release [u, ov, iv] [])) :
    PS X (.Assign [.Subscript o i sp] v pos) (tS fx W fun σ S => (f σ S).sr σ fun d S1 => (h σ S1).sr σ fun p S2 => (k σ S2).sr σ fun q S3 => (sidxX P (run P n) S3 p q d).sr σ fun _ S4 => .nx σ S4) := by
  have pg : PG X (.Subscript o i sp) (fun z σ H Q => tE fx W h σ H fun o' H1 => tE fx W k σ H1 fun i' H2 => (∃ g S p j d, R fx g S H2 ∧ RelD fx.K fx.ca g o' p ∧ RelD fx.K fx.ca g i' j ∧ RelD fx.K fx.ca g z d ∧ ePost fx W g σ (fun _ _ _ H3 => Q σ H3) (sidxX P (run P n) S p j d))) := by
    refine ⟨fun pins s σ H z u Q I rz hq => ?_⟩
    rw [ha]
    refine wpAny_bind (wpAny_holding (thn (ho.run pins s σ H _ I hq) fun ov s1 ⟨x, H1, I1, r1, q1⟩ => ?_))
    refine wpAny_bind (wpAny_holding (thn (hi.run pins s1 σ H1 _ I1 q1) fun iv s2 ⟨y, H2, I2, r2, g, S, p, j, d, rS, rp, rj, rd, q2⟩ => ?_))
    refine wpAny_bind (wpAny_standAt (wpAny_bind (wpAny_holding (thn (setD hK tk ob I2 r1 r2 rz rS rp rj rd q2) fun _ s3 ⟨H3, I3, q3⟩ => ?_))))
    exact wpAny_release ⟨σ, H3, I3, q3⟩
  refine ps_imp (ps_asg hv pg hs rfl rfl) fun D σ H ⟨g, dσ, S, r, sl, q⟩ => tE.sr q r sl fun d S1 u g1 H1 _ l1 r1 d1 q1 => tE.sr q1 r1 (sl.mono l1) fun p S2 w g2 H2 _ l2 r2 p2 q2 => tE.sr q2 r2 ((sl.mono l1).mono l2) fun z S3 y g3 H3 _ l3 r3 z3 q3 => ?_
  have sl3 := ((sl.mono l1).mono l2).mono l3
  exact ⟨g3, S3, p, z, d, r3, p2.mono l3, z3, d1.mono (l2.trans l3), sPost.res q3 sl3 fun d' S' g' H' l r' q' => q' g' H' σ (Gh.le.refl _) r' (sl3.mono l)⟩
theorem Bop.an_ok (op : Bop) : dunderI op.op.info.2 = Str.ofString op.an := by cases op <;> decide +kernel
theorem augD {op : Bop} {pins : List (Addr × Obj)} {s : Shared} {σ : L2.St} {H : Hp} {x y : V} {v u : Value} {Q : VK} {g : Gh} {S : Store} {d e : MX.D} (hop : op = .add ∨ op = .sub) (hK : fx.K = X.K) (tk : Takes X W) (ob : ObjF P n fx X) (I : Inv X pins σ H s) (rx : RelV x v) (ry : RelV y u)
    (r : R fx g S H) (rd : RelD fx.K fx.ca g x d) (re : RelD fx.K fx.ca g y e) (q : ePost fx W g σ (tOf fx Q) (augX P (run P n) op S d e)) :
    wpAny (model X.prog X.w) X.A (inplaceOp op.op v u) (EP X pins σ Q) X.xe s := by
  unfold augX at q
  cases e1 : insD S d with
  | some cf =>
    obtain ⟨c, fs⟩ := cf
    rw [e1] at q
    obtain ⟨a, dx, vs, rfl, ha, _⟩ := r.insD rd e1
    obtain rfl : v = .ref a := rx
    obtain ⟨od, at_⟩ := ins_at I ha
    have q : ePost fx W g σ (tOf fx Q) (callO (run P n) (P.meth c op.an) [d, e] S) := q
    obtain ⟨fn, m, em, ec⟩ := callO_of (post_ne q)
    rw [ec] at q
    obtain ⟨k, ad, fd, ps, M, hr, hb, F⟩ := (ob.meth c _ fn m em).ex
    have go := wpAny_mono (run_m (c := c) (x := op.an) (vs := [.ref a, y]) (us := [.ref a, u]) hK tk (hr.mono (Nat.le_add_right _ 4)) hb F I r (.cons rd (.cons re .nil)) (.cons rfl (.cons ry .nil)) q) (fun z s2 hz => back_of hz) fun _ _ q => q
    exact own_inp I.kIn at_ (ob.bits c (kn_of_meth em)).sf (by rw [op.an_ok]; exact M.at_) M.fn go
  | none =>
    rw [e1] at q
    have q : ePost fx W g σ (tOf fx Q) (match augI op d e with
      | some k => .ok (.int k) S
      | none => .bad) := q
    cases e2 : augI op d e with
    | none => rw [e2] at q; exact q.elim
    | some k =>
      obtain ⟨i, j, rfl, rfl, hk⟩ := aug_op e2
      have h3 := rd.iInt
      have h4 := re.iInt
      subst h3 h4
      have q : ePost fx W g σ (tOf fx Q) (.ok (.int k) S) := by
        have q : ePost fx W g σ (tOf fx Q) (match augI op (D.int i) (D.int j) with
          | some k => .ok (.int k) S
          | none => .bad) := q
        rw [e2] at q
        exact q
      have fin : Q (.int k) H := ePost.ret q r (.int k)
      rcases hk with ⟨rfl, rfl⟩ | ⟨rfl, rfl⟩
      · exact ip_add pins s σ H _ _ v u Q I rx ry ⟨i, j, rfl, rfl, fin⟩
      · exact ip_sub pins s σ H _ _ v u Q I rx ry ⟨i, j, rfl, rfl, fin⟩
theorem ss_augX {op : Bop} {i : Nat} {x : Str} {p : Pos} {e : Expr} (hop : op = .add ∨ op = .sub) (hK : fx.K = X.K) (tk : Takes X W) (ob : ObjF P n fx X) (hN : X.N.Nodup) (hi : X.N[i]? = some x) (hx : Loc X.env.scope x) (he : PE X e (tE fx W f)) (hf : X.fn x = true ∨ X.env.scope.names.lookup x = some .local) :
    PS X (.AugAssign (.Name x p) op.op e pos) (tS fx W fun σ S => match σ[i]? with
    | some (some x) => (f σ S).sr σ fun y S1 => (augX P (run P n) op S1 x y).sr σ fun d S2 => .nx (σ.set i (some d)) S2
    | _ => .bad) := by
  refine ⟨fun pins s σ H D I ⟨g, dσ, S, r, sl, q⟩ => ?_⟩
  cases e1 : dσ[i]? with
  | none => simp only [e1] at q; exact q.elim
  | some o =>
    cases o with
    | none => simp only [e1] at q; exact q.elim
    | some d =>
      simp only [e1] at q
      obtain ⟨v, h1, h2⟩ := sl.at_ i d e1
      obtain ⟨m, hn, hl⟩ := I.loc
      have vis : Vis X.env.scope x := by rcases hx with k | k; exact .inl k; exact .inr (.inl k)
      obtain ⟨u, ru, l⟩ := hl i x v hi h1 vis
      have q0 : tE fx W f σ H fun y H1 => ∃ g1 S1 e, g.le g1 ∧ R fx g1 S1 H1 ∧ RelD fx.K fx.ca g1 y e ∧ sPost fx W g1 D ((augX P (run P n) op S1 d e).sr dσ fun d S2 => .nx (dσ.set i (some d)) S2) :=
        tE.sr q r sl fun e S1 y g1 H1 _ l1 r1 y1 q1 => ⟨g1, S1, e, l1, r1, y1, q1⟩
      refine wpAny_AugAssign_Name ?_
      have go : wpAny (model X.prog X.w) X.A (eval e X.env) (fun w s₂ => wpAny (model X.prog X.w) X.A (inplaceOp op.op u w) (fun r s₃ => wpAny (model X.prog X.w) X.A (storeName X.env x r) (fun _ => SP X pins D .next) X.xe s₃) X.xe s₂) X.xe s := by
        refine thn (he.run pins s σ H _ I q0) fun w s1 ⟨y, H1, I1, r1, g1, S1, e', l1, rr, y1, q1⟩ => ?_
        have sl1 := sl.mono l1
        refine thn (augD (Q := fun z H2 => D.nx (σ.set i (some z)) H2) hop hK tk ob I1 ru r1 rr (h2.mono l1) y1 (sPost.res q1 sl1 fun d' S' g' H' l' r' q' v' rv' => q' g' H' _ (Gh.le.refl _) r' ((sl1.mono l').set i rv'))) fun z s2 ⟨zv, H2, I2, r2, q2⟩ => ?_
        exact store_ok I2 hN hi hx r2 (fun s3 I3 => ⟨_, H2, I3, q2⟩) hf
      rcases l with ⟨hk, hm⟩ | ⟨hk, c, hc, hcell⟩
      · exact wpAny_loadName_local I.ok.kind hk hn hm go
      · rcases hk with hk | hk
        · exact wpAny_loadName_cell I.ok.kind hk hc hcell go
        · rcases hx with k | k
          · have : X.env.scope.names.lookup x = some .free := hk
            rw [k] at this; cases this
          · have : X.env.scope.names.lookup x = some .free := hk
            rw [k] at this; cases this
/-- o(..), o an instance -/
theorem s_ical {x : Str} {p : Pos} {e : Expr} {es : List Expr} (tk : Takes X W) (ob : ObjF P n fx X) (hx : PE X (.Name x p) (tE fx W f)) (ha : PA X (e :: es) (tA fx W h))
    (he : starEach (e :: es) X.env = (false, eval e X.env) :: starEach es X.env) (hpl : (backTo pos (starEach es X.env)).any (·.1) = false) :
    PE X (.Call (.Name x p) (e :: es) [] pos) (tE fx W fun σ S => (f σ S).bind fun d S1 => (h σ S1).bind fun y S2 => match insD S2 d with
      | some (c, _) => callO (run P n) (P.meth c "__call__") (d :: unT y) S2
      | none => .bad) := by
  refine ⟨fun pins s σ H Q I ⟨g, dσ, S, r, sl, q⟩ => ?_⟩
  have q0 : tE fx W f σ H fun v H1 => tA fx W h σ H1 fun vs H2 => ∀ u us s2, RelV v u → Inv X pins σ H2 s2 → Vals vs us → ∃ a C od ox f, u = .ref a ∧ PySem.W.InstAt s2.heap a ox C od ∧ ox.data = .plain ∧ PySem.W.findIn X.K (.ref C) "__call__" = some (some (.ref f)) ∧
      wpAny (model X.prog X.w) X.A (call (.ref a) us) (EP X pins σ Q) X.xe s2 :=
    tE.bind q r sl fun d S1 v g1 H1 _ l1 r1 d1 q1 => tA.bind q1 r1 (sl.mono l1) fun y S2 vs g2 H2 _ l2 r2 y2 q2 u us s2 ru I2 rus => by
      have d2 := d1.mono l2
      cases e1 : insD S2 d with
      | none => simp only [e1] at q2; exact q2.elim
      | some cf =>
        obtain ⟨c, fs⟩ := cf
        simp only [e1] at q2
        obtain ⟨a, dx, ws, rfl, ha2, _⟩ := r2.insD d2 e1
        obtain rfl : u = .ref a := ru
        obtain ⟨od, at_⟩ := ins_at I2 ha2
        obtain ⟨fn, m, em, ec⟩ := callO_of (post_ne q2)
        rw [ec] at q2
        obtain ⟨k, ad, fd, ps, M, hr, hb, F⟩ := (ob.meth c _ fn m em).ex
        refine ⟨a, _, _, _, ad, rfl, at_, rfl, M.at_, ?_⟩
        obtain ⟨G, g1', g2'⟩ := callM_np (post_ne q2)
        have rl : RelL fx.K fx.ca g2 (.ref a :: vs) (d :: unT y) := .cons d2 y2
        have want := call_m ⟨G, g1', by rw [rl.length]; exact g2'⟩ q2 r2 rl
        have ru2 : Vals (.ref a :: vs) (.ref a :: us) := .cons rfl rus
        have len : (Value.ref a :: us).length = ps.length := by
          rw [← ru2.length]
          exact F.len _ _ _ _ want
        have bnd := hb s2 (.ref a :: us) I2.kIn (by rw [List.append_nil]; exact len)
        rw [List.append_nil] at bnd
        refine wpAny_call (PySem.W.kco_code I2.kIn at_ rfl M.at_ M.fn ((ob.bits c (kn_of_meth em)).fc _ M.at_) (codeAny_mono (F.run X.A X.stack s2 H2 ⟨.ref a :: us, []⟩ (.ref a :: us) (.ref a :: vs) Q _ (hr.mono (Nat.le_add_right _ 4)) I2.env0 bnd ru2 want) fun t s3 hq => ?_))
        cases t with
        | error z => exact passAt tk σ pins H2 s2 z s3 I2 hq
        | ok flow =>
          cases flow with
          | ret z => exact I2.after hq
          | _ => exact hq.elim
  refine wpAny_Call_Name_kw (thn (hx.run pins s σ H _ I q0) fun u s1 ⟨v, H1, I1, ru, q1⟩ => ?_)
  refine own_with (thn (ha.run pos pins s1 σ H1 _ I1 q1) fun us s2 ⟨vs, H2, I2, rus, q3⟩ => ?_) he hpl
  obtain ⟨b, C, od, ox, fa, eb, at_, hd, _, go⟩ := q3 _ us s2 ru I2 rus
  subst eb
  exact ⟨⟨b, C, _, _, rfl, at_, hd⟩, go⟩
end
end MX
end

section
set_option maxRecDepth 100000
set_option maxHeartbeats 1000000
namespace MX
open PySem PySem.Spec PyProof.Rows L2
/-- a class's address -/
def caOf (K : PySem.W.Frag) (c : String) : Addr := He.ga K (Str.ofString c)
def tNames : List String := ["NoneType", "bool", "int", "str", "list", "tuple"]
def bTys : List Ty := [.int, .bool, .str, .list, .tuple]
/-- a class's method of this name, if any, is a function as it stands -/
def fnB (K : PySem.W.Frag) (C : Addr) (x : Str) : Bool := match PySem.W.findIn K (.ref C) x with
  | some (some (.ref f)) => PySem.W.fnIn K f
  | _ => true
theorem fnB_of {K : PySem.W.Frag} {C : Addr} {x : Str} (h : fnB K C x = true) : ∀ f, PySem.W.findIn K (.ref C) x = some (some (.ref f)) → PySem.W.fnIn K f = true := fun f e => by
  unfold fnB at h
  rw [e] at h
  exact h
def clsBits (K : PySem.W.Frag) (kn : List String) (c : String) : Bool :=
  He.Fa.ok K (.cls (Str.ofString c)) && (He.eqO (PySem.W.findIn K (.ref (caOf K c)) "__class__") (some (some (.builtin "object.__class__"))) && (decide (PySem.W.mroIn K (caOf K c) (.type "object") = some true) &&
    (PySem.W.selfFirst K (caOf K c) && (decide (PySem.W.subIn K (.ref (caOf K c)) (.type "int") = some false) && (decide (PySem.W.subIn K (.ref (caOf K c)) (.type "object") = some true) &&
    (He.eqO (PySem.W.findIn K (.ref (caOf K c)) "__ne__") (some (some (.builtin "object.__ne__"))) && (He.eqO (PySem.W.findIn K (.ref (caOf K c)) "__gt__") (some (some (.builtin "object.__gt__"))) && (He.eqO (PySem.W.findIn K (.ref (caOf K c)) "__ge__") (some (some (.builtin "object.__ge__"))) && (kn.all (fun e => decide (PySem.W.kitOne K (.ref (caOf K c)) (.ref (caOf K e)) = some (c == e)) && ((c == e) || (!decide (caOf K c = caOf K e) && decide (PySem.W.subIn K (.ref (caOf K c)) (.ref (caOf K e)) = some false)))) &&
    (bTys.all (fun t => decide (PySem.W.kitOne K (.ref (caOf K c)) (.type t.nm) = some false)) && (tNames.all (fun n => decide (PySem.W.kitOne K (.type n) (.ref (caOf K c)) = some false)) && (PySem.W.noSeq K (caOf K c) && (fnB K (caOf K c) "__getitem__" && fnB K (caOf K c) "__call__")))))))))))))
def ownBits (K : PySem.W.Frag) (kn : List String) : Bool :=
  He.eqO (PySem.W.specialIn K (.builtin "object.__class__") "__get__") (some (some (.builtin "getset_descriptor.__get__"))) && (decide (PySem.W.takesIn K (.builtin "object.__class__") = some true) && kn.all (clsBits K kn))
theorem ownK_of {K : PySem.W.Frag} {kn : List String} (h : ownBits K kn = true) : OwnK K (caOf K) kn.contains ∧ ∀ c ∈ kn, ClsBits K (caOf K c) := by
  unfold ownBits at h
  simp only [Bool.and_eq_true, decide_eq_true_eq, List.all_eq_true] at h
  obtain ⟨h1, h2, h3⟩ := h
  have bits := fun c hc => by
    have z := h3 c hc
    unfold clsBits at z
    simp only [Bool.and_eq_true, decide_eq_true_eq, List.all_eq_true] at z
    exact z
  have key : ∀ {c : String}, kn.contains c = true → c ∈ kn := fun h => List.contains_iff_mem.mp h
  refine ⟨⟨fun c hc => He.cls_ok (bits c (key hc)).1, fun c hc => He.eqO_ok (bits c (key hc)).2.1, He.eqO_ok h1, h2, fun c hc => (bits c (key hc)).2.2.1, fun c hc e he => ((bits c (key hc)).2.2.2.2.2.2.2.2.2.1 e (key he)).1, fun c hc t ht => ?_, fun c hc d n hd => ?_, fun c hc e he hne => ?_⟩, fun c hc => ⟨He.cls_ok (bits c hc).1, (bits c hc).2.2.2.1, (bits c hc).2.2.2.2.1, (bits c hc).2.2.2.2.2.1, He.eqO_ok (bits c hc).2.2.2.2.2.2.1, He.eqO_ok (bits c hc).2.2.2.2.2.2.2.1, He.eqO_ok (bits c hc).2.2.2.2.2.2.2.2.1,
    (bits c hc).2.2.2.2.2.2.2.2.2.2.2.2.1, fnB_of (bits c hc).2.2.2.2.2.2.2.2.2.2.2.2.2.1, fnB_of (bits c hc).2.2.2.2.2.2.2.2.2.2.2.2.2.2⟩⟩
  · refine (bits c (key hc)).2.2.2.2.2.2.2.2.2.2.1 t ?_
    cases t <;> first | (cases ht; done) | (unfold bTys; simp)
  · refine (bits c (key hc)).2.2.2.2.2.2.2.2.2.2.2.1 n ?_
    cases d <;> first | (cases hd; done) | (cases hd; unfold tNames; simp)
  · have z := ((bits c (key hc)).2.2.2.2.2.2.2.2.2.1 e (key he)).2
    simp only [hne, Bool.false_eq_true, false_or, Bool.or_eq_true, Bool.and_eq_true, Bool.not_eq_true', decide_eq_true_eq, decide_eq_false_iff_not] at z
    exact z
/-! ### the Hook: bits of one's own beside He's facts -/
abbrev AlX : Type := Bool × He.AlD
def obsX (bk : PySem.W.Frag → Bool) (fa : List He.Fa) (fn : List He.DefD) (K : PySem.W.Frag) : AlX := (bk K, He.obsD fa fn K)
def obsXG (n : Nat) (bk : PySem.W.Frag → Bool) (fa : List He.Fa) (fn : List He.DefD) (g : Addr → Option Obj) : AlX := obsX bk fa fn (He.frG g (He.asD g n))
def hookX (n : Nat) (bk : PySem.W.Frag → Bool) (fa : List He.Fa) (fn : List He.DefD) : PySem.W.Hook where
  α := AlX
  obs := fun s => obsXG n bk fa fn s.heap.get?
  val := fun _ => (true, He.valD fn)
  says := fun _ h => ∃ K : PySem.W.Frag, K.In h ∧ bk K = true ∧ He.SaysD fa fn K
  of := fun _ _ e => ⟨_, He.frG_in, congrArg Prod.fst e, congrArg Prod.snd e⟩
  keeps := fun _ _ _ ⟨K, h1, h2, h3⟩ k => ⟨K, PySem.W.Frag.In.keeps h1 k, h2, h3⟩
theorem obsXG_eq {n : Nat} {bk : PySem.W.Frag → Bool} {fa : List He.Fa} {fn : List He.DefD} {g : Addr → Option Obj} {s : Shared} (h : ∀ a, g a = s.heap.get? a) : obsXG n bk fa fn g = (hookX n bk fa fn).obs s := by
  have e : g = s.heap.get? := funext h
  rw [e] <;> rfl
end MX
end

section
set_option maxRecDepth 100000
set_option maxHeartbeats 1000000
namespace MX
open PySem PySem.Spec PyProof.Rows L2

/-- what a module's name is -/
inductive GK where | blt | int (i : Int) | fn (f : String) | cls (c : String) | exc (c : String)
  deriving DecidableEq
/-- what is known of a place in the text: the names by slot, the scope, the module's names -/
structure Gam where
  N : List Str
  sc : Scope
  gl : List (Str × GK)
def okName (x : Str) : Bool := !(x == ("__debug__" : Str)) && !(x == ("__classdict__" : Str))
def Gam.vis (Γ : Gam) (i : Nat) (x : Str) : Bool := decide (Γ.N[i]? = some x) && (decide (Γ.sc.names.lookup x = some .local) || (decide (Γ.sc.names.lookup x = some .cell) || decide (Γ.sc.names.lookup x = some .free)))
def Gam.loc (Γ : Gam) (i : Nat) (x : Str) : Bool := decide (Γ.N[i]? = some x) && (decide (Γ.sc.names.lookup x = some .local) || decide (Γ.sc.names.lookup x = some .cell))
def Gam.glo (Γ : Gam) (x : Str) (k : GK) : Bool := decide (Γ.sc.names.lookup x = some .globalImplicit) && decide (Γ.gl.lookup x = some k)
theorem okName_of {x : Str} (h : okName x = true) : (x == ("__debug__" : Str)) = false ∧ (x == ("__classdict__" : Str)) = false := by
  unfold okName at h
  rw [Bool.and_eq_true, Bool.not_eq_true', Bool.not_eq_true'] at h
  exact h
def notStar : Expr → Bool
  | .Starred _ _ => false
  | _ => true
def notSet : Expr → Bool
  | .Set _ _ _ => false
  | _ => true
def notIf : Expr → Bool
  | .IfExp _ _ _ _ => false
  | _ => true
def notSlice : Expr → Bool
  | .Slice _ _ _ _ => false
  | _ => true
def notComp : Expr → Bool
  | .ListComp _ _ _ _ => false
  | .SetComp _ _ _ _ => false
  | .DictComp _ _ _ _ _ => false
  | _ => true
/-- no call of a name without arguments, at the head: super() is one -/
def notCall : Expr → Bool
  | .Call (.Name _ _) [] [] _ => false
  | _ => true
def isBool : Expr → Bool
  | .BoolOp _ _ _ => true
  | _ => false
def relS' (scope sc : Scope) : Scope :=
  { scope with names := scope.names.map fun (n, k) => if (k == .free && sc.kind == .function && sc.names.lookup n == some .cell) then (n, .cell) else (n, k) }
def Gam.blk (Γ : Gam) (scope : Scope) : Gam := { Γ with sc := relS' scope Γ.sc }
def ownN (Γ : Gam) (own : List Nat) : List (Str × Nat) := own.map fun i => (Γ.N.getD i Str.empty, i)
def tyGK : Ty → GK
  | .cls c => .cls c
  | _ => .blt
def nameArgs (Γ : Gam) : List Ty → Bool
  | [] => true
  | t :: r => (Γ.glo (Str.ofString (nmX t)) (tyGK t) && okName (Str.ofString (nmX t))) && nameArgs Γ r

def plainT : Expr → Bool
  | .UnaryOp .Not _ _ => false
  | .BoolOp _ _ _ => false
  | .IfExp _ _ _ _ => false
  | .Compare _ _ _ _ => false
  | _ => true
/-- a comprehension's one clause -/
def genOk : List Comprehension → Bool
  | [⟨_, _, _, a⟩] => decide (a = 0)
  | _ => false
def genT : List Comprehension → Expr
  | ⟨x, _, _, _⟩ :: _ => x
  | _ => default
def genI : List Comprehension → Expr
  | ⟨_, i, _, _⟩ :: _ => i
  | [] => default
def genF : List Comprehension → List Expr
  | ⟨_, _, f, _⟩ :: _ => f
  | [] => []
theorem gen_of {gens : List Comprehension} (h : genOk gens = true) : gens = [⟨genT gens, genI gens, genF gens, 0⟩] := by
  match gens, h with
  | [⟨tg, i, f, a⟩], h =>
    have h : decide (a = 0) = true := h
    have := of_decide_eq_true h
    subst this
    rfl
  | [], h => cases h
  | ⟨_, _, _, _⟩ :: ⟨_, _, _, _⟩ :: _, h => cases h
/-- a name that a comprehension's block stores -/
def Gam.own (Γ : Gam) (scope : Scope) (i : Nat) (x : Str) : Bool := (Γ.blk scope).loc i x && (decide ((Γ.blk scope).sc.names.lookup x = some .local) || decide (scope.names.lookup x = some .cell))
def ItK.nm : ItK → Str
  | .zip => "zip"
  | .enum => "enumerate"
  | .rev => "reversed"
  | .seq => Str.empty
def ItK.ar : ItK → Nat
  | .zip => 2
  | _ => 1
def Tg.isT : Tg → Bool
  | .t _ => true
  | _ => false
def ItK.tgOk : ItK → Tg → Bool
  | .rev, _ => true
  | .seq, _ => true
  | _, tg => tg.isT
/-- the slice ::-1 -/
def revB : Expr → Bool
  | .Slice none none (some (.UnaryOp .USub (.Constant (.int i) _ _) _)) _ => decide (i = 1)
  | _ => false
theorem rev_of {s : Expr} (h : revB s = true) : ∃ k p1 p2 p3, s = .Slice none none (some (.UnaryOp .USub (.Constant (.int 1) k p1) p2)) p3 := by
  unfold revB at h
  split at h
  · obtain rfl := of_decide_eq_true h
    exact ⟨_, _, _, _, rfl⟩
  · cases h
def tailB (op : BoolOp) (y : Expr) (rest : List Expr) (p : Pos) : Expr :=
  match rest with
  | [] => y
  | _ :: _ => .BoolOp op (y :: rest) p
def chkTy (cs : List Ty) : Expr → Bool
  | .Name y _ => decide (cs.map (fun t => Str.ofString (nmX t)) = [y])
  | .Tuple es _ _ => tyNamesX cs es
  | _ => false
/-- what is walked; ce, ca: its code's check -/
def chkI (Γ : Gam) (k : ItK) (tg : Tg) (ce : Expr → Bool) (ca : List Expr → Bool) : Expr → Bool
  | .Call (.Name z p) es kw cp => match k with
    | .seq => ce (.Call (.Name z p) es kw cp)
    | k => decide (z = k.nm) && (Γ.glo z .blt && (k.tgOk tg && (decide (es.length = k.ar) && (kw.isEmpty && ca es))))
  | e => match k with
    | .seq => notSet e && ce e
    | _ => false
mutual
def chkE (Γ : Gam) (m : Bool) : E → Expr → Bool
  | .var i, .Name x _ => Γ.vis i x && okName x
  | .int i, .Constant (.int j) _ _ => decide (i = j)
  | .bl b, .Constant (.bool c) _ _ => b == c
  | .non, .Constant .none _ _ => true
  | .str s, .Constant (.str x) _ _ => decide (x = Str.ofString s)
  | .gint x i, .Name y _ => decide (y = Str.ofString x) && (Γ.glo y (.int i) && okName y)
  | .bin op a b, .BinOp l o r _ => decide (o = op.op) && (chkE Γ false a l && chkE Γ false b r)
  | .neg a, .UnaryOp .USub x _ => chkE Γ false a x
  | .not a, .UnaryOp .Not x _ => notIf x && chkE Γ false a x
  | .chain o1 o2 a b c, .Compare l [p1, p2] [r1, r2] _ => decide (p1 = o1.op) && (decide (p2 = o2.op) && (notSet r2 && (chkE Γ false a l && (chkE Γ false b r1 && chkE Γ false c r2))))
  | .cmp op a b, .Compare l [o] [r] _ => decide (o = op.op) && (notSet r && (chkE Γ false a l && chkE Γ false b r))
  | .and a b, .BoolOp .And (x :: y :: rest) p => notIf x && (chkE Γ false a x && chkE Γ false b (tailB .And y rest p) && notIf (tailB .And y rest p))
  | .or a b, .BoolOp .Or (x :: y :: rest) p => notIf x && (chkE Γ false a x && chkE Γ false b (tailB .Or y rest p) && notIf (tailB .Or y rest p))
  | .ife c a b, .IfExp t x y _ => notIf t && (chkE Γ false c t && (chkE Γ false a x && chkE Γ false b y))
  | .tup as, .Tuple es _ _ => chkA Γ as es
  | .lst as, .List es _ => chkA Γ as es
  | .cell as, .List es _ => chkA Γ as es
  | .frz a, e => plainT e && (notComp e && chkE Γ false a e)
  | .catc a b, .BinOp l .Add r _ => chkE Γ false a l && chkE Γ false b r
  | .idx a i, .Subscript x s _ => notSlice s && (chkE Γ false a x && chkE Γ false i s)
  | .cut a lo hi, .Subscript x (.Slice l h none _) _ => chkE Γ false a x && (chkO Γ lo l && chkO Γ hi h)
  | .call _ f as, .Call (.Name x _) es [] _ => !es.isEmpty && (Γ.glo x (.fn f) && (okName x && chkA Γ as es))
  | .bi b as, .Call (.Name x _) es [] _ => !es.isEmpty && (decide (x = Str.ofString b.nm) && (Γ.glo x .blt && chkA Γ as es))
  | .isi e cs, .Call (.Name x _) [v, t] [] _ => decide (x = ("isinstance" : Str)) && (Γ.glo x .blt && (notStar v && (chkE Γ false e v && (!cs.isEmpty && (decide (cs.length ≤ sizeLine) && (nameArgs Γ cs && chkTy cs t))))))
  | .fld x o, .Attribute e y _ => decide (y = Str.ofString x) && (notCall e && chkE Γ false o e)
  | .mk c as, .Call (.Name y _) es [] _ => decide (y = Str.ofString c) && (Γ.glo y (.cls c) && (okName y && chkA Γ as es))
  | .meth x o as, .Call (.Attribute e y ap) es [] cp => decide (y = Str.ofString x) && ((ap.endLine == cp.line) && (decide (es.length < 30) && (notCall e && (chkE Γ false o e && chkA Γ as es))))
  | .scall c x as, .Call (.Attribute (.Name z _) y ap) es [] cp => decide (z = Str.ofString c) && (decide (y = Str.ofString x) && (Γ.glo z (.cls c) && (okName z && ((ap.endLine == cp.line) && (decide (es.length < 30) && (!es.isEmpty && chkA Γ as es))))))
  | .prop x o, .Attribute e y _ => decide (y = Str.ofString x) && (notCall e && chkE Γ false o e)
  | .ical o as, .Call (.Name x p) es [] _ => !es.isEmpty && (chkE Γ false o (.Name x p) && chkA Γ as es)
  | .app o e, .Call (.Attribute x m ap) [v] [] cp => decide (m = ("append" : Str)) && ((ap.endLine == cp.line) && (notStar v && (notCall x && (chkE Γ false o x && chkE Γ false e v))))
  | .comp _ own k tg it c elt, .ListComp el gens scope _ =>
    genOk gens && (tg.slots.all own.contains && (blkC Γ.N Γ.sc scope (ownN Γ own) && (chkT (Γ.own scope) tg (genT gens) && (chkI Γ k tg (chkE Γ true it) (chkA Γ it) (genI gens) && (chkC (Γ.blk scope) c (genF gens) && chkE (Γ.blk scope) false elt el)))))
  | .rev a, .Subscript x s _ => revB s && chkE Γ false a x
  | .irng1 a, .Call (.Name r _) [x] [] _ => m && (decide (r = ("range" : Str)) && (Γ.glo r .blt && (notStar x && chkE Γ false a x)))
  | .irng2 a b, .Call (.Name r _) [x, y] [] _ => m && (decide (r = ("range" : Str)) && (Γ.glo r .blt && (notStar x && (notStar y && (chkE Γ false a x && chkE Γ false b y)))))
  | _, _ => false
def chkO (Γ : Gam) : E → Option Expr → Bool
  | .nopart, none => true
  | .part e, some z => chkE Γ false e z
  | _, _ => false
def chkC (Γ : Gam) : E → List Expr → Bool
  | .bl true, [] => true
  | .cnd c, [i] => notIf i && chkE Γ false c i
  | _, _ => false
def chkA (Γ : Gam) : E → List Expr → Bool
  | .anil, [] => true
  | .acons e r, x :: xs => notStar x && (chkE Γ false e x && chkA Γ r xs)
  | _, _ => false
end
end MX
end

section
set_option maxRecDepth 100000
set_option maxHeartbeats 4000000
namespace MX
open PySem PySem.Spec PyProof.Rows L2

theorem lookup_zip : ∀ {ps : List Str} {us : List Value}, us.length = ps.length → ps.Nodup → ∀ (i : Nat) (x : Str) (u : Value), ps[i]? = some x → us[i]? = some u → (ps.zip us).lookup x = some u
  | [], _, _, _, _, _, _, h, _ => by simp at h
  | _ :: _, [], h, _, _, _, _, _, _ => by simp at h
  | p :: ps, v :: us, hl, nd, 0, x, u, h1, h2 => by
    simp at h1 h2
    subst h1 h2
    show (match p == p with | true => some v | false => _) = some v
    rw [beq_self_eq_true]
  | p :: ps, v :: us, hl, nd, i + 1, x, u, h1, h2 => by
    have h1 : ps[i]? = some x := by simpa using h1
    have h2 : us[i]? = some u := by simpa using h2
    have ne : (x == p) = false := beq_eq_false_iff_ne.mpr fun e => (List.nodup_cons.mp nd).1 (by rw [← e]; exact List.mem_of_getElem? h1)
    show (match x == p with | true => some v | false => (ps.zip us).lookup x) = some u
    rw [ne]
    exact lookup_zip (by simpa using hl) (List.nodup_cons.mp nd).2 i x u h1 h2
theorem filterMap_zip {ps : List Str} {us : List Value} (hl : us.length = ps.length) (nd : ps.Nodup) : (ps.filterMap fun n => ((ps.zip us).lookup n).map fun v => (n, v)) = ps.zip us := by
  have key : ∀ (qs : List Str) (ws : List Value), ws.length = qs.length → (∀ (i : Nat) x u, qs[i]? = some x → ws[i]? = some u → (ps.zip us).lookup x = some u) → (qs.filterMap fun n => ((ps.zip us).lookup n).map fun v => (n, v)) = qs.zip ws := fun qs => by
    induction qs with
    | nil => exact fun ws _ _ => by cases ws <;> rfl
    | cons q qs ih =>
      intro ws hl h
      cases ws with
      | nil => simp at hl
      | cons w ws =>
        have h0 := h 0 q w rfl rfl
        rw [List.filterMap_cons, h0]
        show (q, w) :: _ = (q, w) :: qs.zip ws
        rw [ih ws (by simpa using hl) fun i x u h1 h2 => h (i + 1) x u (by simpa using h1) (by simpa using h2)]
  exact key ps us hl fun i x u h1 h2 => lookup_zip hl nd i x u h1 h2
theorem none_zip {ps : List Str} {us : List Value} (hl : us.length = ps.length) (nd : ps.Nodup) : (ps.filter fun n => ((ps.zip us).lookup n).isNone) = [] := by
  rw [List.filter_eq_nil_iff]
  intro n hn
  obtain ⟨i, hi, e⟩ := List.getElem_of_mem hn
  rw [lookup_zip hl nd i n us[i] (by rw [List.getElem?_eq_getElem hi, e]) (List.getElem?_eq_getElem (by omega))]
  simp
def plainPs : Arguments → Bool
  | ⟨[], _, none, [], _, none, _⟩ => true
  | _ => false
def namesPs : Arguments → List Str
  | ⟨_, as, _, _, _, _, _⟩ => as.map (·.arg)
theorem bind_plain {x qual : Str} {params : Arguments} {body : List Stmt} {scope : Scope} {kV doc pm cdv ct : Value} {an : Option Addr} {us : List Value} (hp : plainPs params = true) (nd : (namesPs params).Nodup) (hl : us.length = (namesPs params).length) :
    bindArgs (PySem.W.fnOf x qual params body scope .none kV doc pm an cdv ct) ⟨us, []⟩ = pure ((namesPs params).zip us) := by
  obtain ⟨po, as, va, ko, kd, ka, ds⟩ := params
  cases po <;> cases va <;> cases ko <;> cases ka <;> first | (cases hp; done) | skip
  have nd : (as.map (·.arg)).Nodup := nd
  have hl : us.length = (as.map (·.arg)).length := hl
  unfold bindArgs
  simp only [PySem.W.fnOf, List.map_nil, List.nil_append, List.append_nil]
  have hg : ¬ us.length > (as.map (·.arg)).length := by omega
  generalize hps : as.map (·.arg) = ps at *
  have e1 : seqItems? Value.none = pure none := rfl
  rw [e1]
  have z1 := none_zip hl nd
  have z2 := filterMap_zip hl nd
  simp only [List.forIn_nil, pure_bind, Option.getD_none, List.toList_toArray, Array.toList_empty, List.length_nil, List.drop_nil, Nat.sub_zero, List.take_length, z1, List.isEmpty_nil, Bool.not_true, Bool.false_eq_true, if_false, List.zip_nil_right, List.append_nil, hg, decide_false, Bool.false_and, gt_iff_lt, Nat.zero_sub]
  rw [z2]
  show pure (ps.zip us) = pure ((as.map (·.arg)).zip us)
  rw [hps]
end MX
end

section
set_option maxRecDepth 100000
set_option maxHeartbeats 2000000
namespace MX
open PySem PySem.Spec PyProof.Rows
/-! ### an exception's own __init__: super().__init__('..'), then self.f = f -/
section
open PySem.W
variable {prog : Program} {w : World} {A : Around} {K : Frag} {C fI : Addr}
/-- the statements behind the first one: fields, each a parameter -/
def fldStmts (self : Str) : List (Str × Str) → List Stmt → Bool
  | [], [] => true
  | (f, v) :: r, .Assign [.Attribute (.Name o _) g _] (.Name x _) _ :: ss => decide (o = self) && (decide (g = f) && (decide (x = v) && fldStmts self r ss))
  | _, _ => false
/-- a record, its dict holding these -/
def RecD (h : Heap) (a C : Addr) (fs : List (Str × Value)) : Prop := ∃ (t1 : Addr), (fs = [] ∧ h.get? a = some ({ cls := .ref C, data := .fields #[.ref t1, .none, .none, .none, .bool false, .none] } : Obj)) ∨
  (fs ≠ [] ∧ ∃ dx, dx ≠ a ∧ h.get? a = some ({ cls := .ref C, dict := some dx, data := .fields #[.ref t1, .none, .none, .none, .bool false, .none] } : Obj) ∧ h.Ns1 dx (fun y => fs.lookup y))
/-- what the written part says of the class -/
structure RecK (K : Frag) (C : Addr) : Prop where
  ex : ∃ cd, clsIn K C = some cd ∧ PySem.HandSPX.refsVE cd.mro = true ∧ cd.hasDict = true
  sa : findIn K (.ref C) "__setattr__" = some (some (.builtin "object.__setattr__"))
/-- the slots while the fields are stored: the new heap keeps what stood ahead of the class's call -/
structure RecS (hp : Heap) (L : Addr) (m : Str → Option Value) (a C : Addr) (fs : List (Str × Value)) (h : Heap) : Prop where
  keep : ∀ b o, hp.get? b = some o → h.get? b = some o
  ns : h.Ns L m
  rec_ : RecD h a C fs
  new : ∀ dx t1, h.get? a = some ({ cls := .ref C, dict := some dx, data := .fields #[.ref t1, .none, .none, .none, .bool false, .none] } : Obj) → hp.objs.size ≤ dx ∧ dx ≠ L
theorem lookup_cons_if {α : Type} (f g : Str) (y : α) (fs : List (Str × α)) : ((f, y) :: fs).lookup g = if g = f then some y else fs.lookup g := by
  rw [List.lookup_cons]
  by_cases e : g = f
  · rw [beq_iff_eq.mpr e, if_pos e]
  · rw [beq_eq_false_iff_ne.mpr e, if_neg e]
/-- self.f = v of such a record -/
theorem rec_store {hp : Heap} {L a : Addr} {m : Str → Option Value} {fs : List (Str × Value)} {E : Value → Shared → Prop} {Q : Unit → Shared → Prop} {f : Str} {v : Value} {s : Shared} (kin : K.In hp) (rk : RecK K C) (ha : hp.get? a = none) (la : L ≠ a) (hL : hp.objs.size ≤ L) (hno : findIn K (.ref C) f = some none) (hz : fs.length ≤ 900)
    (S : RecS hp L m a C fs s.heap) (hq : ∀ h' tk', RecS hp L m a C ((f, v) :: fs) h' → Q () { s with heap := h', toks := tk' }) : wpAny (model prog w) A (setAttr (.ref a) f v) Q E s := by
  obtain ⟨cd, hcd, hm, hh⟩ := rk.ex
  obtain ⟨t1, ⟨rfl, ho⟩ | ⟨ne, dx, dne, ho, hns⟩⟩ := S.rec_
  · obtain ⟨h, g, d, t, os⟩ := s
    have X : K.In h := kin.keeps S.keep
    refine set_plain X (ox := { cls := .ref C, data := .fields #[.ref t1, .none, .none, .none, .bool false, .none] }) (od := none) ⟨ho, rfl, rfl, trivial⟩ rk.sa ?_
    refine PySem.HandSPX.exc_osa X ho hcd hm hh hno (fun h' tk' dx k dn dne hx hn => hq h' tk' ⟨fun b o e => ?_, ?_, ⟨t1, .inr ⟨by simp, dx, dne, hx, ?_⟩⟩, fun dx' t2 e => ?_⟩)
    · exact k b o (fun z => by rw [z, ha] at e; cases e) (S.keep b o e)
    · obtain ⟨oL, es, ep, e1, r⟩ := S.ns
      exact ⟨oL, es, ep, k _ _ la e1, r⟩
    · have e : (fun y => if y = f then some v else none) = fun y => List.lookup y [(f, v)] := by
        funext y
        rw [lookup_cons_if]
        rfl
      rw [← e]
      exact hn
    · rw [hx] at e
      cases e
      obtain ⟨oL, es, ep, e1, r⟩ := S.ns
      refine ⟨Nat.le_trans (Nat.le_trans hL (Nat.le_of_lt (Heap.lt_size (show h.get? L = some oL from e1)))) dn, fun z => ?_⟩
      have := Heap.lt_size (show h.get? L = some oL from e1)
      have dn : h.objs.size ≤ dx := dn
      rw [z] at dn
      exact absurd this (Nat.not_lt.mpr dn)
  · obtain ⟨h, g, d, t, os⟩ := s
    have X : K.In h := kin.keeps S.keep
    have hw : Within (fun y => fs.lookup y) (fs.map (·.1)) := fun y hy => by
      cases e : fs.lookup y with
      | none => exact absurd e hy
      | some z => exact List.mem_map.mpr ⟨(y, z), PySem.mem_of_lookup e, rfl⟩
    obtain ⟨oD, _, _, hoD, _, _⟩ := hns.count hw
    obtain ⟨n1, n2⟩ := S.new dx t1 ho
    refine set_plain X (ox := { cls := .ref C, dict := some dx, data := .fields #[.ref t1, .none, .none, .none, .bool false, .none] }) (od := some oD) ⟨ho, rfl, rfl, hoD⟩ rk.sa ?_
    refine PySem.OEX.osa_old X ho hns hw (by rw [List.length_map]; omega) hcd hm hh hno (fun h' tk' k hn => hq h' tk' ⟨fun b o e => ?_, ?_, ⟨t1, .inr ⟨by simp, dx, dne, k _ _ (Ne.symm dne) ho, ?_⟩⟩, fun dx' t2 e => ?_⟩)
    · exact k b o (fun z => absurd (Heap.lt_size e) (by rw [z]; exact Nat.not_lt.mpr n1)) (S.keep b o e)
    · obtain ⟨oL, es, ep, e1, r⟩ := S.ns
      exact ⟨oL, es, ep, k _ _ (Ne.symm n2) e1, r⟩
    · have e : (fun y => if y = f then some v else fs.lookup y) = fun y => List.lookup y ((f, v) :: fs) := by
        funext y
        rw [lookup_cons_if]
      rw [← e]
      exact hn
    · rw [k _ _ (Ne.symm dne) ho] at e
      cases e
      exact ⟨n1, n2⟩
/-- the fields, the last one first -/
def putAll (fvs : List (Str × Str)) (us : List Value) (fs : List (Str × Value)) : List (Str × Value) := ((fvs.map (·.1)).zip us).reverse ++ fs
/-- the fields, one after the other -/
theorem rec_stores {hp : Heap} {L a : Addr} {m : Str → Option Value} {E : Value → Shared → Prop} {env : Env} {self : Str} (kin : K.In hp) (rk : RecK K C) (ha : hp.get? a = none) (la : L ≠ a) (hL : hp.objs.size ≤ L)
    (hk : env.scope.kind = .function) (hl : env.locals = L) (hs : env.kindOf self = some .local) (hms : m self = some (.ref a)) (hds : (self == ("__debug__" : Str)) = false) {Q : List (Str × Value) → Shared → Prop} :
    ∀ (fvs : List (Str × Str)) (ss : List Stmt) (us : List Value) (fs : List (Str × Value)) (s : Shared), fldStmts self fvs ss = true → fvs.length = us.length → fs.length + fvs.length ≤ 900 →
    (∀ p ∈ fvs, findIn K (.ref C) p.1 = some none ∧ env.kindOf p.2 = some .local ∧ (p.2 == ("__debug__" : Str)) = false) → (∀ (i : Nat) p u, fvs[i]? = some p → us[i]? = some u → m p.2 = some u) → RecS hp L m a C fs s.heap →
    (∀ h' tk', RecS hp L m a C (putAll fvs us fs) h' → Q (putAll fvs us fs) { s with heap := h', toks := tk' }) →
    wpAny (model prog w) A (execs ss env) (fun f s' => f = .next ∧ Q (putAll fvs us fs) s') E s
  | [], [], us, fs, s, _, hlen, _, _, _, S, hq => by
    cases us with
    | nil => exact wpAny_execs_nil ⟨rfl, hq s.heap s.toks S⟩
    | cons _ _ => cases hlen
  | [], _ :: _, _, _, _, h, _, _, _, _, _, _ => by cases h
  | (f, x) :: r, [], _, _, _, h, _, _, _, _, _, _ => by cases h
  | (f, x) :: r, st :: ss, us, fs, s, h, hlen, hz, hf, hm, S, hq => by
    cases us with
    | nil => cases hlen
    | cons u us =>
      have hst : ∃ op ap vp p, st = .Assign [.Attribute (.Name self op) f ap] (.Name x vp) p ∧ fldStmts self r ss = true := by
        unfold fldStmts at h
        split at h
        · rename_i heq1 heq2; cases heq1
        · rename_i f' v' r' o op g ap x' vp p ss' heq1 heq2
          cases heq1
          cases heq2
          rw [Bool.and_eq_true, Bool.and_eq_true, Bool.and_eq_true, decide_eq_true_eq, decide_eq_true_eq, decide_eq_true_eq] at h
          obtain ⟨rfl, rfl, rfl, h4⟩ := h
          exact ⟨op, ap, vp, p, rfl, h4⟩
        · cases h
      obtain ⟨op, ap, vp, p, rfl, hr⟩ := hst
      obtain ⟨k1, k2, k3⟩ := hf (f, x) List.mem_cons_self
      have ns := S.ns
      rw [← hl] at ns
      refine wpAny_execs_cons (plainObj_wpAny_Assign_Attribute (wpAny_Name (wpAny_loadName_local hk k2 ns (hm 0 (f, x) u rfl rfl) (wpAny_Name (wpAny_loadName_local hk hs ns hms ?_) hds)) k3))
      refine rec_store kin rk ha la hL k1 (by simp at hz; omega) S fun h' tk' S' => ?_
      have go := rec_stores (E := E) kin rk ha la hL hk hl hs hms hds (Q := fun z s' => Q z s') r ss us ((f, u) :: fs) { s with heap := h', toks := tk' } hr (by simpa using hlen) (by simp at hz ⊢; omega) (fun q hq => hf q (List.mem_cons_of_mem _ hq)) (fun i q v e1 e2 => hm (i + 1) q v (by simpa using e1) (by simpa using e2)) S' (fun h2 tk2 S2 => by
        have e : putAll ((f, x) :: r) (u :: us) fs = putAll r us ((f, u) :: fs) := by unfold putAll; simp
        have z := hq h2 tk2 (by rw [e]; exact S2)
        rw [e] at z
        exact z)
      have e : putAll ((f, x) :: r) (u :: us) fs = putAll r us ((f, u) :: fs) := by unfold putAll; simp
      rw [e]
      exact go
end
end MX
end

section
set_option maxRecDepth 100000
set_option maxHeartbeats 2000000
namespace MX
open PySem PySem.Spec PyProof.Rows
/-- super().__init__('..') -/
def supCall (p0 p1 p2 p3 p4 : Pos) (j : Nat) (msg : Str) : Expr := .Call (.Attribute (.Call (.Name "super" p0) [] [] p1) "__init__" p2) [.Constant (.str msg) j p3] [] p4
theorem sup_ht {p0 p1 p2 p3 p4 : Pos} {j : Nat} {msg : Str} {env : Env} (hl : (p2.endLine == p4.line) = true) : eval (supCall p0 p1 p2 p3 p4 j msg) env = (do
      let ov ← attributeBase (.Call (.Name "super" p0) [] [] p1) "__init__" env (eval (.Call (.Name "super" p0) [] [] p1) env)
      standAt p2.atName
      let (f, first) ← holding [ov] (getMethod ov "__init__" (do return (← importBound (.Call (.Name "super" p0) [] [] p1) env).getD true))
      callWith p4 f first (backTo p4 (starEach [.Constant (.str msg) j p3] env)) []) := by
  have e1 : eval (supCall p0 p1 p2 p3 p4 j msg) env = (do
      let ov ← attributeBase (.Call (.Name "super" p0) [] [] p1) "__init__" env (eval (.Call (.Name "super" p0) [] [] p1) env)
      standAt p2.atName
      methodCall (.Call (.Name "super" p0) [] [] p1) "__init__" p2 p4 env ov 1 (backTo p4 (starEach [.Constant (.str msg) j p3] env)) []) := rfl
  have few : methodCallForm 1 (backTo p4 (starEach [.Constant (.str msg) j p3] env)) [] = true := rfl
  rw [e1]
  unfold methodCall calleeOf methodCallPos
  simp only [few, hl, if_true, Bool.not_true, Bool.false_or, pure_bind]
section
open PySem.W
variable {prog : Program} {w : World} {A : Around} {K : Frag} {C fI : Addr}
/-- what the written part says of the class's __init__ -/
structure IniK (prog : Program) (K : Frag) (C fI : Addr) (name qual : Str) (params : Arguments) (body : List Stmt) (scope : Scope) : Prop where
  fn : ∃ cc cda doc pm an ct kV oc od osl, K.lookup fI = some ⟨oc, od, .func (ksFn name qual params body scope .none kV doc pm an (.ref cda) ct cc), osl⟩ ∧ codeIn K (.ref cda) qual = true ∧
    (∃ ccl cdd vs ccs file tf, K.lookup cda = some ⟨ccl, cdd, .fields vs, ccs⟩ ∧ vs[2]? = some (.str file tf) ∧ ((prog.main.file : Str) == file) = true) ∧
    ∃ cl cld csl, K.lookup cc = some ⟨cl, cld, .cell (some (.ref C)), csl⟩
  cls : (clsIn K C).isSome = true
  sup : ks_superIn K C C "__init__" = some (some (.builtin "ValueError.__init__"))
  exI : ∃ bmB, excInitIn K C bmB "ValueError.__new__" = true ∧ bmB = [.type "ValueError", .type "Exception", .type "BaseException", .type "object"]
  subV : subIn K (.ref C) (.type "ValueError") = some true
  mro : mroIn K C (.ref C) = some true
  opq : nsIn K cStatics "thirdparty.any" = some none
/-- what a heap says of the module -/
structure ModH (mg : Str → Option Value) (h : Heap) : Prop where
  glob : h.Ns mainGlobals mg
  blt : ∃ mb, h.Ns builtinsNs mb ∧ ∀ x : Str, x ≠ "__name__" → mb x = bootBuiltins x
  lim : h.NoLimit
theorem ModH.keeps {mg : Str → Option Value} {h h' : Heap} (m : ModH mg h) (k : ∀ b o, h.get? b = some o → h'.get? b = some o) : ModH mg h' :=
  ⟨m.glob.keeps k, let ⟨mb, h1, h2⟩ := m.blt; ⟨mb, h1.keeps k, h2⟩, m.lim.keeps k⟩
theorem boot_super : bootBuiltins "super" = some (.type "super") := by decide +kernel
/-- the body's first statement -/
theorem sup_stmt {hp : Heap} {L a cc cda t0 : Addr} {m mg : Str → Option Value} {env : Env} {body : List Stmt} {self : Str} {E : Value → Shared → Prop} {Q : Flow → Shared → Prop} {p0 p1 p2 p3 p4 p5 : Pos} {j : Nat} {msg name qual : Str} {params : Arguments} {body0 : List Stmt} {scope : Scope} {ar : Arg} {s : Shared}
    {doc pm ct kV oc : Value} {an od : Option Addr} {osl : Array (Option Value)} (he : env = ksEnv qual scope L fI (.ref cda) cc) (ik : IniK prog K C fI name qual params body0 scope)
    (lk : K.lookup fI = some ⟨oc, od, .func (ksFn name qual params body0 scope .none kV doc pm an (.ref cda) ct cc), osl⟩)
    (hcode : ∃ ccl cdd vs ccs file tf, K.lookup cda = some ⟨ccl, cdd, .fields vs, ccs⟩ ∧ vs[2]? = some (.str file tf) ∧ ((prog.main.file : Str) == file) = true) (hcell : ∃ cl cld csl, K.lookup cc = some ⟨cl, cld, .cell (some (.ref C)), csl⟩)
    (kin : K.In hp) (md : ModH mg hp) (hsup : mg "super" = none) (F : Fr hp L s.heap m) (N : News hp L s.heap [(a, excObj C t0 none .none)]) (hp0 : (params.posonlyargs ++ params.args).head? = some ar) (har : ar.arg = self) (hv : m self = some (.ref a))
    (hks : scope.names.lookup ("super" : Str) = some .globalImplicit) (hkc : scope.names.lookup ("__class__" : Str) = some .free) (hka : scope.names.lookup self = some .local) (hk : scope.kind = .function)
    (htop : (prog.main.scope.names.lookup ("super" : Str)).isSome = false) (hl : (p2.endLine == p4.line) = true)
    (h : ∀ h' tk' t1, Fr hp L h' m → h'.get? a = some (excObj C t1 none .none) → Q .next { s with heap := h', toks := tk' }) :
    _root_.PySem.wpAt (model prog w) A (.func body env) (exec (.Expr (supCall p0 p1 p2 p3 p4 j msg) p5) env) Q E s := by
  subst he
  obtain ⟨ccl, cdd, vs, ccs, file, tf, hco, hvs, hfile⟩ := hcode
  obtain ⟨cl, cld, csl, hcc⟩ := hcell
  obtain ⟨cdD, hD⟩ := Option.isSome_iff_exists.mp ik.cls
  have hi : interactive (ksEnv qual scope L fI (.ref cda) cc) = false := by
    unfold interactive
    simp [hk]
  refine ks_wpAt_Expr_any (ks_wpAt_MethodCall ?_ (sup_ht hl)) hi rfl
  have X : K.In s.heap := kin.keeps F.keep
  have I : InstAt s.heap a (excObj C t0 none .none) C none := InstAt.of_exc0 N List.mem_cons_self
  obtain ⟨hh, g, d, t, os⟩ := s
  obtain ⟨oD, hD1, hD2⟩ : ∃ oD, hh.get? C = some oD ∧ oD.data = .cls cdD := by
    unfold clsIn at hD
    split at hD
    · rename_i c d cd' sl ho
      cases hD
      exact ⟨_, X _ _ ho, rfl⟩
    · cases hD
  have md2 := md.keeps F.keep
  obtain ⟨mb, hmb, hbt⟩ := md2.blt
  refine ks_wpAt_super_base (env := ksEnv qual scope L fI (.ref cda) cc) hks hkc (by decide) rfl (X _ _ lk) rfl hp0 rfl (X _ _ hco) rfl hvs hfile htop ?_
  refine ks_loadName_global hk hks (Calls.loadGlobal_builtin (env := ksEnv qual scope L fI (.ref cda) cc) md2.glob hsup hmb ((hbt _ (by decide +kernel)).trans boot_super) ⟨rfl, ?_⟩)
  refine wpAny_loadName_free hk hkc rfl ⟨_, X _ _ hcc, rfl⟩ ?_
  rw [har]
  refine wpAny_loadName_local hk hka F.ns hv ?_
  refine ks_wpAny_isType_cls hD1 hD2 ⟨rfl, ?_⟩
  refine ks_wpAny_call_super hD1 hD2 I.at_ I.cls (fun c e => ?_) (looks_mroIn X ik.mro) (fun h' e k => ?_)
  · have := I.no
    unfold notCls at this
    rw [e] at this
    exact Bool.noConfusion this
  obtain ⟨F1, N1, l1⟩ := ks_newsPush (s := ⟨hh, g, d, t, os⟩) F N rfl e k
  have I1 : InstAt h' a (excObj C t0 none .none) C none := InstAt.of_exc0 N1 (by simp)
  refine kxs_method (s := ⟨h', g, d, t, os⟩) kxs_ValueError F1 kin N1 List.mem_cons_self I1 ik.opq ik.sup ik.subV (by decide) fun q h2 F2 N2 l2 => ?_
  refine kxs_callWith1 (s := ⟨h2, g, d, t + 1, os⟩) N2 List.mem_cons_self ?_ rfl rfl
  show wpAny (model prog w) A (spliced ((false, eval (.Constant (.str msg) j p3) (ksEnv qual scope L fI (.ref cda) cc)) :: [])) _ E _
  refine Calls.spliced_cons (wpAny_Constant_str (Calls.spliced_nil ⟨kxs_at N2 List.mem_cons_self, ?_⟩))
  obtain ⟨bmB, hx, hb⟩ := ik.exI
  subst hb
  have na : ∀ p ∈ [(hh.objs.size, ks_superObj C a C)], p.1 ≠ a := fun p hp => by
    rw [List.mem_singleton] at hp
    subst hp
    exact Nat.ne_of_gt (l1 _ List.mem_cons_self)
  refine kxs_call (s := ⟨h2, g, d, t + 1 + 1, os⟩) F2 kin N2 PySem.F.excBase_ValueError hx List.mem_cons_self (.tail ?_ (.tail (na _ List.mem_cons_self) (.head (fun p hp => by cases hp)))) (by show 1 ≤ sizeLine; decide) fun t1 h3 F3 N3 _ => ?_
  · exact Nat.ne_of_gt (l2 (a, excObj C t0 none .none) (by simp))
  · exact h h3 _ t1 F3 (N3 (a, excObj C t1 none .none) (by simp)).1
end
end MX
end

section
set_option maxRecDepth 100000
set_option maxHeartbeats 2000000
namespace MX
open PySem PySem.Spec PyProof.Rows
section
open PySem.W
variable {prog : Program} {w : World} {A : Around} {K : Frag} {C fI : Addr}
/-- the body of such an __init__ -/
def supBody (self : Str) (fvs : List (Str × Str)) : List Stmt → Bool
  | .Expr (.Call (.Attribute (.Call (.Name sn _) [] [] _) mn p2) [.Constant (.str _) _ _] [] p4) _ :: ss => decide (sn = ("super" : Str)) && (decide (mn = ("__init__" : Str)) && ((p2.endLine == p4.line) && fldStmts self fvs ss))
  | _ => false
theorem supBody_of {self : Str} {fvs : List (Str × Str)} {body : List Stmt} (h : supBody self fvs body = true) : ∃ p0 p1 p2 p3 p4 p5 j msg ss, body = .Expr (supCall p0 p1 p2 p3 p4 j msg) p5 :: ss ∧ (p2.endLine == p4.line) = true ∧ fldStmts self fvs ss = true := by
  unfold supBody at h
  split at h
  · simp only [Bool.and_eq_true, decide_eq_true_eq] at h
    obtain ⟨rfl, rfl, h3, h4⟩ := h
    exact ⟨_, _, _, _, _, _, _, _, _, rfl, h3, h4⟩
  · cases h
theorem rev_lookup {ps : List Str} {us : List Value} (nd : ps.Nodup) (hl : us.length = ps.length) {i : Nat} {x : Str} {u : Value} (h1 : ps[i]? = some x) (h2 : us[i]? = some u) : (ps.zip us).reverse.lookup x = some u := by
  have key : ∀ (l : List (Str × Value)), (l.map (·.1)).Nodup → (x, u) ∈ l → l.lookup x = some u := fun l => by
    induction l with
    | nil => exact fun _ h => by cases h
    | cons a r ih =>
      obtain ⟨y, v⟩ := a
      intro nd h
      rw [List.lookup_cons]
      rcases List.mem_cons.mp h with e | e
      · cases e
        rw [beq_self_eq_true]
      · have ne : x ≠ y := fun z => (List.nodup_cons.mp nd).1 (List.mem_map.mpr ⟨(x, u), e, z⟩)
        rw [beq_eq_false_iff_ne.mpr ne]
        exact ih (List.nodup_cons.mp nd).2 e
  refine key _ ?_ ?_
  · rw [List.map_reverse, List.map_fst_zip (Nat.le_of_eq hl.symm)]
    exact List.pairwise_reverse.mpr (List.Pairwise.imp (fun h => Ne.symm h) nd)
  · rw [List.mem_reverse]
    refine List.mem_iff_getElem?.mpr ⟨i, ?_⟩
    rw [List.getElem?_zip_eq_some]
    exact ⟨h1, h2⟩
/-- the __init__'s form: Booleans of its text -/
def initB (fvs : List (Str × Str)) (self : Str) (params : Arguments) (body : List Stmt) (scope : Scope) : Bool :=
  plainPs params && (decide (namesPs params = self :: fvs.map (·.2)) && (decide (namesPs params).Nodup && (supBody self fvs body && ((scope.names.all fun y => !decide (y.2 = .cell)) && (!scope.isCoroutine && (!scope.isGenerator && (decide (scope.kind = .function) &&
    ((namesPs params).all (fun x => decide (scope.names.lookup x = some .local) && okName x) && (decide (scope.names.lookup ("super" : Str) = some .globalImplicit) && (decide (scope.names.lookup ("__class__" : Str) = some .free) && decide (fvs.length ≤ 900)))))))))))
theorem bind_plainX {x qual : Str} {params : Arguments} {body : List Stmt} {scope : Scope} {kV doc pm cdv ct : Value} {an : Option Addr} {cl : List (Str × Addr)} {us : List Value} (hp : plainPs params = true) (nd : (namesPs params).Nodup) (hl : us.length = (namesPs params).length) :
    bindArgs (fnX x qual params body scope cl .none kV doc pm an cdv ct) ⟨us, []⟩ = pure ((namesPs params).zip us) := by
  have z := bind_plain (x := x) (qual := qual) (params := params) (body := body) (scope := scope) (kV := kV) (doc := doc) (pm := pm) (cdv := cdv) (ct := ct) (an := an) (us := us) hp nd hl
  exact z
theorem init_code {hp : Heap} {a t0 : Addr} {mg : Str → Option Value} {fvs : List (Str × Str)} {self name qual : Str} {params : Arguments} {body : List Stmt} {scope : Scope} {us : List Value} {R : Result → Shared → Prop} {s : Shared}
    (ib : initB fvs self params body scope = true) (ik : IniK prog K C fI name qual params body scope) (rk : RecK K C) (kin : K.In hp) (md : ModH mg hp) (hsup : mg "super" = none) (htop : (prog.main.scope.names.lookup ("super" : Str)).isSome = false)
    (hno : ∀ p ∈ fvs, findIn K (.ref C) p.1 = some none) (hroom : A.depth < recursionLimit) (keep : ∀ b o, hp.get? b = some o → s.heap.get? b = some o) (ha : s.heap.get? a = some (excObj C t0 none .none)) (na : hp.get? a = none) (sz : hp.objs.size ≤ s.heap.objs.size) (hl : us.length = fvs.length)
    (h : ∀ L m h' tk', hp.objs.size ≤ L → RecS hp L m a C (putAll fvs us []) h' → R (.ok (.ret .none)) { s with heap := h', toks := tk' }) :
    codeAny (model prog w) A (.call (.ref fI) ⟨.ref a :: us, []⟩) R s := by
  obtain ⟨cc, cda, doc, pm, an, ct, kV, oc, od, osl, lk, hcd, hcode, hcell⟩ := ik.fn
  unfold initB at ib
  simp only [Bool.and_eq_true, decide_eq_true_eq, Bool.not_eq_true', List.all_eq_true] at ib
  obtain ⟨b1, b2, b3, b4, b5, b6, b7, b8, b9, b10, b11, b12⟩ := ib
  obtain ⟨p0, p1, p2, p3, p4, p5, j, msg, ss, rfl, hline, hss⟩ := supBody_of b4
  have hlen : (Value.ref a :: us).length = (namesPs params).length := by rw [b2]; simp [hl]
  have KX : K.In s.heap := kin.keeps keep
  have lim : s.heap.NoLimit := md.lim.keeps keep
  have bnd := bind_plainX (x := name) (qual := qual) (body := .Expr (supCall p0 p1 p2 p3 p4 j msg) p5 :: ss) (scope := scope) (kV := kV) (doc := doc) (pm := pm) (an := an) (cdv := .ref cda) (ct := ct) (cl := [("__class__", cc)]) b1 b3 hlen
  have selfIn : self ∈ namesPs params := by rw [b2]; exact List.mem_cons_self
  refine ks_codeAny_call_defAt (fd := ksFn name qual params (.Expr (supCall p0 p1 p2 p3 p4 j msg) p5 :: ss) scope .none kV doc pm an (.ref cda) ct cc) (body := .Expr (supCall p0 p1 p2 p3 p4 j msg) p5 :: ss) (binds := (namesPs params).zip (.ref a :: us))
    hroom (KX _ _ lk) rfl lim (codeRec_of KX hcd) rfl (.of_eq bnd) (fun x hx => by have := b5 x hx; simpa using this) (fun x hx => (b9 x.1 (List.of_mem_zip hx).1).1) (fun h1 hns hk1 => ?_) b6 b7 b8
  have laL : a ≠ s.heap.objs.size := Nat.ne_of_lt (Heap.lt_size ha)
  have F0 : Fr hp s.heap.objs.size h1 (fun x => ((namesPs params).zip (.ref a :: us)).reverse.lookup x) := ⟨hns, fun b o e => hk1 b o (keep b o e), sz⟩
  have N0 : News hp s.heap.objs.size h1 [(a, excObj C t0 none .none)] := fun p hp => by
    rw [List.mem_singleton] at hp
    subst hp
    exact ⟨hk1 _ _ ha, laL, na⟩
  have hvs : ((namesPs params).zip (.ref a :: us)).reverse.lookup self = some (.ref a) := rev_lookup b3 hlen (i := 0) (by rw [b2]; rfl) rfl
  have hhead : ∃ ar, (params.posonlyargs ++ params.args).head? = some ar ∧ ar.arg = self := by
    obtain ⟨po, as, va, ko, kd, ka, ds⟩ := params
    cases po with
    | cons _ _ => cases b1
    | nil =>
      cases as with
      | nil => cases b2
      | cons ar r =>
        have z : ar.arg :: r.map (·.arg) = self :: fvs.map (·.2) := b2
        exact ⟨ar, rfl, (List.cons.inj z).1⟩
  obtain ⟨ar, har1, har2⟩ := hhead
  refine ks_wpAt_execs_cons ?_
  refine sup_stmt (env := callEnv (ksFn name qual params (.Expr (supCall p0 p1 p2 p3 p4 j msg) p5 :: ss) scope .none kV doc pm an (.ref cda) ct cc) s.heap.objs.size fI) rfl ik lk hcode hcell kin md hsup F0 N0 har1 har2 hvs b10 b11 (b9 self selfIn).1 b8 htop hline ?_
  intro h2 tk2 t1 F2 ha2
  have S2 : RecS hp s.heap.objs.size (fun x => ((namesPs params).zip (.ref a :: us)).reverse.lookup x) a C [] h2 := ⟨F2.keep, F2.ns, ⟨t1, .inl ⟨rfl, ha2⟩⟩, fun dx t3 e => by rw [ha2] at e; cases e⟩
  refine wpAt_of_wpAny ?_
  refine wpAny_mono (rec_stores (env := callEnv (ksFn name qual params (.Expr (supCall p0 p1 p2 p3 p4 j msg) p5 :: ss) scope .none kV doc pm an (.ref cda) ct cc) s.heap.objs.size fI) (Q := fun fs s' => fs = putAll fvs us [] → ∀ z, z = Value.none → R (.ok (.ret z)) s') kin rk na laL.symm sz b8 rfl (b9 self selfIn).1 hvs (okName_of (b9 self selfIn).2).1 fvs ss us [] _ hss hl.symm (by simpa using b12) (fun p hp => ?_) (fun i p u e1 e2 => ?_) S2 fun h' tk' S' _ z ez => by subst ez; exact h _ _ h' tk' sz S') (fun f s' hf => ?_) fun e s' he => he
  · have m : p.2 ∈ namesPs params := by rw [b2]; exact List.mem_cons_of_mem _ (List.mem_map_of_mem hp)
    exact ⟨hno p hp, (b9 _ m).1, (okName_of (b9 _ m).2).1⟩
  · refine rev_lookup b3 hlen (i := i + 1) ?_ (by simpa using e2)
    rw [b2, List.getElem?_cons_succ, List.getElem?_map, e1]
    rfl
  · obtain ⟨rfl, hq⟩ := hf
    exact hq rfl _ rfl
end
end MX
end

section
set_option maxRecDepth 100000
set_option maxHeartbeats 2000000
namespace MX
open PySem PySem.Spec PyProof.Rows L2
/-- an exception class with such an __init__, as a place sees it -/
structure ExIni (X : Cx) (C : Addr) (fs : List String) : Prop where
  ex : ∃ (fI : Addr) (name qual : Str) (params : Arguments) (body : List Stmt) (scope : Scope) (self : Str) (fvs : List (Str × Str)), initB fvs self params body scope = true ∧ IniK X.prog X.K C fI name qual params body scope ∧
    fvs.map (·.1) = fs.map Str.ofString ∧ PySem.W.findIn X.K (.ref C) "__init__" = some (some (.ref fI)) ∧ PySem.W.typeIn X.K (.ref fI) = some (.type "function") ∧ fvs ≠ []
  oex : OexC X.K C
  no : ∀ f ∈ fs, PySem.W.findIn X.K (.ref C) (Str.ofString f) = some none
  few : fs.length ≤ 1000
  sup : X.mg "super" = none
  top : (X.prog.main.scope.names.lookup ("super" : Str)).isSome = false
theorem zip_lookup_rel : ∀ {fs : List Str} {vs : List V} {us : List Value}, Vals vs us → ∀ f, RelO ((fs.zip vs).lookup f) ((fs.zip us).lookup f)
  | [], _, _, _, f => trivial
  | x :: r, [], _, .nil, f => trivial
  | x :: r, v :: vs, u :: us, .cons a b, f => by
    show RelO (((x, v) :: r.zip vs).lookup f) (((x, u) :: r.zip us).lookup f)
    rw [List.lookup_cons, List.lookup_cons]
    by_cases e : f = x
    · rw [beq_iff_eq.mpr e]
      exact a
    · rw [beq_eq_false_iff_ne.mpr e]
      exact zip_lookup_rel b f
theorem vals_rev : ∀ {vs : List V} {us : List Value}, Vals vs us → Vals vs.reverse us.reverse
  | [], [], .nil => .nil
  | v :: vs, u :: us, .cons a b => by
    rw [List.reverse_cons, List.reverse_cons]
    exact (vals_rev b).append (.cons a .nil)
theorem zip_rev {α β : Type} : ∀ {xs : List α} {ys : List β}, xs.length = ys.length → (xs.zip ys).reverse = xs.reverse.zip ys.reverse
  | [], [], _ => rfl
  | x :: xs, y :: ys, h => by
    have h : xs.length = ys.length := by simpa using h
    rw [List.zip_cons_cons, List.reverse_cons, List.reverse_cons, List.reverse_cons, zip_rev h, List.zip_append (by simp [h])]
    rfl
section
variable {X : Cx} {C : Addr} {fs : List String} {x : Str} {e : Expr} {es : List Expr} {p pos : Pos} {t : TA}
theorem pmk_init (E : ExIni X C fs) (hr : Room 1 X.A) (hg : Gl X x) (hm : X.mg x = some (.ref C)) (ha : PA X (e :: es) t) (hdb : (x == ("__debug__" : Str)) = false)
    (he : starEach (e :: es) X.env = (false, eval e X.env) :: starEach es X.env) (hpl : (backTo pos (starEach es X.env)).any (·.1) = false) :
    PMk X (.Call (.Name x p) (e :: es) [] pos) (fun σ H Q => t σ H fun vs H1 => vs.length = fs.length ∧ vs.length ≤ 1000 ∧ ∀ d, H1 d = none → Q (.ref C) (some d) (upd H1 d (.xd ((fs.map Str.ofString).zip vs).reverse))) := by
  intro pins s σ H Q I h
  have T := E.oex
  obtain ⟨fI, name, qual, params, body, scope, self, fvs, hib, ik, hfv, iC, tI, fne⟩ := E.ex
  obtain ⟨nm, q, N, bs, bm, sn, sub, ab, col, dd, k0, k1, k2, k3, k5, hC, hbm⟩ := T.cls
  refine wpAny_Call_Name_kw (ld_glob I hg hm ?_ hdb)
  refine PySem.W.callWith_K (h₀ := X.base) I.ok.mod.kin T.kC (thn (ha.run pos pins s σ H _ I h) fun us s1 ⟨vs, H1, I1, r1, hl1, hz, q1⟩ => ⟨I1.kIn, ?_⟩) he hpl
  show wpAny _ _ (call (.ref C) us) _ _ _
  have mdl : ModH X.mg s1.heap := by
    have z := I1.mod
    exact ModH.keeps ⟨z.glob, z.blt, z.nolimit⟩ I1.bk
  have kin1 := I1.kIn
  obtain ⟨hp, g, dr, tk, os⟩ := s1
  have hcl : PySem.W.clsIn X.K C = some { name := nm, bases := bs, mro := .ref C :: bm, ns := N, qualname := q, hasDict := true, slotNames := sn, subclasses := sub, abstract := ab, collection := col, hasDel := false } := by unfold PySem.W.clsIn; rw [hC] <;> rfl
  have rk : RecK X.K C := ⟨⟨_, hcl, hbm, rfl⟩, T.sa⟩
  have hus : us.length ≤ sizeLine := by
    rw [← Paired.length r1, sizeLine_eq]
    omega
  have hlu : us.length = fvs.length := by
    have z := congrArg List.length hfv
    rw [List.length_map, List.length_map] at z
    rw [← Paired.length r1, hl1, z]
  have keep : ∀ b o, hp.get? b = some o → ((hp.push (PySem.W.kdv_tup us)).push (PySem.HandSPX.excO C hp.objs.size)).get? b = some o := fun b o e => Heap.get?_push_of_some _ (Heap.get?_push_of_some _ e)
  have hget : ((hp.push (PySem.W.kdv_tup us)).push (PySem.HandSPX.excO C hp.objs.size)).get? (hp.objs.size + 1) = some (PySem.HandSPX.excO C hp.objs.size) := by heap_get
  have na : hp.get? (hp.objs.size + 1) = none := by
    cases z : hp.get? (hp.objs.size + 1) with
    | none => rfl
    | some o => exact absurd (Heap.lt_size z) (Nat.not_lt.mpr (Nat.le_succ _))
  refine wpAny_call (PySem.HandSPX.call_own PySem.F.excBase_ValueError (fun Y => PySem.HandSPX.refsVE_contains Y bm hbm) (kin1 _ _ hC) (PySem.W.looks_findIn kin1 iC) (fun self => PySem.W.bind_fn kin1 self tI) hus ?_)
  refine init_code hib ik rk kin1 mdl E.sup E.top (fun p hp => ?_) (hr.make C us []).depth keep hget na (by show hp.objs.size ≤ _; rw [Heap.size_push, Heap.size_push]; exact Nat.le_succ_of_le (Nat.le_succ _)) hlu fun L m h' tk' hL S => ⟨rfl, ?_⟩
  · have z : p.1 ∈ fs.map Str.ofString := by rw [← hfv]; exact List.mem_map_of_mem hp
    obtain ⟨f, hf, ef⟩ := List.mem_map.mp z
    rw [← ef]
    exact E.no f hf
  · have une : putAll fvs us [] ≠ [] := fun z => by
      unfold putAll at z
      rw [List.append_nil, List.reverse_eq_nil_iff] at z
      cases fvs with
      | nil => exact fne rfl
      | cons a r =>
        cases us with
        | nil => cases hlu
        | cons u us => cases z
    obtain ⟨t1, ⟨ze, _⟩ | ⟨_, dx, dne, ho, hns⟩⟩ := S.rec_
    · exact absurd ze une
    obtain ⟨n1, n2⟩ := S.new dx t1 ho
    obtain ⟨G, g1, g2⟩ := restrict h' fun b => decide (b ≠ hp.objs.size + 1)
    have gk : ∀ b, b ≠ hp.objs.size + 1 → G.get? b = h'.get? b := fun b hb => g1 b (decide_eq_true hb)
    have ge : G.get? (hp.objs.size + 1) = none := g2 _ (by simp)
    have kG : ∀ b o, hp.get? b = some o → G.get? b = some o := fun b o e => by
      rw [gk b (fun z => by rw [z, na] at e; cases e)]
      exact S.keep b o e
    have nG : G.Ns1 dx (fun y => (putAll fvs us []).lookup y) := by
      obtain ⟨o, es, ep, e1, r⟩ := hns
      exact ⟨o, es, ep, by rw [gk dx dne]; exact e1, r⟩
    have eqv : (fun y => (putAll fvs us []).lookup y) = fun y => (((fs.map Str.ofString).zip us).reverse).lookup y := by
      unfold putAll
      rw [hfv, List.append_nil]
    have lfs : (fs.map Str.ofString).length = us.length := by rw [List.length_map, ← Paired.length r1, hl1]
    have rel : ∀ f, RelO ((((fs.map Str.ofString).zip vs).reverse).lookup f) ((fun y => (putAll fvs us []).lookup y) f) := fun f => by
      rw [eqv]
      show RelO _ ((((fs.map Str.ofString).zip us).reverse).lookup f)
      rw [zip_rev (by rw [List.length_map, hl1]), zip_rev lfs]
      exact zip_lookup_rel (vals_rev r1) f
    have hnd : H1 dx = none := I1.hok.fresh n1
    have J := I1.laid (h' := G) (t' := tk') (a := dx) (o := .xd ((fs.map Str.ofString).zip vs).reverse) kG n1 ⟨_, nG, rel⟩
    refine ⟨hp.objs.size + 1, _, _, ⟨G, g, dr, tk', os⟩, _, .ref C, some dx, rfl, J, fun b o e => ?_, ge, ho, ⟨rfl, rfl⟩, rfl, rfl, ?_, rfl, I1.bare, raises_own T.exC T.tyC, q1 dx hnd⟩
    · have e : G.get? b = some o := e
      by_cases hb : b = hp.objs.size + 1
      · rw [hb, ge] at e
        cases e
      · rw [gk b hb] at e
        exact e
    · rw [upd_ne (Ne.symm dne)]
      exact I1.hok.fresh (Nat.le_succ _)
end
end MX
end

section
set_option maxRecDepth 100000
set_option maxHeartbeats 2000000
namespace MX
open PySem PySem.Spec PyProof.Rows L2
/-! ### try with several clauses, each with a name or without -/
abbrev SuiteT := Addr → Value → Option Addr → TS
/-- the ends of a suite whose name goes behind it -/
def goneE (o : Option Nat) (D : Ends) : Ends := match o with
  | none => D
  | some i => { nx := fun σ H => D.nx (σ.set i none) H, rt := D.rt, bk := fun σ H => D.bk (σ.set i none) H, ct := fun σ H => D.ct (σ.set i none) H }
def heldS (o : Option Nat) (a : Addr) (σ : L2.St) : L2.St := match o with
  | none => σ
  | some i => σ.set i (some (.ref a))
/-- what the clauses wish of an exception -/
def wHs (K : PySem.W.Frag) (Wout : WX) (D : Ends) : List (Value × Option Nat × SuiteT) → WX
  | [] => Wout
  | (c, o, ts) :: r => fun cls d σ H => ∃ b, PySem.W.exmOne K cls c = some b ∧ (b = true → ∀ a, H a = none → ts a cls d (goneE o D) (heldS o a σ) H) ∧ (b = false → wHs K Wout D r cls d σ H)
/-- a clause's name -/
def NmH (X : Cx) (o : Option Nat) (n : Option Str) : Prop := match o, n with
  | none, none => True
  | some i, some x => X.N[i]? = some x ∧ X.env.kindOf x = some .local
  | _, _ => False
inductive HdsN (X : Cx) : List ExceptHandler → List (Value × Option Nat × SuiteT) → Prop
  | nil : HdsN X [] []
  | cons {x : Str} {c : Value} {o : Option Nat} {n : Option Str} {ts : SuiteT} {b₀ : Stmt} {suite : List Stmt} {np pos' : Pos} {hds : List ExceptHandler} {l : List (Value × Option Nat × SuiteT)} (hc : Names X x c) (hn : NmH X o n)
      (hsu : ∀ (a : Addr) (oe : Obj) (cls : Value) (d : Option Addr) (pn : List (Addr × Obj)), Zc cls d oe → (∃ vs, oe.data = .fields vs) → PSs (X.suite a ((a, oe) :: pn)) (b₀ :: suite) (ts a cls d)) (r : HdsN X hds l) :
      HdsN X (.ExceptHandler (some (.Name x np)) n (b₀ :: suite) pos' :: hds) ((c, o, ts) :: l)
section
variable {X : Cx} {body : List Stmt} {h₀ : ExceptHandler} {hds : List ExceptHandler} {l : List (Value × Option Nat × SuiteT)} {pos : Pos} {tb : WX → TS} {Wout : WX}
theorem ps_try_h (hs : X.stack = X.env :: X.outer) (hf : X.env.frame = some X.env.locals) (hN : X.N.Nodup) (tk : Takes X Wout)
    (hb : ∀ (W : WX) (pn : List (Addr × Obj)) (xe : Value → Shared → Prop), Takes (X.tr pn xe) W → PassesOwn (model X.prog X.w) X.A X.env xe → PSs (X.tr pn xe) body (tb W))
    (hh : HdsN X (h₀ :: hds) l) : PS X (.Try body (h₀ :: hds) [] [] pos) (fun D σ H => tb (wHs X.K Wout D l) D σ H) := by
  refine ⟨fun pins s σ H D I h => ?_⟩
  have ok := I.ok
  have frames : X.A.frames = some (X.env :: X.outer) := by rw [ok.frames, hs]
  refine wpAny_Try_except ?_
  let catch_ : Value → Shared → Prop := fun e s1 => wpAny (model X.prog X.w) X.A (noteFrame e X.env) (fun _ s2 => wpAny (model X.prog X.w) X.A (setFlight e none) (fun _ s3 =>
    wpAny (model X.prog X.w) X.A (handleBy e X.env (h₀ :: hds)) (SP X pins D) X.xe s3) X.xe s2) X.xe s1
  have run := (hb (wHs X.K Wout D l) (X.pn ++ pins) catch_ (fun u s' xx => ?c) PassesOwn.looking).run [] s σ H D (I.toTry _) h
  · refine wpAny_mono run (fun f s1 hsp => ?_) fun e s1 he => he
    cases f with
    | next =>
      obtain ⟨σ', H', J', q⟩ := hsp
      exact wpAny_execs_nil ⟨σ', H', J'.ofTry ok, q⟩
    | brk =>
      obtain ⟨σ', H', J', q⟩ := hsp
      exact ⟨σ', H', J'.ofTry ok, q⟩
    | cont =>
      obtain ⟨σ', H', J', q⟩ := hsp
      exact ⟨σ', H', J'.ofTry ok, q⟩
    | ret u =>
      obtain ⟨v, σ', H', J', r, q⟩ := hsp
      exact ⟨v, σ', H', J'.ofTry ok, r, q⟩
  case c =>
    obtain ⟨a, B, sI, pins', σ', H', cls, d, rfl, J', nb, up, sky, na, os, ag, wish⟩ := xx
    have J : Inv X pins σ' H' sI := J'.ofTry ok
    have sky2 : Sky B (X.env :: X.outer) a (Zc cls d) X.env.locals s'.heap := by rw [← hs]; exact sky
    show wpAny (model X.prog X.w) X.A (noteFrame (.ref a) X.env) _ _ _
    refine Sky.land Zc.steady frames hf sky2 fun h3 fl3 up3 => ?_
    have J3 : Inv X pins σ' H' { s' with heap := h3 } := J.landed nb fl3.1 (up.trans up3) os ag
    obtain ⟨oe3, vs3, he3, hz3, hd3⟩ := fl3.there
    have nfr : a ∉ frs (X.env :: X.outer) := fun hm => by
      obtain ⟨_, o', e', hnf⟩ := fl3.2.2.1.mem hm
      rw [he3] at e'
      cases e'
      exact hnf _ hd3
    have nL : a ≠ X.env.locals := fun z => nfr (List.mem_filterMap.mpr ⟨X.env, List.mem_cons_self, by rw [hf, z]⟩)
    have nF : a ∉ X.fs := fun hm => by
      obtain ⟨e, he, q⟩ := List.mem_filterMap.mp hm
      exact nfr (List.mem_filterMap.mpr ⟨e, List.mem_cons_of_mem _ he, q⟩)
    have S3 := J3.suite he3 hd3 na nL nF
    have go : ∀ {hds' : List ExceptHandler} {l' : List (Value × Option Nat × SuiteT)}, HdsN X hds' l' → wHs X.K Wout D l' cls d σ' H' →
        wpAny (model X.prog X.w) X.A (handleBy (.ref a) X.env hds') (SP X pins D) X.xe { s' with heap := h3 } := by
      intro hds' l' hk
      induction hk with
      | nil =>
        intro w
        refine wpAny_handleBy_nil ?_
        obtain ⟨k1, k2, k3, oe, vs, T, oT, ts', he, hz, hd, h1, hr⟩ := id fl3
        unfold PySem.passOn
        refine wpAny_bind (wpAny_field he hd h1 ?_)
        rw [if_neg (show ¬ ((Value.ref T == Value.none) = true) from by simp)]
        have fin : wpAny (model X.prog X.w) X.A (setFlight (.ref a) X.env.frame) (fun _ s4 => wpAny (model X.prog X.w) X.A (throw (.ref a) : Sem Flow) (SP X pins D) X.xe s4) X.xe { s' with heap := h3 } := by
          rw [hf]
          refine HandSPX.setFlight_upZ fl3 fun h4 hh4 up4 => wpAny_throw (tk _ _ ?_)
          exact ⟨a, B, sI, pins, σ', H', cls, d, rfl, J, nb, (up.trans up3).trans up4, .inr (.inr (by rw [hs]; exact hh4)), na, os, ag, w⟩
        first
          | exact wpAny_bind (wpAny_pure (wpAny_bind fin))
          | exact wpAny_bind fin
      | @cons x c o n ts b₀ suite np pos' hds2 l2 hc hn hsu r ih =>
        intro w
        obtain ⟨b, hb1, hyes, hno⟩ := w
        refine wpAny_handleBy_cons (codeAny_handlers_test ?_) (by intro q; cases q)
        have LT : PySem.W.Looks (model X.prog X.w) h3 (typeOf (.ref a)) cls := fun A Q E s k q => wpAny_typeOf_ref (k _ _ he3) (by rw [hz3.1]; exact q)
        have LM := PySem.W.exm_one (M := model X.prog X.w) (J3.kIn) LT hb1
        have test : ∀ {Q : Value → Shared → Prop} {E : Value → Shared → Prop}, Q c { s' with heap := h3 } → wpAny (model X.prog X.w) (X.A.mark (some (.ref a))) (eval (.Name x np) X.env) Q E { s' with heap := h3 } := fun {Q E} q => by
          obtain ⟨hg, hdbg, hm | ⟨hm, hv, hnn⟩⟩ := hc
          · exact ld_glob (X := X.suite a ((a, oe3) :: (X.pn ++ pins))) S3 hg hm q hdbg
          · exact ld_blt (X := X.suite a ((a, oe3) :: (X.pn ++ pins))) S3 hg hm hv q hnn hdbg
        refine test (LM.here ?_)
        cases b with
        | false =>
          show wpAny _ X.A (handleBy (.ref a) X.env hds2) _ _ _
          exact ih (hno rfl)
        | true =>
          have hy := hyes rfl a na
          cases o with
          | none =>
            cases n with
            | some x => exact hn.elim
            | none =>
              refine codeAny_handlers_suite ?_
              refine HandSPX.lands_againZ fl3 fun h4 fl4 up4 => ?_
              have J4 : Inv X pins σ' H' { s' with heap := h4 } := J.landed nb fl4.1 ((up.trans up3).trans up4) os ag
              obtain ⟨oe4, vs4, he4, hz4, hd4⟩ := fl4.there
              have S4 := J4.suite he4 hd4 na nL nF
              refine wpAny_mono ((hsu a oe4 cls d (X.pn ++ pins) hz4 ⟨_, hd4⟩).run [] _ _ H' _ S4 hy) (fun f s6 hsp => ?_) (fun _ _ z => False.elim z)
              cases f with
              | ret u =>
                obtain ⟨v6, σ6, H6, S6, r6, q6⟩ := hsp
                exact ⟨_, _, _, S6.unsuite ok, r6, q6⟩
              | _ =>
                obtain ⟨σ6, H6, S6, q6⟩ := hsp
                exact ⟨_, _, S6.unsuite ok, q6⟩
          | some i =>
            cases n with
            | none => exact hn.elim
            | some y =>
              obtain ⟨hi, hln⟩ := hn
              refine codeAny_handlers_suite_as ?_
              refine HandSPX.lands_againZ fl3 fun h4 fl4 up4 => ?_
              have J4 : Inv X pins σ' H' { s' with heap := h4 } := J.landed nb fl4.1 ((up.trans up3).trans up4) os ag
              obtain ⟨oe4, vs4, he4, hz4, hd4⟩ := fl4.there
              have S4 := J4.suite he4 hd4 na nL nF
              refine store_ok (X := X.suite a ((a, oe4) :: (X.pn ++ pins))) (v := .ref a) S4 hN hi (.inl hln) rfl (fun s5 S5 => ?_) (.inr hln)
              refine wpAny_mono ((hsu a oe4 cls d (X.pn ++ pins) hz4 ⟨_, hd4⟩).run [] s5 _ H' _ S5 hy) (fun f s6 hsp => ?_) (fun _ _ z => False.elim z)
              have end_ : ∀ {σ6 : L2.St} {H6 : Hp} {Q : Shared → Prop}, Inv (X.suite a ((a, oe4) :: (X.pn ++ pins))) [] σ6 H6 s6 → (∀ s7, Inv X pins (σ6.set i none) H6 s7 → Q s7) →
                  wpAny (model X.prog X.w) X.A (do bindName X.env y .none; unbindBehindTheSuite X.env y pos') (fun _ s7 => Q s7) X.xe s6 := fun {σ6 H6 Q} S6 hq => gone_ok (S6.unsuite ok) hN hi hln hq
              cases f with
              | ret u =>
                obtain ⟨v6, σ6, H6, S6, r6, q6⟩ := hsp
                exact end_ S6 fun s7 J7 => ⟨_, _, _, J7, r6, q6⟩
              | _ =>
                obtain ⟨σ6, H6, S6, q6⟩ := hsp
                exact end_ S6 fun s7 J7 => ⟨_, _, J7, q6⟩
    exact go hh wish
end
end MX
end

section
set_option maxRecDepth 100000
set_option maxHeartbeats 2000000
namespace MX
open PySem PySem.Spec PyProof.Rows
/-! ### isinstance of a caught exception, its dict there or not -/
section
open PySem.W PySem.Calls
variable {prog : Program} {w : World} {A : Around} {E : Value → Shared → Prop} {s : Shared} {K : Frag} {x D : Addr} {ox : Obj} {od : Option Obj}
theorem findObj_dataD {C : Addr} {name : Str} {a g : Value} (hc : (clsIn K C).isSome = true) (ha : findIn K (.ref C) name = some (some a)) (hg : specialIn K a "__get__" = some (some g)) (ht : takesIn K a = some true) : findObj K C od name = some (.bind g a) := by
  obtain ⟨cd, hc⟩ := Option.isSome_iff_exists.mp hc
  unfold findObj
  rw [hc, Option.bind_some, ha, Option.bind_some]
  simp [hg, ht]
theorem exc_class {Q : Option Value → Shared → Prop} (C : L2.ExcC K D) (X : K.In s.heap) (I : InstAt s.heap x ox D od) (h : Q (some (.ref D)) { s with toks := s.toks + 1 }) : wpAny (model prog w) A (getAttr? (.ref x) "__class__") Q E s := by
  have hf : findObj K D od "__class__" = some (.bind (.builtin "getset_descriptor.__get__") (.builtin "object.__class__")) := findObj_dataD (by obtain ⟨cd, hc, _⟩ := any_some C.hd; rw [hc]; rfl) C.ha C.hn C.ht
  obtain ⟨hp, g, d, t, os⟩ := s
  have k0 := I.type (M := model prog w)
  have k1 := looks_findIn (M := model prog w) X C.hg
  have k2 := looks_findIn (M := model prog w) X C.hk
  have k3 := looks_find (M := model prog w) X I hf
  have sub : Looks (model prog w) hp (isInstance (.ref x) (.type "BaseException")) true := k0.andThen (looks_subIn X C.hs)
  have n0 : (false && onTheHeap (Value.builtin "BaseException.__getattribute__")) = false := rfl
  have n2 : (Value.builtin "BaseException.__getattribute__" == Value.builtin "object.__getattribute__") = false := by decide +kernel
  have n1 : (onTheHeap (Value.ref D) && Value.builtin "BaseException.__getattribute__" == Value.builtin "object.__getattribute__") = false := by rw [n2]; rfl
  unfold getAttr? getAttrBy? getAttrBy
  refine wpAny_bind (wpAny_mkText (wpAny_bind (wpAny_attempt (wpAny_holding (wpAny_bind (k0.at (wpAny_bind (k1.at ?_))))))))
  show wpAny _ _ (if (onTheHeap (Value.ref D) && Value.builtin "BaseException.__getattribute__" == Value.builtin "object.__getattribute__") = true then _ else _) _ _ _
  rw [n1, if_neg Bool.false_ne_true]
  unfold getAttrByItsOwn hookBefore
  refine wpAny_bind ?_
  rw [if_pos (show onTheHeap (Value.ref D) = true from rfl)]
  refine k2.at ?_
  refine wpAny_bind (wpAny_attempt (wpAny_holding ?_))
  unfold callGetattribute
  rw [n0, if_neg Bool.false_ne_true]
  unfold boundAndCalled
  rw [PySem.F.excAttr_ValueError.ga.bind (.ref x)]
  refine wpAny_bind (wpAny_pure ?_)
  show wpAny _ _ (call (.builtin "BaseException.__getattribute__") [.ref x, .str "__class__" t]) _ _ _
  refine wpAny_call (codeAny_call_builtin PySem.F.excAttr_ValueError.ga.plain PySem.F.entry_bexc_ga ?_)
  refine @check_slot (model prog w) _ _ ⟨hp, g, d, t + 1, os⟩ "BaseException.__getattribute__" "BaseException" "__getattribute__" (.ref x) [.str "__class__" t] [] _ (by decide +kernel) (by decide +kernel) sub (PySem.F.args_bexc_ga (.ref x) (.str "__class__" t)) ?_
  unfold Builtin.«object.__getattribute__»
  refine wpAny_bind (wpAny_of_eq (a := ((Value.ref x : Value), [Value.str "__class__" t])) (by first | rfl | (simp only [slotArgs]; rfl)) ?_)
  refine wpAny_bind (wpAny_pure (wpAny_bind (k0.at (wpAny_bind (k3.at ?_)))))
  show wpAny _ _ (holding [Value.builtin "object.__class__"] (call (.builtin "getset_descriptor.__get__") [.builtin "object.__class__", .ref x, .ref D]) >>= ret) _ _ _
  refine wpAny_bind (wpAny_holding (wpAny_call (class_get (s := ⟨hp, g, d, t + 1, os⟩) (ox := ox) (od := od) X I C.hm ?_)))
  refine wpAny_pure ?_
  show wpAny _ _ (handedOut (.ref D)) _ _ _
  rw [handedOut_of (v := .ref D) rfl]
  first
    | exact wpAny_pure (wpAny_pure h)
    | exact wpAny_pure h
    | exact wpAny_pure (wpAny_bind (wpAny_pure (wpAny_pure h)))
theorem exc_kit (C : L2.ExcC K D) : KitX K (.ref x) (.ref D) (fun h => InstAt h x ox D od) where
  ty := fun _ _ _ I => I.type
  it := fun _ _ X _ => by
    obtain ⟨cdD, hcD, _⟩ := any_some C.hd
    unfold clsIn at hcD
    split at hcD
    · rename_i c' d' cd' sl' ho
      intro A' Q' E' s' k q
      unfold isType loadHead
      exact wpAny_bind (wpAny_loadPart (k _ _ (X _ _ ho)) (wpAny_pure q))
    · cases hcD
  ne := fun h tp dd its n sl X htp => by
    obtain ⟨cdD, hcD, _⟩ := any_some C.hd
    refine Bool.eq_false_iff.mpr fun q => ?_
    have e : D = tp := Value.ref.inj (beq_iff_eq.mp q)
    subst e
    unfold clsIn at hcD
    split at hcD
    · rename_i c' d' cd' sl' ho
      have z := (X _ _ ho).symm.trans htp
      cases z
    · cases hcD
  ca := fun X I k => exc_class C X I k
end
end MX
end

section
set_option maxRecDepth 100000
set_option maxHeartbeats 2000000
namespace MX
open PySem PySem.Spec PyProof.Rows L2
abbrev veB : List Value := [.type "ValueError", .type "Exception", .type "BaseException", .type "object"]
/-- a place's facts of the own exception classes -/
structure ExF (P : Prog) (fx : Fix) (X : Cx) : Prop where
  ini : ∀ c k l, P.xt c = some k → k.ini = some l → ExIni X (fx.ca c) l
  own : ∀ c k, P.xt c = some k → k.ini = none → PySem.W.excIn X.K (fx.ca c) veB "ValueError.__new__" = true
  rai : ∀ c k, P.xt c = some k → PySem.W.subIn X.K (.ref (fx.ca c)) (.type "BaseException") = some true ∧ PySem.W.typeIn X.K (.ref (fx.ca c)) = some (.type "type") ∧ PySem.W.keepIn X.K (.ref (fx.ca c)) = true
  fld : ∀ c k, P.xt c = some k → XfC X.K (fx.ca c) ∧ ExcC X.K (fx.ca c)
  exm : ∀ c k e k2, P.xt c = some k → P.xt e = some k2 → PySem.W.exmOne X.K (.ref (fx.ca c)) (.ref (fx.ca e)) = some (k.ups.contains e)
  kit : ∀ c k e k2, P.xt c = some k → P.xt e = some k2 → PySem.W.kitOne X.K (.ref (fx.ca c)) (.ref (fx.ca e)) = some (k.ups.contains e)
  kiv : ∀ c k, P.xt c = some k → PySem.W.kitOne X.K (.ref (fx.ca c)) (.type "ValueError") = some (k.ups.contains "ValueError")
theorem RelX.mono {fx : Fix} {g g' : Gh} {cls : Value} {d : Option Addr} {x : Exn} (h : RelX fx g cls d x) (l : g.le g') : RelX fx g' cls d x := by
  obtain ⟨h1, h2⟩ := h
  refine ⟨h1, ?_⟩
  rcases h2 with h2 | ⟨dd, vs, e1, e2, e3⟩
  · exact .inl h2
  · exact .inr ⟨dd, vs, e1, l.F _ _ e2, e3.mono l⟩
/-- the state of an except suite -/
structure SuP (fx : Fix) (x : Exn) (o : Option Nat) (a : Addr) (cls : Value) (d : Option Addr) (g : Gh) (dσ : DSt) (S : Store) (σ : L2.St) (H : Hp) : Prop where
  r : R fx g S H
  sl : Sl fx g dσ σ
  rx : RelX fx g cls d x
  at_ : ∀ j, o = some j → ∀ z, σ[j]? = some z → z = some (.ref a)
theorem SuP.up {fx : Fix} {x : Exn} {o : Option Nat} {a : Addr} {cls : Value} {d : Option Addr} {g g' : Gh} {dσ : DSt} {S : Store} {σ : L2.St} {H H' : Hp} (s : SuP fx x o a cls d g dσ S σ H) (l : g.le g') (r : R fx g' S H') : SuP fx x o a cls d g' dσ S σ H' :=
  ⟨r, s.sl.mono l, s.rx.mono l, s.at_⟩
/-- the reading of a suite's expression -/
def tXe (P : Prog) (fx : Fix) (o : Option Nat) (a : Addr) (cls : Value) (d : Option Addr) (c : XE) : TE := fun σ H Q => ∃ x k g dσ S, P.xt x.cls = some k ∧ SuP fx x o a cls d g dσ S σ H ∧ ∃ dv, xeD P x dσ c = some dv ∧ ∀ g' H' v, g.le g' → R fx g' S H' → RelD fx.K fx.ca g' v dv → Q v H'
def tXa (P : Prog) (fx : Fix) (o : Option Nat) (a : Addr) (cls : Value) (d : Option Addr) (c : XE) : TA := fun σ H Q => ∃ x k g dσ S, P.xt x.cls = some k ∧ SuP fx x o a cls d g dσ S σ H ∧ ∃ ds, xeD P x dσ c = some (.tup ds) ∧ ∀ g' H' vs, g.le g' → R fx g' S H' → RelL fx.K fx.ca g' vs ds → Q vs H'
section
variable {P : Prog} {fx : Fix} {X : Cx} {o : Option Nat} {a : Addr} {cls : Value} {d : Option Addr} {oe : Obj} {pn : List (Addr × Obj)} {e : Expr} {es : List Expr} {c c1 c2 : XE} {pos : Pos}
theorem x_const {Y : Cx} {v : V} {dv : D} (p : PE Y e (tC v)) (hc : ∀ x σ, xeD P x σ c = some dv) (hr : ∀ g, RelD fx.K fx.ca g v dv) : PE Y e (tXe P fx o a cls d c) :=
  pe_imp p fun σ H Q ⟨x, k, g, dσ, S, _, s, dv', h1, h2⟩ => by
    rw [hc] at h1
    cases h1
    exact h2 g H v (Gh.le.refl g) s.r (hr g)
theorem x_var {Y : Cx} {i : Nat} (p : PE Y e (tVar i)) : PE Y e (tXe P fx o a cls d (.var i)) :=
  pe_imp p fun σ H Q ⟨x, k, g, dσ, S, _, s, dv, h1, h2⟩ => by
    have h1 : (match dσ[i]? with
      | some (some d) => some d
      | _ => none) = some dv := h1
    cases e : dσ[i]? with
    | none => rw [e] at h1; cases h1
    | some z =>
      rw [e] at h1
      cases z with
      | none => cases h1
      | some z =>
        cases h1
        obtain ⟨v, e1, e2⟩ := s.sl.at_ i _ e
        exact ⟨v, e1, h2 g H v (Gh.le.refl g) s.r e2⟩
theorem SuP.slot {x : Exn} {g : Gh} {dσ : DSt} {S : Store} {σ : L2.St} {H : Hp} {i : Nat} (su : SuP fx x o a cls d g dσ S σ H) (ho : o = some i) (hl : i < σ.length) : σ[i]? = some (some (.ref a)) := by
  have e : σ[i]? = some σ[i] := List.getElem?_eq_getElem hl
  rw [e, su.at_ i ho _ e]
theorem x_fld {f : String} {y : Str} {i : Nat} (ef : ExF P fx X) (ho : o = some i) (hin : i < X.N.length) (hz : Zc cls d oe) (hf : ∃ vs, oe.data = .fields vs) (hy : y = Str.ofString f) (p : PE (X.suite a ((a, oe) :: pn)) e (tVar i)) (hb : attributeBase e y X.env (eval e X.env) = eval e X.env) :
    PE (X.suite a ((a, oe) :: pn)) (.Attribute e y pos) (tXe P fx o a cls d (.fld f)) := by
  subst hy
  refine ⟨fun pins s σ H Q I h => ?_⟩
  obtain ⟨x, k, g, dσ, S, hk, su, dv, h1, h2⟩ := h
  obtain ⟨rx1, rx2⟩ := su.rx
  have h1 : (match P.xt x.cls with
    | some k => match k.ini with
      | some l => if l.contains f then x.fs.lookup f else none
      | none => none
    | none => none) = some dv := h1
  rw [hk] at h1
  have h1 : (match k.ini with
      | some l => if l.contains f then x.fs.lookup f else none
      | none => none) = some dv := h1
  cases hi : k.ini with
  | none => rw [hi] at h1; cases h1
  | some l =>
    rw [hi] at h1
    have h1 : (if l.contains f then x.fs.lookup f else none) = some dv := h1
    by_cases hl : l.contains f = true
    · rw [if_pos hl] at h1
      have hno := (ef.ini x.cls k l hk hi).no f (List.contains_iff_mem.mp hl)
      refine (pe_xf (X := X) (cls := cls) (d := d) (C := fx.ca x.cls) (ef.fld x.cls k hk).1 hno hz hf p hb).run pins s σ H Q I ?_
      rcases rx2 with rx2 | ⟨dd, vs, e1, e2, e3⟩
      · rw [rx2.1] at h1
        cases h1
      · obtain ⟨v, e4, e5⟩ := e3.look h1
        exact ⟨.ref a, su.slot ho (by rw [I.len]; exact hin), rfl, rx1, dd, vs, v, e1, su.r.frz _ _ e2, e4, h2 g H v (Gh.le.refl g) su.r e5⟩
    · rw [if_neg hl] at h1
      cases h1
/-- isinstance(e, c) in the suite -/
theorem call_isX {D : Addr} (C : ExcC X.K D) (hz : Zc (.ref D) d oe) (hf : ∃ vs, oe.data = .fields vs) {pins : List (Addr × Obj)} {σ : L2.St} {H : Hp} {s : Shared} {Q : VK} {cv : Value} {b : Bool} (I : Inv (X.suite a ((a, oe) :: pn)) pins σ H s)
    (hd : d = none ∨ ∃ dd vs, d = some dd ∧ H dd = some (.xd vs)) (e : PySem.W.kitOne X.K (.ref D) cv = some b) (q : Q (.bl b) H) : wpAny (model X.prog X.w) (X.A.mark (some (.ref a))) (call (.builtin "isinstance") [.ref a, cv]) (EP (X.suite a ((a, oe) :: pn)) pins σ Q) (fun _ _ => False) s := by
  obtain ⟨hget, _⟩ := I.pin (a, oe) (List.mem_append.mpr (.inl List.mem_cons_self))
  obtain ⟨vs, hv⟩ := hf
  have J : ∃ od, PySem.W.InstAt s.heap a oe D od := by
    obtain ⟨oc, od, oda, osl⟩ := oe
    obtain ⟨h1, h2⟩ := hz
    dsimp only at h1 h2 hv
    subst h1 h2 hv
    rcases hd with rfl | ⟨dd, vs, rfl, hd⟩
    · exact ⟨none, hget, rfl, rfl, trivial⟩
    · have hx : ObjOk X.prog X.w H s.heap dd (.xd vs) := I.hok dd _ hd
      obtain ⟨mA, hns, hr⟩ := hx
      obtain ⟨od, ho, hl⟩ := lookIn_ns hns
      exact ⟨some od, hget, rfl, rfl, ho⟩
  obtain ⟨od, J⟩ := J
  exact PySem.W.kia_one (exc_kit C) I.kIn J e (fun z => nomatch z) fun tk => ⟨.bl b, H, I.kept (t' := tk) fun _ _ z => z, rfl, q⟩
theorem x_isi {c : String} {i : Nat} {y : Expr} {v2 : V} {p1 : Pos} (ef : ExF P fx X) (ho : o = some i) (hin : i < X.N.length) (hz : Zc cls d oe) (hf : ∃ vs, oe.data = .fields vs) (hg : Gl X "isinstance") (hm : X.mg "isinstance" = none)
    (p : PE (X.suite a ((a, oe) :: pn)) e (tVar i)) (py : PE (X.suite a ((a, oe) :: pn)) y (tC v2)) (hv : ∀ u, RelV v2 u → ∀ c0 k0, P.xt c0 = some k0 → PySem.W.kitOne X.K (.ref (fx.ca c0)) u = some (k0.ups.contains c))
    (he : starEach [e, y] X.env = (false, eval e X.env) :: starEach [y] X.env) (hy : starEach [y] X.env = (false, eval y X.env) :: starEach [] X.env) : PE (X.suite a ((a, oe) :: pn)) (.Call (.Name "isinstance" p1) [e, y] [] pos) (tXe P fx o a cls d (.isi c)) := by
  refine ⟨fun pins s σ H Q I h => ?_⟩
  obtain ⟨x, k, g, dσ, S, hk, su, dv, h1, h2⟩ := h
  obtain ⟨rx1, rx2⟩ := su.rx
  have h1 : (match P.xt x.cls with
    | some k => some (D.bl (k.ups.contains c))
    | none => none) = some dv := h1
  rw [hk] at h1
  cases h1
  subst rx1
  refine wpAny_Call_Name_kw (ld_blt (X := X.suite a ((a, oe) :: pn)) I hg hm PyProof.Rows.boot_isinstance ?_ (by decide) (by decide))
  have pa := pa_cons p (pa_cons py pa_nil hy) he
  refine PyProof.Rows.callWith_builtin1 (thn (pa.run pos pins _ σ H (fun vs H1 => vs = [.ref a, v2] ∧ H1 = H) I ⟨.ref a, su.slot ho (by rw [I.len]; exact hin), rfl, rfl⟩) fun us s1 ⟨vs, H1, I1, r, ev, eh⟩ => ?_) he (by show (backTo pos (starEach [y] X.env)).any (·.1) = false; rw [hy]; rfl)
  subst ev eh
  cases r with
  | cons ra r =>
    cases r with
    | cons rb r =>
      cases r
      cases ra
      refine call_isX (ef.fld x.cls k hk).2 hz hf I1 ?_ (hv _ rb x.cls k hk) (h2 g _ _ (Gh.le.refl g) su.r (.bl _))
      rcases rx2 with rx2 | ⟨dd, vs, e1, e2, e3⟩
      · exact .inl rx2.2
      · exact .inr ⟨dd, vs, e1, su.r.frz _ _ e2⟩
theorem x_not {Y : Cx} (p : PE Y e (tXe P fx o a cls d c)) : PE Y (.UnaryOp .Not e pos) (tXe P fx o a cls d (.not c)) :=
  pe_imp (pe_not p) fun σ H Q ⟨x, k, g, dσ, S, hk, su, dv, h1, h2⟩ => by
    have h1 : (match xeD P x dσ c with
      | some (.bl b) => some (D.bl (!b))
      | _ => none) = some dv := h1
    cases e : xeD P x dσ c with
    | none => rw [e] at h1; cases h1
    | some z =>
      rw [e] at h1
      cases z with
      | bl b =>
        cases h1
        exact ⟨x, k, g, dσ, S, hk, su, _, e, fun g' H' v l r rv => ⟨b, rv.iBl, h2 g' H' _ l r (.bl _)⟩⟩
      | _ => cases h1
theorem x_and {Y : Cx} {b : Expr} {rest : List Expr} (p : PE Y e (tXe P fx o a cls d c1)) (q : PE Y (.BoolOp .And (b :: rest) pos) (tXe P fx o a cls d c2)) : PE Y (.BoolOp .And (e :: b :: rest) pos) (tXe P fx o a cls d (.and c1 c2)) :=
  pe_imp (pe_and p q) fun σ H Q ⟨x, k, g, dσ, S, hk, su, dv, h1, h2⟩ => by
    have h1 : (match xeD P x dσ c1 with
      | some (.bl false) => some (.bl false)
      | some (.bl true) => match xeD P x dσ c2 with
        | some (.bl k) => some (.bl k)
        | _ => none
      | _ => none) = some dv := h1
    cases e : xeD P x dσ c1 with
    | none => rw [e] at h1; cases h1
    | some z =>
      rw [e] at h1
      cases z with
      | bl b =>
        refine ⟨x, k, g, dσ, S, hk, su, _, e, fun g' H' v l r rv => ⟨b, rv.iBl, ?_⟩⟩
        cases b with
        | false =>
          cases h1
          exact iteF (h2 g' H' _ l r (.bl _))
        | true =>
          have h1 : (match xeD P x dσ c2 with
            | some (.bl k) => some (D.bl k)
            | _ => none) = some dv := h1
          cases e2 : xeD P x dσ c2 with
          | none => rw [e2] at h1; cases h1
          | some z =>
            rw [e2] at h1
            cases z with
            | bl b2 =>
              cases h1
              exact iteT ⟨x, k, g', dσ, S, hk, su.up l r, _, e2, fun g2 H2 v l2 r2 rv => h2 g2 H2 v (l.trans l2) r2 rv⟩
            | _ => cases h1
      | _ => cases h1
theorem x_tup {Y : Cx} {x1} (p : PA Y es (tXa P fx o a cls d c)) : PE Y (.Tuple es x1 pos) (tXe P fx o a cls d (.tup c)) :=
  pe_imp (pe_tup p) fun σ H Q ⟨x, k, g, dσ, S, hk, su, dv, h1, h2⟩ => by
    have h1 : (match xeD P x dσ c with
      | some (.tup xs) => if xs.length ≤ sizeLine then some (D.tup xs) else none
      | _ => none) = some dv := h1
    cases e : xeD P x dσ c with
    | none => rw [e] at h1; cases h1
    | some z =>
      rw [e] at h1
      cases z with
      | tup xs =>
        have h1 : (if xs.length ≤ sizeLine then some (D.tup xs) else none) = some dv := h1
        by_cases hz : xs.length ≤ sizeLine
        · rw [if_pos hz] at h1
          cases h1
          refine ⟨x, k, g, dσ, S, hk, su, xs, e, fun g' H' vs l r rv => ⟨by rw [rv.length]; exact hz, fun p hp => ?_⟩⟩
          obtain ⟨r2, l2⟩ := r.laid (o := .tup vs) hp
          exact h2 _ _ _ (l.trans l2) r2 (.tup (show upd g'.F p (.tup vs) p = some (.tup vs) from upd_same) (rv.mono l2))
        · rw [if_neg hz] at h1
          cases h1
      | _ => cases h1
theorem x_anil {Y : Cx} : PA Y [] (tXa P fx o a cls d .anil) := pa_imp pa_nil fun σ H Q ⟨x, k, g, dσ, S, hk, su, ds, h1, h2⟩ => by
  cases h1
  exact h2 g H [] (Gh.le.refl g) su.r .nil
theorem x_acons {Y : Cx} (p : PE Y e (tXe P fx o a cls d c1)) (q : PA Y es (tXa P fx o a cls d c2)) (hs : starEach (e :: es) Y.env = (false, eval e Y.env) :: starEach es Y.env) : PA Y (e :: es) (tXa P fx o a cls d (.acons c1 c2)) :=
  pa_imp (pa_cons p q hs) fun σ H Q ⟨x, k, g, dσ, S, hk, su, ds, h1, h2⟩ => by
    have h1 : (match xeD P x dσ c1 with
      | some d => match xeD P x dσ c2 with
        | some (.tup xs) => some (D.tup (d :: xs))
        | _ => none
      | none => none) = some (.tup ds) := h1
    cases e : xeD P x dσ c1 with
    | none => rw [e] at h1; cases h1
    | some z =>
      rw [e] at h1
      have h1 : (match xeD P x dσ c2 with
        | some (.tup xs) => some (D.tup (z :: xs))
        | _ => none) = some (.tup ds) := h1
      cases e2 : xeD P x dσ c2 with
      | none => rw [e2] at h1; cases h1
      | some y =>
        rw [e2] at h1
        cases y with
        | tup xs =>
          cases h1
          exact ⟨x, k, g, dσ, S, hk, su, z, e, fun g' H' v l r rv => ⟨x, k, g', dσ, S, hk, su.up l r, xs, e2, fun g2 H2 vs l2 r2 rvs => h2 g2 H2 _ (l.trans l2) r2 (.cons (rv.mono l2) rvs)⟩⟩
        | _ => cases h1
end
end MX
end

section
set_option maxRecDepth 100000
set_option maxHeartbeats 4000000
namespace MX
open PySem PySem.Spec PyProof.Rows L2

def GOk (P : Prog) (n : Nat) (fx : Fix) (X : Cx) (x : Str) : GK → Prop
  | .blt => X.mg x = none
  | .int i => ∃ t, X.mg x = some (.int i t)
  | .fn f => CallOk P n fx.K fx.ca X x f
  | .cls c => X.mg x = some (.ref (fx.ca c)) ∧ PySem.W.keepIn X.K (.ref (fx.ca c)) = true ∧ P.kn c = true
  | .exc c => X.mg x = some (.ref (fx.ca c)) ∧ (P.xt c).isSome = true
structure XOk (P : Prog) (n : Nat) (Γ : Gam) (fx : Fix) (W : WX) (X : Cx) : Prop where
  hK : fx.K = X.K
  nd : X.N.Nodup
  N : X.N = Γ.N
  sc : X.env.scope = Γ.sc
  calm : X.calm = true
  tk : Takes X W
  un : X.A.units + 64 < cLine
  gl : ∀ x k, Γ.gl.lookup x = some k → GOk P n fx X x k
  ob : ObjF P n fx X
  xf : ExF P fx X
theorem isTrue_of {e : Expr} {env : Env} (h : plainT e = true) (whole : Sem Value) : isTrue e env whole = (do let v ← whole; standAt e.pos; holding [v] (truthy v)) := by
  cases e with
  | UnaryOp op x p => cases op <;> first | rfl | cases h
  | _ => first | rfl | cases h
theorem star_of {e : Expr} {es : List Expr} {env : Env} (h : notStar e = true) : starEach (e :: es) env = (false, eval e env) :: starEach es env := by
  cases e <;> first | rfl | cases h
theorem fold_of {e : Expr} {env : Env} (h : notSet e = true) (x : Value) : foldedSetIterable e env x = pure x := by
  cases e <;> first | rfl | cases h
theorem mark_of {e : Expr} (op : CmpOp) (h : notSet e = true) : behindInMarks op e = false := by
  cases e <;> first | rfl | cases h
theorem base_of {e : Expr} {attr : Str} {env : Env} (h : notCall e = true) : attributeBase e attr env (eval e env) = eval e env := by
  cases e with
  | Call f as ks p => cases f <;> first | rfl | (cases as <;> first | rfl | (cases ks <;> first | rfl | cases h))
  | _ => rfl
theorem plainIx_of {e : Expr} (h : notSlice e = true) : PlainIx e := fun o i => by
  cases e <;> first | rfl | cases h
theorem ownIx_of {e : Expr} (h : notSlice e = true) : OwnIx e := fun o i => by
  cases e <;> first | rfl | cases h
section
variable {P : Prog} {n : Nat} {Γ : Gam} {fx : Fix} {W : WX} {X : Cx}
theorem XOk.glo (h : XOk P n Γ fx W X) {x : Str} {k : GK} (g : Γ.glo x k = true) : Gl X x ∧ GOk P n fx X x k := by
  unfold Gam.glo at g
  rw [Bool.and_eq_true] at g
  refine ⟨?_, h.gl x k (of_decide_eq_true g.2)⟩
  show X.env.scope.names.lookup x = _
  rw [h.sc]
  exact of_decide_eq_true g.1
theorem XOk.vis (h : XOk P n Γ fx W X) {x : Str} {i : Nat} (g : Γ.vis i x = true) : X.N[i]? = some x ∧ Vis X.env.scope x := by
  unfold Gam.vis at g
  rw [Bool.and_eq_true, Bool.or_eq_true, Bool.or_eq_true] at g
  refine ⟨by rw [h.N]; exact of_decide_eq_true g.1, ?_⟩
  unfold Vis
  rw [h.sc]
  rcases g.2 with e | e | e
  · exact .inl (of_decide_eq_true e)
  · exact .inr (.inl (of_decide_eq_true e))
  · exact .inr (.inr (of_decide_eq_true e))
theorem XOk.loc (h : XOk P n Γ fx W X) {x : Str} {i : Nat} (g : Γ.loc i x = true) : X.N[i]? = some x ∧ L2.Loc X.env.scope x := by
  unfold Gam.loc at g
  rw [Bool.and_eq_true, Bool.or_eq_true] at g
  refine ⟨by rw [h.N]; exact of_decide_eq_true g.1, ?_⟩
  unfold L2.Loc
  rw [h.sc]
  rcases g.2 with e | e
  · exact .inl (of_decide_eq_true e)
  · exact .inr (of_decide_eq_true e)
theorem takesF {X : Cx} : Takes X W0 := fun _ _ x => by
  obtain ⟨_, _, _, _, _, _, _, _, _, _, _, _, _, _, _, _, z⟩ := x
  exact z.elim
/-- a comprehension's block is such a place -/
theorem XOk.blk (h : XOk P n Γ fx W X) (s : Shared) (H : Hp) (scope : Scope) (C : Addr) (cl : List (Str × Addr)) (fp : List Addr) (fx' : Fix) (k1 : fx'.K = fx.K) (k2 : fx'.ca = fx.ca) : XOk P n (Γ.blk scope) fx' W0 (X.blk s H scope (compEnvC scope cl C X.env) fp) := by
  refine ⟨k1.trans h.hK, h.nd, h.N, ?_, h.calm, takesF, h.un, fun x k e => ?_, ?ob, ?xf⟩
  · show relabel scope X.env = relS' scope Γ.sc
    rw [← h.sc]
    rfl
  · have z := h.gl x k e
    cases k with
    | blt => exact z
    | int i => exact z
    | fn f =>
      have z : CallOk P n fx.K fx.ca X x f := z
      show CallOk P n fx'.K fx'.ca _ x f
      rw [k1, k2]
      exact ⟨z.ex⟩
    | cls c =>
      have z : X.mg x = some (.ref (fx.ca c)) ∧ PySem.W.keepIn X.K (.ref (fx.ca c)) = true ∧ P.kn c = true := z
      show X.mg x = some (.ref (fx'.ca c)) ∧ PySem.W.keepIn X.K (.ref (fx'.ca c)) = true ∧ P.kn c = true
      rw [k2]
      exact z
    | exc c =>
      have z : X.mg x = some (.ref (fx.ca c)) ∧ (P.xt c).isSome = true := z
      show X.mg x = some (.ref (fx'.ca c)) ∧ (P.xt c).isSome = true
      rw [k2]
      exact z
  case xf =>
    have o := h.xf
    refine ⟨fun c k l q1 q2 => ?_, fun c k q1 q2 => ?_, fun c k q => ?_, fun c k q => ?_, fun c k e k' q1 q2 => ?_, fun c k e k' q1 q2 => ?_, fun c k q => ?_⟩
    · rw [k2]
      have z := o.ini c k l q1 q2
      exact ⟨z.ex, z.oex, z.no, z.few, z.sup, z.top⟩
    · rw [k2]; exact o.own c k q1 q2
    · rw [k2]; exact o.rai c k q
    · rw [k2]; exact o.fld c k q
    · rw [k2]; exact o.exm c k e k' q1 q2
    · rw [k2]; exact o.kit c k e k' q1 q2
    · rw [k2]; exact o.kiv c k q
  case ob =>
    have o := h.ob
    refine ⟨fun c q => by rw [k2]; exact o.bits c q, fun c x q => by rw [k2]; exact o.lacks c x q, fun c x f m q => ?_, fun c k f m q1 q2 => ?_, fun q => by rw [k2]; exact o.own q, fun c f q => by rw [k2]; exact ⟨(o.iter c f q).ex⟩, fun c x f m F cs q1 q2 q3 q4 => by rw [k1, k2]; exact ⟨(o.nim c x f m F cs q1 q2 q3 q4).ex⟩, fun c x f m q => by rw [k1, k2]; exact ⟨(o.stat c x f m q).ex⟩, fun c x f m q => by rw [k1, k2]; exact ⟨(o.prop c x f m q).ex⟩⟩
    · rw [k1, k2]
      exact ⟨(o.meth c x f m q).ex⟩
    · rw [k1, k2]
      exact ⟨(o.mkk c k f m q1 q2).ex⟩
end
section
variable {P : Prog} {n : Nat} {Γ : Gam} {fx : Fix} {W : WX} {X : Cx}
theorem XOk.own1 (h : XOk P n Γ fx W X) : OwnK X.K fx.ca P.kn := by
  by_cases q : ∃ c, P.kn c = true
  · exact h.ob.own q
  · have no : ∀ {c : String} {α : Prop}, P.kn c = true → α := fun {c α} z => absurd ⟨c, z⟩ q
    exact ⟨fun c z => no z, fun c z => no z, by kernel_rfl, by kernel_rfl, fun c z => no z, fun c z => no z, fun c z => no z, fun c z => no z, fun c z => no z⟩
/-- o.y(..), as the machine walks it -/
theorem meth_ht {o : Expr} {y : Str} {ap pos : Pos} {es : List Expr} {env : Env} (hb : notCall o = true) (hl : (ap.endLine == pos.line) = true) (hs : (backTo pos (starEach es env)).all (!·.1) = true) (hn : es.length < 30) :
    eval (.Call (.Attribute o y ap) es [] pos) env = (do
      let z ← eval o env
      standAt ap.atName
      let (q, i) ← holding [z] (getMethod z y (do return (← importBound o env).getD true))
      callWith pos q i (backTo pos (starEach es env)) (backToKw pos (keywordEach [] env))) := by
  have e1 : eval (.Call (.Attribute o y ap) es [] pos) env = (do
      let ov ← attributeBase o y env (eval o env)
      standAt ap.atName
      methodCall o y ap pos env ov (es.length + 0) (backTo pos (starEach es env)) (backToKw pos (keywordEach [] env))) := rfl
  have few : methodCallForm (es.length + 0) (backTo pos (starEach es env)) (backToKw pos (keywordEach [] env)) = true := by
    unfold methodCallForm
    rw [hs]
    show (true && true && decide (es.length + 0 + 0 < 30)) = true
    rw [decide_eq_true (by omega)]
    rfl
  rw [e1, base_of hb]
  unfold methodCall calleeOf methodCallPos
  simp only [few, hl, if_true, Bool.not_true, Bool.false_or, pure_bind]
end
/-- what is shown of a code -/
structure Snd (P : Prog) (n : Nat) (c : E) (Γ : Gam) (fx : Fix) (W : WX) (X : Cx) : Prop where
  e : ∀ e, chkE Γ false c e = true → PE X e (tE fx W (evE P (run P n) c))
  t : ∀ e, chkE Γ false c e = true → notIf e = true → PT X e (tT fx W (evE P (run P n) c))
  w : ∀ e, chkE Γ false c e = true → isBool e = true → PW X e (tT fx W (evE P (run P n) c))
  i : ∀ tg e, chkE Γ true c e = true → PI X tg e (tI fx W .seq (evE P (run P n) c))
  a : ∀ es, chkA Γ c es = true → PA X es (tA fx W (evE P (run P n) c))
section
variable {P : Prog} {n : Nat} {c : E} {Γ : Gam} {fx : Fix} {W : WX} {X : Cx}
/-- a code whose expressions are plain tests -/
theorem Snd.plain (h : XOk P n Γ fx W X) (he : ∀ e, chkE Γ false c e = true → PE X e (tE fx W (evE P (run P n) c)) ∧ plainT e = true) (hm : ∀ e, chkE Γ true c e = true → chkE Γ false c e = true) (ha : ∀ es, chkA Γ c es = false) : Snd P n c Γ fx W X where
  e := fun e k => (he e k).1
  t := fun e k _ => t_truth h.hK (he e k).1 (isTrue_of (he e k).2)
  w := fun e k b => by
    have := (he e k).2
    cases e <;> first | (cases b; done) | (cases this; done)
  i := fun tg e k => i_seq h.hK (he e (hm e k)).1
  a := fun es k => by rw [ha es] at k; cases k
theorem snd_var {i : Nat} (h : XOk P n Γ fx W X) : Snd P n (.var i) Γ fx W X := by
  refine Snd.plain h (fun e k => ?_) (fun e k => ?_) (fun es => ?_)
  · cases e with
    | Name x p =>
      have k : (Γ.vis i x && okName x) = true := k
      rw [Bool.and_eq_true] at k
      obtain ⟨h1, h2⟩ := h.vis k.1
      obtain ⟨h3, h4⟩ := okName_of k.2
      exact ⟨s_var (pe_var h1 h2 h3 h4), rfl⟩
    | _ => cases k
  · cases e <;> first | (cases k; done) | exact k | (rename_i v _ _; cases v <;> first | (cases k; done) | exact k)
  · cases es <;> rfl
theorem snd_int {i : Int} (h : XOk P n Γ fx W X) : Snd P n (.int i) Γ fx W X := by
  refine Snd.plain h (fun e k => ?_) (fun e k => ?_) (fun es => ?_)
  · cases e with
    | Constant v j p =>
      cases v with
      | int j =>
        have k : decide (i = j) = true := k
        have := of_decide_eq_true k
        subst this
        exact ⟨s_const pe_int fun g => .int _, rfl⟩
      | _ => cases k
    | _ => cases k
  · cases e <;> first | (cases k; done) | exact k | (rename_i v _ _; cases v <;> first | (cases k; done) | exact k)
  · cases es <;> rfl
theorem snd_bl {i : Bool} (h : XOk P n Γ fx W X) : Snd P n (.bl i) Γ fx W X := by
  refine Snd.plain h (fun e k => ?_) (fun e k => ?_) (fun es => ?_)
  · cases e with
    | Constant v j p =>
      cases v with
      | bool j =>
        have k : (i == j) = true := k
        have := eq_of_beq k
        subst this
        exact ⟨s_const pe_bl fun g => .bl _, rfl⟩
      | _ => cases k
    | _ => cases k
  · cases e <;> first | (cases k; done) | exact k | (rename_i v _ _; cases v <;> first | (cases k; done) | exact k)
  · cases es <;> rfl
theorem snd_non (h : XOk P n Γ fx W X) : Snd P n .non Γ fx W X := by
  refine Snd.plain h (fun e k => ?_) (fun e k => ?_) (fun es => ?_)
  · cases e with
    | Constant v j p =>
      cases v with
      | none => exact ⟨s_const pe_non fun g => .non, rfl⟩
      | _ => cases k
    | _ => cases k
  · cases e <;> first | (cases k; done) | exact k | (rename_i v _ _; cases v <;> first | (cases k; done) | exact k)
  · cases es <;> rfl
theorem snd_str {s : String} (h : XOk P n Γ fx W X) : Snd P n (.str s) Γ fx W X := by
  refine Snd.plain h (fun e k => ?_) (fun e k => ?_) (fun es => ?_)
  · cases e with
    | Constant v j p =>
      cases v with
      | str j =>
        have k : decide (j = Str.ofString s) = true := k
        have := of_decide_eq_true k
        subst this
        exact ⟨s_const pe_str fun g => .str _, rfl⟩
      | _ => cases k
    | _ => cases k
  · cases e <;> first | (cases k; done) | exact k | (rename_i v _ _; cases v <;> first | (cases k; done) | exact k)
  · cases es <;> rfl
theorem snd_gint {x : String} {i : Int} (h : XOk P n Γ fx W X) : Snd P n (.gint x i) Γ fx W X := by
  refine Snd.plain h (fun e k => ?_) (fun e k => ?_) (fun es => ?_)
  · cases e with
    | Name y p =>
      have k : (decide (y = Str.ofString x) && (Γ.glo y (.int i) && okName y)) = true := k
      simp only [Bool.and_eq_true] at k
      obtain ⟨k1, k2, k3⟩ := k
      obtain ⟨h1, t, h2⟩ := h.glo k2
      exact ⟨s_const (v := .int i) (pe_glob h1 h2 ⟨t, rfl⟩ (okName_of k3).1) fun g => .int _, rfl⟩
    | _ => cases k
  · cases e <;> first | (cases k; done) | exact k | (rename_i v _ _; cases v <;> first | (cases k; done) | exact k)
  · cases es <;> rfl
theorem snd_bin {op : Bop} {a b : E} (h : XOk P n Γ fx W X) (sa : Snd P n a Γ fx W X) (sb : Snd P n b Γ fx W X) : Snd P n (.bin op a b) Γ fx W X := by
  refine Snd.plain h (fun e k => ?_) (fun e k => ?_) (fun es => ?_)
  · cases e with
    | BinOp l o r p =>
      have k : (decide (o = op.op) && (chkE Γ false a l && chkE Γ false b r)) = true := k
      simp only [Bool.and_eq_true] at k
      obtain ⟨k1, k2, k3⟩ := k
      have := of_decide_eq_true k1
      subst this
      exact ⟨s_bin (opD_own h.hK h.tk h.ob) (sa.e l k2) (sb.e r k3), rfl⟩
    | _ => cases k
  · cases e <;> first | (cases k; done) | exact k | (rename_i v _ _; cases v <;> first | (cases k; done) | exact k)
  · cases es <;> rfl
theorem snd_frz {a : E} (h : XOk P n Γ fx W X) (sa : Snd P n a Γ fx W X) : Snd P n (.frz a) Γ fx W X := by
  refine Snd.plain h (fun e k => ?_) (fun e k => k) (fun es => by cases es <;> rfl)
  have k : (plainT e && (notComp e && chkE Γ false a e)) = true := k
  simp only [Bool.and_eq_true] at k
  exact ⟨s_frz (sa.e e k.2.2), k.1⟩
theorem snd_catc {a b : E} (h : XOk P n Γ fx W X) (sa : Snd P n a Γ fx W X) (sb : Snd P n b Γ fx W X) : Snd P n (.catc a b) Γ fx W X := by
  refine Snd.plain h (fun e k => ?_) (fun e k => ?_) (fun es => ?_)
  · cases e with
    | BinOp l o r p =>
      cases o with
      | Add =>
        have k : (chkE Γ false a l && chkE Γ false b r) = true := k
        simp only [Bool.and_eq_true] at k
        exact ⟨s_bin opD_cat (sa.e l k.1) (sb.e r k.2), rfl⟩
      | _ => cases k
    | _ => cases k
  · cases e <;> first | (cases k; done) | exact k | (rename_i o _ _; cases o <;> first | (cases k; done) | exact k)
  · cases es <;> rfl
theorem snd_neg {a : E} (h : XOk P n Γ fx W X) (sa : Snd P n a Γ fx W X) : Snd P n (.neg a) Γ fx W X := by
  refine Snd.plain h (fun e k => ?_) (fun e k => ?_) (fun es => ?_)
  · cases e with
    | UnaryOp o x p =>
      cases o with
      | USub => exact ⟨s_nego h.hK h.tk h.ob (sa.e x k), rfl⟩
      | _ => cases k
    | _ => cases k
  · cases e with
    | UnaryOp o x p => cases o <;> first | (cases k; done) | exact k
    | _ => cases k
  · cases es <;> rfl
theorem snd_tup {a : E} (h : XOk P n Γ fx W X) (sa : Snd P n a Γ fx W X) : Snd P n (.tup a) Γ fx W X := by
  refine Snd.plain h (fun e k => ?_) (fun e k => ?_) (fun es => ?_)
  · cases e with
    | Tuple es x p => exact ⟨s_tup (sa.a es k), rfl⟩
    | _ => cases k
  · cases e <;> first | (cases k; done) | exact k | (rename_i v _ _; cases v <;> first | (cases k; done) | exact k)
  · cases es <;> rfl
theorem snd_lst {a : E} (h : XOk P n Γ fx W X) (sa : Snd P n a Γ fx W X) : Snd P n (.lst a) Γ fx W X := by
  refine Snd.plain h (fun e k => ?_) (fun e k => ?_) (fun es => ?_)
  · cases e with
    | List es p => exact ⟨s_lst (sa.a es k), rfl⟩
    | _ => cases k
  · cases e <;> first | (cases k; done) | exact k | (rename_i v _ _; cases v <;> first | (cases k; done) | exact k)
  · cases es <;> rfl
theorem snd_cell {a : E} (h : XOk P n Γ fx W X) (sa : Snd P n a Γ fx W X) : Snd P n (.cell a) Γ fx W X := by
  refine Snd.plain h (fun e k => ?_) (fun e k => ?_) (fun es => ?_)
  · cases e with
    | List es p => exact ⟨s_cell (sa.a es k), rfl⟩
    | _ => cases k
  · cases e <;> first | (cases k; done) | exact k | (rename_i v _ _; cases v <;> first | (cases k; done) | exact k)
  · cases es <;> rfl
theorem snd_idx {a b : E} (h : XOk P n Γ fx W X) (sa : Snd P n a Γ fx W X) (sb : Snd P n b Γ fx W X) : Snd P n (.idx a b) Γ fx W X := by
  refine Snd.plain h (fun e k => ?_) (fun e k => ?_) (fun es => ?_)
  · cases e with
    | Subscript x s p =>
      have k : (notSlice s && (chkE Γ false a x && chkE Γ false b s)) = true := k
      simp only [Bool.and_eq_true] at k
      obtain ⟨k1, k2, k3⟩ := k
      exact ⟨s_idxX h.hK h.tk h.ob (sa.e x k2) (sb.e s k3) (plainIx_of k1) (ownIx_of k1), rfl⟩
    | _ => cases k
  · cases e <;> first | (cases k; done) | exact k | (rename_i v _ _; cases v <;> first | (cases k; done) | exact k)
  · cases es <;> rfl
theorem snd_cut {a lo hi : E} (h : XOk P n Γ fx W X) (sa : Snd P n a Γ fx W X) (sl : ∀ e, lo = .part e → Snd P n e Γ fx W X) (sh : ∀ e, hi = .part e → Snd P n e Γ fx W X) : Snd P n (.cut a lo hi) Γ fx W X := by
  refine Snd.plain h (fun e k => ?_) (fun e k => ?_) (fun es => ?_)
  · cases e with
    | Subscript x s p =>
      cases s with
      | Slice l u st p2 =>
        cases st with
        | some st => cases k
        | none =>
          have k : (chkE Γ false a x && (chkO Γ lo l && chkO Γ hi u)) = true := k
          simp only [Bool.and_eq_true] at k
          obtain ⟨k1, k2, k3⟩ := k
          have part : ∀ (c : E) (o : Option Expr), (∀ e, c = .part e → Snd P n e Γ fx W X) → chkO Γ c o = true → PO X o (tO fx W (evE P (run P n) c)) := fun c o sc kc => by
            cases c <;> cases o <;> first | (cases kc; done) | skip
            · exact o_none
            · exact o_some ((sc _ rfl).e _ kc)
          exact ⟨s_cut h.hK (sa.e x k1) (part lo l sl k2) (part hi u sh k3), rfl⟩
      | _ => cases k
    | _ => cases k
  · cases e with
    | Subscript x s p =>
      cases s with
      | Slice l u st p2 => cases st <;> first | (cases k; done) | exact k
      | _ => cases k
    | _ => cases k
  · cases es <;> rfl
theorem snd_rev {a : E} (h : XOk P n Γ fx W X) (sa : Snd P n a Γ fx W X) : Snd P n (.rev a) Γ fx W X := by
  refine Snd.plain h (fun e k => ?_) (fun e k => ?_) (fun es => ?_)
  · cases e with
    | Subscript x s p =>
      have k : (revB s && chkE Γ false a x) = true := k
      rw [Bool.and_eq_true] at k
      obtain ⟨kk, p1, p2, p3, rfl⟩ := rev_of k.1
      exact ⟨s_rev h.hK (sa.e x k.2), rfl⟩
    | _ => cases k
  · cases e <;> first | (cases k; done) | exact k
  · cases es <;> rfl
theorem star_none {es : List Expr} {pos : Pos} {env : Env} : ∀ {c : E}, chkA Γ c es = true → (backTo pos (starEach es env)).any (·.1) = false := by
  induction es with
  | nil => exact fun _ => rfl
  | cons x r ih =>
    intro c k
    cases c with
    | acons e q =>
      have k : (notStar x && (chkE Γ false e x && chkA Γ q r)) = true := k
      simp only [Bool.and_eq_true] at k
      rw [star_of k.1]
      exact ih k.2.2
    | _ => cases k
theorem args_of {e : Expr} {es : List Expr} {pos : Pos} {env : Env} {c : E} (k : chkA Γ c (e :: es) = true) : starEach (e :: es) env = (false, eval e env) :: starEach es env ∧ (backTo pos (starEach es env)).any (·.1) = false := by
  cases c with
  | acons u q =>
    have k : (notStar e && (chkE Γ false u e && chkA Γ q es)) = true := k
    simp only [Bool.and_eq_true] at k
    exact ⟨star_of k.1, star_none k.2.2⟩
  | _ => cases k
theorem snd_call {m : Mode} {f : String} {a : E} (h : XOk P n Γ fx W X) (sa : Snd P n a Γ fx W X) : Snd P n (.call m f a) Γ fx W X := by
  refine Snd.plain h (fun e k => ?_) (fun e k => ?_) (fun es => ?_)
  · cases e with
    | Call fn es kw p =>
      cases fn with
      | Name x p2 =>
        cases kw with
        | cons z zs => cases k
        | nil =>
          have k : (!es.isEmpty && (Γ.glo x (.fn f) && (okName x && chkA Γ a es))) = true := k
          simp only [Bool.and_eq_true] at k
          obtain ⟨k1, k2, k3, k4⟩ := k
          cases es with
          | nil => cases k1
          | cons e es =>
            obtain ⟨h1, h2⟩ := h.glo k2
            obtain ⟨h3, h4⟩ := args_of (pos := p) (env := X.env) k4
            exact ⟨s_call h.hK h.tk h1 h2 (sa.a _ k4) (okName_of k3).1 h3 h4, rfl⟩
      | _ => cases k
    | _ => cases k
  · cases e with
    | Call fn es kw p => cases fn <;> first | (cases k; done) | (cases kw <;> first | (cases k; done) | exact k)
    | _ => cases k
  · cases es <;> rfl
theorem snd_ical {o a : E} (h : XOk P n Γ fx W X) (so : Snd P n o Γ fx W X) (sa : Snd P n a Γ fx W X) : Snd P n (.ical o a) Γ fx W X := by
  refine Snd.plain h (fun e k => ?_) (fun e k => ?_) (fun es => ?_)
  · cases e with
    | Call fn es kw p =>
      cases fn with
      | Name x p2 =>
        cases kw with
        | cons z zs => cases k
        | nil =>
          have k : (!es.isEmpty && (chkE Γ false o (.Name x p2) && chkA Γ a es)) = true := k
          simp only [Bool.and_eq_true] at k
          obtain ⟨k1, k2, k3⟩ := k
          cases es with
          | nil => cases k1
          | cons e es =>
            obtain ⟨h3, h4⟩ := args_of (pos := p) (env := X.env) k3
            exact ⟨s_ical h.tk h.ob (so.e _ k2) (sa.a _ k3) h3 h4, rfl⟩
      | _ => cases k
    | _ => cases k
  · cases e with
    | Call fn es kw p => cases fn <;> first | (cases k; done) | (cases kw <;> first | (cases k; done) | exact k)
    | _ => cases k
  · cases es <;> rfl
theorem snd_bi {b : Bi} {a : E} (h : XOk P n Γ fx W X) (sa : Snd P n a Γ fx W X) : Snd P n (.bi b a) Γ fx W X := by
  refine Snd.plain h (fun e k => ?_) (fun e k => ?_) (fun es => ?_)
  · cases e with
    | Call fn es kw p =>
      cases fn with
      | Name x p2 =>
        cases kw with
        | cons z zs => cases k
        | nil =>
          have k : (!es.isEmpty && (decide (x = Str.ofString b.nm) && (Γ.glo x .blt && chkA Γ a es))) = true := k
          simp only [Bool.and_eq_true] at k
          obtain ⟨k1, k2, k3, k4⟩ := k
          cases es with
          | nil => cases k1
          | cons e es =>
            obtain ⟨h1, h2⟩ := h.glo k3
            obtain ⟨h3, h4⟩ := args_of (pos := p) (env := X.env) k4
            exact ⟨s_biX h.hK h.calm h.tk h.ob (of_decide_eq_true k2) h1 h2 (sa.a _ k4) h3 h4, rfl⟩
      | _ => cases k
    | _ => cases k
  · cases e with
    | Call fn es kw p => cases fn <;> first | (cases k; done) | (cases kw <;> first | (cases k; done) | exact k)
    | _ => cases k
  · cases es <;> rfl
theorem names_of (h : XOk P n Γ fx W X) : ∀ {ts : List Ty}, nameArgs Γ ts = true → ∀ t ∈ ts, NmOk X fx.ca t ∧ (∀ c, t = .cls c → P.kn c = true)
  | t :: r, k, u, hu => by
    unfold nameArgs at k
    rw [Bool.and_eq_true, Bool.and_eq_true] at k
    rcases List.mem_cons.mp hu with e | e
    · subst e
      obtain ⟨g, q⟩ := h.glo k.1.1
      have d := (okName_of k.1.2).1
      cases u with
      | cls c =>
        have q : X.mg (Str.ofString c) = some (.ref (fx.ca c)) ∧ PySem.W.keepIn X.K (.ref (fx.ca c)) = true ∧ P.kn c = true := q
        exact ⟨⟨g, q.1, d⟩, fun c' z => by cases z; exact q.2.2⟩
      | _ => exact ⟨⟨g, q⟩, fun c' z => by cases z⟩
    · exact names_of h k.2 u e
theorem snd_isi {a : E} {cs : List Ty} (h : XOk P n Γ fx W X) (sa : Snd P n a Γ fx W X) : Snd P n (.isi a cs) Γ fx W X := by
  refine Snd.plain h (fun e k => ?_) (fun e k => ?_) (fun es => ?_)
  · cases e with
    | Call fn es kw p =>
      cases fn with
      | Name x p2 =>
        match es, kw, k with
        | [v, t], [], k =>
          have k : (decide (x = ("isinstance" : Str)) && (Γ.glo x .blt && (notStar v && (chkE Γ false a v && (!cs.isEmpty && (decide (cs.length ≤ sizeLine) && (nameArgs Γ cs && chkTy cs t))))))) = true := k
          simp only [Bool.and_eq_true] at k
          obtain ⟨k1, k2, k3, k4, k6, k7, k8, k9⟩ := k
          have := of_decide_eq_true k1
          subst this
          obtain ⟨h1, h2⟩ := h.glo k2
          have hn := names_of h k8
          have hst : starEach [v, t] X.env = (false, eval v X.env) :: starEach [t] X.env := star_of k3
          refine ⟨?_, rfl⟩
          cases t with
          | Name y p3 =>
            have k9 := of_decide_eq_true k9
            match cs, k9 with
            | [t0], k9 =>
              have ey : y = Str.ofString (nmX t0) := by
                have := List.cons.inj k9
                exact this.1.symm
              have hn0 := hn t0 List.mem_cons_self
              subst ey
              exact s_isio h.hK h.own1 h1 h2 hn0.1 (sa.e v k4) hst
          | Tuple es x1 p3 =>
            refine s_isioT h.hK h.own1 (fun z => ?_) (of_decide_eq_true k7) k9 h1 h2 (fun t ht => (hn t ht).1) (sa.e v k4) hst
            subst z
            cases k6
          | _ => cases k9
        | [], [], k => cases k
        | [_], [], k => cases k
        | _ :: _ :: _ :: _, [], k => cases k
        | [], _ :: _, k => cases k
        | [_], _ :: _, k => cases k
        | [_, _], _ :: _, k => cases k
        | _ :: _ :: _ :: _, _ :: _, k => cases k
      | _ => cases k
    | _ => cases k
  · cases e with
    | Call fn es kw p =>
      cases fn with
      | Name x p2 =>
        match es, kw, k with
        | [v, t], [], k => exact k
        | [], [], k => cases k
        | [_], [], k => cases k
        | _ :: _ :: _ :: _, [], k => cases k
        | [], _ :: _, k => cases k
        | [_], _ :: _, k => cases k
        | [_, _], _ :: _, k => cases k
        | _ :: _ :: _ :: _, _ :: _, k => cases k
      | _ => cases k
    | _ => cases k
  · cases es <;> rfl
theorem snd_not {a : E} (h : XOk P n Γ fx W X) (sa : Snd P n a Γ fx W X) : Snd P n (.not a) Γ fx W X where
  e := fun e k => by
    cases e with
    | UnaryOp o x p =>
      cases o with
      | Not =>
        have k : (notIf x && chkE Γ false a x) = true := k
        rw [Bool.and_eq_true] at k
        exact s_not h.hK (sa.e x k.2)
      | _ => cases k
    | _ => cases k
  t := fun e k _ => by
    cases e with
    | UnaryOp o x p =>
      cases o with
      | Not =>
        have k : (notIf x && chkE Γ false a x) = true := k
        rw [Bool.and_eq_true] at k
        exact t_not (sa.t x k.2 k.1)
      | _ => cases k
    | _ => cases k
  w := fun e k b => by
    cases e <;> first | (cases b; done) | (cases k; done)
  i := fun tg e k => by
    cases e with
    | UnaryOp o x p =>
      cases o with
      | Not =>
        have k : (notIf x && chkE Γ false a x) = true := k
        rw [Bool.and_eq_true] at k
        exact i_seq h.hK (s_not h.hK (sa.e x k.2))
      | _ => cases k
    | _ => cases k
  a := fun es k => by cases es <;> cases k
theorem snd_cmp {op : Cop} {a b : E} (h : XOk P n Γ fx W X) (sa : Snd P n a Γ fx W X) (sb : Snd P n b Γ fx W X) : Snd P n (.cmp op a b) Γ fx W X := by
  have key : ∀ m e, chkE Γ m (.cmp op a b) e = true → ∃ l r p, e = .Compare l [op.op] [r] p ∧ notSet r = true ∧ chkE Γ false a l = true ∧ chkE Γ false b r = true := fun m e k => by
    cases e with
    | Compare l ops rs p =>
      match ops, rs, k with
      | [o], [r], k =>
        have k : (decide (o = op.op) && (notSet r && (chkE Γ false a l && chkE Γ false b r))) = true := k
        simp only [Bool.and_eq_true] at k
        obtain ⟨k1, k2, k3, k4⟩ := k
        have := of_decide_eq_true k1
        subst this
        exact ⟨l, r, p, rfl, k2, k3, k4⟩
      | [], [], k => cases k
      | [], [_], k => cases k
      | [], _ :: _ :: _, k => cases k
      | [_], [], k => cases k
      | [_], _ :: _ :: _, k => cases k
      | _ :: _ :: _, [], k => cases k
      | _ :: _ :: _, [_], k => cases k
      | _ :: _ :: _, _ :: _ :: _, k => cases k
    | _ => cases k
  have he : ∀ m e, chkE Γ m (.cmp op a b) e = true → PE X e (tE fx W (evE P (run P n) (.cmp op a b))) := fun m e k => by
    obtain ⟨l, r, p, rfl, h1, h2, h3⟩ := key m e k
    exact s_cmp (opD_cmpX h.hK h.tk h.un h.ob (opD_cmp op h.hK h.un)) (sa.e l h2) (sb.e r h3) (mark_of _ h1)
  exact ⟨fun e k => he _ e k, fun e k _ => (by
    obtain ⟨l, r, p, rfl, h1, h2, h3⟩ := key _ e k
    exact s_cmpTX (opD_cmpX h.hK h.tk h.un h.ob (opD_cmp op h.hK h.un)) (fun e => cmpX_bl e) (sa.e l h2) (sb.e r h3) (mark_of _ h1)), fun e k b => (by
    obtain ⟨l, r, p, rfl, _⟩ := key _ e k
    cases b), fun tg e k => i_seq h.hK (he _ e k), fun es k => (by cases es <;> cases k)⟩
theorem snd_and {a b : E} (h : XOk P n Γ fx W X) (sa : Snd P n a Γ fx W X) (sb : Snd P n b Γ fx W X) : Snd P n (.and a b) Γ fx W X := by
  have key : ∀ m e, chkE Γ m (.and a b) e = true → ∃ x y rest p, e = .BoolOp .And (x :: y :: rest) p ∧ notIf x = true ∧ chkE Γ false a x = true ∧ chkE Γ false b (tailB .And y rest p) = true ∧ notIf (tailB .And y rest p) = true := fun m e k => by
    cases e with
    | BoolOp o vs p =>
      cases o with
      | Or => cases k
      | And =>
        match vs, k with
        | x :: y :: rest, k =>
          have k : (notIf x && (chkE Γ false a x && chkE Γ false b (tailB .And y rest p) && notIf (tailB .And y rest p))) = true := k
          simp only [Bool.and_eq_true] at k
          obtain ⟨k1, ⟨k2, k3⟩, k4⟩ := k
          exact ⟨x, y, rest, p, rfl, k1, k2, k3, k4⟩
        | [], k => cases k
        | [_], k => cases k
    | _ => cases k
  have he : ∀ m e, chkE Γ m (.and a b) e = true → PE X e (tE fx W (evE P (run P n) (.and a b))) := fun m e k => by
    obtain ⟨x, y, rest, p, rfl, h1, h2, h3, h4⟩ := key m e k
    refine s_and h.hK (sa.e x h2) ?_
    cases rest with
    | nil => exact pe_one (sb.e y h3)
    | cons z zs => exact sb.e _ h3
  have hw : ∀ e, chkE Γ false (.and a b) e = true → PW X e (tT fx W (evE P (run P n) (.and a b))) := fun e k => by
    obtain ⟨x, y, rest, p, rfl, h1, h2, h3, h4⟩ := key _ e k
    refine w_and (sa.t x h2 h1) ?_
    cases rest with
    | nil => exact pw_and1 (sb.t y h3 h4)
    | cons z zs => exact sb.w _ h3 rfl
  exact ⟨fun e k => he _ e k, fun e k _ => (hw e k).pt, fun e k _ => hw e k, fun tg e k => i_seq h.hK (he _ e k), fun es k => by cases es <;> cases k⟩
theorem snd_or {a b : E} (h : XOk P n Γ fx W X) (sa : Snd P n a Γ fx W X) (sb : Snd P n b Γ fx W X) : Snd P n (.or a b) Γ fx W X := by
  have key : ∀ m e, chkE Γ m (.or a b) e = true → ∃ x y rest p, e = .BoolOp .Or (x :: y :: rest) p ∧ notIf x = true ∧ chkE Γ false a x = true ∧ chkE Γ false b (tailB .Or y rest p) = true ∧ notIf (tailB .Or y rest p) = true := fun m e k => by
    cases e with
    | BoolOp o vs p =>
      cases o with
      | And => cases k
      | Or =>
        match vs, k with
        | x :: y :: rest, k =>
          have k : (notIf x && (chkE Γ false a x && chkE Γ false b (tailB .Or y rest p) && notIf (tailB .Or y rest p))) = true := k
          simp only [Bool.and_eq_true] at k
          obtain ⟨k1, ⟨k2, k3⟩, k4⟩ := k
          exact ⟨x, y, rest, p, rfl, k1, k2, k3, k4⟩
        | [], k => cases k
        | [_], k => cases k
    | _ => cases k
  have he : ∀ m e, chkE Γ m (.or a b) e = true → PE X e (tE fx W (evE P (run P n) (.or a b))) := fun m e k => by
    obtain ⟨x, y, rest, p, rfl, h1, h2, h3, h4⟩ := key m e k
    refine s_or h.hK (sa.e x h2) ?_
    cases rest with
    | nil => exact pe_one (sb.e y h3)
    | cons z zs => exact sb.e _ h3
  have hw : ∀ e, chkE Γ false (.or a b) e = true → PW X e (tT fx W (evE P (run P n) (.or a b))) := fun e k => by
    obtain ⟨x, y, rest, p, rfl, h1, h2, h3, h4⟩ := key _ e k
    refine w_or (sa.t x h2 h1) ?_
    cases rest with
    | nil => exact pw_or1 (sb.t y h3 h4)
    | cons z zs => exact sb.w _ h3 rfl
  exact ⟨fun e k => he _ e k, fun e k _ => (hw e k).pt, fun e k _ => hw e k, fun tg e k => i_seq h.hK (he _ e k), fun es k => by cases es <;> cases k⟩
theorem snd_ife {c a b : E} (h : XOk P n Γ fx W X) (sc : Snd P n c Γ fx W X) (sa : Snd P n a Γ fx W X) (sb : Snd P n b Γ fx W X) : Snd P n (.ife c a b) Γ fx W X := by
  have key : ∀ m e, chkE Γ m (.ife c a b) e = true → ∃ t x y p, e = .IfExp t x y p ∧ notIf t = true ∧ chkE Γ false c t = true ∧ chkE Γ false a x = true ∧ chkE Γ false b y = true := fun m e k => by
    cases e with
    | IfExp t x y p =>
      have k : (notIf t && (chkE Γ false c t && (chkE Γ false a x && chkE Γ false b y))) = true := k
      simp only [Bool.and_eq_true] at k
      obtain ⟨k1, k2, k3, k4⟩ := k
      exact ⟨t, x, y, p, rfl, k1, k2, k3, k4⟩
    | _ => cases k
  have he : ∀ m e, chkE Γ m (.ife c a b) e = true → PE X e (tE fx W (evE P (run P n) (.ife c a b))) := fun m e k => by
    obtain ⟨t, x, y, p, rfl, h1, h2, h3, h4⟩ := key m e k
    exact s_ife (sc.t t h2 h1) (sa.e x h3) (sb.e y h4)
  exact ⟨fun e k => he _ e k, fun e k z => (by
    obtain ⟨t, x, y, p, rfl, _⟩ := key _ e k
    cases z), fun e k z => (by
    obtain ⟨t, x, y, p, rfl, _⟩ := key _ e k
    cases z), fun tg e k => i_seq h.hK (he _ e k), fun es k => by cases es <;> cases k⟩
theorem snd_app {a b : E} (h : XOk P n Γ fx W X) (sa : Snd P n a Γ fx W X) (sb : Snd P n b Γ fx W X) : Snd P n (.app a b) Γ fx W X := by
  have key : ∀ m e, chkE Γ m (.app a b) e = true → ∃ x ap v cp, e = .Call (.Attribute x "append" ap) [v] [] cp ∧ (ap.endLine == cp.line) = true ∧ notStar v = true ∧ notCall x = true ∧ chkE Γ false a x = true ∧ chkE Γ false b v = true := fun m e k => by
    cases e with
    | Call fn es kw cp =>
      cases fn with
      | Attribute x mt ap =>
        match es, kw, k with
        | [v], [], k =>
          have k : (decide (mt = ("append" : Str)) && ((ap.endLine == cp.line) && (notStar v && (notCall x && (chkE Γ false a x && chkE Γ false b v))))) = true := k
          simp only [Bool.and_eq_true] at k
          obtain ⟨k1, k2, k3, k4, k5, k6⟩ := k
          have := of_decide_eq_true k1
          subst this
          exact ⟨x, ap, v, cp, rfl, k2, k3, k4, k5, k6⟩
        | [], [], k => cases k
        | _ :: _ :: _, [], k => cases k
        | [], _ :: _, k => cases k
        | [_], _ :: _, k => cases k
        | _ :: _ :: _, _ :: _, k => cases k
      | _ => cases k
    | _ => cases k
  refine Snd.plain h (fun e k => ?_) (fun e k => ?_) (fun es => by cases es <;> rfl)
  · obtain ⟨x, ap, v, cp, rfl, h1, h2, h3, h4, h5⟩ := key _ e k
    exact ⟨s_app h.hK (sa.e x h4) (sb.e v h5) (base_of h3) h1 (star_of h2), rfl⟩
  · obtain ⟨x, ap, v, cp, rfl, h1, h2, h3, h4, h5⟩ := key _ e k
    exact k
theorem snd_rng1 {a : E} (h : XOk P n Γ fx W X) (sa : Snd P n a Γ fx W X) : Snd P n (.irng1 a) Γ fx W X := by
  have key : ∀ m e, chkE Γ m (.irng1 a) e = true → m = true ∧ ∃ p x cp, e = .Call (.Name "range" p) [x] [] cp ∧ Γ.glo "range" .blt = true ∧ notStar x = true ∧ chkE Γ false a x = true := fun m e k => by
    cases e with
    | Call fn es kw cp =>
      cases fn with
      | Name r p =>
        match es, kw, k with
        | [x], [], k =>
          have k : (m && (decide (r = ("range" : Str)) && (Γ.glo r .blt && (notStar x && chkE Γ false a x)))) = true := k
          simp only [Bool.and_eq_true] at k
          obtain ⟨k0, k1, k2, k3, k4⟩ := k
          have := of_decide_eq_true k1
          subst this
          exact ⟨k0, p, x, cp, rfl, k2, k3, k4⟩
        | [], [], k => cases k
        | _ :: _ :: _, [], k => cases k
        | [], _ :: _, k => cases k
        | [_], _ :: _, k => cases k
        | _ :: _ :: _, _ :: _, k => cases k
      | _ => cases k
    | _ => cases k
  exact ⟨fun e k => (by cases (key _ e k).1), fun e k _ => (by cases (key _ e k).1), fun e k _ => (by cases (key _ e k).1), fun tg e k => (by
    obtain ⟨_, p, x, cp, rfl, h1, h2, h3⟩ := key _ e k
    obtain ⟨h4, h5⟩ := h.glo h1
    exact i_rng1 h4 h5 (sa.e x h3) (star_of h2)), fun es k => (by cases es <;> cases k)⟩
theorem snd_rng2 {a b : E} (h : XOk P n Γ fx W X) (sa : Snd P n a Γ fx W X) (sb : Snd P n b Γ fx W X) : Snd P n (.irng2 a b) Γ fx W X := by
  have key : ∀ m e, chkE Γ m (.irng2 a b) e = true → m = true ∧ ∃ p x y cp, e = .Call (.Name "range" p) [x, y] [] cp ∧ Γ.glo "range" .blt = true ∧ notStar x = true ∧ notStar y = true ∧ chkE Γ false a x = true ∧ chkE Γ false b y = true := fun m e k => by
    cases e with
    | Call fn es kw cp =>
      cases fn with
      | Name r p =>
        match es, kw, k with
        | [x, y], [], k =>
          have k : (m && (decide (r = ("range" : Str)) && (Γ.glo r .blt && (notStar x && (notStar y && (chkE Γ false a x && chkE Γ false b y)))))) = true := k
          simp only [Bool.and_eq_true] at k
          obtain ⟨k0, k1, k2, k3, k4, k5, k6⟩ := k
          have := of_decide_eq_true k1
          subst this
          exact ⟨k0, p, x, y, cp, rfl, k2, k3, k4, k5, k6⟩
        | [], [], k => cases k
        | [_], [], k => cases k
        | _ :: _ :: _ :: _, [], k => cases k
        | [], _ :: _, k => cases k
        | [_], _ :: _, k => cases k
        | [_, _], _ :: _, k => cases k
        | _ :: _ :: _ :: _, _ :: _, k => cases k
      | _ => cases k
    | _ => cases k
  exact ⟨fun e k => (by cases (key _ e k).1), fun e k _ => (by cases (key _ e k).1), fun e k _ => (by cases (key _ e k).1), fun tg e k => (by
    obtain ⟨_, p, x, y, cp, rfl, h1, h2, h3, h4, h5⟩ := key _ e k
    obtain ⟨h6, h7⟩ := h.glo h1
    exact i_rng2 h6 h7 (sa.e x h4) (sb.e y h5) (by rw [star_of h2, star_of h3]; rfl) (star_of h3)), fun es k => (by cases es <;> cases k)⟩
theorem snd_fld {x : String} {o : E} (h : XOk P n Γ fx W X) (so : Snd P n o Γ fx W X) : Snd P n (.fld x o) Γ fx W X := by
  refine Snd.plain h (fun e k => ?_) (fun e k => ?_) (fun es => by cases es <;> rfl)
  · cases e with
    | Attribute e y p =>
      have k : (decide (y = Str.ofString x) && (notCall e && chkE Γ false o e)) = true := k
      simp only [Bool.and_eq_true, decide_eq_true_eq] at k
      exact ⟨s_fld k.1 h.ob (so.e e k.2.2) (base_of k.2.1), rfl⟩
    | _ => cases k
  · cases e <;> first | (cases k; done) | exact k
theorem snd_mk {c : String} {a : E} (h : XOk P n Γ fx W X) (sa : Snd P n a Γ fx W X) : Snd P n (.mk c a) Γ fx W X := by
  refine Snd.plain h (fun e k => ?_) (fun e k => ?_) (fun es => by cases es <;> rfl)
  · cases e with
    | Call fn es kw p =>
      cases fn with
      | Name y p2 =>
        cases kw with
        | cons z zs => cases k
        | nil =>
          have k : (decide (y = Str.ofString c) && (Γ.glo y (.cls c) && (okName y && chkA Γ a es))) = true := k
          simp only [Bool.and_eq_true, decide_eq_true_eq] at k
          obtain ⟨k1, k2, k3, k4⟩ := k
          obtain ⟨h1, h2, h3, h4⟩ := h.glo k2
          cases es with
          | nil =>
            cases a with
            | anil => exact ⟨s_mk0 k1 h.tk h1 h2 h.ob h3 (okName_of k3).1, rfl⟩
            | _ => cases k4
          | cons e es =>
            obtain ⟨h5, h6⟩ := args_of (pos := p) (env := X.env) k4
            exact ⟨s_mk k1 h.tk h1 h2 h.ob h3 (sa.a _ k4) (okName_of k3).1 h5 h6, rfl⟩
      | _ => cases k
    | _ => cases k
  · cases e with
    | Call fn es kw p => cases fn <;> first | (cases k; done) | (cases kw <;> first | (cases k; done) | exact k)
    | _ => cases k
theorem star_all {es : List Expr} {pos : Pos} {env : Env} {c : E} (k : chkA Γ c es = true) : (backTo pos (starEach es env)).all (!·.1) = true := by
  have z := star_none (pos := pos) (env := env) k
  rw [List.all_eq_true]
  intro x hx
  rw [List.any_eq_false] at z
  have := z x hx
  cases hq : x.1 with
  | true => exact absurd hq this
  | false => rfl
theorem snd_meth {x : String} {o a : E} (h : XOk P n Γ fx W X) (so : Snd P n o Γ fx W X) (sa : Snd P n a Γ fx W X) : Snd P n (.meth x o a) Γ fx W X := by
  refine Snd.plain h (fun e k => ?_) (fun e k => ?_) (fun es => by cases es <;> rfl)
  · cases e with
    | Call fn es kw cp =>
      cases fn with
      | Attribute e y ap =>
        cases kw with
        | cons z zs => cases k
        | nil =>
          have k : (decide (y = Str.ofString x) && ((ap.endLine == cp.line) && (decide (es.length < 30) && (notCall e && (chkE Γ false o e && chkA Γ a es))))) = true := by
            cases es with
            | nil => exact k
            | cons e1 es1 => cases es1 <;> exact k
          simp only [Bool.and_eq_true] at k
          obtain ⟨k1, k2, k3, k4, k5, k6⟩ := k
          have ht := meth_ht (env := X.env) (y := y) k4 k2 (star_all (pos := cp) (env := X.env) k6) (of_decide_eq_true k3)
          cases es with
          | nil =>
            cases a with
            | anil => exact ⟨s_meth0 (of_decide_eq_true k1) h.hK h.tk h.ob (so.e e k5) ht, rfl⟩
            | _ => cases k6
          | cons e1 es =>
            obtain ⟨h5, h6⟩ := args_of (pos := cp) (env := X.env) k6
            exact ⟨s_meth (of_decide_eq_true k1) h.hK h.tk h.ob (so.e e k5) (sa.a _ k6) h5 h6 ht, rfl⟩
      | _ => cases k
    | _ => cases k
  · cases e with
    | Call fn es kw p => cases fn <;> first | (cases k; done) | (cases kw <;> first | (cases k; done) | (cases es with
      | nil => exact k
      | cons e1 es1 => cases es1 <;> exact k))
    | _ => cases k
theorem snd_prop {x : String} {o : E} (h : XOk P n Γ fx W X) (so : Snd P n o Γ fx W X) : Snd P n (.prop x o) Γ fx W X := by
  refine Snd.plain h (fun e k => ?_) (fun e k => ?_) (fun es => by cases es <;> rfl)
  · cases e with
    | Attribute e y p =>
      have k : (decide (y = Str.ofString x) && (notCall e && chkE Γ false o e)) = true := k
      simp only [Bool.and_eq_true, decide_eq_true_eq] at k
      exact ⟨s_prop k.1 h.hK h.ob (so.e e k.2.2) (base_of k.2.1), rfl⟩
    | _ => cases k
  · cases e <;> first | (cases k; done) | exact k
theorem snd_scall {c x : String} {a : E} (h : XOk P n Γ fx W X) (sa : Snd P n a Γ fx W X) : Snd P n (.scall c x a) Γ fx W X := by
  refine Snd.plain h (fun e k => ?_) (fun e k => ?_) (fun es => by cases es <;> rfl)
  · cases e with
    | Call fn es kw cp =>
      cases fn with
      | Attribute e y ap =>
        cases e with
        | Name z zp =>
          cases kw with
          | cons z zs => cases k
          | nil =>
            have k : (decide (z = Str.ofString c) && (decide (y = Str.ofString x) && (Γ.glo z (.cls c) && (okName z && ((ap.endLine == cp.line) && (decide (es.length < 30) && (!es.isEmpty && chkA Γ a es))))))) = true := by
              cases es with
              | nil => exact k
              | cons e1 es1 => cases es1 <;> exact k
            simp only [Bool.and_eq_true] at k
            obtain ⟨k1, k2, k3, k4, k5, k6, k7, k8⟩ := k
            have ht := meth_ht (env := X.env) (o := .Name z zp) (y := y) rfl k5 (star_all (pos := cp) (env := X.env) k8) (of_decide_eq_true k6)
            obtain ⟨h1, h2, h3, h4⟩ := h.glo k3
            cases es with
            | nil => cases k7
            | cons e1 es =>
              obtain ⟨h5, h6⟩ := args_of (pos := cp) (env := X.env) k8
              exact ⟨s_scall (of_decide_eq_true k1) (of_decide_eq_true k2) h.hK h.tk h.ob h1 (okName_of k4).1 (sa.a _ k8) h5 h6 ht, rfl⟩
        | _ => cases k
      | _ => cases k
    | _ => cases k
  · cases e with
    | Call fn es kw p => cases fn <;> first | (cases k; done) | (rename_i e y ap; cases e <;> first | (cases k; done) | (cases kw <;> first | (cases k; done) | (cases es with
      | nil => exact k
      | cons e1 es1 => cases es1 <;> exact k)))
    | _ => cases k
theorem last_marks {o1 o2 : CmpOp} {b c : Expr} (hc : notSet c = true) : lastMarks [o1, o2] [b, c] = false := by
  cases c <;> first | rfl | cases hc
theorem snd_chain {o1 o2 : Cop} {a b c : E} (h : XOk P n Γ fx W X) (sa : Snd P n a Γ fx W X) (sb : Snd P n b Γ fx W X) (sc : Snd P n c Γ fx W X) : Snd P n (.chain o1 o2 a b c) Γ fx W X := by
  have key : ∀ m e, chkE Γ m (.chain o1 o2 a b c) e = true → ∃ l r1 r2 p, e = .Compare l [o1.op, o2.op] [r1, r2] p ∧ notSet r2 = true ∧ chkE Γ false a l = true ∧ chkE Γ false b r1 = true ∧ chkE Γ false c r2 = true := fun m e k => by
    cases e with
    | Compare l ops rs p =>
      match ops, rs, k with
      | [p1, p2], [r1, r2], k =>
        have k : (decide (p1 = o1.op) && (decide (p2 = o2.op) && (notSet r2 && (chkE Γ false a l && (chkE Γ false b r1 && chkE Γ false c r2))))) = true := k
        simp only [Bool.and_eq_true] at k
        obtain ⟨k1, k2, k3, k4, k5, k6⟩ := k
        have := of_decide_eq_true k1
        subst this
        have := of_decide_eq_true k2
        subst this
        exact ⟨l, r1, r2, p, rfl, k3, k4, k5, k6⟩
      | [], _, k => cases k
      | [_], _, k => cases k
      | _ :: _ :: _ :: _, _, k => cases k
      | [_, _], [], k => cases k
      | [_, _], [_], k => cases k
      | [_, _], _ :: _ :: _ :: _, k => cases k
    | _ => cases k
  have he : ∀ m e, chkE Γ m (.chain o1 o2 a b c) e = true → PE X e (tE fx W (evE P (run P n) (.chain o1 o2 a b c))) := fun m e k => by
    obtain ⟨l, r1, r2, p, rfl, h0, h1, h2, h3⟩ := key m e k
    exact s_chain (opD_cmp o1 h.hK h.un) (opD_cmp o2 h.hK h.un) (sa.e l h1) (sb.e r1 h2) (sc.e r2 h3) (last_marks h0)
  have ht : ∀ m e, chkE Γ m (.chain o1 o2 a b c) e = true → PT X e (tT fx W (evE P (run P n) (.chain o1 o2 a b c))) := fun m e k => by
    obtain ⟨l, r1, r2, p, rfl, h0, h1, h2, h3⟩ := key m e k
    exact t_chain (opD_cmp o1 h.hK h.un) (opD_cmp o2 h.hK h.un) (sa.e l h1) (sb.e r1 h2) (sc.e r2 h3) (last_marks h0)
  exact ⟨fun e k => he _ e k, fun e k _ => ht _ e k, fun e k b => (by
    obtain ⟨l, r1, r2, p, rfl, _⟩ := key _ e k
    cases b), fun tg e k => i_seq h.hK (he _ e k), fun es k => (by cases es <;> cases k)⟩
/-- what a comprehension's block needs -/
structure LcOk (P : Prog) (n : Nat) (Γ : Gam) (fx : Fix) (W : WX) (X : Cx) (own : List Nat) (k : ItK) (G : TG) (sg : DSt → D → Option DSt) (fi : DSt → Store → Res D) (c elt : E) (el tg iter : Expr) (ifs : List Expr) (scope : Scope) : Prop where
  ok : BlkOk X.N X.env.scope scope (ownN Γ own)
  ht : TgOk fx.K fx.ca G sg own
  hi : PI X tg iter (tI fx W k fi)
  hg : ∀ (s : Shared) (H : Hp) (C : Addr) (cl : List (Str × Addr)) (fp : List Addr), PG (X.blk s H scope (compEnvC scope cl C X.env) fp) tg G
  hs : ∀ x, foldedSetIterable iter X.env x = pure x
  he : ∀ (s : Shared) (H : Hp) (C : Addr) (cl : List (Str × Addr)) (fp : List Addr), PE (X.blk s H scope (compEnvC scope cl C X.env) fp) el (tE' fx W0 (evE P (run P n) elt))
  ht' : ∃ tt, (tt = tT' fx W0 (evE P (run P n) c) ∨ (tt = tYes ∧ evE P (run P n) c = fun _ S => .ok (.bl true) S)) ∧ ∀ (s : Shared) (H : Hp) (C : Addr) (cl : List (Str × Addr)) (fp : List Addr), PTs (X.blk s H scope (compEnvC scope cl C X.env) fp) ifs tt
theorem ownN_snd {own : List Nat} : (ownN Γ own).map (·.2) = own := by
  unfold ownN
  rw [List.map_map]
  exact (List.map_congr_left fun x _ => rfl).trans (List.map_id own)
/-- what is walked, by its text -/
theorem chkI_ok {k : ItK} {tg : Tg} {it : E} {iter te : Expr} {p : Nat → Str → Bool} (h : XOk P n Γ fx W X) (si : Snd P n it Γ fx W X) (hc : chkI Γ k tg (chkE Γ true it) (chkA Γ it) iter = true) (ht : chkT p tg te = true) : PI X te iter (tI fx W k (evE P (run P n) it)) ∧ ∀ x, foldedSetIterable iter X.env x = pure x := by
  have two : tg.isT = true → ∃ es kk q, te = .Tuple es kk q := fun z => by
    cases tg with
    | n i => cases z
    | t is =>
      cases te with
      | Tuple es kk q => exact ⟨es, kk, q, rfl⟩
      | _ => cases ht
  have plain : k = .seq → notSet iter = true → chkE Γ true it iter = true → PI X te iter (tI fx W k (evE P (run P n) it)) ∧ ∀ x, foldedSetIterable iter X.env x = pure x := fun e1 e2 e3 => by
    subst e1
    exact ⟨si.i _ _ e3, fold_of e2⟩
  have key : ∀ {z : Str} {q : Pos} {es : List Expr} {kw : List Keyword} {cp : Pos}, iter = .Call (.Name z q) es kw cp → k ≠ .seq → (decide (z = k.nm) && (Γ.glo z .blt && (k.tgOk tg && (decide (es.length = k.ar) && (kw.isEmpty && chkA Γ it es))))) = true → PI X te iter (tI fx W k (evE P (run P n) it)) ∧ ∀ x, foldedSetIterable iter X.env x = pure x := fun {z q es kw cp} ei nk hc2 => by
    subst ei
    simp only [Bool.and_eq_true, decide_eq_true_eq, List.isEmpty_iff] at hc2
    obtain ⟨rfl, h2, h3, h4, rfl, h6⟩ := hc2
    obtain ⟨g1, g2⟩ := h.glo h2
    have pa := si.a es h6
    refine ⟨?_, fun x => rfl⟩
    have h4 : es.length = k.ar := h4
    have star : ∀ {e : Expr} {r : List Expr} {c : E}, chkA Γ c (e :: r) = true → starEach (e :: r) X.env = (false, eval e X.env) :: starEach r X.env ∧ ∃ c', chkA Γ c' r = true := fun {e r c} z => by
      cases c with
      | acons a b =>
        have z : (notStar e && (chkE Γ false a e && chkA Γ b r)) = true := z
        simp only [Bool.and_eq_true] at z
        exact ⟨star_of z.1, _, z.2.2⟩
      | _ => cases z
    cases k with
    | seq => exact absurd rfl nk
    | zip =>
      obtain ⟨es2, kk, q2, rfl⟩ := two h3
      match es, h4, h6, pa with
      | [a, b], _, h6, pa =>
        obtain ⟨s1, c', h7⟩ := star h6
        obtain ⟨s2, _⟩ := star h7
        exact i_zip h.hK g1 g2 pa s1 s2
    | enum =>
      obtain ⟨es2, kk, q2, rfl⟩ := two h3
      match es, h4, h6, pa with
      | [a], _, h6, pa => exact i_enum h.hK g1 g2 pa (star h6).1
    | rev =>
      match es, h4, h6, pa with
      | [a], _, h6, pa => exact i_rev h.hK g1 g2 pa (star h6).1
  have other : (∀ z q es kw cp, iter ≠ .Call (.Name z q) es kw cp) → chkI Γ k tg (chkE Γ true it) (chkA Γ it) iter = (match k with
      | .seq => notSet iter && chkE Γ true it iter
      | _ => false) := fun no => by
    cases iter with
    | Call f es kw cp =>
      cases f with
      | Name z q => exact absurd rfl (no z q es kw cp)
      | _ => cases k <;> rfl
    | _ => cases k <;> rfl
  by_cases nc : ∃ z q es kw cp, iter = .Call (.Name z q) es kw cp
  · obtain ⟨z, q, es, kw, cp, rfl⟩ := nc
    cases k with
    | seq => exact plain rfl rfl hc
    | zip => exact key rfl (by decide) hc
    | enum => exact key rfl (by decide) hc
    | rev => exact key rfl (by decide) hc
  · rw [other (fun z q es kw cp e => nc ⟨z, q, es, kw, cp, e⟩)] at hc
    cases k with
    | seq =>
      have hc : (notSet iter && chkE Γ true it iter) = true := hc
      rw [Bool.and_eq_true] at hc
      exact plain rfl hc.1 hc.2
    | _ => cases hc
theorem lc_key {nw : Bool} {own : List Nat} {k0 : ItK} {tg0 : Tg} {it c elt : E} (h : XOk P n Γ fx W X) (si : Snd P n it Γ fx W X) (sc : ∀ {X Γ fx W}, XOk P n Γ fx W X → ∀ e, c = .cnd e → Snd P n e Γ fx W X) (se : ∀ {X Γ fx W}, XOk P n Γ fx W X → Snd P n elt Γ fx W X) :
    ∀ m e, chkE Γ m (.comp nw own k0 tg0 it c elt) e = true → ∃ el tg iter ifs scope p, e = .ListComp el [⟨tg, iter, ifs, 0⟩] scope p ∧ LcOk P n Γ fx W X own k0 (gT fx.K tg0) (fun σ x => setT tg0 σ x) (evE P (run P n) it) c elt el tg iter ifs scope := fun m e k => by
  cases e with
  | ListComp el gens scope p =>
    have k : (genOk gens && (tg0.slots.all own.contains && (blkC Γ.N Γ.sc scope (ownN Γ own) && (chkT (Γ.own scope) tg0 (genT gens) && (chkI Γ k0 tg0 (chkE Γ true it) (chkA Γ it) (genI gens) && (chkC (Γ.blk scope) c (genF gens) && chkE (Γ.blk scope) false elt el)))))) = true := k
    simp only [Bool.and_eq_true] at k
    obtain ⟨k0', k1, k3, k4, k7, k8, k9⟩ := k
    have eg := gen_of k0'
    generalize genT gens = tx at *
    generalize genI gens = iter at *
    generalize genF gens = ifs at *
    subst eg
    obtain ⟨pi, fo⟩ := chkI_ok h si k7 k4
    refine ⟨el, _, iter, ifs, scope, p, rfl, ⟨?_, ?_, pi, fun s H C cl fp => ?_, fo, fun s H C cl fp => pe_all fun fx' e1 e2 => (se (h.blk s H scope C cl fp fx' e1 e2)).e el k9, ?_⟩⟩
    · rw [h.N, h.sc]
      exact blkOk_by k3
    · exact tg_ok fun i hi => List.contains_iff_mem.mp (List.all_eq_true.mp k1 i hi)
    · have hb := h.blk s H scope C cl fp fx rfl rfl
      have z := pg_of (X := X.blk s H scope (compEnvC scope cl C X.env) fp) h.calm (fun i x q hq => ?_) k4
      · rw [h.hK]
        exact z
      · unfold Gam.own at hq
        rw [Bool.and_eq_true] at hq
        obtain ⟨k4, k5⟩ := hq
        obtain ⟨h1, h2⟩ := hb.loc k4
        refine pg_name h.nd h1 h2 ?_
        rw [Bool.or_eq_true] at k5
        rcases k5 with k5 | k5
        · refine .inr ?_
          have e3 := of_decide_eq_true k5
          rw [hb.sc]
          exact e3
        · refine .inl ?_
          have e3 := of_decide_eq_true k5
          show (scope.names.lookup x == some .cell) = true
          rw [e3]
          rfl
    · cases c with
      | bl b =>
        cases b with
        | true =>
          cases ifs with
          | nil => exact ⟨tYes, .inr ⟨rfl, rfl⟩, fun s H C cl fp => pts_nil⟩
          | cons z zs => cases zs <;> cases k8
        | false => cases ifs with
          | nil => cases k8
          | cons z zs => cases zs <;> cases k8
      | cnd e =>
        match ifs, k8 with
        | [i], k8 =>
          have k8 : (notIf i && chkE (Γ.blk scope) false e i) = true := k8
          rw [Bool.and_eq_true] at k8
          exact ⟨_, .inl rfl, fun s H C cl fp => pts_one (pt_all fun fx' e1 e2 => (sc (h.blk s H scope C cl fp fx' e1 e2) e rfl).t i k8.2 k8.1)⟩
        | [], k8 => cases k8
        | _ :: _ :: _, k8 => cases k8
      | _ =>
        cases ifs with
        | nil => cases k8
        | cons z zs => cases zs <;> cases k8
  | _ => cases k
theorem snd_comp {nw : Bool} {own : List Nat} {k0 : ItK} {tg0 : Tg} {it c elt : E} (h : XOk P n Γ fx W X) (si : Snd P n it Γ fx W X) (sc : ∀ {X Γ fx W}, XOk P n Γ fx W X → ∀ e, c = .cnd e → Snd P n e Γ fx W X) (se : ∀ {X Γ fx W}, XOk P n Γ fx W X → Snd P n elt Γ fx W X) : Snd P n (.comp nw own k0 tg0 it c elt) Γ fx W X := by
  have key := lc_key (nw := nw) (own := own) (k0 := k0) (tg0 := tg0) h si sc se
  refine Snd.plain h (fun e k => ?_) (fun e k => ?_) (fun es => by cases es <;> rfl)
  · obtain ⟨el, tg, iter, ifs, scope, p, rfl, L⟩ := key _ e k
    obtain ⟨tt, h1, h2⟩ := L.ht'
    have z := pe_lc (own := ownN Γ own) h.calm h.nd L.hi L.ok L.hg h2 L.he L.hs (pos := p)
    rw [ownN_snd] at z
    exact ⟨pe_imp z (lc_readG (nw := nw) L.ht h1), rfl⟩
  · cases e <;> first | (cases k; done) | exact k
end
/-- THE CODE IS SOUND -/
theorem snd {P : Prog} {n : Nat} : ∀ (c : E) {Γ : Gam} {fx : Fix} {W : WX} {X : Cx}, XOk P n Γ fx W X → Snd P n c Γ fx W X ∧ (∀ e, c = .part e → Snd P n e Γ fx W X) ∧ (∀ e, c = .cnd e → Snd P n e Γ fx W X) := by
  have none : ∀ (c : E) {Γ : Gam} {fx : Fix} {W : WX} {X : Cx}, XOk P n Γ fx W X → (∀ m e, chkE Γ m c e = false) → (∀ es, chkA Γ c es = false) → Snd P n c Γ fx W X := fun c Γ fx W X h h1 h2 =>
    ⟨fun e k => (by rw [h1] at k; cases k), fun e k => (by rw [h1] at k; cases k), fun e k => (by rw [h1] at k; cases k), fun tg e k => (by rw [h1] at k; cases k), fun es k => (by rw [h2] at k; cases k)⟩
  intro c
  induction c with
  | var i => exact fun h => ⟨snd_var h, fun _ z => (by cases z), fun _ z => (by cases z)⟩
  | int i => exact fun h => ⟨snd_int h, fun _ z => (by cases z), fun _ z => (by cases z)⟩
  | bl i => exact fun h => ⟨snd_bl h, fun _ z => (by cases z), fun _ z => (by cases z)⟩
  | non => exact fun h => ⟨snd_non h, fun _ z => (by cases z), fun _ z => (by cases z)⟩
  | str i => exact fun h => ⟨snd_str h, fun _ z => (by cases z), fun _ z => (by cases z)⟩
  | gint x i => exact fun h => ⟨snd_gint h, fun _ z => (by cases z), fun _ z => (by cases z)⟩
  | bin op a b iha ihb => exact fun h => ⟨snd_bin h (iha h).1 (ihb h).1, fun _ z => (by cases z), fun _ z => (by cases z)⟩
  | frz a iha => exact fun h => ⟨snd_frz h (iha h).1, fun _ z => (by cases z), fun _ z => (by cases z)⟩
  | catc a b iha ihb => exact fun h => ⟨snd_catc h (iha h).1 (ihb h).1, fun _ z => (by cases z), fun _ z => (by cases z)⟩
  | neg a iha => exact fun h => ⟨snd_neg h (iha h).1, fun _ z => (by cases z), fun _ z => (by cases z)⟩
  | not a iha => exact fun h => ⟨snd_not h (iha h).1, fun _ z => (by cases z), fun _ z => (by cases z)⟩
  | cmp op a b iha ihb => exact fun h => ⟨snd_cmp h (iha h).1 (ihb h).1, fun _ z => (by cases z), fun _ z => (by cases z)⟩
  | chain o1 o2 a b c iha ihb ihc => exact fun h => ⟨snd_chain h (iha h).1 (ihb h).1 (ihc h).1, fun _ z => (by cases z), fun _ z => (by cases z)⟩
  | ical o a iho iha => exact fun h => ⟨snd_ical h (iho h).1 (iha h).1, fun _ z => (by cases z), fun _ z => (by cases z)⟩
  | scall c x a iha => exact fun h => ⟨snd_scall h (iha h).1, fun _ z => (by cases z), fun _ z => (by cases z)⟩
  | prop x o iho => exact fun h => ⟨snd_prop h (iho h).1, fun _ z => (by cases z), fun _ z => (by cases z)⟩
  | stuck => exact fun h => ⟨none _ h (fun m e => by cases e <;> rfl) (fun es => by cases es <;> rfl), fun _ z => (by cases z), fun _ z => (by cases z)⟩
  | fld x o iho => exact fun h => ⟨snd_fld h (iho h).1, fun _ z => (by cases z), fun _ z => (by cases z)⟩
  | mk c a iha => exact fun h => ⟨snd_mk h (iha h).1, fun _ z => (by cases z), fun _ z => (by cases z)⟩
  | meth x o a iho iha => exact fun h => ⟨snd_meth h (iho h).1 (iha h).1, fun _ z => (by cases z), fun _ z => (by cases z)⟩
  | and a b iha ihb => exact fun h => ⟨snd_and h (iha h).1 (ihb h).1, fun _ z => (by cases z), fun _ z => (by cases z)⟩
  | or a b iha ihb => exact fun h => ⟨snd_or h (iha h).1 (ihb h).1, fun _ z => (by cases z), fun _ z => (by cases z)⟩
  | ife c a b ihc iha ihb => exact fun h => ⟨snd_ife h (ihc h).1 (iha h).1 (ihb h).1, fun _ z => (by cases z), fun _ z => (by cases z)⟩
  | tup a iha => exact fun h => ⟨snd_tup h (iha h).1, fun _ z => (by cases z), fun _ z => (by cases z)⟩
  | lst a iha => exact fun h => ⟨snd_lst h (iha h).1, fun _ z => (by cases z), fun _ z => (by cases z)⟩
  | cell a iha => exact fun h => ⟨snd_cell h (iha h).1, fun _ z => (by cases z), fun _ z => (by cases z)⟩
  | anil => exact fun h => ⟨⟨fun e k => (by cases e <;> cases k), fun e k => (by cases e <;> cases k), fun e k => (by cases e <;> cases k), fun tg e k => (by cases e <;> cases k), fun es k => by
      cases es with
      | nil => exact s_anil
      | cons x xs => cases k⟩, fun _ z => (by cases z), fun _ z => (by cases z)⟩
  | acons a b iha ihb => exact fun h => ⟨⟨fun e k => (by cases e <;> cases k), fun e k => (by cases e <;> cases k), fun e k => (by cases e <;> cases k), fun tg e k => (by cases e <;> cases k), fun es k => by
      cases es with
      | nil => cases k
      | cons x xs =>
        have k : (notStar x && (chkE _ false a x && chkA _ b xs)) = true := k
        simp only [Bool.and_eq_true] at k
        exact s_acons ((iha h).1.e x k.2.1) ((ihb h).1.a xs k.2.2) (star_of k.1)⟩, fun _ z => (by cases z), fun _ z => (by cases z)⟩
  | idx a b iha ihb => exact fun h => ⟨snd_idx h (iha h).1 (ihb h).1, fun _ z => (by cases z), fun _ z => (by cases z)⟩
  | rev a iha => exact fun h => ⟨snd_rev h (iha h).1, fun _ z => (by cases z), fun _ z => (by cases z)⟩
  | cut a lo hi iha ihl ihh => exact fun h => ⟨snd_cut h (iha h).1 (ihl h).2.1 (ihh h).2.1, fun _ z => (by cases z), fun _ z => (by cases z)⟩
  | nopart => exact fun h => ⟨none _ h (fun m e => by cases e <;> rfl) (fun es => by cases es <;> rfl), fun _ z => (by cases z), fun _ z => (by cases z)⟩
  | part e ihe => exact fun h => ⟨none _ h (fun m e => by cases e <;> rfl) (fun es => by cases es <;> rfl), fun _ z => (by cases z; exact (ihe h).1), fun _ z => (by cases z)⟩
  | call m f a iha => exact fun h => ⟨snd_call h (iha h).1, fun _ z => (by cases z), fun _ z => (by cases z)⟩
  | bi b a iha => exact fun h => ⟨snd_bi h (iha h).1, fun _ z => (by cases z), fun _ z => (by cases z)⟩
  | isi a cs iha => exact fun h => ⟨snd_isi h (iha h).1, fun _ z => (by cases z), fun _ z => (by cases z)⟩
  | app a b iha ihb => exact fun h => ⟨snd_app h (iha h).1 (ihb h).1, fun _ z => (by cases z), fun _ z => (by cases z)⟩
  | comp nw own k tg it c elt ihi ihc ihe => exact fun h => ⟨snd_comp h (ihi h).1 (fun h2 => (ihc h2).2.2) (fun h2 => (ihe h2).1), fun _ z => (by cases z), fun _ z => (by cases z)⟩
  | irng1 a iha => exact fun h => ⟨snd_rng1 h (iha h).1, fun _ z => (by cases z), fun _ z => (by cases z)⟩
  | irng2 a b iha ihb => exact fun h => ⟨snd_rng2 h (iha h).1 (ihb h).1, fun _ z => (by cases z), fun _ z => (by cases z)⟩
  | cnd e ihe => exact fun h => ⟨none _ h (fun m e => by cases e <;> rfl) (fun es => by cases es <;> rfl), fun _ z => (by cases z), fun _ z => (by cases z; exact (ihe h).1)⟩
end MX
end

section
set_option maxRecDepth 100000
set_option maxHeartbeats 4000000
namespace MX
open PySem PySem.Spec PyProof.Rows L2

/-- name = [..] that is stored within the comprehension's frame -/
def swB (Γ : Gam) (y : Str) (py : Pos) (scope : Scope) (pos : Pos) : Bool :=
  decide (Γ.sc.names.lookup y = some .local) && ((py.line == pos.line) && !(scope.names.any fun (n, k) => n == y && (k == .local || k == .cell)))
def augOk (op : Bop) : Bool := match op with
  | .add => true
  | .sub => true
  | _ => false
/-- a suite's expression; o, n: the exception's slot and name -/
def isExcName (Γ : Gam) (o : Option Nat) : Expr → Bool
  | .Name n _ => match o with
    | some i => Γ.vis i n && okName n
    | none => false
  | _ => false
mutual
def chkX (Γ : Gam) (o : Option Nat) : XE → Expr → Bool
  | .str s, .Constant (.str x) _ _ => decide (x = Str.ofString s)
  | .int i, .Constant (.int j) _ _ => decide (i = j)
  | .bl b, .Constant (.bool c) _ _ => b == c
  | .non, .Constant .none _ _ => true
  | .var i, .Name x _ => Γ.vis i x && okName x
  | .fld f, .Attribute e y _ => decide (y = Str.ofString f) && (notCall e && isExcName Γ o e)
  | .isi c, .Call (.Name g _) [e, .Name y _] [] _ => decide (g = ("isinstance" : Str)) && (Γ.glo g .blt && (notStar e && (isExcName Γ o e && (okName y && (decide (y = Str.ofString c) && (Γ.glo y (.exc c) || (decide (c = "ValueError") && Γ.glo y .blt)))))))
  | .not a, .UnaryOp .Not x _ => chkX Γ o a x
  | .and a b, .BoolOp .And (x :: y :: rest) p => chkX Γ o a x && chkX Γ o b (tailB .And y rest p)
  | .tup as, .Tuple es _ _ => chkXa Γ o as es
  | _, _ => false
def chkXa (Γ : Gam) (o : Option Nat) : XE → List Expr → Bool
  | .anil, [] => true
  | .acons e r, x :: xs => notStar x && (chkX Γ o e x && chkXa Γ o r xs)
  | _, _ => false
end
/-- a suite: stores, then a return -/
def chkXs (Γ : Gam) (o : Option Nat) : List (Nat × XE) → XE → List Stmt → Bool
  | [], r, [.Return (some e) _] => chkX Γ o r e
  | (i, c) :: l, r, .Assign [.Name x _] v _ :: ss => (Γ.loc i x && (!decide (o = some i) && (notComp v && chkX Γ o c v))) && chkXs Γ o l r ss
  | _, _, _ => false
def nmB (Γ : Gam) : Option Nat → Option Str → Bool
  | none, none => true
  | some i, some x => decide (Γ.N[i]? = some x) && decide (Γ.sc.names.lookup x = some .local)
  | _, _ => false
def chkH (Γ : Gam) : Sx → List ExceptHandler → Bool
  | .hnil, [] => true
  | .hcons c o as r h, .ExceptHandler (some (.Name x _)) n (b :: suite) _ :: hs => (Γ.glo x (.exc c) && okName x) && (nmB Γ o n && (chkXs Γ o as r (b :: suite) && chkH Γ h hs))
  | _, _ => false
/-- an exception, made: C('..') or C(e, ..) -/
def chkR (Γ : Gam) (as : E) (es : List Expr) : Bool := match as, es with
  | .anil, [.Constant (.str _) _ _] => true
  | .acons _ _, _ => chkA Γ as es
  | _, _ => false
def hCons : Sx → Bool
  | .hcons _ _ _ _ _ => true
  | _ => false
mutual
def chkS (Γ : Gam) : Sx → Stmt → Bool
  | .pass, .Pass _ => true
  | .pass, .Expr (.Constant (.str _) _ _) _ => true
  | .brk, .Break _ => true
  | .cont, .Continue _ => true
  | .asg i e, .Assign [.Name x _] v _ => Γ.loc i x && chkE Γ false e v
  | .sfld x o e, .Assign [.Attribute t y _] v _ => decide (y = Str.ofString x) && (true && (chkE Γ false o t && chkE Γ false e v))
  | .sidx o i e, .Assign [.Subscript t s _] v _ => true && (notSlice s && (chkE Γ false o t && (chkE Γ false i s && chkE Γ false e v)))
  | .stuck, _ => true
  | .nim, .Return (some (.Name x _)) _ => decide (x = ("NotImplemented" : Str)) && Γ.glo x .blt
  | .raise c as, .Raise (some (.Call (.Name x _) es [] _)) none _ => (Γ.glo x (.exc c) && okName x) && chkR Γ as es
  | .try_ b h, .Try body hs [] [] _ => chkSs Γ b body && (hCons h && chkH Γ h hs)
  | .aug op i e, .AugAssign (.Name x _) o v _ => augOk op && (decide (o = op.op) && (Γ.loc i x && chkE Γ false e v))
  | .ex e, .Expr v _ => notComp v && chkE Γ false e v
  | .ret e, .Return (some v) _ => chkE Γ false e v
  | .retN, .Return none _ => true
  | .ifs c a b, .If t x y _ => notIf t && (chkE Γ false c t && (chkSs Γ a x && chkSs Γ b y))
  | .whl _ c b, .While t x [] _ => notIf t && (chkE Γ false c t && chkSs Γ b x)
  | .for_ k tg it b, .For te iter body [] _ => chkT Γ.loc tg te && (chkI Γ k tg (chkE Γ true it) (chkA Γ it) iter && chkSs Γ b body)
  | _, _ => false
def chkSs (Γ : Gam) : Sx → List Stmt → Bool
  | .nil, [] => true
  | .seq a b, s :: r => chkS Γ a s && chkSs Γ b r
  | _, _ => false
end
/-- a def's body: exceptions may leave it, names may be stored -/
structure SOk (P : Prog) (n : Nat) (Γ : Gam) (fx : Fix) (W : WX) (X : Cx) : Prop where
  x : XOk P n Γ fx W X
  fn : ∀ y, X.fn y = true
  po : PassesOwn (model X.prog X.w) X.A X.env X.xe
  kind : X.env.scope.kind = .function
  hs : X.stack = X.env :: X.outer
  hf : X.env.frame = some X.env.locals
  room : Room 1 X.A
section
variable {P : Prog} {n : Nat} {Γ : Gam} {fx : Fix} {W : WX} {X : Cx}
theorem swaps_att {v o : Expr} {m : Str} {ap : Pos} {l : Nat} {env : Env} : swapsWith v (some (.Attribute o m ap)) l env = pure false := by cases v <;> rfl
theorem swaps_sub {v o i : Expr} {ap : Pos} {l : Nat} {env : Env} : swapsWith v (some (.Subscript o i ap)) l env = pure false := by cases v <;> rfl
theorem swaps_no {e : Expr} {t : Option Expr} {l : Nat} {env : Env} (h : notComp e = true) : swapsWith e t l env = pure false := by
  cases e <;> first | rfl | cases h
theorem asg_sub {o i : Expr} {sp : Pos} {env : Env} (h : notSlice i = true) : ∀ u, assign (.Subscript o i sp) env u = (do
      let ov ← holding [u] (eval o env)
      let iv ← holding [u, ov] (eval i env)
      standAt sp
      holding [u, ov, iv] (setItem ov iv u)
      release [u, ov, iv] []) := fun u => by
  cases i <;> first | rfl | cases h
theorem swaps_lc {el : Expr} {gs : List Comprehension} {scope : Scope} {pos py : Pos} {y : Str} {l : Nat} {env : Env} (hk : env.scope.kind = .function) {Γ : Gam} (hs : env.scope = Γ.sc) (h : swB Γ y py scope pos = false) : swapsWith (.ListComp el gs scope pos) (some (.Name y py)) l env = pure false := by
  have hb : env.blockKind = .function := by unfold Env.blockKind; rw [hk]; rfl
  have e : swapsWith (.ListComp el gs scope pos) (some (.Name y py)) l env = pure (env.blockKind == .function && env.kindOf y == some .local && py.line == pos.line && !(scope.names.any fun (n, k) => n == y && (k == .local || k == .cell))) := rfl
  rw [e, hb]
  unfold swB at h
  have ek : env.kindOf y = Γ.sc.names.lookup y := by unfold Env.kindOf; rw [hs]
  rw [ek]
  have : (Γ.sc.names.lookup y == some NameKind.local) = decide (Γ.sc.names.lookup y = some .local) := by
    cases hd : decide (Γ.sc.names.lookup y = some .local) with
    | true => exact beq_iff_eq.mpr (of_decide_eq_true hd)
    | false => exact beq_eq_false_iff_ne.mpr (of_decide_eq_false hd)
  rw [this]
  congr 1
  rw [show (ScopeKind.function == ScopeKind.function) = true from rfl, Bool.true_and, Bool.and_assoc]
  exact h
theorem isLC (e : Expr) : (∃ el gs sc p, e = .ListComp el gs sc p) ∨ notComp e = true ∨ (∃ a b c d, e = .SetComp a b c d) ∨ (∃ a b c d f, e = .DictComp a b c d f) := by
  cases e <;> first | exact .inr (.inl rfl) | exact .inl ⟨_, _, _, _, rfl⟩ | exact .inr (.inr (.inl ⟨_, _, _, _, rfl⟩)) | exact .inr (.inr (.inr ⟨_, _, _, _, _, rfl⟩))
theorem not_setc {c : E} {a b c' d} : chkE Γ false c (.SetComp a b c' d) = false := by cases c <;> rfl
theorem not_dictc {c : E} {a b c' d f} : chkE Γ false c (.DictComp a b c' d f) = false := by cases c <;> rfl
theorem lc_only {c : E} {el gs sc p} (k : chkE Γ false c (.ListComp el gs sc p) = true) : ∃ nw own kk tg it cc elt, c = .comp nw own kk tg it cc elt := by
  cases c <;> first | (cases k; done) | exact ⟨_, _, _, _, _, _, _, rfl⟩
/-- x = e -/
theorem asg_ok {i : Nat} {e : E} {x : Str} {p pos : Pos} {v : Expr} (h : SOk P n Γ fx W X) (hl : Γ.loc i x = true) (k : chkE Γ false e v = true) : PS X (.Assign [.Name x p] v pos) (tS fx W fun σ S => (evE P (run P n) e σ S).sr σ fun d S1 => .nx (σ.set i (some d)) S1) := by
  obtain ⟨h1, h2⟩ := h.x.loc hl
  have he := (snd e h.x).1.e v k
  rcases isLC v with ⟨el, gs, sc, p3, rfl⟩ | hn | ⟨_, _, _, _, rfl⟩ | ⟨_, _, _, _, _, rfl⟩
  · cases hsw : swB Γ x p sc p3 with
    | false => exact ss_asg h.x.nd h1 h2 he (swaps_lc h.kind h.x.sc hsw) (.inl (h.fn _))
    | true =>
      obtain ⟨nw, own, kk, tg0, it, c, elt, rfl⟩ := lc_only k
      · obtain ⟨el', tg, iter, ifs, sc', p', eq, L⟩ := lc_key h.x (snd it h.x).1 (fun h2 => (snd c h2).2.2) (fun h2 => (snd elt h2).1) _ _ k
        cases eq
        obtain ⟨tt, ht1, ht2⟩ := L.ht'
        unfold swB at hsw
        simp only [Bool.and_eq_true, Bool.not_eq_true'] at hsw
        obtain ⟨w1, w2, w3⟩ := hsw
        have hyl : X.env.scope.names.lookup x = some .local := by
          rw [h.x.sc]
          exact of_decide_eq_true w1
        have z := ps_setLc (own := ownN Γ own) (i := i) (py := p) (spos := pos) h.x.calm h.x.nd h1 hyl (sw_true h.kind hyl w2 w3) L.hi L.ok L.hg ht2 L.he L.hs
        rw [ownN_snd] at z
        refine ps_imp z fun D σ H ⟨g, dσ, S, r, sl, q⟩ => ?_
        refine lc_readG (W := W) (nw := nw) L.ht ht1 σ H _ ?_
        refine tE.sr q r sl fun d S1 v g1 H1 _ l1 r1 rv q1 => ?_
        exact q1 g1 H1 _ (Gh.le.refl g1) r1 ((sl.mono l1).set i rv)
  · exact ss_asg h.x.nd h1 h2 he (swaps_no hn) (.inl (h.fn _))
  · rw [not_setc] at k
    cases k
  · rw [not_dictc] at k
    cases k
theorem ss_nim {st : Stmt} : PS X st (tS fx W (exS P (run P n) .nim)) := ⟨fun pins s σ H D I ⟨g, dσ, S, r, sl, q⟩ => q.elim⟩
theorem ss_stuck {st : Stmt} : PS X st (tS fx W (exS P (run P n) .stuck)) := ⟨fun pins s σ H D I ⟨g, dσ, S, r, sl, q⟩ => q.elim⟩
theorem relF_zip {K : PySem.W.Frag} {ca : String → Addr} {g : Gh} : ∀ {l : List String} {vs : List V} {ds : List D}, RelL K ca g vs ds → RelF K ca g ((l.map Str.ofString).zip vs) (l.zip ds)
  | [], _, _, _ => .nil
  | _ :: _, _, _, .nil => .nil
  | x :: l, v :: vs, d :: ds, .cons a b => .cons a (relF_zip b)
theorem relF_app {K : PySem.W.Frag} {ca : String → Addr} {g : Gh} : ∀ {vs ws : List (Str × V)} {ds es : List (String × D)}, RelF K ca g vs ds → RelF K ca g ws es → RelF K ca g (vs ++ ws) (ds ++ es)
  | _, _, _, _, .nil, h => h
  | _, _, _, _, .cons a b, h => .cons a (relF_app b h)
theorem relF_rev {K : PySem.W.Frag} {ca : String → Addr} {g : Gh} : ∀ {vs : List (Str × V)} {ds : List (String × D)}, RelF K ca g vs ds → RelF K ca g vs.reverse ds.reverse
  | _, _, .nil => .nil
  | _, _, .cons a b => by
    rw [List.reverse_cons, List.reverse_cons]
    exact relF_app (relF_rev b) (.cons a .nil)
theorem tA.sr {W : WX} {g : Gh} {D : Ends} {dσ : DSt} {σ : L2.St} {H : Hp} {S : Store} {f : DSt → Store → Res MX.D} {k : MX.D → Store → SR} (h : sPost fx W g D ((f dσ S).sr dσ k)) (r : R fx g S H) (sl : Sl fx g dσ σ) {Q' : List V → Hp → Prop}
    (hq : ∀ x S' vs g' H', f dσ S = .ok x S' → g.le g' → R fx g' S' H' → RelL fx.K fx.ca g' vs (unT x) → sPost fx W g' D (k x S') → Q' vs H') : tA fx W f σ H Q' := by
  refine ⟨g, dσ, S, r, sl, ?_⟩
  cases e : f dσ S with
  | ok x S' =>
    rw [e] at h
    intro g' H' l r' v rv
    exact hq x S' v g' H' e l r' rv (sPost.up h l)
  | ex x S' =>
    rw [e] at h
    intro c d g' H' l r' rx
    exact h c d g' H' σ l r' (sl.mono l) rx
  | bad =>
    rw [e] at h
    exact h
/-- raise C(..) -/
theorem raise_ok {c : String} {as : E} {x : Str} {p pos pos2 : Pos} {es : List Expr} (h : SOk P n Γ fx W X) (hg : Γ.glo x (.exc c) = true) (hn : okName x = true) (k : chkR Γ as es = true) : PS X (.Raise (some (.Call (.Name x p) es [] pos)) none pos2) (tS fx W (exS P (run P n) (.raise c as))) := by
  obtain ⟨g1, g2, g3⟩ := h.x.glo hg
  obtain ⟨kx, ek⟩ := Option.isSome_iff_exists.mp g3
  have dbg := (okName_of hn).1
  obtain ⟨ra1, ra2, ra3⟩ := h.x.xf.rai c kx ek
  have xn : ∀ ds, exnD P c ds = match kx.ini with
      | some l => if l.length = ds.length then some (Exn.mk c (l.zip ds).reverse) else none
      | none => if ds.isEmpty then some ⟨c, []⟩ else none := fun ds => by
    unfold exnD
    simp only [ek] <;> (cases kx.ini <;> rfl)
  have hs : ∀ {dσ : DSt} {S : Store}, exS P (run P n) (.raise c as) dσ S = if raB P c as then (evE P (run P n) as dσ S).sr dσ fun x S1 => (match exnD P c (unT x) with
      | some y => SR.ex y dσ S1
      | none => .bad) else .bad := rfl
  by_cases hra : ¬ raB P c as = true
  · refine ⟨fun pins s σ H D I ⟨g, dσ, S, r, sl, q⟩ => ?_⟩
    rw [hs, if_neg hra] at q
    exact q.elim
  have hra := Decidable.not_not.mp hra
  have hs2 : ∀ {dσ : DSt} {S : Store}, exS P (run P n) (.raise c as) dσ S = (evE P (run P n) as dσ S).sr dσ fun x S1 => (match exnD P c (unT x) with
      | some y => SR.ex y dσ S1
      | none => .bad) := fun {dσ S} => by rw [hs, if_pos hra]
  have ra : raQ kx.ini as = true := by
    unfold raB at hra
    rw [ek] at hra
    exact hra
  cases as with
  | anil =>
    match es, k with
    | [.Constant (.str m) j p2], k =>
      cases hi : kx.ini with
      | none =>
        have ow := h.x.xf.own c kx ek hi
        refine ps_imp (ps_raise h.x.calm h.x.tk (pmk_own PySem.F.excBase_ValueError ow g2 ra3 (raises_own ra1 ra2) g1 dbg)) fun D σ H ⟨g, dσ, S, r, sl, q⟩ => ?_
        rw [hs2] at q
        have q : sPost fx W g D (match exnD P c [] with
          | some y => .ex y dσ S
          | none => .bad) := q
        rw [xn, hi] at q
        exact q _ none g H σ (Gh.le.refl g) r sl ⟨rfl, .inl ⟨rfl, rfl⟩⟩
      | some l =>
        rw [hi] at ra
        cases ra
    | [.Constant (.int _) _ _], k => cases k
  | acons a b =>
    have ka : chkA Γ (.acons a b) es = true := by cases es <;> exact k
    cases es with
    | nil => cases ka
    | cons e es =>
      obtain ⟨h5, h6⟩ := args_of (pos := pos) (env := X.env) ka
      have pa := (snd (.acons a b) h.x).1.a _ ka
      cases hi : kx.ini with
      | none =>
        rw [hi] at ra
        cases ra
      | some l =>
        refine ps_imp (ps_raise h.x.calm h.x.tk (pmk_init (h.x.xf.ini c kx l ek hi) h.room g1 g2 pa dbg h5 h6)) fun D σ H ⟨g, dσ, S, r, sl, q⟩ => ?_
        rw [hs2] at q
        refine tA.sr q r sl fun x S1 vs g1 H1 _ l1 r1 rv q1 => ?_
        rw [xn, hi] at q1
        have q1 : sPost fx W g1 D (match (if l.length = (unT x).length then some (Exn.mk c (l.zip (unT x)).reverse) else none) with
          | some y => .ex y dσ S1
          | none => .bad) := q1
        by_cases hl : l.length = (unT x).length
        · rw [if_pos hl] at q1
          have lz : l.length ≤ 1000 := (h.x.xf.ini c kx l ek hi).few
          refine ⟨by rw [rv.length, hl], by rw [rv.length, ← hl]; exact lz, fun dd hd => ?_⟩
          obtain ⟨r2, l2⟩ := r1.laid (o := .xd ((l.map Str.ofString).zip vs).reverse) hd
          exact q1 _ (some dd) _ _ σ l2 r2 ((sl.mono l1).mono l2) ⟨rfl, .inr ⟨dd, _, rfl, (show upd g1.F dd _ dd = some _ from upd_same), (relF_rev (relF_zip rv)).mono l2⟩⟩
        · rw [if_neg hl] at q1
          exact q1.elim
  | _ => cases es <;> cases k
/-- the clauses as the rule wants them -/
def hdL (P : Prog) (fx : Fix) : Sx → List (Value × Option Nat × SuiteT)
  | .hcons c o as r h => (.ref (fx.ca c), o, fun a cls d D σ H => ∃ x k g dσ S, P.xt x.cls = some k ∧ SuP fx x o a cls d g dσ S σ H ∧ ∃ dσ1 dv, xeL P x as dσ = some dσ1 ∧ xeD P x dσ1 r = some dv ∧ ∀ g' H' v, g.le g' → R fx g' S H' → RelD fx.K fx.ca g' v dv → D.rt v H') :: hdL P fx h
  | _ => []
theorem hd_wish {c : Sx} {x : Exn} {D : Ends} : ∀ {hs : List ExceptHandler} {g : Gh} {dσ : DSt} {σ : L2.St} {S : Store} {H : Hp} {cls : Value} {d : Option Addr}, XOk P n Γ fx W X → chkH Γ c hs = true → R fx g S H → Sl fx g dσ σ → RelX fx g cls d x → sPost fx W g D (hdS P x dσ S c) → wHs X.K W D (hdL P fx c) cls d σ H := by
  induction c with
  | hnil => exact fun {hs g dσ σ S H cls d} h k r sl rx q => q cls d g H σ (Gh.le.refl g) r sl rx
  | hcons c o as rr hh ih =>
    intro hs g dσ σ S H cls d h k r sl rx q
    match hs, k with
    | .ExceptHandler (some (.Name y _)) nm (b :: suite) _ :: hs, k =>
      have k : ((Γ.glo y (.exc c) && okName y) && (nmB Γ o nm && (chkXs Γ o as rr (b :: suite) && chkH Γ hh hs))) = true := k
      simp only [Bool.and_eq_true] at k
      obtain ⟨⟨k1, _⟩, _, _, k4⟩ := k
      obtain ⟨_, _, g3⟩ := h.glo k1
      obtain ⟨k2, ek2⟩ := Option.isSome_iff_exists.mp g3
      have q : sPost fx W g D (match P.xt x.cls with
        | some k => if k.ups.contains c then
            match xeL P x as (unO o dσ) with
            | some σ1 => match xeD P x σ1 rr with
              | some d => .rt d S
              | none => .bad
            | none => .bad
          else hdS P x dσ S hh
        | none => .bad) := q
      cases ek : P.xt x.cls with
      | none => rw [ek] at q; exact q.elim
      | some kx =>
        rw [ek] at q
        obtain ⟨rx1, rx2⟩ := id rx
        refine ⟨kx.ups.contains c, by rw [rx1]; exact h.xf.exm x.cls kx c k2 ek ek2, fun hb a ha => ?_, fun hb => ?_⟩
        · have q : sPost fx W g D (if kx.ups.contains c then
            match xeL P x as (unO o dσ) with
            | some σ1 => match xeD P x σ1 rr with
              | some d => .rt d S
              | none => .bad
            | none => .bad
          else hdS P x dσ S hh) := q
          rw [if_pos hb] at q
          have q5 := q
          clear q
          cases e1 : xeL P x as (unO o dσ) with
          | none => rw [e1] at q5; exact q5.elim
          | some σ1 =>
            rw [e1] at q5
            have q6 : sPost fx W g D (match xeD P x σ1 rr with
              | some d => .rt d S
              | none => .bad) := q5
            cases e2 : xeD P x σ1 rr with
            | none => rw [e2] at q6; exact q6.elim
            | some dv =>
              rw [e2] at q6
              refine ⟨x, kx, g, _, S, ek, ?_, σ1, dv, e1, e2, fun g' H' v l r rv => ?_⟩
              · cases o with
                | none => exact ⟨r, sl, rx, fun j z => by cases z⟩
                | some i =>
                  refine ⟨r, ?_, rx, fun j z y hy => ?_⟩
                  · have z := sl.unset i
                    refine ⟨by show (dσ.set i none).length = (σ.set i _).length; rw [List.length_set, List.length_set]; exact sl.len, fun j e hj => ?_⟩
                    obtain ⟨v, h1, h2⟩ := z.at_ j e hj
                    refine ⟨v, ?_, h2⟩
                    by_cases hij : i = j
                    · subst hij
                      by_cases hlt : i < σ.length
                      · rw [List.getElem?_set_self hlt] at h1
                        cases h1
                      · rw [List.getElem?_eq_none (by rw [List.length_set]; omega)] at h1
                        cases h1
                    · rw [List.getElem?_set_ne hij] at h1
                      show (σ.set i _)[j]? = _
                      rw [List.getElem?_set_ne hij]
                      exact h1
                  · cases z
                    have hy : (σ.set i (some (.ref a)))[i]? = some y := hy
                    by_cases hlt : i < σ.length
                    · rw [List.getElem?_set_self hlt] at hy
                      cases hy
                      rfl
                    · rw [List.getElem?_eq_none (by rw [List.length_set]; omega)] at hy
                      cases hy
              · cases o with
                | none => exact q6 g' H' v l r rv
                | some i => exact q6 g' H' v l r rv
        · have q : sPost fx W g D (if kx.ups.contains c then
            match xeL P x as (unO o dσ) with
            | some σ1 => match xeD P x σ1 rr with
              | some d => .rt d S
              | none => .bad
            | none => .bad
          else hdS P x dσ S hh) := q
          rw [if_neg (by rw [hb]; exact Bool.false_ne_true)] at q
          exact ih h k4 r sl rx q
    | [], k => cases k
  | _ => exact fun {hs g dσ σ S H cls d} h k r sl rx q => q.elim
theorem names_exc (h : XOk P n Γ fx W X) {c : String} {x : Str} (k1 : Γ.glo x (.exc c) = true) (k2 : okName x = true) : Names X x (.ref (fx.ca c)) := by
  obtain ⟨g1, g2, g3⟩ := h.glo k1
  exact ⟨g1, (okName_of k2).1, .inl g2⟩
theorem chkX_ok {o : Option Nat} {a : Addr} {cls : Value} {d : Option Addr} {oe : Obj} {pn : List (Addr × Obj)} (h : XOk P n Γ fx W X) (hz : Zc cls d oe) (hf : ∃ vs, oe.data = .fields vs) :
    ∀ (c : XE), (∀ e, chkX Γ o c e = true → PE (X.suite a ((a, oe) :: pn)) e (tXe P fx o a cls d c)) ∧ (∀ es, chkXa Γ o c es = true → PA (X.suite a ((a, oe) :: pn)) es (tXa P fx o a cls d c)) := by
  have vis : ∀ {i : Nat} {x : Str} {p : Pos}, Γ.vis i x = true → okName x = true → PE (X.suite a ((a, oe) :: pn)) (.Name x p) (tVar i) := fun {i x p} k1 k2 => by
    obtain ⟨h1, h2⟩ := h.vis k1
    obtain ⟨h3, h4⟩ := okName_of k2
    exact pe_var (X := X.suite a ((a, oe) :: pn)) h1 h2 h3 h4
  have exn : ∀ {e : Expr}, isExcName Γ o e = true → ∃ i, o = some i ∧ i < X.N.length ∧ PE (X.suite a ((a, oe) :: pn)) e (tVar i) := fun {e} k => by
    cases e with
    | Name x p =>
      cases o with
      | none => cases k
      | some i =>
        have k : (Γ.vis i x && okName x) = true := k
        rw [Bool.and_eq_true] at k
        exact ⟨i, rfl, (List.getElem?_eq_some_iff.mp (h.vis k.1).1).1, vis k.1 k.2⟩
    | _ => cases k
  have noA : ∀ {c : XE} {es : List Expr}, (∀ es, chkXa Γ o c es = false) → chkXa Γ o c es = true → PA (X.suite a ((a, oe) :: pn)) es (tXa P fx o a cls d c) := fun {c es} h1 h2 => by rw [h1] at h2; cases h2
  intro c
  induction c with
  | str s => exact ⟨fun e k => by
      cases e with
      | Constant v j p =>
        cases v with
        | str x =>
          have k : decide (x = Str.ofString s) = true := k
          have := of_decide_eq_true k
          subst this
          exact x_const pe_str (fun _ _ => rfl) fun g => .str _
        | _ => cases k
      | _ => (cases k), fun es => noA fun es => by cases es <;> rfl⟩
  | int i => exact ⟨fun e k => by
      cases e with
      | Constant v j p =>
        cases v with
        | int x =>
          have k : decide (i = x) = true := k
          have := of_decide_eq_true k
          subst this
          exact x_const pe_int (fun _ _ => rfl) fun g => .int _
        | _ => cases k
      | _ => (cases k), fun es => noA fun es => by cases es <;> rfl⟩
  | bl i => exact ⟨fun e k => by
      cases e with
      | Constant v j p =>
        cases v with
        | bool x =>
          have k : (i == x) = true := k
          have := eq_of_beq k
          subst this
          exact x_const pe_bl (fun _ _ => rfl) fun g => .bl _
        | _ => cases k
      | _ => (cases k), fun es => noA fun es => by cases es <;> rfl⟩
  | non => exact ⟨fun e k => by
      cases e with
      | Constant v j p =>
        cases v with
        | none => exact x_const pe_non (fun _ _ => rfl) fun g => .non
        | _ => cases k
      | _ => (cases k), fun es => noA fun es => by cases es <;> rfl⟩
  | var i => exact ⟨fun e k => by
      cases e with
      | Name x p =>
        have k : (Γ.vis i x && okName x) = true := k
        rw [Bool.and_eq_true] at k
        exact x_var (vis k.1 k.2)
      | _ => (cases k), fun es => noA fun es => by cases es <;> rfl⟩
  | fld f => exact ⟨fun e k => by
      cases e with
      | Attribute e y p =>
        have k : (decide (y = Str.ofString f) && (notCall e && isExcName Γ o e)) = true := k
        simp only [Bool.and_eq_true, decide_eq_true_eq] at k
        obtain ⟨i, h1, h2, h3⟩ := exn k.2.2
        exact x_fld h.xf h1 h2 hz hf k.1 h3 (base_of k.2.1)
      | _ => (cases k), fun es => noA fun es => by cases es <;> rfl⟩
  | isi c => exact ⟨fun e k => by
      cases e with
      | Call fn es kw p =>
        cases fn with
        | Name g p2 =>
          match es, kw, k with
          | [e, .Name y _], [], k =>
            have k : (decide (g = ("isinstance" : Str)) && (Γ.glo g .blt && (notStar e && (isExcName Γ o e && (okName y && (decide (y = Str.ofString c) && (Γ.glo y (.exc c) || (decide (c = "ValueError") && Γ.glo y .blt)))))))) = true := k
            simp only [Bool.and_eq_true, decide_eq_true_eq, Bool.or_eq_true] at k
            obtain ⟨rfl, k2, k3, k4, k5, rfl, k7⟩ := k
            obtain ⟨i, h1, h2, h3⟩ := exn k4
            obtain ⟨g1, g2⟩ := h.glo k2
            have dbg := (okName_of k5).1
            rcases k7 with k7 | ⟨rfl, k7⟩
            · obtain ⟨m1, m2, m3⟩ := h.glo k7
              obtain ⟨k0, ek0⟩ := Option.isSome_iff_exists.mp m3
              refine x_isi (v2 := .ref (fx.ca c)) h.xf h1 h2 hz hf g1 g2 h3 (pe_glob (X := X.suite a ((a, oe) :: pn)) m1 m2 rfl dbg) (fun u ru c0 k0' e0 => ?_) (star_of k3) rfl
              obtain rfl : u = .ref (fx.ca c) := ru
              exact h.xf.kit c0 k0' c k0 e0 ek0
            · obtain ⟨m1, m2⟩ := h.glo k7
              refine x_isi (v2 := .ty "ValueError") h.xf h1 h2 hz hf g1 g2 h3 (pe_bltn (X := X.suite a ((a, oe) :: pn)) m1 m2 PyProof.Rows.Boot.«ValueError» rfl (by decide) dbg) (fun u ru c0 k0' e0 => ?_) (star_of k3) rfl
              obtain rfl : u = .type "ValueError" := ru
              exact h.xf.kiv c0 k0' e0
          | [], [], k => cases k
          | [_], [], k => cases k
          | _ :: y :: _ :: _, [], k => cases y <;> cases k
          | [], _ :: _, k => cases k
          | [_], _ :: _, k => cases k
          | [_, y], _ :: _, k => cases y <;> cases k
          | _ :: y :: _ :: _, _ :: _, k => cases y <;> cases k
        | _ => cases k
      | _ => (cases k), fun es => noA fun es => by cases es <;> rfl⟩
  | not c ih => exact ⟨fun e k => by
      cases e with
      | UnaryOp op e p =>
        cases op with
        | Not => exact x_not (ih.1 e k)
        | _ => cases k
      | _ => (cases k), fun es => noA fun es => by cases es <;> rfl⟩
  | and c1 c2 ih1 ih2 => exact ⟨fun e k => by
      cases e with
      | BoolOp op vs p =>
        cases op with
        | Or => cases k
        | And =>
          match vs, k with
          | x :: y :: rest, k =>
            have k : (chkX Γ o c1 x && chkX Γ o c2 (tailB .And y rest p)) = true := k
            rw [Bool.and_eq_true] at k
            refine x_and (ih1.1 x k.1) ?_
            cases rest with
            | nil => exact pe_one (ih2.1 y k.2)
            | cons z zs => exact ih2.1 _ k.2
          | [], k => cases k
          | [_], k => cases k
      | _ => (cases k), fun es => noA fun es => by cases es <;> rfl⟩
  | tup c ih => exact ⟨fun e k => by
      cases e with
      | Tuple es x p => exact x_tup (ih.2 es k)
      | _ => (cases k), fun es => noA fun es => by cases es <;> rfl⟩
  | anil => exact ⟨fun e k => (by cases e <;> cases k), fun es k => by
      cases es with
      | nil => exact x_anil
      | cons _ _ => cases k⟩
  | acons c1 c2 ih1 ih2 => exact ⟨fun e k => (by cases e <;> cases k), fun es k => by
      cases es with
      | nil => cases k
      | cons x xs =>
        have k : (notStar x && (chkX Γ o c1 x && chkXa Γ o c2 xs)) = true := k
        simp only [Bool.and_eq_true] at k
        exact x_acons (ih1.1 x k.2.1) (ih2.2 xs k.2.2) (star_of k.1)⟩
theorem xs_nil {o : Option Nat} {r : XE} {ss : List Stmt} (k : chkXs Γ o [] r ss = true) : ∃ e p, ss = [.Return (some e) p] ∧ chkX Γ o r e = true := by
  unfold chkXs at k
  split at k
  · exact ⟨_, _, rfl, k⟩
  · exact absurd ‹[] = _ :: _› (by simp)
  · cases k
theorem xs_cons {o : Option Nat} {r : XE} {i : Nat} {c : XE} {l : List (Nat × XE)} {ss : List Stmt} (k : chkXs Γ o ((i, c) :: l) r ss = true) : ∃ y py v p tl, ss = .Assign [.Name y py] v p :: tl ∧ ((Γ.loc i y && (!decide (o = some i) && (notComp v && chkX Γ o c v))) && chkXs Γ o l r tl) = true := by
  generalize hl : (i, c) :: l = ll at k
  unfold chkXs at k
  split at k
  · cases hl
  · cases hl
    exact ⟨_, _, _, _, _, rfl, k⟩
  · cases k
/-- a suite is sound -/
theorem suite_ok {o : Option Nat} {a : Addr} {cls : Value} {d : Option Addr} {oe : Obj} {pn : List (Addr × Obj)} (h : SOk P n Γ fx W X) (hz : Zc cls d oe) (hf : ∃ vs, oe.data = .fields vs) {rr : XE} :
    ∀ (as : List (Nat × XE)) (ss : List Stmt), chkXs Γ o as rr ss = true → PSs (X.suite a ((a, oe) :: pn)) ss (fun D σ H => ∃ x k g dσ S, P.xt x.cls = some k ∧ SuP fx x o a cls d g dσ S σ H ∧ ∃ dσ1 dv, xeL P x as dσ = some dσ1 ∧ xeD P x dσ1 rr = some dv ∧ ∀ g' H' v, g.le g' → R fx g' S H' → RelD fx.K fx.ca g' v dv → D.rt v H')
  | [], ss, k => by
      obtain ⟨e, p, rfl, k⟩ := xs_nil k
      refine pss_imp (pss_one (ps_ret ((chkX_ok h.x hz hf rr).1 e k))) fun D σ H ⟨x, kx, g, dσ, S, ek, su, dσ1, dv, e1, e2, q⟩ => ?_
      cases e1
      exact ⟨x, kx, g, dσ, S, ek, su, dv, e2, q⟩
  | (i, c) :: l, ss, k => by
      obtain ⟨y, py, v, p, ss2, e0, k0⟩ := xs_cons k
      subst e0
      simp only [Bool.and_eq_true, Bool.not_eq_true', decide_eq_false_iff_not] at k0
      obtain ⟨⟨k1, k2, k3, k4⟩, k5⟩ := k0
      obtain ⟨h1, h2⟩ := h.x.loc k1
      refine pss_imp (pss_cons (ps_set (X := X.suite a ((a, oe) :: pn)) (i := i) h.x.nd h1 h2 ((chkX_ok h.x hz hf c).1 v k4) (swaps_no k3) (.inl (h.fn _))) (suite_ok h hz hf l ss2 k5)) fun D σ H ⟨x, kx, g, dσ, S, ek, su, dσ1, dv, e1, e2, q⟩ => ?_
      have e1 : (match xeD P x dσ c with
        | some d => xeL P x l (dσ.set i (some d))
        | none => none) = some dσ1 := e1
      cases e3 : xeD P x dσ c with
      | none => rw [e3] at e1; cases e1
      | some dc =>
        rw [e3] at e1
        refine ⟨x, kx, g, dσ, S, ek, su, dc, e3, fun g' H' v l' r' rv => ⟨x, kx, g', dσ.set i (some dc), S, ek, ⟨r', (su.sl.mono l').set i rv, su.rx.mono l', fun j ej z hz => ?_⟩, dσ1, dv, e1, e2, fun g2 H2 v2 l2 r2 rv2 => q g2 H2 v2 (l'.trans l2) r2 rv2⟩⟩
        rw [List.getElem?_set_ne (fun e => k2 (by rw [e]; exact ej))] at hz
        exact su.at_ j ej z hz
theorem hds_ok (h : SOk P n Γ fx W X) : ∀ {c : Sx} {hs : List ExceptHandler}, chkH Γ c hs = true → HdsN X hs (hdL P fx c) := by
  intro c
  induction c with
  | hnil => exact fun {hs} k => (by
      cases hs with
      | nil => exact .nil
      | cons _ _ => cases k)
  | hcons c o as rr hh ih =>
    intro hs k
    match hs, k with
    | .ExceptHandler (some (.Name y _)) nm (b :: suite) _ :: hs, k =>
      have k : ((Γ.glo y (.exc c) && okName y) && (nmB Γ o nm && (chkXs Γ o as rr (b :: suite) && chkH Γ hh hs))) = true := k
      simp only [Bool.and_eq_true] at k
      obtain ⟨⟨k1, k2⟩, k3, k4, k5⟩ := k
      refine .cons (names_exc h.x k1 k2) ?_ (fun a oe cls d pn hz hf => suite_ok h hz hf as (b :: suite) k4) (ih k5)
      cases o with
      | none =>
        cases nm with
        | none => trivial
        | some z => cases k3
      | some i =>
        cases nm with
        | none => cases k3
        | some z =>
          have k3 : (decide (Γ.N[i]? = some z) && decide (Γ.sc.names.lookup z = some .local)) = true := k3
          rw [Bool.and_eq_true, decide_eq_true_eq, decide_eq_true_eq] at k3
          refine ⟨by rw [h.x.N]; exact k3.1, ?_⟩
          show X.env.scope.names.lookup z = _
          rw [h.x.sc]
          exact k3.2
    | [], k => cases k
  | _ => exact fun {hs} k => (by cases hs <;> cases k)
/-- a try's body stands in such a place -/
theorem SOk.tr {W2 : WX} {pn : List (Addr × Obj)} {xe : Value → Shared → Prop} (h : SOk P n Γ fx W X) (tk : Takes (X.tr pn xe) W2) (po : PassesOwn (model X.prog X.w) X.A X.env xe) : SOk P n Γ fx W2 (X.tr pn xe) := by
  obtain ⟨⟨a1, a2, a3, a4, a5, a6, a7, a8, a9, a10⟩, b1, b2, b3, b4, b5, b6⟩ := h
  refine ⟨⟨a1, a2, a3, a4, a5, tk, a7, fun x k e => ?_, ⟨a9.bits, a9.lacks, fun c x f m q => ⟨(a9.meth c x f m q).ex⟩, fun c k f m q1 q2 => ⟨(a9.mkk c k f m q1 q2).ex⟩, a9.own, fun c f q => ⟨(a9.iter c f q).ex⟩, fun c x f m F cs q1 q2 q3 q4 => ⟨(a9.nim c x f m F cs q1 q2 q3 q4).ex⟩, fun c x f m q => ⟨(a9.stat c x f m q).ex⟩, fun c x f m q => ⟨(a9.prop c x f m q).ex⟩⟩, ⟨fun c k l q1 q2 => ?_, a10.own, a10.rai, a10.fld, a10.exm, a10.kit, a10.kiv⟩⟩, b1, po, b3, b4, b5, b6⟩
  · have z := a8 x k e
    cases k with
    | fn f =>
      have z : CallOk P n fx.K fx.ca X x f := z
      exact ⟨z.ex⟩
    | _ => exact z
  · have z := a10.ini c k l q1 q2
    exact ⟨z.ex, z.oex, z.no, z.few, z.sup, z.top⟩
theorem try_ok {b hh : Sx} {body : List Stmt} {hs : List ExceptHandler} {pos : Pos} (h : SOk P n Γ fx W X) (hb : ∀ {W2 : WX} {X2 : Cx}, SOk P n Γ fx W2 X2 → PSs X2 body (tS fx W2 (exS P (run P n) b))) (hc : hCons hh = true) (hk : chkH Γ hh hs = true) : PS X (.Try body hs [] [] pos) (tS fx W (exS P (run P n) (.try_ b hh))) := by
  have hok := hds_ok h hk
  cases hs with
  | nil =>
    cases hh <;> first | (cases hc; done) | (cases hk; done)
  | cons h0 hs =>
    refine ps_imp (ps_try_h h.hs h.hf h.x.nd h.x.tk (fun W2 pn xe tk po => hb (h.tr tk po)) hok) fun D σ H ⟨g, dσ, S, r, sl, q⟩ => ⟨g, dσ, S, r, sl, ?_⟩
    have q : sPost fx W g D (match exS P (run P n) b dσ S with
      | .ex x σ1 S1 => hdS P x σ1 S1 hh
      | r => r) := q
    cases e : exS P (run P n) b dσ S with
    | ex x σ1 S1 =>
      rw [e] at q
      exact fun cls d g' H' σ' l r' sl' rx => hd_wish h.x hk r' sl' rx (sPost.up q l)
    | nx σ1 S1 => rw [e] at q; exact q
    | rt d S1 => rw [e] at q; exact q
    | bk σ1 S1 => rw [e] at q; exact q
    | ct σ1 S1 => rw [e] at q; exact q
    | bad => rw [e] at q; exact q
structure SndS (P : Prog) (n : Nat) (c : Sx) (Γ : Gam) (fx : Fix) (W : WX) (X : Cx) : Prop where
  s : ∀ st, chkS Γ c st = true → PS X st (tS fx W (exS P (run P n) c))
  ss : ∀ st, chkSs Γ c st = true → PSs X st (tS fx W (exS P (run P n) c))
theorem one_only {c : Sx} (h1 : ∀ st, chkS Γ c st = true → PS X st (tS fx W (exS P (run P n) c))) (h2 : ∀ st, chkSs Γ c st = false) : SndS P n c Γ fx W X := ⟨h1, fun st k => by rw [h2] at k; cases k⟩
end
/-- the statements are sound -/
theorem sndS {P : Prog} {n : Nat} : ∀ (c : Sx) {Γ : Gam} {fx : Fix} {W : WX} {X : Cx}, SOk P n Γ fx W X → SndS P n c Γ fx W X := by
  intro c
  induction c with
  | nil => exact fun {Γ fx W X} h => ⟨fun st k => (by cases st <;> cases k), fun st k => by
      cases st with
      | nil => exact ss_next (f := fun _ _ _ => False)
      | cons x xs => cases k⟩
  | pass => exact fun {Γ fx W X} h => one_only (fun st k => by
      cases st with
      | Pass p => exact ss_pass
      | Expr v p =>
        cases v with
        | Constant c j p2 =>
          cases c with
          | str x => exact ss_doc
          | _ => cases k
        | _ => cases k
      | _ => cases k) fun st => by cases st <;> rfl
  | brk => exact fun {Γ fx W X} h => one_only (fun st k => by
      cases st with
      | Break p => exact ss_brk
      | _ => cases k) fun st => by cases st <;> rfl
  | cont => exact fun {Γ fx W X} h => one_only (fun st k => by
      cases st with
      | Continue p => exact ss_cont
      | _ => cases k) fun st => by cases st <;> rfl
  | seq a b iha ihb => exact fun {Γ fx W X} h => ⟨fun st k => (by cases st <;> cases k), fun st k => by
      cases st with
      | nil => cases k
      | cons x xs =>
        have k : (chkS Γ a x && chkSs Γ b xs) = true := k
        rw [Bool.and_eq_true] at k
        exact ss_seq ((iha h).s x k.1) ((ihb h).ss xs k.2)⟩
  | asg i e => exact fun {Γ fx W X} h => one_only (fun st k => by
      cases st with
      | Assign ts v p =>
        cases ts with
        | nil => cases k
        | cons t ts =>
          cases ts with
          | cons _ _ => cases t <;> cases k
          | nil =>
            cases t with
            | Name x p2 =>
              have k : (Γ.loc i x && chkE Γ false e v) = true := k
              rw [Bool.and_eq_true] at k
              exact asg_ok h k.1 k.2
            | _ => cases k
      | _ => cases k) fun st => by cases st <;> rfl
  | stuck => exact fun {Γ fx W X} h => one_only (fun st k => ss_stuck) fun st => by cases st <;> rfl
  | nim => exact fun {Γ fx W X} h => one_only (fun st k => ss_nim) fun st => by cases st <;> rfl
  | raise c a => exact fun {Γ fx W X} h => one_only (fun st k => by
      cases st with
      | Raise e cz p =>
        cases cz with
        | some z => cases e <;> first | (cases k; done) | (rename_i e; cases e <;> first | (cases k; done) | (rename_i f as kw p; cases f <;> first | (cases k; done) | (cases kw <;> cases k)))
        | none =>
          cases e with
          | none => cases k
          | some e =>
            cases e with
            | Call f es kw p2 =>
              cases f with
              | Name x p3 =>
                cases kw with
                | cons _ _ => cases k
                | nil =>
                  have k : ((Γ.glo x (.exc c) && okName x) && chkR Γ a es) = true := k
                  rw [Bool.and_eq_true, Bool.and_eq_true] at k
                  exact raise_ok h k.1.1 k.1.2 k.2
              | _ => cases k
            | _ => cases k
      | _ => cases k) fun st => by cases st <;> rfl
  | try_ b hh ihb ihh =>
    exact fun {Γ fx W X} h => one_only (fun st k => by
      cases st with
      | Try body hs oe fe p =>
        cases oe with
        | cons _ _ => cases k
        | nil =>
          cases fe with
          | cons _ _ => cases k
          | nil =>
            have k : (chkSs Γ b body && (hCons hh && chkH Γ hh hs)) = true := k
            simp only [Bool.and_eq_true] at k
            exact try_ok h (fun h2 => (ihb h2).ss body k.1) k.2.1 k.2.2
      | _ => cases k) (fun st => by cases st <;> rfl)
  | hnil => exact fun {Γ fx W X} h => one_only (fun st k => by cases st <;> cases k) fun st => by cases st <;> rfl
  | hcons c i l r b ihb => exact fun {Γ fx W X} h => one_only (fun st k => by cases st <;> cases k) fun st => by cases st <;> rfl
  | sfld x o e => exact fun {Γ fx W X} h => one_only (fun st k => by
      cases st with
      | Assign ts v p =>
        cases ts with
        | nil => cases k
        | cons t ts =>
          cases ts with
          | cons _ _ => cases t <;> cases k
          | nil =>
            cases t with
            | Attribute t y p2 =>
              have k : (decide (y = Str.ofString x) && (true && (chkE Γ false o t && chkE Γ false e v))) = true := k
              simp only [Bool.and_eq_true, decide_eq_true_eq] at k
              exact s_sfld k.1 h.x.ob ((snd e h.x).1.e v k.2.2.2) ((snd o h.x).1.e t k.2.2.1) swaps_att
            | _ => cases k
      | _ => cases k) fun st => by cases st <;> rfl
  | sidx o i e => exact fun {Γ fx W X} h => one_only (fun st k => by
      cases st with
      | Assign ts v p =>
        cases ts with
        | nil => cases k
        | cons t ts =>
          cases ts with
          | cons _ _ => cases t <;> cases k
          | nil =>
            cases t with
            | Subscript t s p2 =>
              have k : (true && (notSlice s && (chkE Γ false o t && (chkE Γ false i s && chkE Γ false e v)))) = true := k
              simp only [Bool.and_eq_true] at k
              exact s_sidxX h.x.hK h.x.tk h.x.ob ((snd e h.x).1.e v k.2.2.2.2) ((snd o h.x).1.e t k.2.2.1) ((snd i h.x).1.e s k.2.2.2.1) swaps_sub (asg_sub k.2.1)
            | _ => cases k
      | _ => cases k) fun st => by cases st <;> rfl
  | aug op i e => exact fun {Γ fx W X} h => one_only (fun st k => by
      cases st with
      | AugAssign t o v p =>
        cases t with
        | Name x p2 =>
          have k : (augOk op && (decide (o = op.op) && (Γ.loc i x && chkE Γ false e v))) = true := k
          simp only [Bool.and_eq_true] at k
          obtain ⟨k1, k2, k3, k4⟩ := k
          have := of_decide_eq_true k2
          subst this
          obtain ⟨h1, h2⟩ := h.x.loc k3
          refine ss_augX ?_ h.x.hK h.x.tk h.x.ob h.x.nd h1 h2 ((snd e h.x).1.e v k4) (.inl (h.fn _))
          cases op <;> first | exact .inl rfl | exact .inr rfl | cases k1
        | _ => cases k
      | _ => cases k) fun st => by cases st <;> rfl
  | ex e => exact fun {Γ fx W X} h => one_only (fun st k => by
      cases st with
      | Expr v p =>
        have k : (notComp v && chkE Γ false e v) = true := by
          cases v <;> first | exact k | (rename_i c _ _; cases c <;> exact k)
        rw [Bool.and_eq_true] at k
        exact ss_ex ((snd e h.x).1.e v k.2) (swaps_no k.1)
      | _ => cases k) fun st => by cases st <;> rfl
  | ret e => exact fun {Γ fx W X} h => one_only (fun st k => by
      cases st with
      | Return v p =>
        cases v with
        | none => cases k
        | some v => exact ss_ret ((snd e h.x).1.e v k)
      | _ => cases k) fun st => by cases st <;> rfl
  | retN => exact fun {Γ fx W X} h => one_only (fun st k => by
      cases st with
      | Return v p =>
        cases v with
        | none => exact ss_retN
        | some v => cases k
      | _ => cases k) fun st => by cases st <;> rfl
  | ifs c a b iha ihb =>
    intro Γ fx W X h
    refine ⟨fun st k => ?_, fun st k => ?_⟩
    · cases st with
      | If t x y p =>
        have k : (notIf t && (chkE Γ false c t && (chkSs Γ a x && chkSs Γ b y))) = true := k
        simp only [Bool.and_eq_true] at k
        obtain ⟨k1, k2, k3, k4⟩ := k
        exact ss_if ((snd c h.x).1.t t k2 k1) ((iha h).ss x k3) ((ihb h).ss y k4)
      | _ => cases k
    · cases st <;> cases k
  | whl m c b ihb => exact fun {Γ fx W X} h => one_only (fun st k => by
      cases st with
      | While t x y p =>
        cases y with
        | cons _ _ => cases k
        | nil =>
          have k : (notIf t && (chkE Γ false c t && chkSs Γ b x)) = true := k
          simp only [Bool.and_eq_true] at k
          obtain ⟨k1, k2, k3⟩ := k
          exact ss_whl h.po ((snd c h.x).1.t t k2 k1) ((ihb h).ss x k3)
      | _ => cases k) fun st => by cases st <;> rfl
  | for_ kk tg it b ihb =>
    intro Γ fx W X h
    refine ⟨fun st k => ?_, fun st k => ?_⟩
    · cases st with
      | For te iter body oe p =>
        cases oe with
        | cons _ _ => cases k
        | nil =>
            have k : (chkT Γ.loc tg te && (chkI Γ kk tg (chkE Γ true it) (chkA Γ it) iter && chkSs Γ b body)) = true := k
            simp only [Bool.and_eq_true] at k
            obtain ⟨k1, k2, k3⟩ := k
            obtain ⟨pi, fo⟩ := chkI_ok h.x (snd it h.x).1 k2 k1
            have pg := pg_of (X := X) h.x.calm (fun i x q hq => (by
              obtain ⟨h1, h2⟩ := h.x.loc hq
              exact pg_name h.x.nd h1 h2 (.inl (h.fn _)))) k1
            exact ss_forG (own := tg.slots) h.po h.x.calm pi pg (by rw [h.x.hK]; exact tg_ok fun i hi => hi) ((ihb h).ss body k3) fo
      | _ => cases k
    · cases st <;> cases k
end MX
end

section
set_option maxRecDepth 100000
set_option maxHeartbeats 1000000
namespace MX
open PySem PySem.Spec PyProof.Rows L2
/-- an exception class's __init__ in the text: the class, the qualified name, the def, self's name, fields and parameters -/
structure XI where
  c : String
  qual : Str
  st : Stmt
  self : Str
  fvs : List (Str × Str)
/-- where C's __init__ stands -/
def iniAd (K : PySem.W.Frag) (c : String) : Addr := He.ma K (caOf K c) "__init__"
abbrev FnC : Type := Option (Str × Str × Arguments × FuncBody × Scope × Addr × List Str × Addr)
def fnC (K : PySem.W.Frag) (c : String) : FnC := match K.lookup (iniAd K c) with
  | some ⟨_, _, .func fd, _⟩ => some (fd.name, fd.qualname, fd.params, fd.body, fd.scope, fd.globals, fd.closure.map (·.1), fd.builtins)
  | _ => none
def XI.val (x : XI) : FnC := some ("__init__", x.qual, defArgs x.st, .stmts (defBody x.st), defScope x.st, mainGlobals, ["__class__"], builtinsNs)
def strAt (vs : Array Value) (file : Str) : Bool := match (vs[2]? : Option Value) with
  | some (.str f _) => decide (f = file)
  | _ => false
def codeB (K : PySem.W.Frag) (file : Str) : Value → Bool
  | .ref cda => (match K.lookup cda with
    | some ⟨_, _, .fields vs, _⟩ => strAt vs file
    | _ => false)
  | _ => false
def cellB (K : PySem.W.Frag) (C : Addr) : List (Str × Addr) → Bool
  | [(_, cc)] => (match K.lookup cc with
    | some ⟨_, _, .cell (some (.ref D)), _⟩ => decide (D = C)
    | _ => false)
  | _ => false
def nonB : Value → Bool
  | .none => true
  | _ => false
/-- the bits of an __init__ over super() -/
def iniB (K : PySem.W.Frag) (file : Str) (x : XI) : Bool :=
  (match K.lookup (iniAd K x.c) with
    | some ⟨_, _, .func fd, _⟩ => cellB K (caOf K x.c) fd.closure && (nonB fd.defaults && (PySem.W.codeIn K fd.code x.qual && codeB K file fd.code))
    | _ => false) &&
  ((PySem.W.clsIn K (caOf K x.c)).isSome && (He.eqO (PySem.W.ks_superIn K (caOf K x.c) (caOf K x.c) "__init__") (some (some (.builtin "ValueError.__init__"))) && (PySem.W.excInitIn K (caOf K x.c) veB "ValueError.__new__" &&
    (decide (PySem.W.subIn K (.ref (caOf K x.c)) (.type "ValueError") = some true) && (decide (PySem.W.mroIn K (caOf K x.c) (.ref (caOf K x.c)) = some true) && (He.eqO (PySem.W.nsIn K cStatics "thirdparty.any") (some none) &&
    (He.eqO (PySem.W.findIn K (.ref (caOf K x.c)) "__init__") (some (some (.ref (iniAd K x.c)))) && decide (PySem.W.typeIn K (.ref (iniAd K x.c)) = some (.type "function")))))))))
theorem ini_of {prog : Program} {K : PySem.W.Frag} {file : Str} {x : XI} (hf : (prog.main.file == file) = true) (e : fnC K x.c = x.val) (b : iniB K file x = true) :
    IniK prog K (caOf K x.c) (iniAd K x.c) "__init__" x.qual (defArgs x.st) (defBody x.st) (defScope x.st) ∧ PySem.W.findIn K (.ref (caOf K x.c)) "__init__" = some (some (.ref (iniAd K x.c))) ∧ PySem.W.typeIn K (.ref (iniAd K x.c)) = some (.type "function") := by
  unfold iniB at b
  simp only [Bool.and_eq_true, decide_eq_true_eq] at b
  obtain ⟨b1, b2, b3, b4, b5, b6, b7, b8, b9⟩ := b
  refine ⟨⟨?_, b2, He.eqO_ok b3, ⟨_, b4, rfl⟩, b5, b6, He.eqO_ok b7⟩, He.eqO_ok b8, b9⟩
  unfold fnC at e
  cases q : K.lookup (iniAd K x.c) with
  | none => rw [q] at b1; cases b1
  | some o =>
    obtain ⟨oc, od, dt, osl⟩ := o
    rw [q] at b1 e
    cases dt with
    | func fd =>
      obtain ⟨n1, n2, n3, n4, n5, n6, n7, n8, n9, n10, n11, n12, n13, n14, n15⟩ := fd
      have e2 : (some (n1, n2, n3, n4, n5, n6, n7.map (·.1), n15) : FnC) = x.val := e
      unfold XI.val at e2
      simp only [Option.some.injEq, Prod.mk.injEq] at e2
      obtain ⟨h1, h2, h3, h4, h5, h6, h7, h9⟩ := e2
      have b1 : (cellB K (caOf K x.c) n7 && (nonB n8 && (PySem.W.codeIn K n13 x.qual && codeB K file n13))) = true := b1
      simp only [Bool.and_eq_true] at b1
      obtain ⟨c1, c2, c3, c4⟩ := b1
      subst h1 h2 h3 h4 h5 h6 h9
      match n7, h7, c1 with
      | [(y, cc)], h7, c1 =>
        obtain rfl : y = ("__class__" : Str) := (List.cons.inj h7).1
        cases n8 with
        | none =>
          cases n13 with
          | ref cda =>
            refine ⟨cc, cda, n10, n11, n12, n14, n9, oc, od, osl, rfl, c3, ?_, ?_⟩
            · have c4 : (match K.lookup cda with
                | some ⟨_, _, .fields vs, _⟩ => strAt vs file
                | _ => false) = true := c4
              cases q2 : K.lookup cda with
              | none => rw [q2] at c4; cases c4
              | some o2 =>
                obtain ⟨o1, o2, dt2, o4⟩ := o2
                rw [q2] at c4
                cases dt2 with
                | fields vs =>
                  have c4 : strAt vs file = true := c4
                  unfold strAt at c4
                  cases q3 : vs[2]? with
                  | none => rw [q3] at c4; cases c4
                  | some z =>
                    rw [q3] at c4
                    cases z with
                    | str f tf =>
                      obtain rfl : f = file := of_decide_eq_true c4
                      exact ⟨_, _, vs, _, f, tf, rfl, q3, hf⟩
                    | _ => cases c4
                | _ => cases c4
            · have c1 : (match K.lookup cc with
                | some ⟨_, _, .cell (some (.ref D)), _⟩ => decide (D = caOf K x.c)
                | _ => false) = true := c1
              cases q2 : K.lookup cc with
              | none => rw [q2] at c1; cases c1
              | some o2 =>
                obtain ⟨o1, o2, dt2, o4⟩ := o2
                rw [q2] at c1
                cases dt2 with
                | cell v =>
                  cases v with
                  | none => cases c1
                  | some v =>
                    cases v with
                    | ref D =>
                      obtain rfl : D = caOf K x.c := of_decide_eq_true c1
                      exact ⟨_, _, _, rfl⟩
                    | _ => cases c1
                | _ => cases c1
          | _ => cases c4
        | _ => cases c2
      | [], h7, c1 => cases c1
      | _ :: _ :: _, h7, c1 => cases c1
    | _ => cases b1
/-- an exception class as OexC has it -/
def oexB (K : PySem.W.Frag) (C : Addr) : Bool :=
  (match K.lookup C with
    | some ⟨.type "type", _, .cls cd, sl⟩ => (match cd.mro, sl.toList with
      | .ref C' :: bm, [_, _, _, _, some (.builtin n), _] => decide (C' = C) && (decide (n = "ValueError.__new__") && (!cd.hasDel && (cd.hasDict && PySem.HandSPX.refsVE bm)))
      | _, _ => false)
    | _ => false) && He.eqO (PySem.W.findIn K (.ref C) "__setattr__") (some (some (.builtin "object.__setattr__")))
theorem oex_of {K : PySem.W.Frag} {C : Addr} (h : oexB K C = true) (h3 : PySem.W.subIn K (.ref C) (.type "BaseException") = some true) (h4 : PySem.W.typeIn K (.ref C) = some (.type "type")) (h5 : PySem.W.keepIn K (.ref C) = true) : OexC K C := by
  unfold oexB at h
  rw [Bool.and_eq_true] at h
  obtain ⟨h1, h2⟩ := h
  refine ⟨?_, He.eqO_ok h2, h3, h4, h5⟩
  split at h1
  · rename_i dd cd sl ho
    split at h1
    · rename_i C' bm k0 k1 k2 k3 n k5 hm hs
      simp only [Bool.and_eq_true, decide_eq_true_eq, Bool.not_eq_true'] at h1
      obtain ⟨rfl, rfl, hdel, hdct, ht⟩ := h1
      obtain ⟨nm, bs, mro, ns, qn, hd, sn, sub, ab, col, del⟩ := cd
      dsimp only at hm hdel hdct
      subst hm hdel hdct
      have hsl : sl = #[k0, k1, k2, k3, some (.builtin "ValueError.__new__"), k5] := by
        obtain ⟨l⟩ := sl
        simp only at hs
        rw [hs]
      subst hsl
      exact ⟨_, _, _, _, _, _, _, _, _, _, _, _, _, _, _, ho, ht⟩
    · cases h1
  · cases h1
def excB (K : PySem.W.Frag) (D : Addr) : Bool := He.eqO (PySem.W.findIn K (.ref D) "__getattribute__") (some (some (.builtin "BaseException.__getattribute__"))) && (He.eqO (PySem.W.findIn K (.ref D) "__getattr__") (some none) && (decide (PySem.W.subIn K (.ref D) (.type "BaseException") = some true) && (PySem.W.hasDictIn K D &&
  (He.eqO (PySem.W.findIn K (.ref D) "__class__") (some (some (.builtin "object.__class__"))) && (He.eqO (PySem.W.specialIn K (.builtin "object.__class__") "__get__") (some (some (.builtin "getset_descriptor.__get__"))) && (decide (PySem.W.takesIn K (.builtin "object.__class__") = some true) && decide (PySem.W.mroIn K D (.type "object") = some true)))))))
theorem exc_of {K : PySem.W.Frag} {D : Addr} (h : excB K D = true) : XfC K D ∧ ExcC K D := by
  unfold excB at h
  simp only [Bool.and_eq_true, decide_eq_true_eq] at h
  obtain ⟨h1, h2, h3, h4, h5, h6, h7, h8⟩ := h
  exact ⟨⟨He.eqO_ok h1, He.eqO_ok h2, h3, h4⟩, ⟨He.eqO_ok h1, He.eqO_ok h2, h3, h4, He.eqO_ok h5, He.eqO_ok h6, h7, h8⟩⟩
/-- the bits of one exception class -/
def exOne (K : PySem.W.Frag) (exs : List (String × ExD)) (p : String × ExD) : Bool :=
  He.Fa.ok K (.glo (Str.ofString p.1)) && (decide (PySem.W.subIn K (.ref (caOf K p.1)) (.type "BaseException") = some true) && (decide (PySem.W.typeIn K (.ref (caOf K p.1)) = some (.type "type")) && (PySem.W.keepIn K (.ref (caOf K p.1)) && (excB K (caOf K p.1) &&
    (exs.all (fun q => decide (PySem.W.exmOne K (.ref (caOf K p.1)) (.ref (caOf K q.1)) = some (p.2.ups.contains q.1)) && decide (PySem.W.kitOne K (.ref (caOf K p.1)) (.ref (caOf K q.1)) = some (p.2.ups.contains q.1))) &&
    (decide (PySem.W.kitOne K (.ref (caOf K p.1)) (.type "ValueError") = some (p.2.ups.contains "ValueError")) &&
    (match p.2.ini with
      | none => PySem.W.excIn K (caOf K p.1) veB "ValueError.__new__"
      | some l => oexB K (caOf K p.1) && (l.all (fun f => He.Fa.ok K (.noat (Str.ofString p.1) (Str.ofString f))) && decide (l.length ≤ 1000)))))))))
/-- what the table says of the written part's exception classes -/
def exTab (K : PySem.W.Frag) (file : Str) (exs : List (String × ExD)) (xis : List XI) : Bool :=
  exs.all (exOne K exs) && (xis.all (iniB K file) && (exs.isEmpty || He.Fa.ok K (.free "super")))
/-- the __init__s of the table, by Booleans of their text -/
def exDefs (exs : List (String × ExD)) (xis : List XI) : Bool := exs.all fun p => match p.2.ini with
  | none => true
  | some l => xis.any fun x => (x.c == p.1) && (initB x.fvs x.self (defArgs x.st) (defBody x.st) (defScope x.st) && (decide (x.fvs.map (·.1) = l.map Str.ofString) && !l.isEmpty))
/-! ### the Hook, with the __init__s -/
abbrev AlY : Type := Bool × He.AlD × List FnC
def obsY (bk : PySem.W.Frag → Bool) (fa : List He.Fa) (fn : List He5.DefA) (xs : List XI) (K : PySem.W.Frag) : AlY := (bk K, He5.obsA fa fn K, xs.map fun x => fnC K x.c)
def obsYG (n : Nat) (bk : PySem.W.Frag → Bool) (fa : List He.Fa) (fn : List He5.DefA) (xs : List XI) (g : Addr → Option Obj) : AlY := obsY bk fa fn xs (He.frG g (He.asD g n ++ [cStatics]))
def hookY (n : Nat) (bk : PySem.W.Frag → Bool) (fa : List He.Fa) (fn : List He5.DefA) (xs : List XI) : PySem.W.Hook where
  α := AlY
  obs := fun s => obsYG n bk fa fn xs s.heap.get?
  val := fun _ => (true, He5.valA fn, xs.map XI.val)
  says := fun _ h => ∃ K : PySem.W.Frag, K.In h ∧ bk K = true ∧ He5.SaysA fa fn K ∧ xs.map (fun x => fnC K x.c) = xs.map XI.val
  of := fun _ _ e => ⟨_, He.frG_in, congrArg Prod.fst e, congrArg (fun z : AlY => z.2.1) e, congrArg (fun z : AlY => z.2.2) e⟩
  keeps := fun _ _ _ ⟨K, h1, h2, h3, h4⟩ k => ⟨K, PySem.W.Frag.In.keeps h1 k, h2, h3, h4⟩
theorem obsYG_eq {n : Nat} {bk : PySem.W.Frag → Bool} {fa : List He.Fa} {fn : List He5.DefA} {xs : List XI} {g : Addr → Option Obj} {s : Shared} (h : ∀ a, g a = s.heap.get? a) : obsYG n bk fa fn xs g = (hookY n bk fa fn xs).obs s := by
  have e : g = s.heap.get? := funext h
  rw [e] <;> rfl
end MX
end

section
set_option maxRecDepth 100000
set_option maxHeartbeats 4000000
namespace MX
open PySem PySem.Spec PyProof.Rows L2
/-! ### an __iter__ that hands back iter(self.f) -/
section
variable {X : Cx}
/-- iter(l): the new iterator stands above all that is tracked -/
def rIterA (K : PySem.W.Frag) : List V → Hp → VK → Prop := fun xs H Q => ∃ (l : Addr) (zs : List V), xs = [.ref l] ∧ SqL K H l zs ∧ ∀ it, H it = none → (∀ b o, H b = some o → b < it) → Q (.ref it) (upd H it (ItO l it 0))
theorem call_iterA : CallR X (.builtin "iter") (rIterA X.K) := by
  intro pins s σ H xs us Q I r h
  obtain ⟨l, zs, rfl, hq, q⟩ := h
  obtain rfl := Vals.ref1 r
  obtain ⟨its, rv, pl, hz⟩ := I.list hq
  have hn : H s.heap.objs.size = none := I.hok.fresh (Nat.le_refl _)
  have I2 := I.laid (t' := s.toks) (fun b u e => Heap.get?_push_of_some _ e) (Nat.le_refl _) (itO_ok (l := l) (i := 0) (H := upd H s.heap.objs.size (ItO l s.heap.objs.size 0)) (Heap.get?_push_size _ rfl))
  exact GNX.call_iter pl.isList ⟨.ref s.heap.objs.size, _, I2, rfl, q _ hn fun b o e => I.hok.lt e⟩
end
/-- the def's text -/
def itBody (Γ : Gam) (f : String) : List Stmt → Bool
  | [.Return (some (.Call (.Name x _) [.Attribute (.Name y _) m _] [] _)) _] => decide (x = ("iter" : Str)) && (decide (m = Str.ofString f) && (Γ.vis 0 y && (okName y && Γ.glo x .blt)))
  | _ => false
theorem iter_ok {K : PySem.W.Frag} {Pr : Program} {w : World} {mg : Str → Option Value} {base : Heap} {C : Addr} {f : String} {x qual : Str} {params : Arguments} {body : List Stmt} {scope : Scope} {g : Addr} {fd : FuncData} {N ps : List Str} {gl : List (Str × GK)} {k : Nat}
    (F : FunD K x qual params body scope [] [] g fd) (S : FnScope N ps scope) (hp : ps.length = 1) (hb : itBody ⟨N, scope, gl⟩ f body = true) (hcl : Cls K C) (hno : NoAttr K C (Str.ofString f)) (hm : mg "iter" = none) :
    FnOk Pr w K mg base (L2.CX Pr w) (k + 1) g fd ps (spIt K C (Str.ofString f)) := by
  refine F.ok S (fun vs H Q E h => ?_) fun cdv A outer s H vs Q E hr h => ?_
  · obtain ⟨_, _, _, _, _, rfl, _⟩ := h
    exact hp.symm
  · unfold itBody at hb
    split at hb
    · rename_i x1 p1 y p2 m p3 p4 p5
      simp only [Bool.and_eq_true, decide_eq_true_eq] at hb
      obtain ⟨rfl, rfl, hv, hy, hgl⟩ := hb
      obtain ⟨a, dx, fs, l, zs, rfl, ha, hl, hq, q⟩ := h
      have hN : N[0]? = some y := by
        unfold Gam.vis at hv
        rw [Bool.and_eq_true] at hv
        exact of_decide_eq_true hv.1
      have vis : Vis scope y := by
        unfold Gam.vis at hv
        rw [Bool.and_eq_true, Bool.or_eq_true, Bool.or_eq_true] at hv
        rcases hv.2 with e | e | e
        · exact .inl (of_decide_eq_true e)
        · exact .inr (.inl (of_decide_eq_true e))
        · exact .inr (.inr (of_decide_eq_true e))
      have hg : scope.names.lookup ("iter" : Str) = some .globalImplicit := by
        unfold Gam.glo at hgl
        rw [Bool.and_eq_true] at hgl
        exact of_decide_eq_true hgl.1
      refine ⟨_, pss_one (ps_ret (pe_callB call_iterA hg hm (by decide +kernel) (pa_cons (pe_fld (pe_var (i := 0) hN vis (okName_of hy).1 (okName_of hy).2) rfl) pa_nil rfl))), ?_⟩
      refine ⟨.ref a, ?_, a, C, dx, fs, .ref l, rfl, ha, hcl, hno, hl, l, zs, rfl, hq, q⟩
      unfold L2.start
      have : 0 < N.length := by
        have := (List.getElem?_eq_some_iff.mp hN).1
        exact this
      simp
    · cases hb
end MX
end

section
set_option maxRecDepth 100000
set_option maxHeartbeats 4000000
namespace MX
open PySem PySem.Spec PyProof.Rows L2
/-! ### a def that hands back NotImplemented for some right sides -/
/-- the def's text -/
def nimBody (Γ : Gam) (cs : List Ty) : List Stmt → Bool
  | .If t [.Return (some (.Name x _)) _] _ _ :: _ => decide (x = ("NotImplemented" : Str)) && (Γ.glo x .blt && (notIf t && chkE Γ false (.not (.isi (.var 1) cs)) t))
  | _ => false
/-- the names that are no defs -/
def plainG : List (Str × GK) → List (Str × GK)
  | [] => []
  | (x, k) :: r => match k with
    | .blt => (x, .blt) :: plainG r
    | .cls c => (x, .cls c) :: plainG r
    | _ => plainG r
theorem plainG_mem : ∀ {l : List (Str × GK)} {x : Str} {k : GK}, (plainG l).lookup x = some k → (x, k) ∈ l ∧ (k = .blt ∨ ∃ c, k = .cls c)
  | [], _, _, h => by cases h
  | (y, j) :: r, x, k, h => by
    cases j with
    | blt =>
      have h : ((y, GK.blt) :: plainG r).lookup x = some k := h
      rw [List.lookup_cons] at h
      by_cases e : x = y
      · rw [beq_iff_eq.mpr e] at h
        cases h
        rw [e]
        exact ⟨List.mem_cons_self, .inl rfl⟩
      · rw [beq_eq_false_iff_ne.mpr e] at h
        exact ⟨List.mem_cons_of_mem _ (plainG_mem h).1, (plainG_mem h).2⟩
    | cls c =>
      have h : ((y, GK.cls c) :: plainG r).lookup x = some k := h
      rw [List.lookup_cons] at h
      by_cases e : x = y
      · rw [beq_iff_eq.mpr e] at h
        cases h
        rw [e]
        exact ⟨List.mem_cons_self, .inr ⟨c, rfl⟩⟩
      · rw [beq_eq_false_iff_ne.mpr e] at h
        exact ⟨List.mem_cons_of_mem _ (plainG_mem h).1, (plainG_mem h).2⟩
    | int i => exact ⟨List.mem_cons_of_mem _ (plainG_mem (l := r) h).1, (plainG_mem (l := r) h).2⟩
    | fn f => exact ⟨List.mem_cons_of_mem _ (plainG_mem (l := r) h).1, (plainG_mem (l := r) h).2⟩
    | exc c => exact ⟨List.mem_cons_of_mem _ (plainG_mem (l := r) h).1, (plainG_mem (l := r) h).2⟩
/-- classes alone -/
def clsOnly (P : Prog) : Prog := ⟨fun _ => none, fun c => (P.ct c).map fun _ => {}, fun _ => none⟩
theorem clsOnly_stat (P : Prog) (c x : String) : (clsOnly P).stat c x = none := by
  unfold Prog.stat clsOnly
  dsimp only
  cases P.ct c <;> rfl
theorem clsOnly_prop (P : Prog) (c x : String) : (clsOnly P).prop c x = none := by
  unfold Prog.prop clsOnly
  dsimp only
  cases P.ct c <;> rfl
theorem clsOnly_kn (P : Prog) : (clsOnly P).kn = P.kn := by
  funext c
  unfold Prog.kn clsOnly
  exact Option.isSome_map
theorem clsOnly_lacks (P : Prog) {c x : String} : (clsOnly P).lacks c x = false := by
  unfold Prog.lacks clsOnly
  cases e : P.ct c <;> simp [e]
theorem clsOnly_meth (P : Prog) {c x : String} : (clsOnly P).meth c x = none := by
  unfold Prog.meth clsOnly
  cases e : P.ct c <;> simp [e]
theorem clsOnly_itF (P : Prog) {c : String} : (clsOnly P).itF c = none := by
  unfold Prog.itF clsOnly
  cases e : P.ct c <;> simp [e]
theorem start_sl {fx : Fix} {g : Gh} {N : List Str} {vs : List V} {ds : List D} {m : Nat} (hm : m = N.length) (hl : vs.length ≤ N.length) (r : RelL fx.K fx.ca g vs ds) : Sl fx g (startD m ds) (L2.start N vs) := by
  subst hm
  refine ⟨?_, fun i d e => ?_⟩
  · unfold startD L2.start
    rw [List.length_append, List.length_append, List.length_map, List.length_map, List.length_replicate, List.length_replicate, r.length]
  · unfold startD at e
    by_cases hi : i < ds.length
    · rw [List.getElem?_append_left (by rw [List.length_map]; exact hi), List.getElem?_map] at e
      cases q : ds[i]? with
      | none => rw [q] at e; cases e
      | some d' =>
        rw [q] at e
        cases e
        obtain ⟨v, h1, h2⟩ := r.get q
        refine ⟨v, ?_, h2⟩
        unfold L2.start
        rw [List.getElem?_append_left (by rw [List.length_map, r.length]; exact hi), List.getElem?_map, h1]
        rfl
    · rw [List.getElem?_append_right (by rw [List.length_map]; omega), List.getElem?_replicate] at e
      split at e <;> cases e
theorem nim_ok {P : Prog} {K : PySem.W.Frag} {Pr : Program} {w : World} {mg : Str → Option Value} {base : Heap} {ca : String → Addr} {cs : List Ty} {x qual : Str} {params : Arguments} {body : List Stmt} {scope : Scope} {gA : Addr} {fd : FuncData} {N ps : List Str} {gl : List (Str × GK)} {k : Nat}
    (F : FunD K x qual params body scope [] [] gA fd) (Sc : FnScope N ps scope) (hp : ps.length = 2) (hb : nimBody ⟨N, scope, plainG gl⟩ cs body = true) (hbits : ∀ c, P.kn c = true → ClsBits K (ca c)) (hown : (∃ c, P.kn c = true) → OwnK K ca P.kn)
    (hG : ∀ x k, (x, k) ∈ gl → match k with
      | .blt => mg x = none
      | .cls c => mg x = some (.ref (ca c)) ∧ PySem.W.keepIn K (.ref (ca c)) = true ∧ P.kn c = true
      | _ => True) :
    ∀ (A : Around) (outer : List Env) (s : Shared) (H : Hp) (args : Args) (us : List Value) (vs : List V) (fx : Fix) (g : Gh) (S : Store) (d e : D), fx.K = K → fx.ca = ca → Room (k + 1) A → Env0 Pr w K mg base A outer s H → BindsTo s fd args (ps.zip us) → Vals vs us → R fx g S H → RelL fx.K fx.ca g vs [d, e] → isiXs P.kn S e cs = some false →
      codeAny (model Pr w) A (.call (.ref gA) args) (fun r s' => r = .ok (.ret .notImplemented) ∧ ∃ g' H', s'.os = s.os ∧ AllBare s'.gens ∧ Un (frs outer) [] H H' s.heap s'.heap ∧ HOk Pr w H' s'.heap ∧ g.le g' ∧ R fx g' S H') s := by
  intro A outer s H args us vs fx g S d e fK fca hr e0 hbd rvs hR hrel his
  subst fK fca
  obtain ⟨oc, od, dV, kV, doc, pm, an, cdv, ct, osl, rfl, lk, hcd, _, _⟩ := F.ex
  have hl : vs.length = ps.length := by rw [hp]; exact hrel.length
  have KX : fx.K.In s.heap := e0.mod.kin.keeps fun b o e => (e0.bs b o e).1
  have lim : s.heap.NoLimit := e0.mod.nolimit.keeps fun b o e => (e0.bs b o e).1
  have hkind : ∀ y ∈ ps.zip us, scope.names.lookup y.1 = some .local ∨ (scope.names.lookup y.1 = some .cell ∧ ((cellsFrom (s.heap.objs.size + 1) scope.names []).lookup y.1).isSome = true) := fun ⟨n, v⟩ hy => by
    rcases Sc.par n (List.of_mem_zip hy).1 with q | q
    · exact .inl q
    · exact .inr ⟨q, PySem.W.cellsFrom_some _ _ _ (.inl q)⟩
  refine codeAny_call_function hr.depth (KX _ _ lk) rfl Sc.co Sc.gen rfl (PySem.W.codeRec_of KX hcd) (hbd _ _ _ _ ?_)
  refine wpAny_newFunctionEnv_cells Sc.kind hkind fun env he s1 x => ?_
  subst he
  refine ⟨lim.keeps x.toInCall.keep, codeAny_func ?_⟩
  have I : Inv (cxOf (L2.CX Pr w) Pr w fx.K mg base N qual scope gA cdv A outer s H (fun _ _ _ => False)) [] (L2.start N vs) H s1 := inv_start Sc hr.hd e0 hl rvs x
  have hx : XOk (clsOnly P) 0 ⟨N, scope, plainG gl⟩ fx (fun cls d _ H => False) (cxOf (L2.CX Pr w) Pr w fx.K mg base N qual scope gA cdv A outer s H (fun _ _ _ => False)) := by
    refine ⟨rfl, Sc.nd, rfl, rfl, rfl, takes_of rfl rfl rfl rfl, (hr.deeper (envOfC qual scope s.heap.objs.size gA cdv)).units, fun x k z => ?_, ⟨fun c q => hbits c (by rw [← clsOnly_kn]; exact q), fun c x q => ?_, fun c x f m q => ?_, fun c kd f m q1 q2 => ?_, fun q => ?_, fun c f q => ?_, fun c x f m F cs q => ?_, fun c x f m q => (by rw [clsOnly_stat] at q; cases q), fun c x f m q => (by rw [clsOnly_prop] at q; cases q)⟩, ⟨fun c k l q => ?_, fun c k q => ?_, fun c k q => ?_, fun c k q => ?_, fun c k e k2 q => ?_, fun c k e k2 q => ?_, fun c k q => ?_⟩⟩
    · obtain ⟨hm, hk⟩ := plainG_mem z
      have z2 := hG x k hm
      rcases hk with rfl | ⟨c, rfl⟩
      · exact z2
      · exact ⟨z2.1, z2.2.1, by rw [clsOnly_kn]; exact z2.2.2⟩
    · rw [clsOnly_lacks] at q; cases q
    · rw [clsOnly_meth] at q; cases q
    · unfold clsOnly at q1
      cases e : P.ct c with
      | none => simp [e] at q1
      | some w => simp [e] at q1; subst q1; cases q2
    · rw [clsOnly_kn] at q ⊢; exact hown q
    · rw [clsOnly_itF] at q; cases q
    · rw [clsOnly_meth] at q; cases q
    · cases q
    · cases q
    · cases q
    · cases q
    · cases q
    · cases q
    · cases q
  unfold nimBody at hb
  split at hb
  · rename_i tst y p1 p2 orelse p3 rest
    simp only [Bool.and_eq_true, decide_eq_true_eq] at hb
    obtain ⟨rfl, hgl, hni, hck⟩ := hb
    have pt := (snd (.not (.isi (.var 1) cs)) hx).1.t tst hck hni
    have hlen : vs.length ≤ N.length := by
      have := congrArg List.length Sc.pre
      rw [List.length_take] at this
      omega
    have sl : Sl fx g (startD N.length [d, e]) (L2.start N vs) := start_sl rfl hlen hrel
    have hN2 : 2 ≤ N.length := by
      have := hrel.length
      simp at this
      omega
    have ev : evE (clsOnly P) (run (clsOnly P) 0) (.not (.isi (.var 1) cs)) (startD N.length [d, e]) S = .ok (.bl true) S := by
      have e1 : (startD N.length [d, e])[1]? = some (some e) := by
        unfold startD
        rw [List.getElem?_append_left (by simp)]
        rfl
      show ((match (startD N.length [d, e])[1]? with
        | some (some d) => Res.ok d S
        | _ => .bad).bind fun x S1 => ofB S1 (isiXs (clsOnly P).kn S1 x cs)).bind (fun x S1 => tru S1 x fun b => .ok (.bl (!b)) S1) = _
      rw [e1]
      show (ofB S (isiXs (clsOnly P).kn S e cs)).bind (fun x S1 => tru S1 x fun b => .ok (.bl (!b)) S1) = _
      rw [clsOnly_kn, his]
      rfl
    refine wpAny_execs_cons (wpAny_If (wpAny_mono (pt.run [] s1 (L2.start N vs) H (fun b H' => b = true ∧ ∃ g', g.le g' ∧ R fx g' S H') I ⟨g, startD N.length [d, e], S, hR, sl, ?_⟩) (fun b s2 hs2 => ?_) fun e s' hs => wpAny_mono hs (fun _ s3 h3 => ?_) fun _ _ y => ?_))
    · rw [ev]
      exact fun g' H' l r' => ⟨true, rfl, rfl, g', l, r'⟩
    · obtain ⟨H', I2, rfl, g', l', r'⟩ := hs2
      simp only [if_true]
      refine wpAny_execs_cons (wpAny_Return_some (ld_blt (u := .notImplemented) I2 (hx.glo hgl).1 ((hx.glo hgl).2) (by decide +kernel) ?_))
      exact ⟨rfl, g', H', I2.os, I2.bare, I2.base, I2.hok, l', r'⟩
    · obtain ⟨_, _, _, _, _, _, _, _, _, _, _, _, z⟩ := h3
      exact z.elim
    · obtain ⟨_, _, _, _, _, _, _, _, _, _, _, _, z⟩ := y
      exact z.elim
  · cases hb
end MX
end

section
set_option maxRecDepth 100000
set_option maxHeartbeats 4000000
namespace MX
open PySem PySem.Spec PyProof.Rows L2

/-! ### the table of the defs -/
structure Ent where
  id : String
  at_ : Str × Option Str
  name : Str
  qual : Str
  st : Stmt
  N : List Str
  fn : Fn
  kd : String := ""
/-- where the def stands: a name's, a class's, a staticmethod's, a property's -/
def Ent.ad (K : PySem.W.Frag) (e : Ent) : Addr := if e.kd = "" then He.fAd K e.at_ else He5.wf K (He.ga K e.at_.1) e.kd (e.at_.2.getD Str.empty)
def Ent.pl (e : Ent) (p : Str × Option Str) : Bool := (e.kd == "") && decide (e.at_ = p)
theorem Ent.pl_ad {e : Ent} {p : Str × Option Str} {K : PySem.W.Frag} (h : e.pl p = true) : e.ad K = He.fAd K p := by
  unfold Ent.pl at h
  rw [Bool.and_eq_true, decide_eq_true_eq, beq_iff_eq] at h
  unfold Ent.ad
  rw [if_pos h.1, h.2]
def Ent.wr (e : Ent) (T : String) (C m : Str) : Bool := !(T == "") && ((e.kd == T) && decide (e.at_ = (C, some m)))
theorem Ent.wr_ad {e : Ent} {T : String} {C m : Str} {K : PySem.W.Frag} (h : e.wr T C m = true) : e.ad K = He5.wf K (He.ga K C) T m := by
  unfold Ent.wr at h
  simp only [Bool.and_eq_true, decide_eq_true_eq, beq_iff_eq, Bool.not_eq_true', beq_eq_false_iff_ne] at h
  unfold Ent.ad
  rw [if_neg (by rw [h.2.1]; exact h.1), h.2.1, h.2.2]
  rfl
def Ent.ps (e : Ent) : List Str := namesPs (defArgs e.st)
/-- a def's scope, by Booleans -/
def scopeB (N P : List Str) (sc : Scope) : Bool :=
  decide (sc.kind = .function) && (!sc.isCoroutine && (!sc.isGenerator && (decide N.Nodup && (decide (N.take P.length = P) &&
    ((P.all fun x => decide (sc.names.lookup x = some .local) || decide (sc.names.lookup x = some .cell)) && sc.names.all fun y => !decide (y.2 = .free))))))
theorem scope_of {N P : List Str} {sc : Scope} (h : scopeB N P sc = true) : FnScope N P sc := by
  unfold scopeB at h
  simp only [Bool.and_eq_true, Bool.not_eq_true', decide_eq_true_eq, List.all_eq_true, Bool.or_eq_true, decide_eq_false_iff_not] at h
  obtain ⟨h1, h2, h3, h4, h5, h6, h7⟩ := h
  exact ⟨h1, h2, h3, h4, h5, h6, h7⟩
def Ent.ok (gl : List (Str × GK)) (e : Ent) : Bool :=
  plainPs (defArgs e.st) && (scopeB e.N e.ps (defScope e.st) && (decide (e.fn.np = e.ps.length) && (decide (e.fn.ns = e.N.length) && chkSs ⟨e.N, defScope e.st, gl⟩ e.fn.body (defBody e.st))))
/-- a law's table: defs, classes, exception classes -/
structure Tab where
  defs : List Ent
  cls : List (String × ClsD) := []
  exs : List (String × ExD) := []
  xis : List XI := []
  file : Str := Str.empty
  its : List (String × Ent) := []
/-- all the defs whose text is looked at -/
def Tab.alld (T : Tab) : List Ent := T.defs ++ T.its.map (·.2)
def progOf (T : Tab) : Prog := ⟨fun s => (T.defs.find? fun e => e.id == s).map (·.fn), fun c => T.cls.lookup c, fun c => T.exs.lookup c⟩
theorem prog_at {T : Tab} (nd : (T.defs.map (·.id)).Nodup) {e : Ent} (h : e ∈ T.defs) : (progOf T).fn e.id = some e.fn := by
  have key : ∀ l : List Ent, (l.map (·.id)).Nodup → e ∈ l → l.find? (fun z => z.id == e.id) = some e := fun l => by
    induction l with
    | nil => exact fun _ h => by cases h
    | cons a r ih =>
      intro nd h
      rw [List.find?_cons]
      by_cases ha : a.id = e.id
      · rw [beq_iff_eq.mpr ha]
        rcases List.mem_cons.mp h with z | z
        · rw [z]
        · exact absurd (show a.id ∈ r.map (·.id) by rw [ha]; exact List.mem_map_of_mem z) (List.nodup_cons.mp nd).1
      · rw [beq_eq_false_iff_ne.mpr ha]
        rcases List.mem_cons.mp h with z | z
        · rw [z] at ha
          exact absurd rfl ha
        · exact ih (List.nodup_cons.mp nd).2 z
  show (T.defs.find? fun z => z.id == e.id).map (·.fn) = _
  rw [key T.defs nd h]
  rfl
/-- a staticmethod's facts, a property's -/
def statB (K : PySem.W.Frag) (C : Addr) (m : Str) : Bool := He5.wrapB K C "staticmethod" "staticmethod.__get__" m && (PySem.W.readsIn K C (.type "type") && (He.eqO (PySem.W.specialIn K (.ref C) "__getattribute__") (some (some (.builtin "type.__getattribute__"))) && PySem.W.keepIn K (.ref (He5.wf K C "staticmethod" m))))
theorem statB_ok {K : PySem.W.Frag} {C : Addr} {m : Str} (h : statB K C m = true) : CStat K C m (He5.wf K C "staticmethod" m) := by
  unfold statB at h
  simp only [Bool.and_eq_true] at h
  obtain ⟨h1, h2, h3, h4⟩ := h
  obtain ⟨k1, rest, k2⟩ := He5.wrapB_ok h1
  exact ⟨h2, He.eqO_ok h3, ⟨_, rest, k1, k2⟩, h4⟩
def propB (K : PySem.W.Frag) (C : Addr) (m : Str) : Bool := He.eqO (PySem.W.findIn K (.ref C) m) (some (some (.ref (He.ma K C m)))) && (He.eqO (PySem.W.specialIn K (.ref (He.ma K C m)) "__get__") (some (some (.builtin "property.__get__"))) && (decide (PySem.W.takesIn K (.ref (He.ma K C m)) = some true) &&
  (match PySem.W.recIn K (He.ma K C m) "property" with
    | some (.ref _ :: _) => true
    | _ => false)))
theorem propB_ok {K : PySem.W.Frag} {C : Addr} {m : Str} (h : propB K C m = true) : PropOf K C m (He.ma K C m) (He5.wf K C "property" m) := by
  unfold propB at h
  simp only [Bool.and_eq_true, decide_eq_true_eq] at h
  obtain ⟨h1, h2, h3, h4⟩ := h
  refine ⟨He.eqO_ok h1, He.eqO_ok h2, h3, ?_⟩
  unfold He5.wf
  split at h4
  · rename_i f r e
    exact ⟨r, by rw [e]⟩
  · cases h4
/-- what the table says of the written part's classes -/
def clsTab (K : PySem.W.Frag) (T : Tab) : Bool := ownBits K (T.cls.map (·.1)) && T.cls.all fun p =>
  p.2.flds.all (fun x => He.Fa.ok K (.noat (Str.ofString p.1) (Str.ofString x))) && (p.2.meths.all (fun q => He.Fa.ok K (.meth (Str.ofString p.1) (Str.ofString q.1))) &&
    (He.Fa.ok K (.glo (Str.ofString p.1)) && (He.Fa.ok K (.keep (Str.ofString p.1)) && ((p.2.init.isNone || He.Fa.ok K (.mkr (Str.ofString p.1))) && ((p.2.iter.isNone || He.Fa.ok K (.meth (Str.ofString p.1) "__iter__")) && (p.2.stat.all (fun q => statB K (caOf K p.1) (Str.ofString q.1)) && p.2.props.all (fun q => propB K (caOf K p.1) (Str.ofString q.1))))))))
/-- the methods stand among the defs -/
def clsDefs (T : Tab) : Bool := T.cls.all fun p => p.2.meths.all (fun q => T.defs.any fun e => (e.id == q.2.1) && e.pl (Str.ofString p.1, some (Str.ofString q.1))) &&
  (match p.2.init with
    | some f => T.defs.any fun e => (e.id == f.1) && e.pl (Str.ofString p.1, some ("__init__" : Str))
    | none => true) &&
  (p.2.stat.all (fun q => T.defs.any fun e => (e.id == q.2.1) && e.wr "staticmethod" (Str.ofString p.1) (Str.ofString q.1)) &&
   p.2.props.all (fun q => T.defs.any fun e => (e.id == q.2.1) && e.wr "property" (Str.ofString p.1) (Str.ofString q.1)))
/-- an __iter__ of the table is of the form that is known -/
def Ent.it (gl : List (Str × GK)) (f : String) (e : Ent) : Bool := plainPs (defArgs e.st) && (scopeB e.N e.ps (defScope e.st) && (decide (e.ps.length = 1) && itBody ⟨e.N, defScope e.st, gl⟩ f (defBody e.st)))
/-- the __iter__s stand in the table -/
def itDefs (gl : List (Str × GK)) (T : Tab) : Bool := T.cls.all fun p => match p.2.iter with
  | some f => p.2.flds.contains f && (decide (gl.lookup ("iter" : Str) = some .blt) && T.its.any fun q => (q.1 == p.1) && (q.2.pl (Str.ofString p.1, some ("__iter__" : Str)) && q.2.it gl f))
  | none => true
/-- the defs that hand back NotImplemented are of the form that is known -/
def nimDefs (gl : List (Str × GK)) (T : Tab) : Bool := T.defs.all fun e => match nimC e.fn.body with
  | some cs => nimBody ⟨e.N, defScope e.st, plainG gl⟩ cs (defBody e.st)
  | none => true
/-- what the module's names are -/
def GlobOk (T : Tab) (K : PySem.W.Frag) (mg : Str → Option Value) (x : Str) : GK → Prop
  | .blt => mg x = none
  | .int i => ∃ t, mg x = some (.int i t)
  | .fn f => ∃ e ∈ T.defs, e.id = f ∧ mg x = some (.ref (e.ad K))
  | .cls c => x = Str.ofString c ∧ mg x = some (.ref (He.ga K x)) ∧ (T.cls.lookup c).isSome = true
  | .exc c => mg x = some (.ref (caOf K c)) ∧ (T.exs.lookup c).isSome = true
section
variable {T : Tab} {gl : List (Str × GK)} {Pr : Program} {w : World} {K : PySem.W.Frag} {mg : Str → Option Value} {base : Heap}
theorem mem_lk {α : Type} : ∀ {l : List (String × α)} {c : String} {k : α}, l.lookup c = some k → (c, k) ∈ l
  | [], _, _, h => by cases h
  | (a, z) :: r, c, k, h => by
    rw [List.lookup_cons] at h
    by_cases e : c = a
    · rw [beq_iff_eq.mpr e] at h
      cases h
      rw [e]
      exact List.mem_cons_self
    · rw [beq_eq_false_iff_ne.mpr e] at h
      exact List.mem_cons_of_mem _ (mem_lk h)
theorem ent_binds {e : Ent} {fd : FuncData} {gl : List (Str × GK)} (ho : Ent.ok gl e = true) (F : FunD K e.name e.qual (defArgs e.st) (defBody e.st) (defScope e.st) [] [] (e.ad K) fd) : Binds K fd e.ps [] := by
  unfold Ent.ok at ho
  simp only [Bool.and_eq_true, decide_eq_true_eq] at ho
  obtain ⟨p1, p2, _⟩ := ho
  have S2 := scope_of p2
  have ndp : (namesPs (defArgs e.st)).Nodup := by
    have z := S2.pre
    have z2 : e.ps = e.N.take e.ps.length := z.symm
    show e.ps.Nodup
    rw [z2]
    exact S2.nd.sublist (List.take_sublist _ _)
  exact F.bindsN fun kV doc pm an cdv ct us hus => bind_plain p1 ndp hus
theorem contains_of {T : Tab} {c : String} (h : (progOf T).kn c = true) : (T.cls.map (·.1)).contains c = true := by
  obtain ⟨k, e⟩ := Option.isSome_iff_exists.mp (show (T.cls.lookup c).isSome = true from h)
  exact List.contains_iff_mem.mpr (List.mem_map.mpr ⟨(c, k), mem_lk e, rfl⟩)
theorem lookup_mem : ∀ {l : List (String × ClsD)} {c : String}, c ∈ l.map (·.1) → (l.lookup c).isSome = true
  | [], _, h => by cases h
  | (a, k) :: r, c, h => by
    rw [List.lookup_cons]
    by_cases e : c = a
    · rw [beq_iff_eq.mpr e]; rfl
    · rw [beq_eq_false_iff_ne.mpr e]
      rw [List.map_cons] at h
      exact lookup_mem ((List.mem_cons.mp h).resolve_left e)
theorem kn_eq {T : Tab} : (progOf T).kn = (T.cls.map (·.1)).contains := by
  funext c
  cases h : (T.cls.map (·.1)).contains c with
  | true => exact lookup_mem (List.contains_iff_mem.mp h)
  | false =>
    cases q : (progOf T).kn c with
    | false => rfl
    | true => rw [contains_of q] at h; cases h
/-- the classes' facts, where the defs below are sound -/
theorem objF_of {n : Nat} {fx : Fix} {X : Cx} {k : Nat} (hK : X.K = K) (hk : fx.K = K) (hc : fx.ca = caOf K) (hm : X.mg = mg) (hp : X.prog = Pr) (hw : X.w = w) (hb : X.base = base) (hr : Room (k + 4) X.A) (hok : T.defs.all (Ent.ok gl) = true)
    (hF : ∀ e ∈ T.defs, ∃ fd, FunD K e.name e.qual (defArgs e.st) (defBody e.st) (defScope e.st) [] [] (e.ad K) fd) (ht : clsTab K T = true) (hd : clsDefs T = true) (hglo : ∀ c, (T.cls.lookup c).isSome = true → mg (Str.ofString c) = some (.ref (caOf K c)))
    (hIt : ∀ q ∈ T.its, ∃ fd, FunD K q.2.name q.2.qual (defArgs q.2.st) (defBody q.2.st) (defScope q.2.st) [] [] (q.2.ad K) fd) (hid : itDefs gl T = true) (hgl : ∀ x, gl.lookup x = some .blt → mg x = none) (nd : (T.defs.map (·.id)).Nodup) (hnim : nimDefs gl T = true)
    (hGn : ∀ x j, (x, j) ∈ gl → match j with
      | .blt => mg x = none
      | .cls c => mg x = some (.ref (caOf K c)) ∧ PySem.W.keepIn K (.ref (caOf K c)) = true ∧ (progOf T).kn c = true
      | _ => True)
    (ih : ∀ (e : Ent), e ∈ T.defs → ∀ fd, FunD K e.name e.qual (defArgs e.st) (defBody e.st) (defScope e.st) [] [] (e.ad K) fd → FnOk Pr w K mg base (L2.CX Pr w) k (e.ad K) fd e.ps (spI (progOf T) n K (caOf K) e.id)) :
    ObjF (progOf T) n fx X := by
  subst hK hm hp hw hb
  obtain ⟨fK, fca, fB, fF0⟩ := fx
  obtain rfl : fK = X.K := hk
  obtain rfl : fca = caOf X.K := hc
  unfold clsTab at ht
  rw [Bool.and_eq_true] at ht
  obtain ⟨t1, t2⟩ := ht
  obtain ⟨o1, o2⟩ := ownK_of t1
  have t2 := List.all_eq_true.mp t2
  unfold clsDefs at hd
  have hd := List.all_eq_true.mp hd
  have bits : ∀ p ∈ T.cls, _ := fun p hp => by
    have z := t2 p hp
    simp only [Bool.and_eq_true, List.all_eq_true] at z
    exact z
  refine ⟨fun c q => o2 c (List.contains_iff_mem.mp (contains_of q)), fun c x q => ?_, fun c x f m q => ?_, fun c kd f m q1 q2 => ?_, fun _ => by rw [kn_eq]; exact o1, fun c f q => ?_, fun c x f m F cs q1 q2 q3 q4 => ?_, fun c x f m q => ?_, fun c x f m q => ?_⟩
  · unfold Prog.lacks at q
    cases e : (progOf T).ct c with
    | none => rw [e] at q; cases q
    | some kd =>
      rw [e] at q
      exact He.noat_ok ((bits _ (mem_lk e)).1 x (List.contains_iff_mem.mp q))
  · unfold Prog.meth at q
    cases e : (progOf T).ct c with
    | none => rw [e] at q; cases q
    | some kd =>
      rw [e] at q
      have m1 := mem_lk e
      have m2 := mem_lk (show kd.meths.lookup x = some (f, m) from q)
      have z := hd _ m1
      rw [Bool.and_eq_true, Bool.and_eq_true] at z
      obtain ⟨en, me, h2⟩ := List.any_eq_true.mp (List.all_eq_true.mp z.1.1 _ m2)
      rw [Bool.and_eq_true, beq_iff_eq] at h2
      obtain ⟨fd, F⟩ := hF en me
      have M := He.meth_ok ((bits _ m1).2.1 _ m2)
      have g := ih en me fd F
      have id1 : en.id = f := h2.1
      rw [id1] at g
      refine ⟨k, en.ad X.K, fd, en.ps, ?_, hr, ent_binds (List.all_eq_true.mp hok en me) F, g⟩
      rw [Ent.pl_ad h2.2]
      exact M
  · have m1 := mem_lk (show T.cls.lookup c = some kd from q1)
    have z := hd _ m1
    rw [Bool.and_eq_true, Bool.and_eq_true] at z
    have z2 := z.1.2
    simp only [q2] at z2
    obtain ⟨en, me, h2⟩ := List.any_eq_true.mp z2
    rw [Bool.and_eq_true, beq_iff_eq] at h2
    obtain ⟨fd, F⟩ := hF en me
    have b5 := (bits _ m1).2.2.2.2.1
    simp only [q2] at b5
    have M := He.mkr_ok (by simpa using b5)
    have g := ih en me fd F
    have id1 : en.id = f := h2.1
    rw [id1] at g
    refine ⟨k, en.ad X.K, fd, en.ps, ?_, hglo c (by rw [show T.cls.lookup c = some kd from q1]; rfl), hr.mono (by omega), ent_binds (List.all_eq_true.mp hok en me) F, g⟩
    rw [Ent.pl_ad h2.2]
    exact M
  · unfold Prog.itF at q
    cases e : (progOf T).ct c with
    | none => rw [e] at q; cases q
    | some kd =>
      rw [e] at q
      have q : kd.iter = some f := q
      have m1 := mem_lk (show T.cls.lookup c = some kd from e)
      have z := List.all_eq_true.mp hid _ m1
      simp only [q, Bool.and_eq_true, decide_eq_true_eq] at z
      obtain ⟨z1, z2, z3⟩ := z
      obtain ⟨⟨c', en⟩, me, z4⟩ := List.any_eq_true.mp z3
      simp only [Bool.and_eq_true, decide_eq_true_eq, beq_iff_eq] at z4
      obtain ⟨rfl, z5, z6⟩ := z4
      unfold Ent.it at z6
      simp only [Bool.and_eq_true, decide_eq_true_eq] at z6
      obtain ⟨y1, y2, y3, y4⟩ := z6
      obtain ⟨fd, F⟩ := hIt _ me
      have S := scope_of y2
      have bb := bits _ m1
      have M := He.meth_ok ((by have y := bb.2.2.2.2.2.1; simpa [q] using y) : He.Fa.ok X.K (.meth (Str.ofString c') "__iter__") = true)
      have ndp : (namesPs (defArgs en.st)).Nodup := by
        have z : en.ps = en.N.take en.ps.length := S.pre.symm
        show en.ps.Nodup
        rw [z]
        exact S.nd.sublist (List.take_sublist _ _)
      have kb : (progOf T).kn c' = true := by
        unfold Prog.kn
        rw [e]
        rfl
      refine ⟨k + 1, en.ad X.K, fd, en.ps, ?_, hr, F.bindsN fun kV doc pm an cdv ct us hus => bind_plain y1 ndp hus, ?_⟩
      · rw [Ent.pl_ad z5]
        exact M
      · exact iter_ok F S y3 y4 (o2 c' (List.contains_iff_mem.mp (contains_of kb))).cls (He.noat_ok (bb.1 f (List.contains_iff_mem.mp z1))) (hgl _ z2)
  · unfold Prog.meth at q1
    cases e : (progOf T).ct c with
    | none => rw [e] at q1; cases q1
    | some kd =>
      rw [e] at q1
      have m1 := mem_lk (show T.cls.lookup c = some kd from e)
      have m2 := mem_lk (show kd.meths.lookup x = some (f, m) from q1)
      have z := hd _ m1
      rw [Bool.and_eq_true, Bool.and_eq_true] at z
      obtain ⟨en, me, h2⟩ := List.any_eq_true.mp (List.all_eq_true.mp z.1.1 _ m2)
      rw [Bool.and_eq_true, beq_iff_eq] at h2
      obtain ⟨fd, Fd⟩ := hF en me
      have M := He.meth_ok ((bits _ m1).2.1 _ m2)
      obtain ⟨id1, at1⟩ := h2
      have pf := prog_at nd me
      rw [id1, q2] at pf
      cases pf
      have ho := List.all_eq_true.mp hok en me
      have ho2 := ho
      unfold Ent.ok at ho2
      simp only [Bool.and_eq_true, decide_eq_true_eq] at ho2
      obtain ⟨o1b, o2b, o3b, o4b, o5b⟩ := ho2
      have zn := List.all_eq_true.mp hnim en me
      simp only [q3] at zn
      refine ⟨k + 1, en.ad X.K, fd, en.ps, ?_, hr, ent_binds ho Fd, by rw [← o3b]; exact q4, ?_⟩
      · rw [Ent.pl_ad at1]
        exact M
      · exact nim_ok (P := progOf T) Fd (scope_of o2b) (by rw [← o3b]; exact q4) zn (fun c q => o2 c (List.contains_iff_mem.mp (contains_of q))) (fun _ => by rw [kn_eq]; exact o1) hGn
  · unfold Prog.stat at q
    cases e : (progOf T).ct c with
    | none => rw [e] at q; cases q
    | some kd =>
      rw [e] at q
      have m1 := mem_lk e
      have m2 := mem_lk (show kd.stat.lookup x = some (f, m) from q)
      have z := hd _ m1
      rw [Bool.and_eq_true, Bool.and_eq_true, Bool.and_eq_true] at z
      obtain ⟨en, me, h2⟩ := List.any_eq_true.mp (List.all_eq_true.mp z.2.1 _ m2)
      rw [Bool.and_eq_true, beq_iff_eq] at h2
      obtain ⟨fd, F⟩ := hF en me
      have M := statB_ok ((bits _ m1).2.2.2.2.2.2.1 _ m2)
      have g := ih en me fd F
      have id1 : en.id = f := h2.1
      rw [id1] at g
      refine ⟨k, en.ad X.K, fd, en.ps, ?_, hglo c (by rw [show T.cls.lookup c = some kd from e]; rfl), hr, ent_binds (List.all_eq_true.mp hok en me) F, g⟩
      rw [Ent.wr_ad h2.2]
      exact M
  · unfold Prog.prop at q
    cases e : (progOf T).ct c with
    | none => rw [e] at q; cases q
    | some kd =>
      rw [e] at q
      have m1 := mem_lk e
      have m2 := mem_lk (show kd.props.lookup x = some (f, m) from q)
      have z := hd _ m1
      rw [Bool.and_eq_true, Bool.and_eq_true, Bool.and_eq_true] at z
      obtain ⟨en, me, h2⟩ := List.any_eq_true.mp (List.all_eq_true.mp z.2.2 _ m2)
      rw [Bool.and_eq_true, beq_iff_eq] at h2
      obtain ⟨fd, F⟩ := hF en me
      have M := propB_ok ((bits _ m1).2.2.2.2.2.2.2 _ m2)
      have g := ih en me fd F
      have id1 : en.id = f := h2.1
      rw [id1] at g
      refine ⟨k, He.ma X.K (caOf X.K c) (Str.ofString x), en.ad X.K, fd, en.ps, ?_, hr, ent_binds (List.all_eq_true.mp hok en me) F, g⟩
      rw [Ent.wr_ad h2.2]
      exact M
/-- the exception classes' facts -/
theorem exF_of {fx : Fix} {X : Cx} (hK : X.K = K) (hk : fx.K = K) (hc : fx.ca = caOf K) (hm : X.mg = mg) (hp : X.prog = Pr) (ht : exTab K T.file T.exs T.xis = true) (hd : exDefs T.exs T.xis = true) (hv : ∀ x ∈ T.xis, fnC K x.c = x.val) (hfile : (Pr.main.file == T.file) = true) (htop : (Pr.main.scope.names.lookup ("super" : Str)).isSome = false)
    (hsup : T.exs.isEmpty = false → mg "super" = none) : ExF (progOf T) fx X := by
  subst hK hm hp
  obtain ⟨fK, fca, fB, fF0⟩ := fx
  obtain rfl : fK = X.K := hk
  obtain rfl : fca = caOf X.K := hc
  unfold exTab at ht
  simp only [Bool.and_eq_true] at ht
  obtain ⟨t1, t2, t3⟩ := ht
  have one : ∀ c k, (progOf T).xt c = some k → exOne X.K T.exs (c, k) = true := fun c k e => List.all_eq_true.mp t1 _ (mem_lk e)
  have parts : ∀ c k, (progOf T).xt c = some k → _ := fun c k e => by
    have z := one c k e
    unfold exOne at z
    simp only [Bool.and_eq_true, decide_eq_true_eq] at z
    exact z
  have sup : ∀ c k, (progOf T).xt c = some k → X.mg "super" = none := fun c k e => hsup (by
    have m := mem_lk e
    cases h : T.exs with
    | nil => rw [h] at m; cases m
    | cons a r => rfl)
  refine ⟨fun c k l e hi => ?_, fun c k e hi => ?_, fun c k e => ?_, fun c k e => exc_of (parts c k e).2.2.2.2.1, fun c k c2 k2 e e2 => ?_, fun c k c2 k2 e e2 => ?_, fun c k e => (parts c k e).2.2.2.2.2.2.1⟩
  · have p := parts c k e
    have q := p.2.2.2.2.2.2.2
    simp only [hi] at q
    have q : (oexB X.K (caOf X.K c) && (l.all (fun f => He.Fa.ok X.K (.noat (Str.ofString c) (Str.ofString f))) && decide (l.length ≤ 1000))) = true := by simpa using q
    simp only [Bool.and_eq_true, decide_eq_true_eq, List.all_eq_true] at q
    unfold exDefs at hd
    have d := List.all_eq_true.mp hd _ (mem_lk e)
    simp only [hi] at d
    obtain ⟨xi, mx, h2⟩ := List.any_eq_true.mp d
    simp only [Bool.and_eq_true, decide_eq_true_eq, beq_iff_eq, Bool.not_eq_true'] at h2
    obtain ⟨rfl, h3, h4, h5⟩ := h2
    obtain ⟨i1, i2, i3⟩ := ini_of hfile (hv xi mx) (List.all_eq_true.mp t2 xi mx)
    refine ⟨⟨_, _, _, _, _, _, xi.self, xi.fvs, h3, i1, h4, i2, i3, fun z => ?_⟩, oex_of q.1 p.2.1 p.2.2.1 p.2.2.2.1, fun f hf => He.noat_ok (q.2.1 f hf), q.2.2, sup _ _ e, htop⟩
    rw [z] at h4
    cases l with
    | nil => cases h5
    | cons a r => cases h4
  · have q := (parts c k e).2.2.2.2.2.2.2
    simp only [hi] at q
    exact q
  · have p := parts c k e
    exact ⟨p.2.1, p.2.2.1, p.2.2.2.1⟩
  · exact ((parts c k e).2.2.2.2.2.1 |> fun z => by
      have z2 := List.all_eq_true.mp z _ (mem_lk e2)
      simp only [Bool.and_eq_true, decide_eq_true_eq] at z2
      exact z2.1)
  · exact ((parts c k e).2.2.2.2.2.1 |> fun z => by
      have z2 := List.all_eq_true.mp z _ (mem_lk e2)
      simp only [Bool.and_eq_true, decide_eq_true_eq] at z2
      exact z2.2)
/-- THE DEFS ARE SOUND: each keeps its run as a promise -/
theorem fns_ok (nd : (T.defs.map (·.id)).Nodup) (hok : T.defs.all (Ent.ok gl) = true)
    (hF : ∀ e ∈ T.defs, ∃ fd, FunD K e.name e.qual (defArgs e.st) (defBody e.st) (defScope e.st) [] [] (e.ad K) fd) (hG : ∀ x k, gl.lookup x = some k → GlobOk T K mg x k)
    (ht : clsTab K T = true) (hd : clsDefs T = true) (hglo : ∀ c, (T.cls.lookup c).isSome = true → mg (Str.ofString c) = some (.ref (caOf K c)))
    (hIt : ∀ q ∈ T.its, ∃ fd, FunD K q.2.name q.2.qual (defArgs q.2.st) (defBody q.2.st) (defScope q.2.st) [] [] (q.2.ad K) fd) (hid : itDefs gl T = true) (hnim : nimDefs gl T = true) (hGl : ∀ x k, (x, k) ∈ gl → GlobOk T K mg x k)
    (htx : exTab K T.file T.exs T.xis = true) (hdx : exDefs T.exs T.xis = true) (hv : ∀ x ∈ T.xis, fnC K x.c = x.val) (hfile : (Pr.main.file == T.file) = true) (htop : (Pr.main.scope.names.lookup ("super" : Str)).isSome = false) (hsup : T.exs.isEmpty = false → mg "super" = none) :
    ∀ (n : Nat) (e : Ent), e ∈ T.defs → ∀ fd, FunD K e.name e.qual (defArgs e.st) (defBody e.st) (defScope e.st) [] [] (e.ad K) fd →
      FnOk Pr w K mg base (L2.CX Pr w) (5 * n) (e.ad K) fd e.ps (spI (progOf T) n K (caOf K) e.id) := by
  have hGn : ∀ x j, (x, j) ∈ gl → match j with
      | .blt => mg x = none
      | .cls c => mg x = some (.ref (caOf K c)) ∧ PySem.W.keepIn K (.ref (caOf K c)) = true ∧ (progOf T).kn c = true
      | _ => True := fun x j hm => by
    have g := hGl x j hm
    cases j with
    | blt => exact g
    | cls c =>
      obtain ⟨ex, g2, g3⟩ := g
      subst ex
      have b := ht
      unfold clsTab at b
      rw [Bool.and_eq_true] at b
      obtain ⟨kd, ek⟩ := Option.isSome_iff_exists.mp g3
      have z := List.all_eq_true.mp b.2 _ (mem_lk ek)
      simp only [Bool.and_eq_true] at z
      exact ⟨g2, He.keep_ok z.2.2.2.1, g3⟩
    | int i => trivial
    | fn f => trivial
    | exc c => trivial
  intro n
  induction n with
  | zero =>
    intro e he fd F
    have no : ∀ vs H Q E, ¬ spI (progOf T) 0 K (caOf K) e.id vs H Q E := fun vs H Q E h => by
      obtain ⟨_, fx, g, ds, S, _, _, _, _, q⟩ := h
      exact q
    exact ⟨fun vs H Q E h => (no _ _ _ _ h).elim, fun _ _ _ _ _ _ _ _ _ _ _ _ _ h => (no _ _ _ _ h).elim⟩
  | succ n ih =>
    intro e he fd F
    have ho := List.all_eq_true.mp hok e he
    unfold Ent.ok at ho
    simp only [Bool.and_eq_true, decide_eq_true_eq] at ho
    obtain ⟨o1, o2, o3, o4, o5⟩ := ho
    have S := scope_of o2
    have pe := prog_at nd he
    have len : ∀ vs H Q E, spI (progOf T) (n + 1) K (caOf K) e.id vs H Q E → vs.length = e.ps.length := fun vs H Q E h => by
      obtain ⟨⟨G, h1, h2⟩, _⟩ := h
      rw [pe] at h1
      cases h1
      rw [h2, o3]
    show FnOk Pr w K mg base (L2.CX Pr w) (5 * n + 4 + 1) (e.ad K) fd e.ps (spI (progOf T) (n + 1) K (caOf K) e.id)
    refine F.ok S len fun cdv A outer s H vs Q E hr h => ?_
    have hl := len _ _ _ _ h
    obtain ⟨_, fx, g, ds, St, hk, hc, r, rv, q⟩ := h
    obtain ⟨fK, fca, fB, fF0⟩ := fx
    obtain rfl : fK = K := hk
    obtain rfl : fca = caOf fK := hc
    refine ⟨tS ⟨fK, caOf fK, fB, fF0⟩ (fun cls d _ H => E cls d H) (exS (progOf T) (run (progOf T) n) e.fn.body), ?_, ?_⟩
    · have sok : SOk (progOf T) n ⟨e.N, defScope e.st, gl⟩ ⟨fK, caOf fK, fB, fF0⟩ (fun cls d _ H => E cls d H) (cxOf (L2.CX Pr w) Pr w fK mg base e.N e.qual (defScope e.st) (e.ad fK) cdv A outer s H E) := by
        refine ⟨⟨rfl, S.nd, rfl, rfl, rfl, takes_of rfl rfl rfl rfl, hr.units, fun x k z => ?_, ?_, exF_of rfl rfl rfl rfl rfl htx hdx hv hfile htop hsup⟩, fun _ => rfl, passes_of (K := fun e' s'' => L2.CX Pr w outer H s E e' s'') (E₁ := fun e' s'' => L2.CX Pr w outer H s E e' s'') rfl, S.kind, rfl, rfl, hr.mono (by omega)⟩
        · have gk := hG x k z
          cases k with
          | blt => exact gk
          | int i => exact gk
          | fn f =>
            obtain ⟨e2, m2, id2, g2⟩ := gk
            obtain ⟨fd2, F2⟩ := hF e2 m2
            subst id2
            exact ⟨_, _, fd2, e2.ps, g2, F2.kp, hr.mono (Nat.le_add_right _ 4), ent_binds (List.all_eq_true.mp hok e2 m2) F2, ih e2 m2 fd2 F2⟩
          | cls c =>
            obtain ⟨ex, g2, g3⟩ := gk
            subst ex
            have b := ht
            unfold clsTab at b
            rw [Bool.and_eq_true] at b
            obtain ⟨kd, ek⟩ := Option.isSome_iff_exists.mp g3
            have z := List.all_eq_true.mp b.2 _ (mem_lk ek)
            simp only [Bool.and_eq_true] at z
            exact ⟨g2, He.keep_ok z.2.2.2.1, g3⟩
          | exc c => exact gk
        · exact objF_of (k := 5 * n) rfl rfl rfl rfl rfl rfl rfl hr hok hF ht hd hglo hIt hid (fun x e => hG x .blt e) nd hnim hGn ih
      exact (sndS e.fn.body sok).ss _ o5
    · have hN : vs.length ≤ e.N.length := by
        have z := congrArg List.length S.pre
        rw [List.length_take] at z
        omega
      refine ⟨g, startD e.fn.ns ds, St, r, start_sl o4 hN rv, ?_⟩
      have q : ePost ⟨fK, caOf fK, fB, fF0⟩ (fun c d _ H => E c d H) g [] (tOf ⟨fK, caOf fK, fB, fF0⟩ Q) (match (progOf T).fn e.id with
        | some F => if ds.length = F.np then endR (exS (progOf T) (run (progOf T) n) F.body (startD F.ns ds) St) else .bad
        | none => .bad) := q
      rw [pe] at q
      have q : ePost ⟨fK, caOf fK, fB, fF0⟩ (fun c d _ H => E c d H) g [] (tOf ⟨fK, caOf fK, fB, fF0⟩ Q) (if ds.length = e.fn.np then endR (exS (progOf T) (run (progOf T) n) e.fn.body (startD e.fn.ns ds) St) else .bad) := q
      rw [if_pos (by rw [← rv.length, hl, o3])] at q
      cases z : exS (progOf T) (run (progOf T) n) e.fn.body (startD e.fn.ns ds) St with
      | nx dσ S1 =>
        rw [z] at q
        exact fun g' H' σ' l' r' s' => q g' H' l' r' .non .non
      | rt d S1 =>
        rw [z] at q
        exact fun g' H' v l' r' rv' => q g' H' l' r' v rv'
      | bk dσ S1 => rw [z] at q; exact q.elim
      | ct dσ S1 => rw [z] at q; exact q.elim
      | ex x dσ S1 =>
        rw [z] at q
        exact fun cls dx g' H' σ' l' r' s' rx => q cls dx g' H' l' r' rx
      | bad => rw [z] at q; exact q.elim
end
end MX
end

section
set_option maxRecDepth 100000
set_option maxHeartbeats 4000000
namespace MX
open PySem PySem.Spec PyProof.Rows L2

/-- the j-th statement of a class -/
def inCls (s : Stmt) (j : Nat) : Stmt := match s with
  | .ClassDef _ _ _ body _ _ _ _ _ _ _ => body.getD j (.Pass ⟨0, 0, 0, 0⟩)
  | s => s
def Ent.dd (e : Ent) : He5.DefA := ⟨fun K => e.ad K, e.name, e.qual, defArgs e.st, defBody e.st, defScope e.st, [], []⟩
def faOf : Str × GK → He.Fa
  | (x, .blt) => .free x
  | (x, .int i) => .int x i
  | (x, .fn _) => .glo x
  | (x, .cls _) => .glo x
  | (x, .exc _) => .glo x
/-- the names' kinds fit the table -/
def glB (T : Tab) (gl : List (Str × GK)) : Bool := gl.all fun p => match p.2 with
  | .fn f => T.defs.any fun e => (e.id == f) && e.pl (p.1, none)
  | .cls c => decide (p.1 = Str.ofString c) && (T.cls.lookup c).isSome
  | .exc c => decide (p.1 = Str.ofString c) && (T.exs.lookup c).isSome
  | _ => true
section
variable {T : Tab} {gl : List (Str × GK)} {more : List He.Fa} {K : PySem.W.Frag} {h : Heap} {mg : Str → Option Value}
theorem facts_defs (c : He5.SaysA (gl.map faOf ++ more) (T.alld.map Ent.dd) K) : ∀ e ∈ T.alld, ∃ fd, FunD K e.name e.qual (defArgs e.st) (defBody e.st) (defScope e.st) [] [] (e.ad K) fd := fun e he => by
  obtain ⟨i, hi, e1⟩ := List.getElem_of_mem he
  exact c.def_ i (d := e.dd) (by rw [List.getElem?_map, List.getElem?_eq_getElem hi, e1]; rfl)
theorem facts_glob (c : He5.SaysA (gl.map faOf ++ more) (T.alld.map Ent.dd) K) (X : K.In h) (G : h.Ns mainGlobals mg) (hg : glB T gl = true) : ∀ x k, (x, k) ∈ gl → GlobOk T K mg x k := fun x k hm => by
  obtain ⟨i, hi, e1⟩ := List.getElem_of_mem hm
  have fact := c.fact i (f := faOf (x, k)) (by rw [List.getElem?_append_left (by rw [List.length_map]; exact hi), List.getElem?_map, List.getElem?_eq_getElem hi, e1]; rfl)
  cases k with
  | blt => exact He.free_ok X G fact
  | int j => exact He.int_ok X G fact
  | fn f =>
    have z := He.glo_ok X G fact
    have q := List.all_eq_true.mp hg (x, .fn f) hm
    have q : (T.defs.any fun e => (e.id == f) && e.pl (x, none)) = true := q
    obtain ⟨e, me, h2⟩ := List.any_eq_true.mp q
    rw [Bool.and_eq_true] at h2
    refine ⟨e, me, beq_iff_eq.mp h2.1, ?_⟩
    rw [z, Ent.pl_ad h2.2]
    rfl
  | cls c =>
    have z := He.glo_ok X G fact
    have q := List.all_eq_true.mp hg (x, .cls c) hm
    have q : (decide (x = Str.ofString c) && (T.cls.lookup c).isSome) = true := q
    rw [Bool.and_eq_true, decide_eq_true_eq] at q
    exact ⟨q.1, z, q.2⟩
  | exc c =>
    have z := He.glo_ok X G fact
    have q := List.all_eq_true.mp hg (x, .exc c) hm
    have q : (decide (x = Str.ofString c) && (T.exs.lookup c).isSome) = true := q
    rw [Bool.and_eq_true, decide_eq_true_eq] at q
    obtain ⟨rfl, q2⟩ := q
    exact ⟨z, q2⟩
theorem facts_cls (X : K.In h) (G : h.Ns mainGlobals mg) (ht : clsTab K T = true) : ∀ c, (T.cls.lookup c).isSome = true → mg (Str.ofString c) = some (.ref (caOf K c)) := fun c hc => by
  obtain ⟨kd, ek⟩ := Option.isSome_iff_exists.mp hc
  unfold clsTab at ht
  rw [Bool.and_eq_true] at ht
  have z := List.all_eq_true.mp ht.2 _ (mem_lk ek)
  simp only [Bool.and_eq_true] at z
  exact He.glo_ok X G z.2.2.1
end
/-- what a law's run says -/
def LawTrue (T : Tab) (n : Nat) : Prop := ∀ ns : List Int, ns.length ≤ 63 → ∃ S, run (progOf T) n "law" [.scr ns] [] = .ok (.bl true) S
theorem law_sp {T : Tab} {n : Nat} (ht : LawTrue T n) {K : PySem.W.Frag} {H : Hp} {a : Addr} {ns : List Int} (hl : ns.length ≤ 63) (hS : SqL K H a (ns.map V.int)) :
    spI (progOf T) n K (caOf K) "law" [.ref a] H (fun v _ => v = .bl true) fun _ _ _ => False := by
  obtain ⟨S, e⟩ := ht ns hl
  have hn := run_np (P := progOf T) (n := n) (f := "law") (ds := [.scr ns]) (S := []) (by rw [e]; exact fun z => by cases z)
  obtain ⟨F, h1, h2⟩ := hn
  refine ⟨⟨F, h1, h2⟩, ⟨K, caOf K, H, H⟩, ⟨H, fun _ => 0, 0⟩, [.scr ns], [], rfl, rfl, ⟨fun _ _ e => e, fun _ _ e => e, fun _ _ e => .inl e, fun _ _ e => e, rfl, fun _ _ e => by simp at e, fun _ _ _ _ e => by simp at e⟩, .cons (.scr hS) .nil, ?_⟩
  rw [e]
  exact fun g' H' l r v rv => rv.iBl
/-- the walk of a law's row -/
theorem walk_mx {l : PySem.W.OpenLaw} {T : Tab} {gl : List (Str × GK)} {more : List He.Fa} {n : Nat} {m : Nat} {q : Program} {loose : List Str} {XP : (Str → Option Value) → Heap → Prop} {d : DefRec} {x : Str}
    (hn : l.most = some 63) (hdf : d.params.defaults = []) (hr : Room (5 * n) callerA) (hdn : d.name = ("law" : Str))
    (nd : (T.defs.map (·.id)).Nodup) (hok : T.defs.all (Ent.ok gl) = true) (hg : glB T gl = true) (hcd : clsDefs T = true) (hid : itDefs gl T = true) (hnm : nimDefs gl T = true) (hxd : exDefs T.exs T.xis = true) (hfile : (l.prog.main.file == T.file) = true) (htop : (l.prog.main.scope.names.lookup ("super" : Str)).isSome = false) (hlaw : T.defs.any (fun e => (e.id == "law") && (decide (e.at_ = (("law" : Str), none)) && decide (e.ps = [x]))) = true) (hgl : gl.lookup ("law" : Str) = some (.fn "law")) (ht : LawTrue T n) :
    PySem.W.WalkO q loose XP (fun w => (hookY m (fun K => clsTab K T && exTab K T.file T.exs T.xis) (gl.map faOf ++ more) (T.alld.map Ent.dd) T.xis).says w) l.row.toRowW d [] (fun f vs => PySem.call f vs) := by
  refine Att.attach_call hn hdf fun w s₀ s₁ mg mb fa o pm cd doc a vs ns G Y ho hd hcd2 hmg hobj hints hlen hgens => ?_
  obtain ⟨K, KX, tabs, c, hvx⟩ := Y
  have tabs : (clsTab K T && exTab K T.file T.exs T.xis) = true := tabs
  rw [Bool.and_eq_true] at tabs
  obtain ⟨ctab, xtab⟩ := tabs
  have hv : ∀ x ∈ T.xis, fnC K x.c = x.val := fun x hx => by
    obtain ⟨i, hi, e⟩ := List.getElem_of_mem hx
    have z := congrArg (fun l => l[i]?) hvx
    simp only [List.getElem?_map, List.getElem?_eq_getElem hi, Option.map_some, Option.some.injEq, e] at z
    exact z
  have hsup : T.exs.isEmpty = false → mg "super" = none := fun h => by
    have z := xtab
    unfold exTab at z
    rw [Bool.and_eq_true, Bool.and_eq_true, Bool.or_eq_true, h] at z
    exact He.free_ok KX G.T.g (z.2.2.resolve_left (by simp))
  have hFA := facts_defs c
  have hF : ∀ e ∈ T.defs, ∃ fd, FunD K e.name e.qual (defArgs e.st) (defBody e.st) (defScope e.st) [] [] (e.ad K) fd := fun e he => hFA e (List.mem_append_left _ he)
  have hIt : ∀ q ∈ T.its, ∃ fd, FunD K q.2.name q.2.qual (defArgs q.2.st) (defBody q.2.st) (defScope q.2.st) [] [] (q.2.ad K) fd := fun q hq => hFA q.2 (List.mem_append_right _ (List.mem_map_of_mem hq))
  have hGl := facts_glob c KX G.T.g hg
  have hG : ∀ x k, gl.lookup x = some k → GlobOk T K mg x k := fun x k hx => hGl x k (PySem.mem_of_lookup hx)
  have hC := facts_cls KX G.T.g ctab
  rw [hdn] at hmg
  obtain ⟨e, me, h2⟩ := List.any_eq_true.mp hlaw
  simp only [Bool.and_eq_true, decide_eq_true_eq, beq_iff_eq] at h2
  obtain ⟨e1, e2, e3⟩ := h2
  have g := hG _ _ hgl
  obtain ⟨e', me', f1, f2⟩ := g
  obtain rfl : e' = e := by
    have key : ∀ l : List Ent, (l.map (·.id)).Nodup → e' ∈ l → e ∈ l → e' = e := fun l => by
      induction l with
      | nil => exact fun _ h => by cases h
      | cons z r ih =>
        intro nd h1 h2
        have nd := List.nodup_cons.mp nd
        rcases List.mem_cons.mp h1 with q1 | q1 <;> rcases List.mem_cons.mp h2 with q2 | q2
        · rw [q1, q2]
        · exact absurd (show z.id ∈ r.map (·.id) by rw [← q1, f1, ← e1]; exact List.mem_map_of_mem q2) nd.1
        · exact absurd (show z.id ∈ r.map (·.id) by rw [← q2, e1, ← f1]; exact List.mem_map_of_mem q1) nd.1
        · exact ih nd.2 q1 q2
    exact key T.defs nd me' me
  have ea : fa = e'.ad K := by
    have z := hmg.symm.trans f2
    cases z
    rfl
  subst ea
  obtain ⟨fd, F⟩ := hF e' me
  have b := FunD.bindsA (ps := e'.ps) F fun kV doc pm an cdv ct us hus => by
    have ho2 := List.all_eq_true.mp hok e' me
    unfold Ent.ok at ho2
    simp only [Bool.and_eq_true, decide_eq_true_eq] at ho2
    obtain ⟨p1, p2, _⟩ := ho2
    have S2 := scope_of p2
    have z2 : e'.ps = e'.N.take e'.ps.length := S2.pre.symm
    have ndp : (namesPs (defArgs e'.st)).Nodup := by
      show e'.ps.Nodup
      rw [z2]
      exact S2.nd.sublist (List.take_sublist _ _)
    exact bind_plain p1 ndp hus
  have fin := fun base (_ : K.In base) (_ : base.Ns mainGlobals mg) => fns_ok (Pr := l.prog) (w := w) (base := base) nd hok hF hG ctab hcd hC hIt hid hnm hGl xtab hxd hv hfile htop hsup n e' me fd F
  rw [e1, e3] at fin
  rw [e3] at b
  exact law_call KX G.T.g G.T.b G.T.builtins G.T.nolimit hgens hobj hints (Nat.le_trans hlen (by decide)) hr fin (fun s u => b s [u] rfl) (fun H hO hS => law_sp ht hlen hS) fun H e' s' z => by
    obtain ⟨_, _, _, _, _, _, _, _, _, _, _, _, z⟩ := z
    exact z
end MX
end

section
set_option maxRecDepth 100000
set_option maxHeartbeats 1000000
namespace MX
open PySem
/-! ### laws of the evaluator, for simp -/
section
variable {α β : Type} {pr : Prog} {cb : Cb} {σ : DSt} {S : Store} {a b c e r as : E}
@[simp] theorem bind_ok (x : α) (f : α → Store → Res β) : (Res.ok x S).bind f = f x S := (rfl)
@[simp] theorem bind_ex (x : Exn) (f : α → Store → Res β) : (Res.ex x S).bind f = .ex x S := (rfl)
@[simp] theorem bind_bad (f : α → Store → Res β) : (Res.bad).bind f = .bad := (rfl)
@[simp] theorem sr_ok (x : α) (f : α → Store → SR) : (Res.ok x S).sr σ f = f x S := (rfl)
@[simp] theorem sr_ex (x : Exn) (f : α → Store → SR) : (Res.ex x S).sr σ f = .ex x σ S := (rfl)
@[simp] theorem sr_bad (f : α → Store → SR) : (Res.bad).sr σ f = .bad := (rfl)
theorem bind_ite {p : Prop} [Decidable p] (x y : Res α) (f : α → Store → Res β) : (if p then x else y).bind f = if p then x.bind f else y.bind f := by split <;> rfl
theorem sr_ite {p : Prop} [Decidable p] (x y : Res α) (f : α → Store → SR) : (if p then x else y).sr σ f = if p then x.sr σ f else y.sr σ f := by split <;> rfl
@[simp high] theorem get_zero (x : α) (l : List α) : (x :: l)[0]? = some x := (rfl)
def slot (S : Store) : Option (Option D) → Res D
  | some (some d) => .ok d S
  | _ => .bad
@[simp] theorem slot_some (d : D) : slot S (some (some d)) = .ok d S := (rfl)
@[simp] theorem ev_var (i : Nat) : evE pr cb (.var i) σ S = slot S σ[i]? := by
  show (match σ[i]? with | some (some d) => Res.ok d S | _ => .bad) = _
  unfold slot
  rfl
@[simp] theorem ev_int (i : Int) : evE pr cb (.int i) σ S = .ok (.int i) S := (rfl)
@[simp] theorem ev_bl (i : Bool) : evE pr cb (.bl i) σ S = .ok (.bl i) S := (rfl)
@[simp] theorem ev_non : evE pr cb .non σ S = .ok .non S := (rfl)
@[simp] theorem ev_nopart : evE pr cb .nopart σ S = .ok .non S := (rfl)
@[simp] theorem ev_str (s : String) : evE pr cb (.str s) σ S = .ok (.str (Str.ofString s)) S := (rfl)
@[simp] theorem ev_gint (x : String) (i : Int) : evE pr cb (.gint x i) σ S = .ok (.int i) S := (rfl)
@[simp] theorem ev_bin (op : Bop) : evE pr cb (.bin op a b) σ S = (evE pr cb a σ S).bind fun x S1 => (evE pr cb b σ S1).bind fun y S2 => binX pr cb op S2 x y := (rfl)
@[simp] theorem ev_neg : evE pr cb (.neg a) σ S = (evE pr cb a σ S).bind fun x S1 => negX pr cb S1 x := (rfl)
def partI (S : Store) : D → Res D
  | .int i => .ok (.int i) S
  | _ => .bad
@[simp] theorem partI_int (i : Int) : partI S (.int i) = .ok (.int i) S := (rfl)
@[simp] theorem ev_part : evE pr cb (.part a) σ S = (evE pr cb a σ S).bind fun x S1 => partI S1 x := (rfl)
@[simp] theorem ev_not : evE pr cb (.not a) σ S = (evE pr cb a σ S).bind fun x S1 => tru S1 x fun b => .ok (.bl (!b)) S1 := (rfl)
@[simp] theorem ev_cmp (op : Cop) : evE pr cb (.cmp op a b) σ S = (evE pr cb a σ S).bind fun x S1 => (evE pr cb b σ S1).bind fun y S2 => cmpX pr cb op S2 x y := (rfl)
@[simp] theorem ev_and : evE pr cb (.and a b) σ S = (evE pr cb a σ S).bind fun x S1 => tru S1 x fun t => if t then evE pr cb b σ S1 else .ok x S1 := (rfl)
@[simp] theorem ev_or : evE pr cb (.or a b) σ S = (evE pr cb a σ S).bind fun x S1 => tru S1 x fun t => if t then .ok x S1 else evE pr cb b σ S1 := (rfl)
@[simp] theorem ev_ife : evE pr cb (.ife c a b) σ S = (evE pr cb c σ S).bind fun x S1 => tru S1 x fun t => if t then evE pr cb a σ S1 else evE pr cb b σ S1 := (rfl)
@[simp] theorem ev_tup : evE pr cb (.tup a) σ S = (evE pr cb a σ S).bind fun x S1 => if (unT x).length ≤ sizeLine then .ok (.tup (unT x)) S1 else .bad := (rfl)
@[simp] theorem ev_lst : evE pr cb (.lst a) σ S = (evE pr cb a σ S).bind fun x S1 => if (unT x).length ≤ sizeLine then .ok (.lst (unT x)) S1 else .bad := (rfl)
@[simp] theorem ev_cell : evE pr cb (.cell a) σ S = (evE pr cb a σ S).bind fun x S1 => if (unT x).length ≤ sizeLine then .ok (.ptr S1.length) (S1 ++ [.lst (unT x)]) else .bad := (rfl)
@[simp] theorem ev_anil : evE pr cb .anil σ S = .ok (.tup []) S := (rfl)
@[simp] theorem ev_acons : evE pr cb (.acons e r) σ S = (evE pr cb e σ S).bind fun x S1 => (evE pr cb r σ S1).bind fun y S2 => .ok (.tup (x :: unT y)) S2 := (rfl)
@[simp] theorem ev_idx : evE pr cb (.idx a b) σ S = (evE pr cb a σ S).bind fun x S1 => (evE pr cb b σ S1).bind fun y S2 => idxX pr cb S2 x y := (rfl)
@[simp] theorem idxX_lst (xs : List D) (i : D) : idxX pr cb S (.lst xs) i = idxD S (.lst xs) i := (rfl)
@[simp] theorem idxX_tup (xs : List D) (i : D) : idxX pr cb S (.tup xs) i = idxD S (.tup xs) i := (rfl)
@[simp] theorem idxX_ins (c : String) (fs : List (String × D)) (i : D) : idxX pr cb S (.ins c fs) i = callO cb (pr.meth c "__getitem__") [.ins c fs, i] S := (rfl)
@[simp] theorem ev_callfl (f : String) : evE pr cb (.call .flat f as) σ S = (evE pr cb as σ S).bind fun x S1 => flatK (cb f) (unT x) S1 := (rfl)
@[simp] theorem ev_cut : evE pr cb (.cut a b c) σ S = (evE pr cb a σ S).bind fun x S1 => (evE pr cb b σ S1).bind fun y S2 => withPart y fun l => (evE pr cb c σ S2).bind fun z S3 => withPart z fun h => cutD S3 x l h := (rfl)
@[simp] theorem ev_callp (f : String) : evE pr cb (.call .pure f as) σ S = (evE pr cb as σ S).bind fun x S1 => callP cb f (unT x) S1 := (rfl)
@[simp] theorem ev_callst (f : String) : evE pr cb (.call .st f as) σ S = (evE pr cb as σ S).bind fun x S1 => cb f (unT x) S1 := (rfl)
@[simp] theorem ev_bi (b : Bi) : evE pr cb (.bi b as) σ S = (evE pr cb as σ S).bind fun x S1 => biX pr cb b S1 (unT x) := (rfl)
@[simp] theorem ev_isi (cs : List Ty) : evE pr cb (.isi a cs) σ S = (evE pr cb a σ S).bind fun x S1 => ofB S1 (isiXs pr.kn S1 x cs) := (rfl)
@[simp] theorem ev_cnd : evE pr cb (.cnd a) σ S = evE pr cb a σ S := (rfl)
@[simp] theorem ev_frz : evE pr cb (.frz a) σ S = (evE pr cb a σ S).bind fun x S1 => frzE S1 x := (rfl)
@[simp] theorem ev_catc : evE pr cb (.catc a b) σ S = (evE pr cb a σ S).bind fun x S1 => (evE pr cb b σ S1).bind fun y S2 => catD S2 x y := (rfl)
def rngR (S : Store) : Option (List D) → Res D
  | some xs => .ok (.lst xs) S
  | none => .bad
@[simp] theorem rngR_some (xs : List D) : rngR S (some xs) = .ok (.lst xs) S := (rfl)
@[simp] theorem ev_irng1 : evE pr cb (.irng1 a) σ S = (evE pr cb a σ S).bind fun x S1 => rngR S1 (rngD [x]) := (rfl)
@[simp] theorem ev_irng2 : evE pr cb (.irng2 a b) σ S = (evE pr cb a σ S).bind fun x S1 => (evE pr cb b σ S1).bind fun y S2 => rngR S2 (rngD [x, y]) := (rfl)
/-- o.append(e) -/
def appR (S : Store) (n : Nat) (y : D) : Option Cell → Res D
  | some (.lst xs) => if xs.length < sizeLine then .ok .non (S.set n (.lst (xs ++ [y]))) else .bad
  | _ => .bad
@[simp] theorem appR_lst (n : Nat) (y : D) (xs : List D) : appR S n y (some (.lst xs)) = if xs.length < sizeLine then .ok .non (S.set n (.lst (xs ++ [y]))) else .bad := (rfl)
def appP (n : Nat) (k : Res D) : Option Cell → Res D
  | some (.lst _) => k
  | _ => .bad
@[simp] theorem appP_lst (n : Nat) (k : Res D) (xs : List D) : appP n k (some (.lst xs)) = k := (rfl)
def appO (S : Store) (k : Store → Res D) : D → Res D
  | .ptr n => appP n ((k S).bind fun y S2 => appR S2 n y S2[n]?) S[n]?
  | _ => .bad
@[simp] theorem appO_ptr (k : Store → Res D) (n : Nat) : appO S k (.ptr n) = appP n ((k S).bind fun y S2 => appR S2 n y S2[n]?) S[n]? := (rfl)
@[simp] theorem ev_app : evE pr cb (.app a e) σ S = (evE pr cb a σ S).bind fun x S1 => appO S1 (evE pr cb e σ) x := (rfl)
/-- a comprehension's turn -/
def compR (k : Res (Option D)) (n : Res (Option D)) : Option Bool → Res (Option D)
  | some true => k
  | some false => n
  | none => .bad
@[simp] theorem compR_some (k n : Res (Option D)) (b : Bool) : compR k n (some b) = if b then k else n := by cases b <;> rfl
def compF (pr : Prog) (cb : Cb) (own : List Nat) (t : Nat) (c e : E) (σ : DSt) (x : D) (S : Store) : Res (Option D) :=
  noEx ((evE pr cb c ((wipeD σ own).set t (some x)) S).bind fun y S2 => compR ((evE pr cb e ((wipeD σ own).set t (some x)) S2).bind fun z S3 => .ok (some z) S3) (.ok none S2) (truD (look S2 y)))
/-- a walk's source -/
@[simp] theorem seqG_t (d : D) (xs : List D) : seqG true d (some xs) = some ⟨xs, fun _ => true⟩ := (rfl)
theorem seqG_f (d : D) (xs : List D) : seqG false d (some xs) = some ⟨xs, fun S => sameSrc S d xs⟩ := (rfl)
@[simp] theorem srcD_seq (d : D) : srcD .seq S d = seqG (still S d) d (itemsD S d) := by
  cases d <;> rfl
@[simp] theorem srcD_zip' (a b : D) : srcD .zip S (.tup [a, b]) = zipG (alikeS S a b) (seqG (still S a) a (itemsD S a)) (seqG (still S b) b (itemsD S b)) := (rfl)
@[simp] theorem srcD_enum' (a : D) : srcD .enum S (.tup [a]) = enumG (isLst S a) (seqG (still S a) a (itemsD S a)) := (rfl)
@[simp] theorem srcD_rev' (a : D) : srcD .rev S (.tup [a]) = revG (isLst S a) (seqG (still S a) a (itemsD S a)) := (rfl)
@[simp] theorem zipG_t (xs ys : List D) : zipG true (some ⟨xs, fun _ => true⟩) (some ⟨ys, fun _ => true⟩) = some ⟨(List.zip xs ys).map fun p => .tup [p.1, p.2], fun _ => true⟩ := (rfl)
@[simp] theorem enumG_t (s : Src) : enumG true (some s) = some ⟨enumL 0 s.xs, s.ok⟩ := (rfl)
@[simp] theorem revG_t (s : Src) : revG true (some s) = some ⟨s.xs.reverse, s.ok⟩ := (rfl)
@[simp] theorem alikeS_lst (xs ys : List D) : alikeS S (.lst xs) (.lst ys) = true := (rfl)
@[simp] theorem alikeS_tup (xs ys : List D) : alikeS S (.tup xs) (.tup ys) = true := (rfl)
@[simp] theorem isLst_lst (xs : List D) : isLst S (.lst xs) = true := (rfl)
@[simp] theorem compK_true (f : D → Store → Res (Option D)) : ∀ (xs : List D) (S : Store), compK (fun _ => true) f xs S = compL f xs S
  | [], _ => rfl
  | x :: r, S => by
    show (if true = true then (f x S).bind fun o S1 => (compK (fun _ => true) f r S1).bind fun ys S2 => .ok (o.toList ++ ys) S2 else .bad) = (f x S).bind fun o S1 => (compL f r S1).bind fun ys S2 => .ok (o.toList ++ ys) S2
    rw [if_pos rfl]
    congr
    funext o S1
    rw [compK_true f r S1]
@[simp] theorem newL_f (xs : List D) : newL false S xs = .ok (.lst xs) S := (rfl)
@[simp] theorem newL_t (xs : List D) : newL true S xs = .ok (.ptr S.length) (S ++ [.lst xs]) := (rfl)
def compG (nw : Bool) (f : D → Store → Res (Option D)) (S : Store) : Option Src → Res D
  | some s => (compK s.ok f s.xs S).bind fun ys S2 => if ys.length ≤ sizeLine then newL nw S2 ys else .bad
  | none => .bad
@[simp] theorem compG_ok (nw : Bool) (f : D → Store → Res (Option D)) (s : Src) : compG nw f S (some s) = (compK s.ok f s.xs S).bind fun ys S2 => if ys.length ≤ sizeLine then newL nw S2 ys else .bad := (rfl)
@[simp] theorem ev_comp (nw : Bool) (own : List Nat) (k : ItK) (t : Nat) : evE pr cb (.comp nw own k (.n t) a c e) σ S = (evE pr cb a σ S).bind fun d S1 => compG nw (compF pr cb own t c e σ) S1 (srcD k S1 d) := (rfl)
/-- a turn over a tuple of names -/
def compT (pr : Prog) (cb : Cb) (own ts : List Nat) (c e : E) (σ : DSt) (x : D) (S : Store) : Res (Option D) :=
  match setT (.t ts) (wipeD σ own) x with
  | some σ1 => noEx ((evE pr cb c σ1 S).bind fun y S2 => compR ((evE pr cb e σ1 S2).bind fun z S3 => .ok (some z) S3) (.ok none S2) (truD (look S2 y)))
  | none => .bad
theorem compT_ok {own ts : List Nat} {x : D} {σ1 : DSt} (h : setT (.t ts) (wipeD σ own) x = some σ1) : compT pr cb own ts c e σ x S = noEx ((evE pr cb c σ1 S).bind fun y S2 => compR ((evE pr cb e σ1 S2).bind fun z S3 => .ok (some z) S3) (.ok none S2) (truD (look S2 y))) := by
  unfold compT
  rw [h]
@[simp] theorem ev_compT (nw : Bool) (own : List Nat) (k : ItK) (ts : List Nat) : evE pr cb (.comp nw own k (.t ts) a c e) σ S = (evE pr cb a σ S).bind fun d S1 => compG nw (compT pr cb own ts c e σ) S1 (srcD k S1 d) := (rfl)
@[simp] theorem setT_n (i : Nat) (x : D) : setT (.n i) σ x = some (σ.set i (some x)) := (rfl)
@[simp] theorem setT_t (is : List Nat) (xs : List D) : setT (.t is) σ (.tup xs) = setL is xs σ := (rfl)
@[simp] theorem setL_nil : setL [] [] σ = some σ := (rfl)
@[simp] theorem setL_cons (i : Nat) (is : List Nat) (x : D) (xs : List D) : setL (i :: is) (x :: xs) σ = setL is xs (σ.set i (some x)) := (rfl)
@[simp] theorem noEx_ok (x : α) : noEx (Res.ok x S) = .ok x S := (rfl)
theorem compL_map {f : D → Store → Res (Option D)} {g : D → D} {S : Store} : ∀ {xs : List D}, (∀ x ∈ xs, f x S = .ok (some (g x)) S) → compL f xs S = .ok (xs.map g) S
  | [], _ => rfl
  | x :: r, h => by
    unfold compL
    rw [h x (List.mem_cons_self ..), bind_ok, compL_map fun y hy => h y (List.mem_cons_of_mem _ hy)]
    rfl
theorem compL_filt {f : D → Store → Res (Option D)} {g : D → Option D} {S : Store} : ∀ {xs : List D}, (∀ x ∈ xs, f x S = .ok (g x) S) → compL f xs S = .ok (xs.filterMap g) S
  | [], _ => rfl
  | x :: r, h => by
    unfold compL
    rw [h x (List.mem_cons_self ..), bind_ok, compL_filt fun y hy => h y (List.mem_cons_of_mem _ hy)]
    show Res.ok ((g x).toList ++ _) S = _
    cases q : g x with
    | none => rw [List.filterMap_cons_none q]; rfl
    | some y => rw [List.filterMap_cons_some q]; rfl
/-! statements -/
def sqS (r : SR) (k : DSt → Store → SR) : SR :=
  match r with
  | .nx σ S => k σ S
  | r => r
@[simp] theorem sqS_nx (k : DSt → Store → SR) : sqS (.nx σ S) k = k σ S := (rfl)
@[simp] theorem sqS_rt (k : DSt → Store → SR) (d : D) : sqS (.rt d S) k = .rt d S := (rfl)
@[simp] theorem sqS_bk (k : DSt → Store → SR) : sqS (.bk σ S) k = .bk σ S := (rfl)
@[simp] theorem sqS_ct (k : DSt → Store → SR) : sqS (.ct σ S) k = .ct σ S := (rfl)
@[simp] theorem sqS_ex (k : DSt → Store → SR) (x : Exn) : sqS (.ex x σ S) k = .ex x σ S := (rfl)
@[simp] theorem sqS_bad (k : DSt → Store → SR) : sqS .bad k = .bad := (rfl)
theorem sqS_ite {p : Prop} [Decidable p] (x y : SR) (k : DSt → Store → SR) : sqS (if p then x else y) k = if p then sqS x k else sqS y k := by split <;> rfl
def selS : Option Bool → SR → SR → SR
  | some b, x, y => if b then x else y
  | none, _, _ => .bad
@[simp] theorem selS_some (b : Bool) (x y : SR) : selS (some b) x y = if b then x else y := (rfl)
variable {s t : Sx}
@[simp] theorem ex_nil : exS pr cb .nil σ S = .nx σ S := (rfl)
@[simp] theorem ex_pass : exS pr cb .pass σ S = .nx σ S := (rfl)
@[simp] theorem ex_brk : exS pr cb .brk σ S = .bk σ S := (rfl)
@[simp] theorem ex_cont : exS pr cb .cont σ S = .ct σ S := (rfl)
@[simp] theorem ex_seq : exS pr cb (.seq s t) σ S = sqS (exS pr cb s σ S) fun σ S => exS pr cb t σ S := by
  show (match exS pr cb s σ S with
    | .nx σ1 S1 => exS pr cb t σ1 S1
    | r => r) = _
  cases exS pr cb s σ S <;> rfl
@[simp] theorem ex_asg (i : Nat) : exS pr cb (.asg i e) σ S = (evE pr cb e σ S).sr σ fun d S1 => .nx (σ.set i (some d)) S1 := (rfl)
@[simp] theorem ex_ex : exS pr cb (.ex e) σ S = (evE pr cb e σ S).sr σ fun _ S1 => .nx σ S1 := (rfl)
@[simp] theorem ex_ret : exS pr cb (.ret e) σ S = (evE pr cb e σ S).sr σ fun d S1 => .rt d S1 := (rfl)
@[simp] theorem ex_retN : exS pr cb .retN σ S = .rt .non S := (rfl)
@[simp] theorem ex_ifs : exS pr cb (.ifs c s t) σ S = (evE pr cb c σ S).sr σ fun x S1 => selS (truD (look S1 x)) (exS pr cb s σ S1) (exS pr cb t σ S1) := by
  show ((evE pr cb c σ S).sr σ fun x S1 => match truD (look S1 x) with
    | some true => exS pr cb s σ S1
    | some false => exS pr cb t σ S1
    | none => .bad) = _
  congr
  funext x S1
  cases truD (look S1 x) with
  | none => rfl
  | some b => cases b <;> rfl
def augS (pr : Prog) (cb : Cb) (op : Bop) (σ : DSt) (i : Nat) (r : Res D) : Option (Option D) → SR
  | some (some x) => r.sr σ fun y S1 => (augX pr cb op S1 x y).sr σ fun d S2 => .nx (σ.set i (some d)) S2
  | _ => .bad
@[simp] theorem augS_some (op : Bop) (i : Nat) (r : Res D) (x : D) : augS pr cb op σ i r (some (some x)) = r.sr σ fun y S1 => (augX pr cb op S1 x y).sr σ fun d S2 => .nx (σ.set i (some d)) S2 := (rfl)
@[simp] theorem ex_aug (op : Bop) (i : Nat) : exS pr cb (.aug op i e) σ S = augS pr cb op σ i (evE pr cb e σ S) σ[i]? := (rfl)
@[simp] theorem augX_add (i j : Int) : augX pr cb .add S (.int i) (.int j) = .ok (.int (i + j)) S := (rfl)
@[simp] theorem augX_sub (i j : Int) : augX pr cb .sub S (.int i) (.int j) = .ok (.int (i - j)) S := (rfl)
@[simp] theorem augI_add (i j : Int) : augI .add (.int i) (.int j) = some (i + j) := (rfl)
@[simp] theorem augI_sub (i j : Int) : augI .sub (.int i) (.int j) = some (i - j) := (rfl)
@[simp] theorem ex_whl (n : Nat) : exS pr cb (.whl n c s) σ S = whlL (evE pr cb c) (exS pr cb s) n σ S := (rfl)
def loopR (r : SR) (k : DSt → Store → SR) : SR :=
  match r with
  | .nx σ S => k σ S
  | .ct σ S => k σ S
  | .bk σ S => .nx σ S
  | r => r
@[simp] theorem loopR_nx (k : DSt → Store → SR) : loopR (.nx σ S) k = k σ S := (rfl)
@[simp] theorem loopR_ct (k : DSt → Store → SR) : loopR (.ct σ S) k = k σ S := (rfl)
@[simp] theorem loopR_bk (k : DSt → Store → SR) : loopR (.bk σ S) k = .nx σ S := (rfl)
@[simp] theorem loopR_rt (k : DSt → Store → SR) (d : D) : loopR (.rt d S) k = .rt d S := (rfl)
@[simp] theorem loopR_ex (k : DSt → Store → SR) (x : Exn) : loopR (.ex x σ S) k = .ex x σ S := (rfl)
@[simp] theorem loopR_bad (k : DSt → Store → SR) : loopR .bad k = .bad := (rfl)
theorem loopR_ite {p : Prop} [Decidable p] (x y : SR) (k : DSt → Store → SR) : loopR (if p then x else y) k = if p then loopR x k else loopR y k := by split <;> rfl
theorem whl_succ {c : DSt → Store → Res D} {f : DSt → Store → SR} {n : Nat} : whlL c f (n + 1) σ S = (c σ S).sr σ fun x S1 => selS (truD (look S1 x)) (loopR (f σ S1) fun σ S => whlL c f n σ S) (.nx σ S1) := by
  show ((c σ S).sr σ fun x S1 => match truD (look S1 x) with
    | some true => match f σ S1 with
      | .nx σ1 S2 => whlL c f n σ1 S2
      | .ct σ1 S2 => whlL c f n σ1 S2
      | .bk σ1 S2 => .nx σ1 S2
      | .rt d S2 => .rt d S2
      | .ex x σ1 S2 => .ex x σ1 S2
      | .bad => .bad
    | some false => .nx σ S1
    | none => .bad) = _
  congr
  funext x S1
  cases truD (look S1 x) with
  | none => rfl
  | some b =>
    cases b
    · rfl
    · cases q : f σ S1 <;> simp [q, loopR]
@[simp] theorem for_nil {f : D → DSt → Store → SR} : forL f [] σ S = .nx σ S := (rfl)
theorem for_cons {f : D → DSt → Store → SR} {x : D} {xs : List D} : forL f (x :: xs) σ S = loopR (f x σ S) fun σ S => forL f xs σ S := by
  show (match f x σ S with
    | .nx σ1 S1 => forL f xs σ1 S1
    | .ct σ1 S1 => forL f xs σ1 S1
    | .bk σ1 S1 => .nx σ1 S1
    | .rt d S1 => .rt d S1
    | .ex x σ1 S1 => .ex x σ1 S1
    | .bad => .bad) = _
  cases f x σ S <;> rfl
@[simp] theorem forK_true (f : D → DSt → Store → SR) : ∀ (xs : List D) (σ : DSt) (S : Store), forK (fun _ => true) f xs σ S = forL f xs σ S
  | [], _, _ => rfl
  | x :: r, σ, S => by
    show (if true = true then (match f x σ S with
    | .nx σ1 S1 => forK (fun _ => true) f r σ1 S1
    | .ct σ1 S1 => forK (fun _ => true) f r σ1 S1
    | .bk σ1 S1 => .nx σ1 S1
    | .rt d S1 => .rt d S1
    | .ex x σ1 S1 => .ex x σ1 S1
    | .bad => .bad) else .bad) = (match f x σ S with
    | .nx σ1 S1 => forL f r σ1 S1
    | .ct σ1 S1 => forL f r σ1 S1
    | .bk σ1 S1 => .nx σ1 S1
    | .rt d S1 => .rt d S1
    | .ex x σ1 S1 => .ex x σ1 S1
    | .bad => .bad)
    rw [if_pos rfl]
    cases f x σ S with
    | nx σ1 S1 => exact forK_true f r σ1 S1
    | ct σ1 S1 => exact forK_true f r σ1 S1
    | _ => rfl
def forG (f : D → DSt → Store → SR) (σ : DSt) (S : Store) : Option Src → SR
  | some s => forK s.ok f s.xs σ S
  | none => .bad
@[simp] theorem forG_ok (f : D → DSt → Store → SR) (xs : List D) : forG f σ S (some ⟨xs, fun _ => true⟩) = forL f xs σ S := forK_true f xs σ S
theorem forG_src (f : D → DSt → Store → SR) (s : Src) : forG f σ S (some s) = forK s.ok f s.xs σ S := (rfl)
@[simp] theorem ex_for (k : ItK) (t : Nat) : exS pr cb (.for_ k (.n t) e s) σ S = (evE pr cb e σ S).sr σ fun d S1 => forG (fun x σ S => exS pr cb s (σ.set t (some x)) S) σ S1 (srcD k S1 d) := (rfl)
/-- a turn over a tuple of names -/
def onT (o : Option DSt) (k : DSt → SR) : SR :=
  match o with
  | some σ => k σ
  | none => .bad
@[simp] theorem onT_some (k : DSt → SR) : onT (some σ) k = k σ := (rfl)
@[simp] theorem ex_forT (k : ItK) (ts : List Nat) : exS pr cb (.for_ k (.t ts) e s) σ S = (evE pr cb e σ S).sr σ fun d S1 => forG (fun x σ S => onT (setT (.t ts) σ x) fun σ1 => exS pr cb s σ1 S) σ S1 (srcD k S1 d) := (rfl)
theorem forK_cons {ok : Store → Bool} {f : D → DSt → Store → SR} {x : D} {xs : List D} (h : ok S = true) : forK ok f (x :: xs) σ S = loopR (f x σ S) fun σ S => forK ok f xs σ S := by
  show (if ok S then (match f x σ S with
    | .nx σ1 S1 => forK ok f xs σ1 S1
    | .ct σ1 S1 => forK ok f xs σ1 S1
    | .bk σ1 S1 => .nx σ1 S1
    | .rt d S1 => .rt d S1
    | .ex x σ1 S1 => .ex x σ1 S1
    | .bad => .bad) else .bad) = _
  rw [if_pos h]
  cases f x σ S <;> rfl
theorem forK_nil {ok : Store → Bool} {f : D → DSt → Store → SR} (h : ok S = true) : forK ok f [] σ S = .nx σ S := if_pos h
/-- a loop whose turns all go on -/
theorem for_inv {f : D → DSt → Store → SR} (Inv : Nat → DSt → Store → Prop) : ∀ {xs : List D} {i : Nat} {σ : DSt} {S : Store}, (∀ (j : Nat) x σ S, xs[j]? = some x → Inv (i + j) σ S → ∃ σ' S', (f x σ S = .nx σ' S' ∨ f x σ S = .ct σ' S') ∧ Inv (i + j + 1) σ' S') → Inv i σ S → ∃ σ' S', forL f xs σ S = .nx σ' S' ∧ Inv (i + xs.length) σ' S'
  | [], _, σ, S, _, h0 => ⟨σ, S, rfl, h0⟩
  | x :: xs, i, σ, S, h, h0 => by
    obtain ⟨σ1, S1, e, h1⟩ := h 0 x σ S rfl h0
    obtain ⟨σ2, S2, e2, h2⟩ := for_inv Inv (f := f) (xs := xs) (i := i + 1) (σ := σ1) (S := S1) (fun j y σ' S' hj hi => by
      have z := h (j + 1) y σ' S' (by simpa using hj) (by rw [show i + (j + 1) = i + 1 + j by omega]; exact hi)
      rw [show i + (j + 1) + 1 = i + 1 + j + 1 by omega] at z
      exact z) h1
    refine ⟨σ2, S2, ?_, by rw [List.length_cons, show i + (xs.length + 1) = i + 1 + xs.length by omega]; exact h2⟩
    rw [for_cons]
    rcases e with e | e <;> rw [e] <;> exact e2
/-! values -/
@[simp] theorem look_int (i : Int) : look S (.int i) = .int i := (rfl)
@[simp] theorem look_bl (i : Bool) : look S (.bl i) = .bl i := (rfl)
@[simp] theorem look_non : look S .non = .non := (rfl)
@[simp] theorem look_str (s : Str) : look S (.str s) = .str s := (rfl)
@[simp] theorem look_lst (xs : List D) : look S (.lst xs) = .lst xs := (rfl)
@[simp] theorem look_tup (xs : List D) : look S (.tup xs) = .tup xs := (rfl)
@[simp] theorem look_scr (xs : List Int) : look S (.scr xs) = .scr xs := (rfl)
theorem look_ptr_lst {n : Nat} {xs : List D} (h : S[n]? = some (.lst xs)) : look S (.ptr n) = .lst xs := by
  show (match S[n]? with
    | some (.lst xs) => D.lst xs
    | some (.ins c fs) => D.ins c fs
    | some (.frz d) => d
    | none => D.ptr n) = _
  rw [h]
theorem look_ptr_frz {n : Nat} {d : D} (h : S[n]? = some (.frz d)) : look S (.ptr n) = d := by
  show (match S[n]? with
    | some (.lst xs) => D.lst xs
    | some (.ins c fs) => D.ins c fs
    | some (.frz d) => d
    | none => D.ptr n) = _
  rw [h]
@[simp] theorem still_int (i : Int) : still S (.int i) = true := (rfl)
@[simp] theorem still_lst (xs : List D) : still S (.lst xs) = true := (rfl)
@[simp] theorem still_tup (xs : List D) : still S (.tup xs) = true := (rfl)
@[simp] theorem still_scr (xs : List Int) : still S (.scr xs) = true := (rfl)
@[simp] theorem items_lst (xs : List D) : itemsD S (.lst xs) = some xs := (rfl)
@[simp] theorem items_tup (xs : List D) : itemsD S (.tup xs) = some xs := (rfl)
@[simp] theorem items_scr (xs : List Int) : itemsD S (.scr xs) = some (xs.map .int) := (rfl)
@[simp] theorem tru_bl (b : Bool) (k : Bool → Res D) : tru S (.bl b) k = k b := (rfl)
@[simp] theorem tru_int (i : Int) (k : Bool → Res D) : tru S (.int i) k = k (i != 0) := (rfl)
@[simp] theorem truD_bl (b : Bool) : truD (.bl b) = some b := (rfl)
@[simp] theorem truD_int (i : Int) : truD (.int i) = some (i != 0) := (rfl)
@[simp] theorem truD_non : truD .non = some false := (rfl)
@[simp] theorem truD_lst (xs : List D) : truD (.lst xs) = some (!xs.isEmpty) := (rfl)
@[simp] theorem truD_tup (xs : List D) : truD (.tup xs) = some (!xs.isEmpty) := (rfl)
@[simp] theorem ofB_some (b : Bool) : ofB S (some b) = .ok (.bl b) S := (rfl)
@[simp] theorem unT_tup (xs : List D) : unT (.tup xs) = xs := (rfl)
@[simp] theorem part_non : partD .non = some none := (rfl)
@[simp] theorem part_int (i : Int) : partD (.int i) = some (some i) := (rfl)
@[simp] theorem withPart_non (k : Option Int → Res α) : withPart .non k = k none := (rfl)
@[simp] theorem withPart_int (i : Int) (k : Option Int → Res α) : withPart (.int i) k = k (some i) := (rfl)
@[simp] theorem bin_add (i j : Int) : binD .add S (.int i) (.int j) = .ok (.int (i + j)) S := (rfl)
@[simp] theorem bin_sub (i j : Int) : binD .sub S (.int i) (.int j) = .ok (.int (i - j)) S := (rfl)
theorem bin_mul {i j : Int} (h : (-(2 ^ 64) < i ∧ i < 2 ^ 64) ∨ (-(2 ^ 64) < j ∧ j < 2 ^ 64)) : binD .mul S (.int i) (.int j) = .ok (.int (i * j)) S := by
  show (match (if ((-(2 ^ 64) < i ∧ i < 2 ^ 64) ∨ (-(2 ^ 64) < j ∧ j < 2 ^ 64)) ∨ wideM i j = true then some (i * j) else none) with | some k => Res.ok (D.int k) S | none => .bad) = _
  rw [if_pos (.inl h)]
theorem bin_mulW {i j : Int} (h : wideM i j = true) : binD .mul S (.int i) (.int j) = .ok (.int (i * j)) S := by
  show (match (if ((-(2 ^ 64) < i ∧ i < 2 ^ 64) ∨ (-(2 ^ 64) < j ∧ j < 2 ^ 64)) ∨ wideM i j = true then some (i * j) else none) with | some k => Res.ok (D.int k) S | none => .bad) = _
  rw [if_pos (.inr h)]
theorem bin_fdiv {i j : Int} (h : 0 < j ∧ j < 1073741824) : binD .fdiv S (.int i) (.int j) = .ok (.int (i / j)) S := by
  show (match (if (0 < j ∧ j < 1073741824) ∨ (0 < j ∧ wideM i j = true) then some (i / j) else none) with | some k => Res.ok (D.int k) S | none => .bad) = _
  rw [if_pos (.inl h)]
theorem bin_mod {i j : Int} (h : 0 < j) : binD .mod S (.int i) (.int j) = .ok (.int (i % j)) S := by
  show (match (if 0 < j then some (i % j) else none) with | some k => Res.ok (D.int k) S | none => .bad) = _
  rw [if_pos h]
theorem bin_pow {i j : Int} (h : 0 ≤ j ∧ j ≤ 1000000 ∧ i.natAbs < 2 ^ 64) : binD .pow S (.int i) (.int j) = .ok (.int (i ^ j.toNat)) S := by
  show (match (if 0 ≤ j ∧ j ≤ 1000000 ∧ i.natAbs < 2 ^ 64 then some (i ^ j.toNat) else none) with | some k => Res.ok (D.int k) S | none => .bad) = _
  rw [if_pos h]
theorem bin_cat {a b : D} {xs ys : List D} (h1 : look S a = .lst xs) (h2 : look S b = .lst ys) (h : xs.length + ys.length ≤ sizeLine) : binD .add S a b = .ok (.lst (xs ++ ys)) S := by
  unfold binD
  rw [h1, h2]
  exact if_pos h
theorem catD_ok {a b : D} {xs ys : List D} (h1 : look S a = .lst xs) (h2 : look S b = .lst ys) (h : xs.length + ys.length ≤ sizeLine) : catD S a b = .ok (.ptr S.length) (S ++ [.lst (xs ++ ys)]) := by
  unfold catD
  rw [h1, h2]
  exact if_pos h
@[simp] theorem dp_int (n : Nat) (i : Int) : dpD n (.int i) = true := by cases n <;> rfl
@[simp] theorem dp_bl (n : Nat) (i : Bool) : dpD n (.bl i) = true := by cases n <;> rfl
@[simp] theorem dp_non (n : Nat) : dpD n .non = true := by cases n <;> rfl
@[simp] theorem dp_lst (n : Nat) (xs : List D) : dpD (n + 1) (.lst xs) = xs.all (dpD n) := (rfl)
@[simp] theorem dp_tup (n : Nat) (xs : List D) : dpD (n + 1) (.tup xs) = xs.all (dpD n) := (rfl)
@[simp] theorem eqB_int (i j : Int) : eqB (.int i) (.int j) = (i == j) := by unfold eqB; rfl
@[simp] theorem eqB_bl (i j : Bool) : eqB (.bl i) (.bl j) = (i == j) := by unfold eqB; rfl
@[simp] theorem eqO_int (i j : Int) : eqO (.int i) (.int j) = some (i == j) := by unfold eqO; simp
@[simp] theorem eqO_bl (i j : Bool) : eqO (.bl i) (.bl j) = some (i == j) := by unfold eqO; simp
@[simp] theorem notO_some' (b : Bool) : notO (some b) = some (!b) := (rfl)
@[simp] theorem cmp_eq (a b : D) : cmpB .eq S a b = eqO (look S a) (look S b) := (rfl)
@[simp] theorem cmp_ne (a b : D) : cmpB .ne S a b = notO (eqO (look S a) (look S b)) := (rfl)
@[simp] theorem al_int (i j : Int) : alB (.int i) (.int j) = true := by unfold alB; rfl
@[simp] theorem ltB_int (i j : Int) : ltB (.int i) (.int j) = decide (i < j) := by unfold ltB; rfl
@[simp] theorem cmp_lt (i j : Int) : cmpB .lt S (.int i) (.int j) = some (decide (i < j)) := by
  show ltO (.int i) (.int j) = _
  unfold ltO
  simp
@[simp] theorem leB_int (i j : Int) : leB (.int i) (.int j) = decide (i ≤ j) := by unfold leB; rfl
@[simp] theorem cmp_le (i j : Int) : cmpB .le S (.int i) (.int j) = some (decide (i ≤ j)) := by
  show leO (.int i) (.int j) = _
  unfold leO
  simp
@[simp] theorem cmp_gt (i j : Int) : cmpB .gt S (.int i) (.int j) = some (decide (j < i)) := (rfl)
@[simp] theorem cmp_ge (i j : Int) : cmpB .ge S (.int i) (.int j) = some (decide (j ≤ i)) := (rfl)
@[simp] theorem bi_abs (i : Int) : biD .abs S [.int i] = .ok (.int (if i < 0 then -i else i)) S := (rfl)
@[simp] theorem bi_int (i : Int) : biD .int S [.int i] = .ok (.int i) S := (rfl)
@[simp] theorem bi_max (i j : Int) : biD .max2 S [.int i, .int j] = .ok (.int (if j > i then j else i)) S := (rfl)
@[simp] theorem bi_min (i j : Int) : biD .min2 S [.int i, .int j] = .ok (.int (if j < i then j else i)) S := (rfl)
def lenR (S : Store) : Option Nat → Res D
  | some n => .ok (.int n) S
  | none => .bad
@[simp] theorem lenR_some (n : Nat) : lenR S (some n) = .ok (.int n) S := (rfl)
@[simp] theorem bi_len (d : D) : biD .len S [d] = lenR S (lenD S d) := by
  show (match lenD S d with
    | some n => Res.ok (D.int n) S
    | none => Res.bad) = _
  cases lenD S d <;> rfl
@[simp] theorem len_lst (xs : List D) : lenD S (.lst xs) = some xs.length := (rfl)
@[simp] theorem len_tup (xs : List D) : lenD S (.tup xs) = some xs.length := (rfl)
@[simp] theorem len_scr (xs : List Int) : lenD S (.scr xs) = some xs.length := (rfl)
theorem len_ptr {n : Nat} {xs : List D} (h : S[n]? = some (.lst xs)) : lenD S (.ptr n) = some xs.length := by unfold lenD; rw [look_ptr_lst h]
theorem ints_map : ∀ ns : List Int, intsD (ns.map .int) = some ns
  | [] => rfl
  | n :: ns => by
    show (intsD (ns.map .int)).map (n :: ·) = _
    rw [ints_map ns]
    rfl
@[simp] theorem bi_sum (ns : List Int) : biD .sum S [.lst (ns.map .int)] = .ok (.int ns.sum) S := by
  show (match intsD (ns.map .int) with
      | some ns => Res.ok (D.int ns.sum) S
      | none => Res.bad) = _
  rw [ints_map]
@[simp] theorem bi_sumT (ns : List Int) : biD .sum S [.tup (ns.map .int)] = .ok (.int ns.sum) S := by
  show (match intsD (ns.map .int) with
      | some ns => Res.ok (D.int ns.sum) S
      | none => Res.bad) = _
  rw [ints_map]
@[simp] theorem isi_nil (d : D) : isiAny S d [] = some false := (rfl)
@[simp] theorem isi_int_int (i : Int) : isiD S (.int i) .int = some true := (rfl)
@[simp] theorem isi_int_bool (i : Int) : isiD S (.int i) .bool = some false := (rfl)
@[simp] theorem isi_bl_bool (i : Bool) : isiD S (.bl i) .bool = some true := (rfl)
@[simp] theorem isi_bl_int (i : Bool) : isiD S (.bl i) .int = some true := (rfl)
def isiO (k : Option Bool) : Option Bool → Option Bool
  | some true => some true
  | some false => k
  | none => none
@[simp] theorem isiO_t (k : Option Bool) : isiO k (some true) = some true := (rfl)
@[simp] theorem isiO_f (k : Option Bool) : isiO k (some false) = k := (rfl)
@[simp] theorem isi_cons (d : D) (t : Ty) (r : List Ty) : isiAny S d (t :: r) = isiO (isiAny S d r) (isiD S d t) := by
  show (match isiD S d t with
    | some true => some true
    | some false => isiAny S d r
    | none => none) = _
  cases isiD S d t with
  | none => rfl
  | some b => cases b <;> rfl
theorem rng1_ok {n : Int} (h : -(2 ^ 62) ≤ n ∧ n < 2 ^ 62) : rngD [.int n] = some ((List.range n.toNat).map fun (k : Nat) => D.int (k : Int)) := by
  have z : rngD [.int n] = some ((List.range n.toNat).map fun (k : Nat) => D.int (0 + (k : Int))) := if_pos h
  rw [z]
  simp
theorem rng2_ok {a b : Int} (h : -(2 ^ 62) ≤ a ∧ a < 2 ^ 62 ∧ -(2 ^ 62) ≤ b ∧ b < 2 ^ 62) : rngD [.int a, .int b] = some ((List.range (b - a).toNat).map fun (k : Nat) => D.int (a + (k : Int))) := if_pos h
/-! ### instances -/
@[simp] theorem ins_int (i : Int) : insD S (.int i) = none := (rfl)
@[simp] theorem ins_bl (i : Bool) : insD S (.bl i) = none := (rfl)
@[simp] theorem ins_non : insD S .non = none := (rfl)
@[simp] theorem ins_str (s : Str) : insD S (.str s) = none := (rfl)
@[simp] theorem ins_lst (xs : List D) : insD S (.lst xs) = none := (rfl)
@[simp] theorem ins_tup (xs : List D) : insD S (.tup xs) = none := (rfl)
@[simp] theorem ins_scr (xs : List Int) : insD S (.scr xs) = none := (rfl)
@[simp] theorem ins_ins (c : String) (fs : List (String × D)) : insD S (.ins c fs) = some (c, fs) := (rfl)
@[simp] theorem look_ins (c : String) (fs : List (String × D)) : look S (.ins c fs) = .ins c fs := (rfl)
theorem ins_ptr {n : Nat} {c : String} {fs : List (String × D)} (h : S[n]? = some (.ins c fs)) : insD S (.ptr n) = some (c, fs) := by
  unfold insD look
  simp only [h]
theorem ins_ptr_lst {n : Nat} {xs : List D} (h : S[n]? = some (.lst xs)) : insD S (.ptr n) = none := by
  unfold insD look
  simp only [h]
theorem binX_n {op : Bop} {a b : D} (h1 : insD S a = none) (h2 : insD S b = none) : binX pr cb op S a b = binD op S a b := by
  unfold binX
  rw [h1, h2]
@[simp] theorem binX_int (op : Bop) (i j : Int) : binX pr cb op S (.int i) (.int j) = binD op S (.int i) (.int j) := (rfl)
@[simp] theorem negX_int (i : Int) : negX pr cb S (.int i) = .ok (.int (-i)) S := (rfl)
theorem cmpX_n {op : Cop} {a b : D} (h : insD S a = none) : cmpX pr cb op S a b = ofB S (cmpB op S a b) := by
  unfold cmpX
  rw [h]
@[simp] theorem cmpX_int (op : Cop) (i : Int) (b : D) : cmpX pr cb op S (.int i) b = ofB S (cmpB op S (.int i) b) := (rfl)
@[simp] theorem cmpX_blb (op : Cop) (i : Bool) (b : D) : cmpX pr cb op S (.bl i) b = ofB S (cmpB op S (.bl i) b) := (rfl)
@[simp] theorem cmpX_non (op : Cop) (b : D) : cmpX pr cb op S .non b = ofB S (cmpB op S .non b) := (rfl)
@[simp] theorem cmpX_str (op : Cop) (s : Str) (b : D) : cmpX pr cb op S (.str s) b = ofB S (cmpB op S (.str s) b) := (rfl)
@[simp] theorem cmpX_lst (op : Cop) (xs : List D) (b : D) : cmpX pr cb op S (.lst xs) b = ofB S (cmpB op S (.lst xs) b) := (rfl)
@[simp] theorem cmpX_tup (op : Cop) (xs : List D) (b : D) : cmpX pr cb op S (.tup xs) b = ofB S (cmpB op S (.tup xs) b) := (rfl)
@[simp] theorem biX_abs (ds : List D) : biX pr cb .abs S ds = biD .abs S ds := (rfl)
@[simp] theorem biX_int (ds : List D) : biX pr cb .int S ds = biD .int S ds := (rfl)
@[simp] theorem biX_len (xs : List D) : biX pr cb .len S [.lst xs] = biD .len S [.lst xs] := (rfl)
@[simp] theorem biX_lent (xs : List D) : biX pr cb .len S [.tup xs] = biD .len S [.tup xs] := (rfl)
@[simp] theorem biX_lens (xs : List Int) : biX pr cb .len S [.scr xs] = biD .len S [.scr xs] := (rfl)
@[simp] theorem biX_lenx (s : Str) : biX pr cb .len S [.str s] = biD .len S [.str s] := (rfl)
theorem biX_lenn {d : D} (h : insD S d = none) : biX pr cb .len S [d] = biD .len S [d] := by
  unfold biX
  simp only [h]
@[simp] theorem biX_sum (ds : List D) : biX pr cb .sum S ds = biD .sum S ds := (rfl)
@[simp] theorem biX_list (xs : List D) : biX pr cb .list S [.lst xs] = biD .list S [.lst xs] := (rfl)
@[simp] theorem biX_listt (xs : List D) : biX pr cb .list S [.tup xs] = biD .list S [.tup xs] := (rfl)
@[simp] theorem biX_lists (xs : List Int) : biX pr cb .list S [.scr xs] = biD .list S [.scr xs] := (rfl)
theorem biX_listn {d : D} (h : insD S d = none) : biX pr cb .list S [d] = biD .list S [d] := by
  unfold biX
  simp only [h]
@[simp] theorem biX_listc (xs : List D) : biX pr cb .listc S [.lst xs] = biD .listc S [.lst xs] := (rfl)
@[simp] theorem biX_listct (xs : List D) : biX pr cb .listc S [.tup xs] = biD .listc S [.tup xs] := (rfl)
@[simp] theorem biX_listcs (xs : List Int) : biX pr cb .listc S [.scr xs] = biD .listc S [.scr xs] := (rfl)
theorem biX_listcn {d : D} (h : insD S d = none) : biX pr cb .listc S [d] = biD .listc S [d] := by
  unfold biX
  simp only [h]
@[simp] theorem biX_tuple (ds : List D) : biX pr cb .tuple S ds = biD .tuple S ds := (rfl)
@[simp] theorem biX_max2 (ds : List D) : biX pr cb .max2 S ds = biD .max2 S ds := (rfl)
@[simp] theorem biX_min2 (ds : List D) : biX pr cb .min2 S ds = biD .min2 S ds := (rfl)
@[simp] theorem biX_any (ds : List D) : biX pr cb .any S ds = biD .any S ds := (rfl)
@[simp] theorem biX_all (ds : List D) : biX pr cb .all S ds = biD .all S ds := (rfl)
@[simp] theorem biX_bool_int (i : Int) : biX pr cb .bool S [.int i] = .ok (.bl (i != 0)) S := (rfl)
@[simp] theorem biX_bool_bl (i : Bool) : biX pr cb .bool S [.bl i] = .ok (.bl i) S := (rfl)
@[simp] theorem biX_bool_ins (c : String) (fs : List (String × D)) : biX pr cb .bool S [.ins c fs] = asBl (callO cb (pr.meth c "__bool__") [.ins c fs] S) id := (rfl)
@[simp] theorem isXs_nil (kn : String → Bool) (d : D) : isiXs kn S d [] = some false := (rfl)
@[simp] theorem isXs_cons (kn : String → Bool) (d : D) (t : Ty) (r : List Ty) : isiXs kn S d (t :: r) = isiO (isiXs kn S d r) (isiX kn S d t) := by
  show (match isiX kn S d t with
    | some true => some true
    | some false => isiXs kn S d r
    | none => none) = _
  cases isiX kn S d t with
  | none => rfl
  | some b => cases b <;> rfl
@[simp] theorem isX_int (kn : String → Bool) (i : Int) : isiX kn S (.int i) .int = some true := (rfl)
@[simp] theorem isX_int_bool (kn : String → Bool) (i : Int) : isiX kn S (.int i) .bool = some false := (rfl)
@[simp] theorem isX_int_str (kn : String → Bool) (i : Int) : isiX kn S (.int i) .str = some false := (rfl)
@[simp] theorem isX_int_tup (kn : String → Bool) (i : Int) : isiX kn S (.int i) .tuple = some false := (rfl)
@[simp] theorem isX_int_lst (kn : String → Bool) (i : Int) : isiX kn S (.int i) .list = some false := (rfl)
@[simp] theorem isX_int_cls (kn : String → Bool) (i : Int) (c : String) : isiX kn S (.int i) (.cls c) = if kn c then some false else none := (rfl)
@[simp] theorem isX_bl_int (kn : String → Bool) (i : Bool) : isiX kn S (.bl i) .int = some true := (rfl)
@[simp] theorem isX_bl_bool (kn : String → Bool) (i : Bool) : isiX kn S (.bl i) .bool = some true := (rfl)
@[simp] theorem isX_bl_str (kn : String → Bool) (i : Bool) : isiX kn S (.bl i) .str = some false := (rfl)
@[simp] theorem isX_bl_tup (kn : String → Bool) (i : Bool) : isiX kn S (.bl i) .tuple = some false := (rfl)
@[simp] theorem isX_bl_lst (kn : String → Bool) (i : Bool) : isiX kn S (.bl i) .list = some false := (rfl)
@[simp] theorem isX_str_str (kn : String → Bool) (i : Str) : isiX kn S (.str i) .str = some true := (rfl)
@[simp] theorem isX_str_int (kn : String → Bool) (i : Str) : isiX kn S (.str i) .int = some false := (rfl)
@[simp] theorem isX_str_bool (kn : String → Bool) (i : Str) : isiX kn S (.str i) .bool = some false := (rfl)
@[simp] theorem isX_str_tup (kn : String → Bool) (i : Str) : isiX kn S (.str i) .tuple = some false := (rfl)
@[simp] theorem isX_str_lst (kn : String → Bool) (i : Str) : isiX kn S (.str i) .list = some false := (rfl)
@[simp] theorem isX_tup_tup (kn : String → Bool) (xs : List D) : isiX kn S (.tup xs) .tuple = some true := (rfl)
@[simp] theorem isX_tup_lst (kn : String → Bool) (xs : List D) : isiX kn S (.tup xs) .list = some false := (rfl)
@[simp] theorem isX_tup_int (kn : String → Bool) (xs : List D) : isiX kn S (.tup xs) .int = some false := (rfl)
@[simp] theorem isX_tup_bool (kn : String → Bool) (xs : List D) : isiX kn S (.tup xs) .bool = some false := (rfl)
@[simp] theorem isX_tup_str (kn : String → Bool) (xs : List D) : isiX kn S (.tup xs) .str = some false := (rfl)
@[simp] theorem isX_lst_lst (kn : String → Bool) (xs : List D) : isiX kn S (.lst xs) .list = some true := (rfl)
@[simp] theorem isX_lst_tup (kn : String → Bool) (xs : List D) : isiX kn S (.lst xs) .tuple = some false := (rfl)
@[simp] theorem isX_lst_int (kn : String → Bool) (xs : List D) : isiX kn S (.lst xs) .int = some false := (rfl)
@[simp] theorem isX_lst_bool (kn : String → Bool) (xs : List D) : isiX kn S (.lst xs) .bool = some false := (rfl)
@[simp] theorem isX_lst_str (kn : String → Bool) (xs : List D) : isiX kn S (.lst xs) .str = some false := (rfl)
@[simp] theorem isX_ins_int (kn : String → Bool) (c : String) (fs : List (String × D)) : isiX kn S (.ins c fs) .int = if kn c then some false else none := (rfl)
@[simp] theorem isX_ins_bool (kn : String → Bool) (c : String) (fs : List (String × D)) : isiX kn S (.ins c fs) .bool = if kn c then some false else none := (rfl)
@[simp] theorem isX_ins_cls (kn : String → Bool) (c e : String) (fs : List (String × D)) : isiX kn S (.ins c fs) (.cls e) = if kn c && kn e then some (c == e) else none := (rfl)
@[simp] theorem isInt_int (i : Int) : isInt (.int i) = true := (rfl)
@[simp] theorem isInt_ins (c : String) (fs : List (String × D)) : isInt (.ins c fs) = false := (rfl)
@[simp] theorem ev_fld (x : String) : evE pr cb (.fld x a) σ S = (evE pr cb a σ S).bind fun d S1 => fldD pr x S1 d := (rfl)
@[simp] theorem ev_mk (c : String) : evE pr cb (.mk c as) σ S = (evE pr cb as σ S).bind fun x S1 => mkX pr cb c (unT x) S1 := (rfl)
def methG (cb : Cb) (d : D) (k : Res D) : Option (String × Mode) → Res D
  | some (f, m) => k.bind fun y S2 => callM cb m f (d :: unT y) S2
  | none => .bad
@[simp] theorem methG_some (d : D) (k : Res D) (f : String) (m : Mode) : methG cb d k (some (f, m)) = k.bind fun y S2 => callM cb m f (d :: unT y) S2 := (rfl)
@[simp] theorem ev_meth (x : String) : evE pr cb (.meth x a as) σ S = (evE pr cb a σ S).bind fun d S1 => methG cb d (evE pr cb as σ S1) (methD pr x S1 d) := by
  show ((evE pr cb a σ S).bind fun d S1 => match methD pr x S1 d with
    | some (f, m) => (evE pr cb as σ S1).bind fun y S2 => callM cb m f (d :: unT y) S2
    | none => .bad) = _
  congr
@[simp] theorem callM_pure (f : String) (ds : List D) : callM cb .pure f ds S = callP cb f ds S := (rfl)
@[simp] theorem callM_st (f : String) (ds : List D) : callM cb .st f ds S = cb f ds S := (rfl)
@[simp] theorem callO_some (f : String) (m : Mode) (ds : List D) : callO cb (some (f, m)) ds S = callM cb m f ds S := (rfl)
theorem fld_ins {x c : String} {fs : List (String × D)} {e : D} (h1 : pr.lacks c x = true) (h2 : fs.lookup x = some e) : fldD pr x S (.ins c fs) = .ok e S := by
  unfold fldD
  rw [ins_ins]
  show (if pr.lacks c x then match fs.lookup x with
    | some e => Res.ok e S
    | none => Res.bad
    else Res.bad) = _
  rw [if_pos h1, h2]
theorem meth_ins {x c : String} {fs : List (String × D)} (h : fs.lookup x = none) : methD pr x S (.ins c fs) = pr.meth c x := by
  unfold methD
  rw [ins_ins]
  show (if (fs.lookup x).isNone then pr.meth c x else none) = _
  rw [h]
  rfl
@[simp] theorem ex_sfld (x : String) : exS pr cb (.sfld x a e) σ S = (evE pr cb e σ S).sr σ fun d S1 => (evE pr cb a σ S1).sr σ fun p S2 => (match sfldD pr x S2 p d with
    | some S3 => SR.nx σ S3
    | none => .bad) := (rfl)
theorem sfld_ptr {x c : String} {fs : List (String × D)} {n : Nat} {d : D} (h : S[n]? = some (.ins c fs)) (h1 : pr.lacks c x = true) (h2 : fs.length < 1000) : sfldD pr x S (.ptr n) d = some (S.set n (.ins c (putD x d fs))) := by
  show (match S[n]? with
    | some (.ins c fs) => if pr.lacks c x = true ∧ fs.length < 1000 then some (S.set n (.ins c (putD x d fs))) else none
    | _ => none) = _
  rw [h]
  exact if_pos ⟨h1, h2⟩
@[simp] theorem asBl_ok (k : Bool → Bool) (b : Bool) : asBl (.ok (.bl b) S) k = .ok (.bl (k b)) S := (rfl)
@[simp] theorem ev_chain (o1 o2 : Cop) : evE pr cb (.chain o1 o2 a b c) σ S = (evE pr cb a σ S).bind fun x S1 => (evE pr cb b σ S1).bind fun y S2 => (match cmpB o1 S2 x y with
    | some true => (evE pr cb c σ S2).bind fun z S3 => ofB S3 (cmpB o2 S3 y z)
    | some false => .ok (.bl false) S2
    | none => .bad) := (rfl)
@[simp] theorem ex_sidx {i : E} : exS pr cb (.sidx a i e) σ S = (evE pr cb e σ S).sr σ fun d S1 => (evE pr cb a σ S1).sr σ fun p S2 => (evE pr cb i σ S2).sr σ fun k S3 => (sidxX pr cb S3 p k d).sr σ fun _ S4 => .nx σ S4 := (rfl)
theorem sidxX_n {p k d : D} {S1 : Store} (h : insD S p = none) (h2 : sidxD S p k d = some S1) : sidxX pr cb S p k d = .ok .non S1 := by
  unfold sidxX
  rw [h]
  simp only [h2]
theorem idxX_n {a i : D} (h : insD S a = none) : idxX pr cb S a i = idxD S a i := by
  unfold idxX
  rw [h]
def revR (S : Store) : D → Res D
  | .lst xs => .ok (.lst xs.reverse) S
  | _ => .bad
@[simp] theorem revR_lst (xs : List D) : revR S (.lst xs) = .ok (.lst xs.reverse) S := (rfl)
@[simp] theorem ev_rev : evE pr cb (.rev a) σ S = (evE pr cb a σ S).bind fun x S1 => revR S1 (look S1 x) := (rfl)
/-! ### calls -/
@[simp] theorem pf_int (i : Int) : (D.int i).pf = true := by unfold D.pf; rfl
@[simp] theorem pf_bl (i : Bool) : (D.bl i).pf = true := by unfold D.pf; rfl
@[simp] theorem pf_non : D.non.pf = true := by unfold D.pf; rfl
@[simp] theorem pf_str (s : Str) : (D.str s).pf = true := by unfold D.pf; rfl
@[simp] theorem pf_scr (s : List Int) : (D.scr s).pf = true := by unfold D.pf; rfl
@[simp] theorem pf_lst (xs : List D) : (D.lst xs).pf = pfL xs := by rw [D.pf]
@[simp] theorem pf_tup (xs : List D) : (D.tup xs).pf = pfL xs := by rw [D.pf]
@[simp] theorem pfL_nil : pfL [] = true := by unfold pfL; rfl
@[simp] theorem pfL_cons (d : D) (r : List D) : pfL (d :: r) = (d.pf && pfL r) := by rw [pfL]
theorem pfL_all : ∀ {xs : List D}, (∀ d ∈ xs, d.pf = true) → pfL xs = true
  | [], _ => pfL_nil
  | x :: r, h => by rw [pfL_cons, h x (List.mem_cons_self ..), pfL_all fun y hy => h y (List.mem_cons_of_mem _ hy)]; rfl
@[simp] theorem pfL_ints (ns : List Int) : pfL (ns.map .int) = true := pfL_all fun d hd => by
  obtain ⟨n, _, rfl⟩ := List.mem_map.mp hd
  exact pf_int n
theorem frzD_pf {k : Nat} {d : D} (h : d.pf = true) : frzD k S d = some (d, S) := by
  cases k <;> unfold frzD <;> rw [if_pos h]
theorem frzL_pf {k : Nat} : ∀ {ds : List D}, pfL ds = true → frzL (frzD k) S ds = some (ds, S)
  | [], _ => rfl
  | d :: r, h => by
    rw [pfL_cons, Bool.and_eq_true] at h
    unfold frzL
    rw [frzD_pf h.1]
    show (match frzL (frzD k) S r with
      | some (q, S2) => some (d :: q, S2)
      | none => none) = _
    rw [frzL_pf h.2]
theorem frzE_pf {d : D} (h : d.pf = true) : frzE S d = .ok d S := by
  unfold frzE
  rw [frzD_pf h]
theorem callP_ok {f : String} {ds : List D} {d : D} {S2 : Store} (h1 : pfL ds = true) (h2 : cb f ds [] = .ok d S2) (h3 : d.pf = true) : callP cb f ds S = .ok d S := by
  unfold callP pureK
  rw [frzL_pf h1]
  show (match cb f ds [] with
    | .ok d S2 => match frzD frzK S2 d with
      | some (d', _) => Res.ok d' S
      | none => .bad
    | .ex x _ => if pfF x.fs then .ex x S else .bad
    | .bad => .bad) = _
  rw [h2]
  show (match frzD frzK S2 d with
      | some (d', _) => Res.ok d' S
      | none => .bad) = _
  rw [frzD_pf h3]
/-! reading -/
theorem rdD_pf {k : Nat} {d : D} (h : d.pf = true) : rdD k S d = some d := by
  cases k <;> unfold rdD <;> rw [if_pos h]
theorem rdL_pf {k : Nat} : ∀ {ds : List D}, pfL ds = true → rdL (rdD k S) ds = some ds
  | [], _ => rfl
  | d :: r, h => by
    rw [pfL_cons, Bool.and_eq_true] at h
    unfold rdL
    rw [rdD_pf h.1]
    show (match rdL (rdD k S) r with
      | some q => some (d :: q)
      | none => none) = _
    rw [rdL_pf h.2]
theorem rdL_cons {f : D → Option D} {d e : D} {r q : List D} (h1 : f d = some e) (h2 : rdL f r = some q) : rdL f (d :: r) = some (e :: q) := by
  unfold rdL
  rw [h1, h2]
theorem flatK_ok {k : List D → Store → Res D} {ds es : List D} {d : D} {S2 : Store} (h1 : rdL (rdD frzK S) ds = some es) (h2 : k es [] = .ok d S2) (h3 : flatD d = true) : flatK k ds S = .ok d S := by
  unfold flatK
  rw [h1]
  show (match k es [] with
    | .ok d _ => if flatD d then Res.ok d S else .bad
    | .ex x _ => if x.fs.all (fun p => flatD p.2) then .ex x S else .bad
    | .bad => .bad) = _
  rw [h2]
  exact if_pos h3
theorem flatK_ex {k : List D → Store → Res D} {ds es : List D} {x : Exn} {S2 : Store} (h1 : rdL (rdD frzK S) ds = some es) (h2 : k es [] = .ex x S2) (h3 : x.fs.all (fun p => flatD p.2) = true) : flatK k ds S = .ex x S := by
  unfold flatK
  rw [h1]
  show (match k es [] with
    | .ok d _ => if flatD d then Res.ok d S else .bad
    | .ex x _ => if x.fs.all (fun p => flatD p.2) then .ex x S else .bad
    | .bad => .bad) = _
  rw [h2]
  exact if_pos h3
@[simp] theorem pf_ins (c : String) (fs : List (String × D)) : (D.ins c fs).pf = pfF fs := by rw [D.pf]
@[simp] theorem pfF_nil : pfF [] = true := by unfold pfF; rfl
@[simp] theorem pfF_cons (x : String) (d : D) (r : List (String × D)) : pfF ((x, d) :: r) = (d.pf && pfF r) := by rw [pfF]
/-- a pure call that raises -/
theorem callP_ex {f : String} {ds : List D} {x : Exn} {S2 : Store} (h1 : pfL ds = true) (h2 : cb f ds [] = .ex x S2) (h3 : pfF x.fs = true) : callP cb f ds S = .ex x S := by
  unfold callP pureK
  rw [frzL_pf h1]
  show (match cb f ds [] with
    | .ok d S2 => match frzD frzK S2 d with
      | some (d', _) => Res.ok d' S
      | none => .bad
    | .ex x _ => if pfF x.fs then .ex x S else .bad
    | .bad => .bad) = _
  rw [h2]
  exact if_pos h3
theorem run_fn {P : Prog} {n : Nat} {f : String} {F : Fn} {ds : List D} (h : P.fn f = some F) (hl : ds.length = F.np) : run P (n + 1) f ds S = endR (exS P (run P n) F.body (startD F.ns ds) S) := by
  show (match P.fn f with
    | some F => if ds.length = F.np then endR (exS P (run P n) F.body (startD F.ns ds) S) else .bad
    | none => .bad) = _
  rw [h]
  exact if_pos hl
@[simp] theorem endR_rt (d : D) : endR (.rt d S) = .ok d S := (rfl)
@[simp] theorem endR_nx : endR (.nx σ S) = .ok .non S := (rfl)
@[simp] theorem endR_ex (x : Exn) : endR (.ex x σ S) = .ex x S := (rfl)
theorem endR_ite {p : Prop} [Decidable p] (x y : SR) : endR (if p then x else y) = if p then endR x else endR y := by split <;> rfl
end
end MX
end

section
set_option maxRecDepth 100000
set_option maxHeartbeats 4000000
namespace MX
open PySem
def c__law_mixed : Fn := ⟨2, 3, (.seq (.asg 2 (.bin .mod (.bi .int (.acons (.bin .add (.bin .add (.bin .mul (.var 0) (.int 48271)) (.bin .mul (.var 1) (.int 69621))) (.int 12345)) .anil)) (.int 2147483647)))
  (.seq (.ret (.bin .mod (.bin .fdiv (.bin .mod (.bi .int (.acons (.bin .mul (.var 2) (.bin .add (.bin .add (.var 2) (.int 40692)) (.var 1))) .anil)) (.int 2147483629)) (.int 64)) (.int 5040)))
  .nil))⟩
def c__law_pool : Fn := ⟨2, 10, (.seq (.asg 2 (.cell .anil))
  (.seq (.for_ .seq (.n 3) (.var 0) (.seq (.asg 7 (.bi .abs (.acons (.bi .int (.acons (.var 3) .anil)) .anil)))
  (.seq (.ifs (.cmp .lt (.var 7) (.bin .pow (.int 10) (.int 18))) (.seq (.asg 8 (.bin .mul (.int 7919) (.bi .len (.acons (.var 2) .anil))))
  (.seq (.asg 2 (.catc (.var 2) (.comp false [6] .seq (.n 6) (.irng1 (.int 4)) (.bl true) (.call .pure "_law_mixed" (.acons (.bin .add (.var 7) (.var 8)) (.acons (.var 6) .anil))))))
  (.seq (.asg 7 (.int 0))
  .nil))) .nil)
  (.seq (.for_ .seq (.n 6) (.irng1 (.int 60)) (.seq (.ifs (.cmp .gt (.var 7) (.int 0)) (.seq (.ex (.app (.var 2) (.bin .mod (.bi .int (.acons (.var 7) .anil)) (.int 5040))))
  (.seq (.asg 7 (.bin .fdiv (.var 7) (.int 5040)))
  .nil)) .nil)
  .nil))
  .nil))))
  (.seq (.asg 4 (.bin .add (.bin .mod (.bi .int (.acons (.bi .sum (.acons (.comp false [9] .seq (.n 9) (.var 0) (.bl true) (.bi .int (.acons (.var 9) .anil))) .anil)) .anil)) (.int 1000003)) (.bi .len (.acons (.var 0) .anil))))
  (.seq (.asg 5 (.cell .anil))
  (.seq (.for_ .seq (.n 6) (.irng1 (.var 1)) (.seq (.ex (.app (.var 5) (.bin .mod (.bi .int (.acons (.bin .add (.bin .mul (.var 4) (.bin .add (.var 6) (.int 1))) (.bin .fdiv (.bin .add (.bin .sub (.bin .mul (.bin .mul (.int 17) (.var 6)) (.var 6)) (.bin .mul (.int 12) (.var 6))) (.int 8)) (.int 4))) .anil)) (.int 5040))))
  .nil))
  (.seq (.ret (.cut (.bin .add (.var 2) (.var 5)) .nopart (.part (.var 1))))
  .nil))))))⟩
def mixF (c k : Int) : Int := ((((c * 48271 + k * 69621 + 12345) % 2147483647) * (((c * 48271 + k * 69621 + 12345) % 2147483647) + 40692 + k)) % 2147483629) / 64 % 5040
theorem mix_run {P : Prog} (h : P.fn "_law_mixed" = some c__law_mixed) (n : Nat) (c k : Int) (S : Store) : run P (n + 1) "_law_mixed" [.int c, .int k] S = .ok (.int (mixF c k)) S := by
  rw [run_fn h rfl]
  simp (disch := omega) [List.getElem?_cons_zero, c__law_mixed, startD, bin_mul, bin_mod, bin_fdiv, mixF]
theorem mix_bd (c k : Int) : 0 ≤ mixF c k ∧ mixF c k < 5040 := by
  unfold mixF
  omega
def Small (xs : List Int) : Prop := ∀ x ∈ xs, 0 ≤ x ∧ x < 5040
theorem Small.append {xs ys : List Int} (h : Small xs) (k : Small ys) : Small (xs ++ ys) := fun x hx => by
  rcases List.mem_append.mp hx with z | z
  · exact h x z
  · exact k x z
theorem Small.one {x : Int} (h : 0 ≤ x ∧ x < 5040) : Small [x] := fun y hy => by
  rw [List.mem_singleton] at hy
  rw [hy]
  exact h
theorem call_int1 {cb : Cb} {S : Store} {f : String} {ds : List D} {d : D} {S2 : Store} (h1 : pfL ds = true) (h2 : cb f ds [] = .ok d S2) (h3 : d.pf = true) : callP cb f ds S = .ok d S := callP_ok h1 h2 h3
/-- the pool's comprehension -/
theorem pool_mix {P : Prog} (h : P.fn "_law_mixed" = some c__law_mixed) (n : Nat) (a b : Int) {o0 o1 o2 o3 o4 o5 o6 o9 : Option D} (S : Store) :
    evE P (run P (n + 1)) (.comp false [6] .seq (.n 6) (.irng1 (.int 4)) (.bl true) (.call .pure "_law_mixed" (.acons (.bin .add (.var 7) (.var 8)) (.acons (.var 6) .anil)))) [o0, o1, o2, o3, o4, o5, o6, some (.int a), some (.int b), o9] S
      = .ok (.lst [.int (mixF (a + b) 0), .int (mixF (a + b) 1), .int (mixF (a + b) 2), .int (mixF (a + b) 3)]) S := by
  have e : ∀ k : Int, compF P (run P (n + 1)) [6] 6 (.bl true) (.call .pure "_law_mixed" (.acons (.bin .add (.var 7) (.var 8)) (.acons (.var 6) .anil))) [o0, o1, o2, o3, o4, o5, o6, some (.int a), some (.int b), o9] (.int k) S = .ok (some (.int (mixF (a + b) k))) S := fun k => by
    unfold compF
    have c := callP_ok (cb := run P (n + 1)) (S := S) (f := "_law_mixed") (ds := [.int (a + b), .int k]) (by simp) (mix_run h n (a + b) k []) (by simp)
    simp [wipeD, c]
  have r : rngD [.int 4] = some [.int 0, .int 1, .int 2, .int 3] := by
    rw [rng1_ok (by omega)]
    rfl
  simp [r, compL, e, sizeLine]
/-- the pool's long draws -/
def poolIn (pr : Prog) (cb : Cb) (x : D) (σ : DSt) (S : Store) : SR := exS pr cb (.seq (.ifs (.cmp .gt (.var 7) (.int 0)) (.seq (.ex (.app (.var 2) (.bin .mod (.bi .int (.acons (.var 7) .anil)) (.int 5040)))) (.seq (.asg 7 (.bin .fdiv (.var 7) (.int 5040))) .nil)) .nil) .nil) (σ.set 6 (some x)) S
theorem lt_of_get {S : Store} {p : Nat} {c : Cell} (h : S[p]? = some c) : p < S.length := (List.getElem?_eq_some_iff.mp h).1
section
variable {pr : Prog} {cb : Cb} {o0 o1 o3 o4 o5 o8 o9 : Option D} {p : Nat}
theorem poolIn_pos {o6 : Option D} {S : Store} {l : Int} {ys : List Int} (k : Int) (hl : 0 < l) (h : S[p]? = some (.lst (ys.map .int))) (hz : ys.length < sizeLine) :
    poolIn pr cb (.int k) [o0, o1, some (.ptr p), o3, o4, o5, o6, some (.int l), o8, o9] S = .nx [o0, o1, some (.ptr p), o3, o4, o5, some (.int k), some (.int (l / 5040)), o8, o9] (S.set p (.lst ((ys ++ [l % 5040]).map .int))) := by
  unfold poolIn
  simp [hl, h, bin_mod, bin_fdiv, hz]
theorem poolIn_neg {o6 : Option D} {S : Store} {l : Int} (k : Int) (hl : ¬ 0 < l) :
    poolIn pr cb (.int k) [o0, o1, some (.ptr p), o3, o4, o5, o6, some (.int l), o8, o9] S = .nx [o0, o1, some (.ptr p), o3, o4, o5, some (.int k), some (.int l), o8, o9] S := by
  unfold poolIn
  simp [hl]
theorem pool_in : ∀ (xs : List D) {o6 : Option D} {S : Store} {l : Int} {ys : List Int}, (∀ x ∈ xs, ∃ k : Int, x = .int k) → 0 ≤ l → S[p]? = some (.lst (ys.map .int)) → Small ys → ys.length + xs.length ≤ sizeLine →
    ∃ (o6' : Option D) (S' : Store) (l' : Int) (zs : List Int), forL (poolIn pr cb) xs [o0, o1, some (.ptr p), o3, o4, o5, o6, some (.int l), o8, o9] S = .nx [o0, o1, some (.ptr p), o3, o4, o5, o6', some (.int l'), o8, o9] S' ∧ S'[p]? = some (.lst (zs.map .int)) ∧ Small zs ∧ zs.length ≤ ys.length + xs.length
  | [], o6, S, l, ys, _, _, h, hs, _ => ⟨o6, S, l, ys, rfl, h, hs, by simp⟩
  | x :: xs, o6, S, l, ys, h2, h3, h, hs, h5 => by
    obtain ⟨k, rfl⟩ := h2 x (List.mem_cons_self ..)
    have h2 := fun y hy => h2 y (List.mem_cons_of_mem _ hy)
    rw [List.length_cons] at h5
    rw [for_cons]
    by_cases hl : 0 < l
    · obtain ⟨o6', S', l', zs, e, a, b, c⟩ := pool_in xs (o6 := some (.int k)) (S := S.set p (.lst ((ys ++ [l % 5040]).map .int))) (l := l / 5040) (ys := ys ++ [l % 5040]) h2 (by omega) (by rw [List.getElem?_set_self (lt_of_get h)]) (hs.append (.one (by omega))) (by simp; omega)
      refine ⟨o6', S', l', zs, ?_, a, b, by simp at c; simp; omega⟩
      rw [poolIn_pos k hl h (by omega), loopR_nx, e]
    · obtain ⟨o6', S', l', zs, e, a, b, c⟩ := pool_in xs (o6 := some (.int k)) (S := S) (l := l) (ys := ys) h2 h3 h hs (by omega)
      refine ⟨o6', S', l', zs, ?_, a, b, by simp; omega⟩
      rw [poolIn_neg k hl, loopR_nx, e]
end
/-- the pool's outer loop -/
def poolOut (pr : Prog) (cb : Cb) (x : D) (σ : DSt) (S : Store) : SR := exS pr cb (.seq (.asg 7 (.bi .abs (.acons (.bi .int (.acons (.var 3) .anil)) .anil)))
  (.seq (.ifs (.cmp .lt (.var 7) (.bin .pow (.int 10) (.int 18))) (.seq (.asg 8 (.bin .mul (.int 7919) (.bi .len (.acons (.var 2) .anil))))
  (.seq (.asg 2 (.catc (.var 2) (.comp false [6] .seq (.n 6) (.irng1 (.int 4)) (.bl true) (.call .pure "_law_mixed" (.acons (.bin .add (.var 7) (.var 8)) (.acons (.var 6) .anil))))))
  (.seq (.asg 7 (.int 0))
  .nil))) .nil)
  (.seq (.for_ .seq (.n 6) (.irng1 (.int 60)) (.seq (.ifs (.cmp .gt (.var 7) (.int 0)) (.seq (.ex (.app (.var 2) (.bin .mod (.bi .int (.acons (.var 7) .anil)) (.int 5040))))
  (.seq (.asg 7 (.bin .fdiv (.var 7) (.int 5040)))
  .nil)) .nil)
  .nil))
  .nil))) (σ.set 3 (some x)) S
theorem rng60 : ∃ xs : List D, rngD [.int 60] = some xs ∧ xs.length = 60 ∧ ∀ x ∈ xs, ∃ k : Int, x = .int k := by
  refine ⟨_, rng1_ok (by omega), by simp, fun x hx => ?_⟩
  obtain ⟨k, _, rfl⟩ := List.mem_map.mp hx
  exact ⟨_, rfl⟩
theorem poolOut_a {P : Prog} (hP : P.fn "_law_mixed" = some c__law_mixed) (n : Nat) (c : Int) {o0 o1 o3 o4 o5 o6 o7 o8 o9 : Option D} {p : Nat} {S : Store} {ys : List Int} (h : S[p]? = some (.lst (ys.map .int))) (hz : ys.length + 64 ≤ sizeLine)
    (hc : (if c < 0 then -c else c) < 1000000000000000000) : ∃ zs : List Int, Small zs ∧ zs.length = 4 ∧ poolOut P (run P (n + 1)) (.int c) [o0, o1, some (.ptr p), o3, o4, o5, o6, o7, o8, o9] S = sqS (exS P (run P (n + 1)) (.for_ .seq (.n 6) (.irng1 (.int 60)) (.seq (.ifs (.cmp .gt (.var 7) (.int 0)) (.seq (.ex (.app (.var 2) (.bin .mod (.bi .int (.acons (.var 7) .anil)) (.int 5040)))) (.seq (.asg 7 (.bin .fdiv (.var 7) (.int 5040))) .nil)) .nil) .nil)) [o0, o1, some (.ptr S.length), some (.int c), o4, o5, o6, some (.int 0), some (.int (7919 * ys.length)), o9] (S ++ [.lst ((ys ++ zs).map .int)])) fun σ S => .nx σ S := by
  refine ⟨[mixF ((if c < 0 then -c else c) + 7919 * ys.length) 0, mixF ((if c < 0 then -c else c) + 7919 * ys.length) 1, mixF ((if c < 0 then -c else c) + 7919 * ys.length) 2, mixF ((if c < 0 then -c else c) + 7919 * ys.length) 3], ?_, rfl, ?_⟩
  · intro x hx
    simp only [List.mem_cons, List.not_mem_nil, or_false] at hx
    rcases hx with rfl | rfl | rfl | rfl <;> exact mix_bd _ _
  have pw : binD .pow S (.int 10) (.int 18) = .ok (.int 1000000000000000000) S := bin_pow (i := 10) (j := 18) (by decide)
  have m1 : binD .mul S (.int 7919) (.int ys.length) = .ok (.int (7919 * ys.length)) S := bin_mul (by omega)
  have cm := fun (a b : Int) => pool_mix hP n a b (o0 := o0) (o1 := o1) (o2 := some (.ptr p)) (o3 := some (.int c)) (o4 := o4) (o5 := o5) (o6 := o6) (o9 := o9) S
  have ct := fun (a b c d : Int) => catD_ok (S := S) (a := .ptr p) (b := .lst [.int a, .int b, .int c, .int d]) (xs := ys.map .int) (ys := [.int a, .int b, .int c, .int d]) (look_ptr_lst h) rfl (by simp; omega)
  unfold poolOut
  simp [pw, hc, biX_lenn (ins_ptr_lst h), len_ptr h, m1, ct, cm, -ev_comp, -ex_for]
theorem poolOut_b {P : Prog} (n : Nat) (c : Int) {o0 o1 o3 o4 o5 o6 o7 o8 o9 : Option D} {p : Nat} {S : Store}
    (hc : ¬ (if c < 0 then -c else c) < 1000000000000000000) : poolOut P (run P (n + 1)) (.int c) [o0, o1, some (.ptr p), o3, o4, o5, o6, o7, o8, o9] S = sqS (exS P (run P (n + 1)) (.for_ .seq (.n 6) (.irng1 (.int 60)) (.seq (.ifs (.cmp .gt (.var 7) (.int 0)) (.seq (.ex (.app (.var 2) (.bin .mod (.bi .int (.acons (.var 7) .anil)) (.int 5040)))) (.seq (.asg 7 (.bin .fdiv (.var 7) (.int 5040))) .nil)) .nil) .nil)) [o0, o1, some (.ptr p), some (.int c), o4, o5, o6, some (.int (if c < 0 then -c else c)), o8, o9] S) fun σ S => .nx σ S := by
  have pw : binD .pow S (.int 10) (.int 18) = .ok (.int 1000000000000000000) S := bin_pow (i := 10) (j := 18) (by decide)
  unfold poolOut
  simp [pw, hc, -ev_comp, -ex_for]
theorem pool_turn {P : Prog} (hP : P.fn "_law_mixed" = some c__law_mixed) (n : Nat) (c : Int) {o0 o1 o3 o4 o5 o6 o7 o8 o9 : Option D} {p : Nat} {S : Store} {ys : List Int} (h : S[p]? = some (.lst (ys.map .int))) (hs : Small ys) (hz : ys.length + 64 ≤ sizeLine) :
    ∃ (o6' o7' o8' : Option D) (p' : Nat) (S' : Store) (zs : List Int), poolOut P (run P (n + 1)) (.int c) [o0, o1, some (.ptr p), o3, o4, o5, o6, o7, o8, o9] S = .nx [o0, o1, some (.ptr p'), some (.int c), o4, o5, o6', o7', o8', o9] S' ∧ S'[p']? = some (.lst (zs.map .int)) ∧ Small zs ∧ zs.length ≤ ys.length + 64 := by
  obtain ⟨r60, e60, l60, m60⟩ := rng60
  by_cases hc : (if c < 0 then -c else c) < 1000000000000000000
  · obtain ⟨zs, sz, lz, e⟩ := poolOut_a hP n c (o0 := o0) (o1 := o1) (o3 := o3) (o4 := o4) (o5 := o5) (o6 := o6) (o7 := o7) (o8 := o8) (o9 := o9) h hz hc
    obtain ⟨o6', S', l', us, e2, a, b, c⟩ := pool_in (pr := P) (cb := run P (n + 1)) (o0 := o0) (o1 := o1) (o3 := some (.int c)) (o4 := o4) (o5 := o5) (o8 := some (.int (7919 * ys.length))) (o9 := o9) (p := S.length) r60 (o6 := o6) (S := S ++ [.lst ((ys ++ zs).map .int)]) (l := 0) (ys := ys ++ zs) m60 (by omega) (by simp) (hs.append sz) (by simp; omega)
    refine ⟨o6', some (.int l'), some (.int (7919 * ys.length)), S.length, S', us, ?_, a, b, by simp at c; omega⟩
    rw [e]
    rw [ex_for, ev_irng1, ev_int, bind_ok, e60, rngR_some, sr_ok, srcD_seq, still_lst, items_lst, seqG_t, forG_ok]
    exact congrArg (fun z => sqS z fun σ S => .nx σ S) e2
  · have e := poolOut_b (P := P) n c (o0 := o0) (o1 := o1) (o3 := o3) (o4 := o4) (o5 := o5) (o6 := o6) (o7 := o7) (o8 := o8) (o9 := o9) (p := p) (S := S) hc
    obtain ⟨o6', S', l', us, e2, a, b, c2⟩ := pool_in (pr := P) (cb := run P (n + 1)) (o0 := o0) (o1 := o1) (o3 := some (.int c)) (o4 := o4) (o5 := o5) (o8 := o8) (o9 := o9) (p := p) r60 (o6 := o6) (S := S) (l := if c < 0 then -c else c) (ys := ys) m60 (by omega) h hs (by omega)
    refine ⟨o6', some (.int l'), o8, p, S', us, ?_, a, b, by omega⟩
    rw [e]
    rw [ex_for, ev_irng1, ev_int, bind_ok, e60, rngR_some, sr_ok, srcD_seq, still_lst, items_lst, seqG_t, forG_ok]
    exact congrArg (fun z => sqS z fun σ S => .nx σ S) e2
theorem pool_out {P : Prog} (hP : P.fn "_law_mixed" = some c__law_mixed) (n : Nat) {o0 o1 o4 o5 o9 : Option D} : ∀ (ns : List Int) {o3 o6 o7 o8 : Option D} {p : Nat} {S : Store} {ys : List Int}, S[p]? = some (.lst (ys.map .int)) → Small ys → ys.length + 64 * ns.length ≤ sizeLine →
    ∃ (o3' o6' o7' o8' : Option D) (p' : Nat) (S' : Store) (zs : List Int), forL (poolOut P (run P (n + 1))) (ns.map .int) [o0, o1, some (.ptr p), o3, o4, o5, o6, o7, o8, o9] S = .nx [o0, o1, some (.ptr p'), o3', o4, o5, o6', o7', o8', o9] S' ∧ S'[p']? = some (.lst (zs.map .int)) ∧ Small zs ∧ zs.length ≤ ys.length + 64 * ns.length
  | [], o3, o6, o7, o8, p, S, ys, h, hs, _ => ⟨o3, o6, o7, o8, p, S, ys, rfl, h, hs, by simp⟩
  | c :: ns, o3, o6, o7, o8, p, S, ys, h, hs, hz => by
    rw [List.length_cons] at hz
    obtain ⟨b6, b7, b8, p1, S1, z1, e1, h1, s1, l1⟩ := pool_turn hP n c (o0 := o0) (o1 := o1) (o3 := o3) (o4 := o4) (o5 := o5) (o6 := o6) (o7 := o7) (o8 := o8) (o9 := o9) h hs (by omega)
    obtain ⟨c3, c6, c7, c8, p2, S2, z2, e2, h2, s2, l2⟩ := pool_out hP n ns (o3 := some (.int c)) (o6 := b6) (o7 := b7) (o8 := b8) h1 s1 (by omega)
    refine ⟨c3, c6, c7, c8, p2, S2, z2, ?_, h2, s2, by rw [List.length_cons]; omega⟩
    rw [List.map_cons, for_cons, e1, loopR_nx, e2]
theorem set_get {S : Store} {p : Nat} {c : Cell} (h : S[p]? = some c) : S.set p c = S := by
  apply List.ext_getElem?
  intro i
  by_cases e : p = i
  · subst e
    rw [List.getElem?_set_self (lt_of_get h), h]
  · rw [List.getElem?_set_ne e]
/-- the pool's tail -/
def poolTail (pr : Prog) (cb : Cb) (x : D) (σ : DSt) (S : Store) : SR := exS pr cb (.seq (.ex (.app (.var 5) (.bin .mod (.bi .int (.acons (.bin .add (.bin .mul (.var 4) (.bin .add (.var 6) (.int 1))) (.bin .fdiv (.bin .add (.bin .sub (.bin .mul (.bin .mul (.int 17) (.var 6)) (.var 6)) (.bin .mul (.int 12) (.var 6))) (.int 8)) (.int 4))) .anil)) (.int 5040))))
  .nil) (σ.set 6 (some x)) S
theorem tail_turn {pr : Prog} {cb : Cb} {o0 o1 o2 o3 o6 o7 o8 o9 : Option D} {p : Nat} {S : Store} {ys : List Int} {sd k : Int} (hk : 0 ≤ k ∧ k < 16777216) (hsd : 0 ≤ sd ∧ sd < 2000000) (h : S[p]? = some (.lst (ys.map .int))) (hz : ys.length < sizeLine) :
    ∃ y : Int, (0 ≤ y ∧ y < 5040) ∧ poolTail pr cb (.int k) [o0, o1, o2, o3, some (.int sd), some (.ptr p), o6, o7, o8, o9] S = .nx [o0, o1, o2, o3, some (.int sd), some (.ptr p), some (.int k), o7, o8, o9] (S.set p (.lst ((ys ++ [y]).map .int))) := by
  refine ⟨(sd * (k + 1) + (17 * k * k - 12 * k + 8) / 4) % 5040, by omega, ?_⟩
  have m1 := fun S => bin_mul (S := S) (i := sd) (j := k + 1) (by omega)
  have m2 := fun S => bin_mul (S := S) (i := 17) (j := k) (by omega)
  have m3 := fun S => bin_mul (S := S) (i := 17 * k) (j := k) (by omega)
  have m4 := fun S => bin_mul (S := S) (i := 12) (j := k) (by omega)
  unfold poolTail
  simp [h, hz, m1, m2, m3, m4, bin_mod, bin_fdiv]
theorem pool_tail {pr : Prog} {cb : Cb} {o0 o1 o2 o3 o7 o8 o9 : Option D} {p : Nat} {sd : Int} (hsd : 0 ≤ sd ∧ sd < 2000000) : ∀ (xs : List D) {o6 : Option D} {S : Store} {ys : List Int}, (∀ x ∈ xs, ∃ k : Int, x = .int k ∧ 0 ≤ k ∧ k < 16777216) → S[p]? = some (.lst (ys.map .int)) → Small ys → ys.length + xs.length ≤ sizeLine →
    ∃ (o6' : Option D) (zs : List Int), forL (poolTail pr cb) xs [o0, o1, o2, o3, some (.int sd), some (.ptr p), o6, o7, o8, o9] S = .nx [o0, o1, o2, o3, some (.int sd), some (.ptr p), o6', o7, o8, o9] (S.set p (.lst (zs.map .int))) ∧ Small zs ∧ zs.length = ys.length + xs.length
  | [], o6, S, ys, _, h, hs, _ => ⟨o6, ys, by rw [for_nil, set_get h], hs, by simp⟩
  | x :: xs, o6, S, ys, h2, h, hs, hz => by
    obtain ⟨k, rfl, hk⟩ := h2 x (List.mem_cons_self ..)
    rw [List.length_cons] at hz
    obtain ⟨y, hy, e1⟩ := tail_turn (cb := cb) (o0 := o0) (o1 := o1) (o2 := o2) (o3 := o3) (o6 := o6) (o7 := o7) (o8 := o8) (o9 := o9) hk hsd h (by omega)
    obtain ⟨c6, zs, e2, s2, l2⟩ := pool_tail (cb := cb) (o0 := o0) (o1 := o1) (o2 := o2) (o3 := o3) (o7 := o7) (o8 := o8) (o9 := o9) (p := p) hsd xs (o6 := some (.int k)) (S := S.set p (.lst ((ys ++ [y]).map .int))) (ys := ys ++ [y]) (fun z hz => h2 z (List.mem_cons_of_mem _ hz)) (by rw [List.getElem?_set_self (lt_of_get h)]) (hs.append (.one hy)) (by simp; omega)
    refine ⟨c6, zs, ?_, s2, by rw [l2]; simp; omega⟩
    rw [for_cons, e1, loopR_nx, e2, List.set_set]
theorem cutL_take {xs : List D} {m : Nat} (h : m ≤ xs.length) : cutL xs none (some (m : Int)) = xs.take m := by
  have z : HT.sIx xs.length 0 none = 0 := rfl
  have y : HT.sIx xs.length xs.length (some (m : Int)) = m := by
    rw [HT.sIx_nat]
    omega
  unfold cutL
  rw [z, y]
  rfl
/-- THE POOL: this many small numbers -/
theorem pool_run {P : Prog} (hM : P.fn "_law_mixed" = some c__law_mixed) (hP : P.fn "_law_pool" = some c__law_pool) (n : Nat) (ns : List Int) (hl : ns.length ≤ 63) (m : Nat) (hm : m ≤ 1000000) :
    ∃ (xs : List Int) (S' : Store), run P (n + 2) "_law_pool" [.scr ns, .int m] [] = .ok (.lst (xs.map .int)) S' ∧ xs.length = m ∧ Small xs := by
  have sz : sizeLine = 16777216 := rfl
  obtain ⟨o3, o6, o7, o8, p, S1, z1, e1, h1, s1, l1⟩ := pool_out hM n (o0 := some (.scr ns)) (o1 := some (.int m)) (o4 := none) (o5 := none) (o9 := none) ns (o3 := none) (o6 := none) (o7 := none) (o8 := none) (p := 0) (S := [.lst []]) (ys := []) rfl (fun x hx => by cases hx) (by simp; omega)
  have hsd : 0 ≤ ns.sum % 1000003 + (ns.length : Int) ∧ ns.sum % 1000003 + (ns.length : Int) < 2000000 := by omega
  have hp := lt_of_get h1
  obtain ⟨b6, z2, e2, s2, l2⟩ := pool_tail (pr := P) (cb := run P (n + 1)) (o0 := some (.scr ns)) (o1 := some (.int m)) (o2 := some (.ptr p)) (o3 := o3) (o7 := o7) (o8 := o8) (o9 := none) (p := S1.length) hsd ((List.range m).map fun (k : Nat) => D.int (k : Int)) (o6 := o6) (S := S1 ++ [.lst []]) (ys := []) (fun x hx => by
    obtain ⟨k, hk, rfl⟩ := List.mem_map.mp hx
    have := List.mem_range.mp hk
    exact ⟨k, rfl, by omega, by omega⟩) (by simp) (fun x hx => by cases hx) (by simp; omega)
  have e3 : evE P (run P (n + 1)) (.comp false [9] .seq (.n 9) (.var 0) (.bl true) (.bi .int (.acons (.var 9) .anil))) [some (.scr ns), some (.int m), some (.ptr p), o3, none, none, o6, o7, o8, none] S1 = .ok (.lst (ns.map .int)) S1 := by
    have c : ∀ x ∈ ns.map D.int, compF P (run P (n + 1)) [9] 9 (.bl true) (.bi .int (.acons (.var 9) .anil)) [some (.scr ns), some (.int m), some (.ptr p), o3, none, none, o6, o7, o8, none] x S1 = .ok (some (id x)) S1 := fun x hx => by
      obtain ⟨k, _, rfl⟩ := List.mem_map.mp hx
      unfold compF
      simp [wipeD]
    have q := compL_map (f := compF P (run P (n + 1)) [9] 9 (.bl true) (.bi .int (.acons (.var 9) .anil)) [some (.scr ns), some (.int m), some (.ptr p), o3, none, none, o6, o7, o8, none]) (S := S1) c
    rw [ev_comp, ev_var]
    simp [q]
    omega
  have er : rngD [.int m] = some ((List.range m).map fun (k : Nat) => D.int (k : Int)) := by
    rw [rng1_ok (by omega), Int.toNat_natCast]
  have len2 : z2.length = m := by simpa using l2
  have lS : (S1 ++ [Cell.lst []]).set S1.length (.lst (z2.map .int)) = S1 ++ [.lst (z2.map .int)] := by
    simp
  rw [lS] at e2
  refine ⟨(z1 ++ z2).take m, S1 ++ [.lst (z2.map .int)], ?_, by simp; omega, fun x hx => (s1.append s2) x (List.mem_of_mem_take hx)⟩
  rw [run_fn hP rfl]
  have st0 : startD 10 [D.scr ns, .int m] = [some (.scr ns), some (.int m), none, none, none, none, none, none, none, none] := rfl
  show endR (exS P (run P (n + 1)) c__law_pool.body (startD 10 [D.scr ns, .int m]) []) = _
  rw [st0]
  unfold c__law_pool
  simp only [ex_seq]
  have a1 : exS P (run P (n + 1)) (.asg 2 (.cell .anil)) [some (.scr ns), some (.int m), none, none, none, none, none, none, none, none] [] = .nx [some (.scr ns), some (.int m), some (.ptr 0), none, none, none, none, none, none, none] [.lst []] := by simp
  rw [a1, sqS_nx, ex_for, ev_var, get_zero, slot_some, sr_ok, srcD_seq, still_scr, items_scr, seqG_t, forG_ok]
  have e1' : forL (fun x σ S => exS P (run P (n + 1)) (.seq (.asg 7 (.bi .abs (.acons (.bi .int (.acons (.var 3) .anil)) .anil)))
  (.seq (.ifs (.cmp .lt (.var 7) (.bin .pow (.int 10) (.int 18))) (.seq (.asg 8 (.bin .mul (.int 7919) (.bi .len (.acons (.var 2) .anil))))
  (.seq (.asg 2 (.catc (.var 2) (.comp false [6] .seq (.n 6) (.irng1 (.int 4)) (.bl true) (.call .pure "_law_mixed" (.acons (.bin .add (.var 7) (.var 8)) (.acons (.var 6) .anil))))))
  (.seq (.asg 7 (.int 0))
  .nil))) .nil)
  (.seq (.for_ .seq (.n 6) (.irng1 (.int 60)) (.seq (.ifs (.cmp .gt (.var 7) (.int 0)) (.seq (.ex (.app (.var 2) (.bin .mod (.bi .int (.acons (.var 7) .anil)) (.int 5040))))
  (.seq (.asg 7 (.bin .fdiv (.var 7) (.int 5040)))
  .nil)) .nil)
  .nil))
  .nil))) (σ.set 3 (some x)) S) (ns.map .int) [some (.scr ns), some (.int m), some (.ptr 0), none, none, none, none, none, none, none] [.lst []] = _ := e1
  rw [e1', sqS_nx]
  have e2' : forL (fun x σ S => exS P (run P (n + 1)) (.seq (.ex (.app (.var 5) (.bin .mod (.bi .int (.acons (.bin .add (.bin .mul (.var 4) (.bin .add (.var 6) (.int 1))) (.bin .fdiv (.bin .add (.bin .sub (.bin .mul (.bin .mul (.int 17) (.var 6)) (.var 6)) (.bin .mul (.int 12) (.var 6))) (.int 8)) (.int 4))) .anil)) (.int 5040)))) .nil) (σ.set 6 (some x)) S) ((List.range m).map fun (k : Nat) => D.int (k : Int)) [some (.scr ns), some (.int m), some (.ptr p), o3, some (.int (ns.sum % 1000003 + (ns.length : Int))), some (.ptr S1.length), o6, o7, o8, none] (S1 ++ [.lst []]) = _ := e2
  have c1 : binD .mod S1 (.int ns.sum) (.int 1000003) = .ok (.int (ns.sum % 1000003)) S1 := bin_mod (by omega)
  have a2 : exS P (run P (n + 1)) (.asg 4 (.bin .add (.bin .mod (.bi .int (.acons (.bi .sum (.acons (.comp false [9] .seq (.n 9) (.var 0) (.bl true) (.bi .int (.acons (.var 9) .anil))) .anil)) .anil)) (.int 1000003)) (.bi .len (.acons (.var 0) .anil)))) [some (.scr ns), some (.int m), some (.ptr p), o3, none, none, o6, o7, o8, none] S1 = .nx [some (.scr ns), some (.int m), some (.ptr p), o3, some (.int (ns.sum % 1000003 + (ns.length : Int))), none, o6, o7, o8, none] S1 := by
    rw [ex_asg, ev_bin, ev_bin, ev_bi, ev_acons, ev_bi, ev_acons, e3]
    simp [c1]
  have a3 : exS P (run P (n + 1)) (.asg 5 (.cell .anil)) [some (.scr ns), some (.int m), some (.ptr p), o3, some (.int (ns.sum % 1000003 + (ns.length : Int))), none, o6, o7, o8, none] S1 = .nx [some (.scr ns), some (.int m), some (.ptr p), o3, some (.int (ns.sum % 1000003 + (ns.length : Int))), some (.ptr S1.length), o6, o7, o8, none] (S1 ++ [.lst []]) := by
    simp
  rw [a2, sqS_nx, a3, sqS_nx, ex_for, ev_irng1, ev_var, List.getElem?_cons_succ, get_zero, slot_some, bind_ok, er, rngR_some, sr_ok, srcD_seq, still_lst, items_lst, seqG_t, forG_ok, e2', sqS_nx]
  have hg1 : (S1 ++ [Cell.lst (z2.map .int)])[p]? = some (.lst (z1.map .int)) := by rw [List.getElem?_append_left hp]; exact h1
  have hg2 : (S1 ++ [Cell.lst (z2.map .int)])[S1.length]? = some (.lst (z2.map .int)) := by simp
  have cc := (binX_n (pr := P) (cb := run P (n + 1)) (op := .add) (ins_ptr_lst hg1) (ins_ptr_lst hg2)).trans (bin_cat (S := S1 ++ [Cell.lst (z2.map .int)]) (a := .ptr p) (b := .ptr S1.length) (look_ptr_lst hg1) (look_ptr_lst hg2) (by simp at l1; simp; omega))
  have ct : cutD (S1 ++ [Cell.lst (z2.map .int)]) (.lst (z1.map D.int ++ z2.map D.int)) none (some (m : Int)) = .ok (.lst ((z1.map D.int ++ z2.map D.int).take m)) (S1 ++ [Cell.lst (z2.map .int)]) := by
    show Res.ok (D.lst (cutL (z1.map D.int ++ z2.map D.int) none (some (m : Int)))) _ = _
    rw [cutL_take (by simp; omega)]
  simp only [ex_ret, ev_cut, ev_bin, ev_var, List.getElem?_cons_succ, get_zero, slot_some, bind_ok, cc, ev_nopart, withPart_non, ev_part, partI_int, withPart_int, ct, sr_ok, sqS_rt, endR_rt]
  rw [List.map_take, List.map_append]
end MX
end

section
set_option maxRecDepth 100000
set_option maxHeartbeats 4000000
namespace MX
open PySem
/-! ### stepping -/
theorem seq_stp {pr : Prog} {cb : Cb} {a b : Sx} {σ σ1 : DSt} {S S1 : Store} {r : SR} (h : exS pr cb a σ S = .nx σ1 S1) (k : exS pr cb b σ1 S1 = r) : exS pr cb (.seq a b) σ S = r := by
  rw [ex_seq, h]
  exact k
theorem seq_end {pr : Prog} {cb : Cb} {a b : Sx} {σ : DSt} {S S1 : Store} {d : D} (h : exS pr cb a σ S = .rt d S1) : exS pr cb (.seq a b) σ S = .rt d S1 := by
  rw [ex_seq, h]
  rfl
theorem seq_exn {pr : Prog} {cb : Cb} {a b : Sx} {σ σ1 : DSt} {S S1 : Store} {x : Exn} (h : exS pr cb a σ S = .ex x σ1 S1) : exS pr cb (.seq a b) σ S = .ex x σ1 S1 := by
  rw [ex_seq, h]
  rfl
theorem run_by {P : Prog} {n : Nat} {f : String} {F : Fn} {ds : List D} {S S1 : Store} {d : D} (h : P.fn f = some F) (hl : ds.length = F.np) (k : exS P (run P n) F.body (startD F.ns ds) S = .rt d S1) : run P (n + 1) f ds S = .ok d S1 := by
  rw [run_fn h hl, k]
  rfl
theorem run_byN {P : Prog} {n : Nat} {f : String} {F : Fn} {ds : List D} {S S1 : Store} {σ : DSt} (h : P.fn f = some F) (hl : ds.length = F.np) (k : exS P (run P n) F.body (startD F.ns ds) S = .nx σ S1) : run P (n + 1) f ds S = .ok .non S1 := by
  rw [run_fn h hl, k]
  rfl
theorem run_byX {P : Prog} {n : Nat} {f : String} {F : Fn} {ds : List D} {S S1 : Store} {σ : DSt} {x : Exn} (h : P.fn f = some F) (hl : ds.length = F.np) (k : exS P (run P n) F.body (startD F.ns ds) S = .ex x σ S1) : run P (n + 1) f ds S = .ex x S1 := by
  rw [run_fn h hl, k]
  rfl
-- one statement, by simp
/-! parts of a body -/
def Sx.hd : Sx → Sx
  | .seq a _ => a
  | s => s
def Sx.tl : Sx → Sx
  | .seq _ b => b
  | s => s
def Sx.bd : Sx → Sx
  | .for_ _ _ _ b => b
  | .whl _ _ b => b
  | .try_ b _ => b
  | s => s
/-- what is known of an end: it goes on, it returns -/
def pst (r : SR) (N : DSt → Store → Prop) (R : D → Store → Prop) : Prop :=
  match r with
  | .nx σ S => N σ S
  | .rt d S => R d S
  | _ => False
section
variable {pr : Prog} {cb : Cb} {a b : Sx} {σ σ1 : DSt} {S S1 : Store} {N M : DSt → Store → Prop} {R : D → Store → Prop}
theorem pst_stp (h : exS pr cb a σ S = .nx σ1 S1) (k : pst (exS pr cb b σ1 S1) N R) : pst (exS pr cb (.seq a b) σ S) N R := by
  rw [ex_seq, h]
  exact k
theorem pst_ret {d : D} (h : exS pr cb a σ S = .rt d S1) (k : R d S1) : pst (exS pr cb (.seq a b) σ S) N R := by
  rw [ex_seq, h]
  exact k
theorem pst_seq (h : pst (exS pr cb a σ S) M R) (k : ∀ σ1 S1, M σ1 S1 → pst (exS pr cb b σ1 S1) N R) : pst (exS pr cb (.seq a b) σ S) N R := by
  rw [ex_seq]
  cases e : exS pr cb a σ S with
  | nx σ1 S1 => rw [e] at h; exact k σ1 S1 h
  | rt d S1 => rw [e] at h; exact h
  | bk σ1 S1 => rw [e] at h; exact h.elim
  | ct σ1 S1 => rw [e] at h; exact h.elim
  | ex x σ1 S1 => rw [e] at h; exact h.elim
  | bad => rw [e] at h; exact h.elim
theorem pst_nil (h : N σ S) : pst (exS pr cb .nil σ S) N R := h
theorem pst_nx {r : SR} (e : r = .nx σ S) (h : N σ S) : pst r N R := by rw [e]; exact h
theorem pst_rt {r : SR} {d : D} (e : r = .rt d S) (h : R d S) : pst r N R := by rw [e]; exact h
theorem pst_imp {r : SR} {N' : DSt → Store → Prop} {R' : D → Store → Prop} (h : pst r N R) (n : ∀ σ S, N σ S → N' σ S) (q : ∀ d S, R d S → R' d S) : pst r N' R' := by
  cases r with
  | nx σ1 S1 => exact n _ _ h
  | rt d S1 => exact q _ _ h
  | bk σ1 S1 => exact h.elim
  | ct σ1 S1 => exact h.elim
  | ex x σ1 S1 => exact h.elim
  | bad => exact h.elim
theorem pst_forL {f : D → DSt → Store → SR} (I : Nat → DSt → Store → Prop) : ∀ {xs : List D} {i : Nat} {σ : DSt} {S : Store}, (∀ (j : Nat) x σ S, xs[j]? = some x → I (i + j) σ S → pst (f x σ S) (I (i + j + 1)) R) → I i σ S → pst (forL f xs σ S) (I (i + xs.length)) R
  | [], i, σ, S, _, h0 => h0
  | x :: xs, i, σ, S, h, h0 => by
    have z := h 0 x σ S rfl h0
    rw [for_cons]
    cases e : f x σ S with
    | nx σ1 S1 =>
      rw [e] at z
      have q := pst_forL I (f := f) (xs := xs) (i := i + 1) (σ := σ1) (S := S1) (fun j y σ S hy hi => by
        have z := h (j + 1) y σ S (by simpa using hy) (by rw [show i + (j + 1) = i + 1 + j by omega]; exact hi)
        rw [show i + (j + 1) + 1 = i + 1 + j + 1 by omega] at z
        exact z) z
      rw [show i + 1 + xs.length = i + (x :: xs).length by rw [List.length_cons]; omega] at q
      exact q
    | rt d S1 => rw [e] at z; exact z
    | bk σ1 S1 => rw [e] at z; exact z.elim
    | ct σ1 S1 => rw [e] at z; exact z.elim
    | ex x σ1 S1 => rw [e] at z; exact z.elim
    | bad => rw [e] at z; exact z.elim
theorem run_pst {P : Prog} {n : Nat} {f : String} {F : Fn} {ds : List D} {Q : D → Store → Prop} (h : P.fn f = some F) (hl : ds.length = F.np) (k : pst (exS P (run P n) F.body (startD F.ns ds) S) N R) (n1 : ∀ σ S, N σ S → Q .non S) (r1 : ∀ d S, R d S → Q d S) : ∃ d S', run P (n + 1) f ds S = .ok d S' ∧ Q d S' := by
  rw [run_fn h hl]
  cases e : exS P (run P n) F.body (startD F.ns ds) S with
  | nx σ1 S1 => rw [e] at k; exact ⟨_, _, rfl, n1 _ _ k⟩
  | rt d S1 => rw [e] at k; exact ⟨_, _, rfl, r1 _ _ k⟩
  | bk σ1 S1 => rw [e] at k; exact k.elim
  | ct σ1 S1 => rw [e] at k; exact k.elim
  | ex x σ1 S1 => rw [e] at k; exact k.elim
  | bad => rw [e] at k; exact k.elim
end
-- one statement, by simp
def tryR (pr : Prog) (h : Sx) : SR → SR
  | .ex x σ S => hdS pr x σ S h
  | r => r
@[simp] theorem ex_try {pr : Prog} {cb : Cb} {σ : DSt} {S : Store} {b h : Sx} : exS pr cb (.try_ b h) σ S = tryR pr h (exS pr cb b σ S) := by
  show (match exS pr cb b σ S with
    | .ex x σ1 S1 => hdS pr x σ1 S1 h
    | r => r) = _
  cases exS pr cb b σ S <;> rfl
@[simp] theorem tryR_nx {pr : Prog} {h : Sx} {σ : DSt} {S : Store} : tryR pr h (.nx σ S) = .nx σ S := rfl
@[simp] theorem tryR_ex {pr : Prog} {h : Sx} {x : Exn} {σ : DSt} {S : Store} : tryR pr h (.ex x σ S) = hdS pr x σ S h := rfl
@[simp] theorem tryR_rt {pr : Prog} {h : Sx} {d : D} {S : Store} : tryR pr h (.rt d S) = .rt d S := rfl
/-! ### values -/
def tx (s : String) : D := .str (Str.ofString s)
@[simp] theorem pf_tx (s : String) : (tx s).pf = true := pf_str _
@[simp] theorem ev_tx {pr : Prog} {cb : Cb} {σ : DSt} {S : Store} (s : String) : evE pr cb (.str s) σ S = .ok (tx s) S := rfl
theorem dp_tx {n : Nat} {s : String} (h : PySem.PyData.canLay0 (.str (Str.ofString s)) = true) : dpD n (tx s) = true := by cases n <;> exact h
@[simp] theorem eqB_tx (s : String) : eqB (tx s) (tx s) = true := by unfold tx eqB; simp
@[simp] theorem eqBL_nil : eqBL [] [] = true := by unfold eqBL; rfl
@[simp] theorem eqBL_cons (a b : D) (r q : List D) : eqBL (a :: r) (b :: q) = (eqB a b && eqBL r q) := by rw [eqBL]
@[simp] theorem eqBL_nc (b : D) (q : List D) : eqBL [] (b :: q) = false := by unfold eqBL; rfl
@[simp] theorem eqBL_cn (b : D) (q : List D) : eqBL (b :: q) [] = false := by unfold eqBL; rfl
@[simp] theorem eqB_tup (xs ys : List D) : eqB (.tup xs) (.tup ys) = eqBL xs ys := by rw [eqB]
@[simp] theorem eqB_lst (xs ys : List D) : eqB (.lst xs) (.lst ys) = eqBL xs ys := by rw [eqB]
theorem eqBL_ints : ∀ xs ys : List Int, eqBL (xs.map .int) (ys.map .int) = decide (xs = ys)
  | [], [] => by simp
  | [], _ :: _ => by simp
  | _ :: _, [] => by simp
  | x :: xs, y :: ys => by
    simp only [List.map_cons, eqBL_cons, eqB_int, eqBL_ints xs ys, List.cons.injEq, Bool.decide_and]
    rfl
theorem dp_ints (n : Nat) (xs : List Int) : (xs.map D.int).all (dpD n) = true := by
  rw [List.all_map]
  exact List.all_eq_true.mpr fun x _ => dp_int n x
/-! the same plain data -/
mutual
theorem eqB_refl : ∀ (n : Nat) (d : D), dpD n d = true → eqB d d = true
  | _, .non, _ => by unfold eqB; rfl
  | _, .bl b, _ => by simp
  | _, .int i, _ => by simp
  | _, .str s, _ => by unfold eqB; simp
  | 0, .lst xs, h => by cases h
  | n + 1, .lst xs, h => by rw [eqB_lst]; exact eqBL_refl n xs (List.all_eq_true.mp h)
  | 0, .tup xs, h => by cases h
  | n + 1, .tup xs, h => by rw [eqB_tup]; exact eqBL_refl n xs (List.all_eq_true.mp h)
  | n, .ins c fs, h => by cases n <;> cases h
  | n, .ptr c, h => by cases n <;> cases h
  | n, .scr c, h => by cases n <;> cases h
theorem eqBL_refl : ∀ (n : Nat) (xs : List D), (∀ d ∈ xs, dpD n d = true) → eqBL xs xs = true
  | _, [], _ => eqBL_nil
  | n, x :: xs, h => by rw [eqBL_cons, eqB_refl n x (h x List.mem_cons_self), eqBL_refl n xs fun d hd => h d (List.mem_cons_of_mem _ hd)]; rfl
end
theorem eqO_refl {d : D} (h : dpD 8 d = true) : eqO d d = some true := by
  unfold eqO
  rw [h, eqB_refl 8 d h]
  rfl
theorem eqO_of {a b : D} (h1 : dpD 8 a = true) (h2 : dpD 8 b = true) : eqO a b = some (eqB a b) := by
  unfold eqO
  rw [h1, h2]
  rfl
/-! ### reading a list -/
theorem atD_get {xs : List D} {i : Int} {d : D} (h0 : 0 ≤ i) (h : xs[i.toNat]? = some d) : atD xs i = some d := by
  have hl : i.toNat < xs.length := (List.getElem?_eq_some_iff.mp h).1
  unfold atD L2.atI L2.ixN
  rw [if_pos h0, if_pos (by omega)]
  exact h
theorem idx_lst {S : Store} {xs : List D} {i : Int} {d : D} (h0 : 0 ≤ i) (h : xs[i.toNat]? = some d) : idxD S (.lst xs) (.int i) = .ok d S := by
  show (match atD xs i with
    | some d => Res.ok d S
    | none => .bad) = _
  rw [atD_get h0 h]
theorem idx_tup {S : Store} {xs : List D} {i : Int} {d : D} (h0 : 0 ≤ i) (h : xs[i.toNat]? = some d) : idxD S (.tup xs) (.int i) = .ok d S := by
  show (match atD xs i with
    | some d => Res.ok d S
    | none => .bad) = _
  rw [atD_get h0 h]
theorem idx_ptr {S : Store} {n : Nat} {xs : List D} {i : Int} {d : D} (hS : S[n]? = some (.lst xs)) (h0 : 0 ≤ i) (h : xs[i.toNat]? = some d) : idxD S (.ptr n) (.int i) = .ok d S := by
  unfold idxD
  rw [look_ptr_lst hS]
  show (match atD xs i with
    | some d => Res.ok d S
    | none => .bad) = _
  rw [atD_get h0 h]
/-- at an index, an int of the list -/
theorem idx_int {S : Store} {xs : List Int} {i : Int} (h0 : 0 ≤ i) (h : i < xs.length) : ∃ v, v ∈ xs ∧ xs[i.toNat]? = some v ∧ idxD S (.lst (xs.map .int)) (.int i) = .ok (.int v) S := by
  have hl : i.toNat < xs.length := by omega
  refine ⟨xs[i.toNat], List.getElem_mem hl, List.getElem?_eq_getElem hl, idx_lst h0 ?_⟩
  rw [List.getElem?_map, List.getElem?_eq_getElem hl]
  rfl
theorem getD_idx {S : Store} {xs : List Int} {i : Int} (h0 : 0 ≤ i) (h : i < xs.length) : idxD S (.lst (xs.map .int)) (.int i) = .ok (.int (xs.getD i.toNat 0)) S := by
  have hl : i.toNat < xs.length := by omega
  refine idx_lst h0 ?_
  rw [List.getElem?_map, List.getElem?_eq_getElem hl, List.getD_eq_getElem?_getD, List.getElem?_eq_getElem hl]
  rfl
theorem small_getD {xs : List Int} (h : Small xs) (i : Nat) : 0 ≤ xs.getD i 0 ∧ xs.getD i 0 < 5040 := by
  rw [List.getD_eq_getElem?_getD]
  cases e : xs[i]? with
  | none => simp
  | some x => exact h x (List.mem_of_getElem? e)
theorem sidx_ok {S : Store} {n : Nat} {xs : List D} {i : Int} {d : D} (h : S[n]? = some (.lst xs)) (h0 : 0 ≤ i) (h1 : i < xs.length) : sidxD S (.ptr n) (.int i) d = some (S.set n (.lst (xs.set i.toNat d))) := by
  have e : L2.ixN xs.length i = some i.toNat := by
    unfold L2.ixN
    rw [if_pos h0, if_pos h1]
  unfold sidxD
  simp only [h, e]
theorem cmp_ptr {pr : Prog} {cb : Cb} {op : Cop} {S : Store} {n : Nat} {xs : List D} {b : D} (h : S[n]? = some (.lst xs)) : cmpX pr cb op S (.ptr n) b = ofB S (cmpB op S (.ptr n) b) := cmpX_n (ins_ptr_lst h)
/-! ### loops -/
section
variable {pr : Prog} {cb : Cb} {σ : DSt} {S S1 : Store} {e : E} {b : Sx} {t : Nat}
theorem for_lst {xs : List D} (he : evE pr cb e σ S = .ok (.lst xs) S1) : exS pr cb (.for_ .seq (.n t) e b) σ S = forL (fun x σ S => exS pr cb b (σ.set t (some x)) S) xs σ S1 := by
  rw [ex_for, he, sr_ok, srcD_seq, still_lst, items_lst, seqG_t, forG_ok]
theorem for_tup {xs : List D} (he : evE pr cb e σ S = .ok (.tup xs) S1) : exS pr cb (.for_ .seq (.n t) e b) σ S = forL (fun x σ S => exS pr cb b (σ.set t (some x)) S) xs σ S1 := by
  rw [ex_for, he, sr_ok, srcD_seq, still_tup, items_tup, seqG_t, forG_ok]
theorem ev_rng1 {n : Int} (he : evE pr cb e σ S = .ok (.int n) S1) (hn : -(2 ^ 62) ≤ n ∧ n < 2 ^ 62) : evE pr cb (.irng1 e) σ S = .ok (.lst ((List.range n.toNat).map fun (k : Nat) => D.int (k : Int))) S1 := by
  rw [ev_irng1, he, bind_ok, rng1_ok hn, rngR_some]
theorem for_rng1 {n : Int} (he : evE pr cb e σ S = .ok (.int n) S1) (hn : -(2 ^ 62) ≤ n ∧ n < 2 ^ 62) : exS pr cb (.for_ .seq (.n t) (.irng1 e) b) σ S = forL (fun x σ S => exS pr cb b (σ.set t (some x)) S) ((List.range n.toNat).map fun (k : Nat) => D.int (k : Int)) σ S1 := for_lst (ev_rng1 he hn)
end
theorem callP_frz {cb : Cb} {S : Store} {f : String} {ds : List D} {d d' : D} {S2 S3 : Store} (h1 : pfL ds = true) (h2 : cb f ds [] = .ok d S2) (h3 : frzD frzK S2 d = some (d', S3)) : callP cb f ds S = .ok d' S := by
  unfold callP pureK
  rw [frzL_pf h1]
  show (match cb f ds [] with
    | .ok d S2 => match frzD frzK S2 d with
      | some (d', _) => Res.ok d' S
      | none => .bad
    | .ex x _ => if pfF x.fs then .ex x S else .bad
    | .bad => .bad) = _
  rw [h2]
  show (match frzD frzK S2 d with
      | some (d', _) => Res.ok d' S
      | none => .bad) = _
  rw [h3]
/-- a live list of data, frozen -/
theorem frz_lst {S : Store} {n : Nat} {xs : List D} (k : Nat) (hS : S[n]? = some (.lst xs)) (hx : pfL xs = true) : frzD (k + 1) S (.ptr n) = some (.lst xs, S.set n (.frz (.lst xs))) := by
  unfold frzD
  rw [if_neg (by unfold D.pf; decide)]
  simp only [hS, frzL_pf hx]
/-! ### comprehensions, slices -/
theorem comp_map {pr : Prog} {cb : Cb} {σ : DSt} {S S1 : Store} {own : List Nat} {t : Nat} {it elt : E} {xs : List D} {g : D → D} (hi : evE pr cb it σ S = .ok (.lst xs) S1) (he : ∀ x ∈ xs, evE pr cb elt ((wipeD σ own).set t (some x)) S1 = .ok (g x) S1) (hl : xs.length ≤ sizeLine) :
    evE pr cb (.comp false own .seq (.n t) it (.bl true) elt) σ S = .ok (.lst (xs.map g)) S1 := by
  have e : compL (compF pr cb own t (.bl true) elt σ) xs S1 = .ok (xs.map g) S1 := compL_map fun x hx => by
    unfold compF
    simp [he x hx]
  rw [ev_comp, hi, bind_ok, srcD_seq, still_lst, items_lst, seqG_t, compG_ok]
  show (compK (fun _ => true) (compF pr cb own t (.bl true) elt σ) xs S1).bind _ = _
  rw [compK_true, e, bind_ok, if_pos (by rw [List.length_map]; exact hl), newL_f]
theorem comp_ints {pr : Prog} {cb : Cb} {σ : DSt} {S S1 : Store} {own : List Nat} {t : Nat} {it elt : E} {xs : List Int} {g : Int → Int} (hi : evE pr cb it σ S = .ok (.lst (xs.map .int)) S1) (he : ∀ x ∈ xs, evE pr cb elt ((wipeD σ own).set t (some (.int x))) S1 = .ok (.int (g x)) S1) (hl : xs.length ≤ sizeLine) :
    evE pr cb (.comp false own .seq (.n t) it (.bl true) elt) σ S = .ok (.lst ((xs.map g).map .int)) S1 := by
  have z := comp_map (g := fun d => match d with | .int x => .int (g x) | d => d) hi (fun d hd => by
    obtain ⟨x, hx, rfl⟩ := List.mem_map.mp hd
    exact he x hx) (by rw [List.length_map]; exact hl)
  rw [z, List.map_map, List.map_map]
  rfl
theorem cutL_ok {xs : List D} {a b : Int} (h0 : 0 ≤ a) (h1 : a ≤ b) (h2 : b ≤ xs.length) : cutL xs (some a) (some b) = (xs.drop a.toNat).take (b - a).toNat := by
  unfold cutL HT.sIx
  simp only [Option.getD_some]
  rw [if_neg (by omega), if_neg (by omega)]
  congr 1
  · omega
  · congr 1
    omega
theorem cut_to {xs : List D} {b : Int} (h0 : 0 ≤ b) : cutL xs none (some b) = xs.take b.toNat := by
  unfold cutL HT.sIx
  simp only
  rw [if_neg (by omega), List.drop_zero, Nat.sub_zero]
  by_cases q : b.toNat ≤ xs.length
  · rw [Nat.min_eq_left q]
  · rw [Nat.min_eq_right (by omega), List.take_of_length_le (Nat.le_refl _), List.take_of_length_le (by omega)]
theorem cut_from {xs : List D} {a : Int} (h0 : 0 ≤ a) : cutL xs (some a) none = xs.drop a.toNat := by
  unfold cutL HT.sIx
  simp only
  rw [if_neg (by omega)]
  by_cases q : a.toNat ≤ xs.length
  · rw [Nat.min_eq_left q, List.take_of_length_le (by rw [List.length_drop]; exact Nat.le_refl _)]
  · rw [Nat.min_eq_right (by omega), List.drop_of_length_le (Nat.le_refl _), List.drop_of_length_le (by omega), List.take_nil]
theorem cut_lst {S : Store} {xs : List D} {l h : Option Int} : cutD S (.lst xs) l h = .ok (.lst (cutL xs l h)) S := rfl
theorem pst_rng {pr : Prog} {cb : Cb} {b : Sx} {e : E} {t : Nat} {σ : DSt} {S S1 : Store} {N : DSt → Store → Prop} {R : D → Store → Prop} {n : Nat} (he : evE pr cb e σ S = .ok (.int (n : Int)) S1) (hn : n < 2 ^ 62) (I : Nat → DSt → Store → Prop) (h0 : I 0 σ S1)
    (turn : ∀ k, k < n → ∀ σ S, I k σ S → pst (exS pr cb b (σ.set t (some (.int (k : Int)))) S) (I (k + 1)) R) (hN : ∀ σ S, I n σ S → N σ S) : pst (exS pr cb (.for_ .seq (.n t) (.irng1 e) b) σ S) N R := by
  rw [for_rng1 he (by omega)]
  have z := pst_forL (R := R) (f := fun x σ S => exS pr cb b (σ.set t (some x)) S) I (xs := (List.range (n : Int).toNat).map fun (k : Nat) => D.int (k : Int)) (i := 0) (σ := σ) (S := S1) (fun j x σ S hx hi => by
    rw [Int.toNat_natCast, List.getElem?_map] at hx
    obtain ⟨k, hk, rfl⟩ := Option.map_eq_some_iff.mp hx
    have hj : j < n := by
      have := (List.getElem?_eq_some_iff.mp hk).1
      simpa using this
    rw [List.getElem?_range hj] at hk
    cases hk
    rw [Nat.zero_add] at hi ⊢
    exact turn j hj σ S hi) h0
  refine pst_imp z (fun σ S q => hN σ S ?_) fun _ _ q => q
  rw [List.length_map, List.length_range, Int.toNat_natCast, Nat.zero_add] at q
  exact q
theorem pst_lst {pr : Prog} {cb : Cb} {b : Sx} {e : E} {t : Nat} {σ : DSt} {S S1 : Store} {N : DSt → Store → Prop} {R : D → Store → Prop} {xs : List D} (he : evE pr cb e σ S = .ok (.lst xs) S1) (I : Nat → DSt → Store → Prop) (h0 : I 0 σ S1)
    (turn : ∀ k x, xs[k]? = some x → ∀ σ S, I k σ S → pst (exS pr cb b (σ.set t (some x)) S) (I (k + 1)) R) (hN : ∀ σ S, I xs.length σ S → N σ S) : pst (exS pr cb (.for_ .seq (.n t) e b) σ S) N R := by
  rw [for_lst he]
  have z := pst_forL (R := R) (f := fun x σ S => exS pr cb b (σ.set t (some x)) S) I (xs := xs) (i := 0) (σ := σ) (S := S1) (fun j x σ S hx hi => by
    rw [Nat.zero_add] at hi ⊢
    exact turn j x hx σ S hi) h0
  refine pst_imp z (fun σ S q => hN σ S ?_) fun _ _ q => q
  rw [Nat.zero_add] at q
  exact q
/-! ### _law_same -/
def c__law_same : Fn := ⟨2, 3, (.seq (.ifs (.cmp .is_ (.var 1) .non) (.seq (.ret (.cmp .is_ (.var 0) .non))
  .nil) .nil)
  (.seq (.ifs (.isi (.var 1) [.bool]) (.seq (.ret (.and (.isi (.var 0) [.bool]) (.cmp .eq (.var 0) (.var 1))))
  .nil) .nil)
  (.seq (.ifs (.isi (.var 1) [.int]) (.seq (.ret (.and (.isi (.var 0) [.int]) (.and (.not (.isi (.var 0) [.bool])) (.cmp .eq (.var 0) (.var 1)))))
  .nil) .nil)
  (.seq (.ifs (.isi (.var 1) [.str]) (.seq (.ret (.and (.isi (.var 0) [.str]) (.cmp .eq (.var 0) (.var 1))))
  .nil) .nil)
  (.seq (.ifs (.and (.isi (.var 1) [.tuple]) (.not (.isi (.var 0) [.tuple]))) (.seq (.ret (.bl false))
  .nil) .nil)
  (.seq (.ifs (.and (.isi (.var 1) [.list]) (.not (.isi (.var 0) [.list]))) (.seq (.ret (.bl false))
  .nil) .nil)
  (.seq (.ifs (.cmp .ne (.bi .len (.acons (.var 0) .anil)) (.bi .len (.acons (.var 1) .anil))) (.seq (.ret (.bl false))
  .nil) .nil)
  (.seq (.for_ .seq (.n 2) (.irng1 (.bi .len (.acons (.var 1) .anil))) (.seq (.ifs (.not (.call .pure "_law_same" (.acons (.idx (.var 0) (.var 2)) (.acons (.idx (.var 1) (.var 2)) .anil)))) (.seq (.ret (.bl false))
  .nil) .nil)
  .nil))
  (.seq (.ret (.bl true))
  .nil)))))))))⟩
/-- plain data with lists of a size that range takes -/
def szD : Nat → D → Bool
  | n + 1, .lst xs => decide (xs.length < 2 ^ 62) && xs.all (szD n)
  | n + 1, .tup xs => decide (xs.length < 2 ^ 62) && xs.all (szD n)
  | _, .lst _ => false
  | _, .tup _ => false
  | _, d => flatS d
@[simp] theorem cmp_is (a : D) {S : Store} : cmpB .is_ S a .non = some (match a with
    | .non => true
    | _ => false) := by cases a <;> rfl
@[simp] theorem cmp_isn (a : D) {S : Store} : cmpB .isn S a .non = some (match a with
    | .non => false
    | _ => true) := by cases a <;> rfl
@[simp] theorem isX_non (kn : String → Bool) (t : Ty) {S : Store} (h : ∀ c, t ≠ .cls c) : isiX kn S .non t = some false := by
  cases t <;> first | rfl | exact absurd rfl (h _)
theorem sz_pf : ∀ (n : Nat) (d : D), szD n d = true → d.pf = true
  | _, .non, _ => pf_non
  | _, .bl _, _ => pf_bl _
  | _, .int _, _ => pf_int _
  | _, .str _, _ => pf_str _
  | 0, .lst xs, h => by cases h
  | n + 1, .lst xs, h => by
    have h : (decide (xs.length < 2 ^ 62) && xs.all (szD n)) = true := h
    rw [Bool.and_eq_true] at h
    rw [pf_lst]
    exact pfL_all fun d hd => sz_pf n d (List.all_eq_true.mp h.2 d hd)
  | 0, .tup xs, h => by cases h
  | n + 1, .tup xs, h => by
    have h : (decide (xs.length < 2 ^ 62) && xs.all (szD n)) = true := h
    rw [Bool.and_eq_true] at h
    rw [pf_tup]
    exact pfL_all fun d hd => sz_pf n d (List.all_eq_true.mp h.2 d hd)
  | n, .ins c fs, h => by cases n <;> cases h
  | n, .ptr c, h => by cases n <;> cases h
  | n, .scr c, h => by cases n <;> cases h
theorem for_ok {f : D → DSt → Store → SR} {σ σ' : DSt} {S : Store} : ∀ {xs : List D}, (∀ x ∈ xs, ∀ o, ∃ o', f x (σ.set 2 o) S = .nx (σ.set 2 o') S) → ∀ o, ∃ o', forL f xs (σ.set 2 o) S = .nx (σ.set 2 o') S
  | [], _, o => ⟨o, rfl⟩
  | x :: xs, h, o => by
    obtain ⟨o1, e1⟩ := h x List.mem_cons_self o
    obtain ⟨o2, e2⟩ := for_ok (f := f) (σ' := σ') (xs := xs) (fun y hy => h y (List.mem_cons_of_mem _ hy)) o1
    exact ⟨o2, by rw [for_cons, e1, loopR_nx, e2]⟩
theorem same_seq {P : Prog} (hP : P.fn "_law_same" = some c__law_same) {n : Nat} (ih : ∀ d, szD n d = true → callP (run P (n + 1)) "_law_same" [d, d] [] = .ok (.bl true) []) (d : D) (xs : List D) (hd : d = .lst xs ∨ d = .tup xs) (hl : xs.length < 2 ^ 62) (hx : ∀ x ∈ xs, szD n x = true) : run P (n + 2) "_law_same" [d, d] [] = .ok (.bl true) [] := by
  have loop : ∃ o, exS P (run P (n + 1)) (.for_ .seq (.n 2) (.irng1 (.bi .len (.acons (.var 1) .anil))) (.seq (.ifs (.not (.call .pure "_law_same" (.acons (.idx (.var 0) (.var 2)) (.acons (.idx (.var 1) (.var 2)) .anil)))) (.seq (.ret (.bl false))
      .nil) .nil)
      .nil)) [some d, some d, none] [] = .nx [some d, some d, o] [] := by
    have e : rngD [.int (xs.length : Int)] = some ((List.range xs.length).map fun (k : Nat) => D.int (k : Int)) := by
      have := rng1_ok (n := (xs.length : Int)) (by omega)
      simpa using this
    have turn := for_ok (σ := [some d, some d, none]) (σ' := []) (S := []) (xs := (List.range xs.length).map fun (k : Nat) => D.int (k : Int)) (f := fun x σ S => exS P (run P (n + 1)) (.seq (.ifs (.not (.call .pure "_law_same" (.acons (.idx (.var 0) (.var 2)) (.acons (.idx (.var 1) (.var 2)) .anil)))) (.seq (.ret (.bl false))
      .nil) .nil)
      .nil) (σ.set 2 (some x)) S) (fun x hxm o => by
        obtain ⟨k, hk, rfl⟩ := List.mem_map.mp hxm
        have hk := List.mem_range.mp hk
        have hg : xs[((k : Nat) : Int).toNat]? = some xs[k] := by rw [Int.toNat_natCast]; exact List.getElem?_eq_getElem hk
        have hc := ih xs[k] (hx _ (List.getElem_mem hk))
        refine ⟨some (.int k), ?_⟩
        rcases hd with rfl | rfl
        · have i1 := idx_lst (S := ([] : Store)) (xs := xs) (i := (k : Int)) (by omega) hg
          simp [i1, hc]
        · have i1 := idx_tup (S := ([] : Store)) (xs := xs) (i := (k : Int)) (by omega) hg
          simp [i1, hc]) none
    obtain ⟨o', e'⟩ := turn
    refine ⟨o', ?_⟩
    have el : evE P (run P (n + 1)) (.bi .len (.acons (.var 1) .anil)) [some d, some d, none] [] = .ok (.int (xs.length : Int)) [] := by
      rcases hd with rfl | rfl <;> simp
    rw [for_rng1 el (by omega)]
    exact e'
  obtain ⟨o, eo⟩ := loop
  refine run_by hP rfl ?_
  have s0 : startD c__law_same.ns [d, d] = [some d, some d, none] := rfl
  rw [s0]
  unfold c__law_same
  dsimp only
  rcases hd with rfl | rfl
  · refine seq_stp (by (conv => lhs; simp [-ev_comp, -ev_compT, -ex_for, -ex_forT, -ev_str]) <;> rfl) ?_
    refine seq_stp (by (conv => lhs; simp [-ev_comp, -ev_compT, -ex_for, -ex_forT, -ev_str]) <;> rfl) ?_
    refine seq_stp (by (conv => lhs; simp [-ev_comp, -ev_compT, -ex_for, -ex_forT, -ev_str]) <;> rfl) ?_
    refine seq_stp (by (conv => lhs; simp [-ev_comp, -ev_compT, -ex_for, -ex_forT, -ev_str]) <;> rfl) ?_
    refine seq_stp (by (conv => lhs; simp [-ev_comp, -ev_compT, -ex_for, -ex_forT, -ev_str]) <;> rfl) ?_
    refine seq_stp (by (conv => lhs; simp [-ev_comp, -ev_compT, -ex_for, -ex_forT, -ev_str]) <;> rfl) ?_
    refine seq_stp (by (conv => lhs; simp [-ev_comp, -ev_compT, -ex_for, -ex_forT, -ev_str]) <;> rfl) ?_
    refine seq_stp eo ?_
    simp
  · refine seq_stp (by (conv => lhs; simp [-ev_comp, -ev_compT, -ex_for, -ex_forT, -ev_str]) <;> rfl) ?_
    refine seq_stp (by (conv => lhs; simp [-ev_comp, -ev_compT, -ex_for, -ex_forT, -ev_str]) <;> rfl) ?_
    refine seq_stp (by (conv => lhs; simp [-ev_comp, -ev_compT, -ex_for, -ex_forT, -ev_str]) <;> rfl) ?_
    refine seq_stp (by (conv => lhs; simp [-ev_comp, -ev_compT, -ex_for, -ex_forT, -ev_str]) <;> rfl) ?_
    refine seq_stp (by (conv => lhs; simp [-ev_comp, -ev_compT, -ex_for, -ex_forT, -ev_str]) <;> rfl) ?_
    refine seq_stp (by (conv => lhs; simp [-ev_comp, -ev_compT, -ex_for, -ex_forT, -ev_str]) <;> rfl) ?_
    refine seq_stp (by (conv => lhs; simp [-ev_comp, -ev_compT, -ex_for, -ex_forT, -ev_str]) <;> rfl) ?_
    refine seq_stp eo ?_
    simp
theorem same_run {P : Prog} (hP : P.fn "_law_same" = some c__law_same) : ∀ (n : Nat) (d : D), szD n d = true → run P (n + 1) "_law_same" [d, d] [] = .ok (.bl true) []
  | n, .non, _ => by
    rw [run_fn hP rfl]
    simp [c__law_same, startD]
  | n, .bl b, _ => by
    rw [run_fn hP rfl]
    simp [c__law_same, startD]
  | n, .int b, _ => by
    rw [run_fn hP rfl]
    simp [c__law_same, startD]
  | n, .str s, h => by
    have h : flatS (.str s) = true := by cases n <;> exact h
    have e : eqO (.str s) (.str s) = some true := eqO_refl h
    rw [run_fn hP rfl]
    simp [c__law_same, startD, e]
  | 0, .lst xs, h => by cases h
  | n + 1, .lst xs, h => by
    have h : (decide (xs.length < 2 ^ 62) && xs.all (szD n)) = true := h
    rw [Bool.and_eq_true] at h
    exact same_seq hP (fun d hd => callP_ok (by simp [sz_pf n d hd]) (same_run hP n d hd) (pf_bl _)) _ xs (.inl rfl) (of_decide_eq_true h.1) (List.all_eq_true.mp h.2)
  | 0, .tup xs, h => by cases h
  | n + 1, .tup xs, h => by
    have h : (decide (xs.length < 2 ^ 62) && xs.all (szD n)) = true := h
    rw [Bool.and_eq_true] at h
    exact same_seq hP (fun d hd => callP_ok (by simp [sz_pf n d hd]) (same_run hP n d hd) (pf_bl _)) _ xs (.inr rfl) (of_decide_eq_true h.1) (List.all_eq_true.mp h.2)
  | n, .ins c fs, h => by cases n <;> cases h
  | n, .ptr c, h => by cases n <;> cases h
  | n, .scr c, h => by cases n <;> cases h
theorem call_same {P : Prog} (hP : P.fn "_law_same" = some c__law_same) (n : Nat) {d : D} (h : szD n d = true) (S : Store) : callP (run P (n + 1)) "_law_same" [d, d] S = .ok (.bl true) S := callP_ok (by simp [sz_pf n d h]) (same_run hP n d h) (pf_bl _)
theorem run_mono_same {P : Prog} (hP : P.fn "_law_same" = some c__law_same) : ∀ (j n : Nat) (d : D), szD n d = true → szD (n + j) d = true
  | 0, n, d, h => h
  | j + 1, n, d, h => by
    have key : ∀ (n : Nat) (d : D), szD n d = true → szD (n + 1) d = true := fun n => by
      induction n with
      | zero => intro d h; cases d <;> first | (cases h; done) | exact h
      | succ n ih =>
        intro d h
        cases d with
        | lst xs =>
          have h : (decide (xs.length < 2 ^ 62) && xs.all (szD n)) = true := h
          rw [Bool.and_eq_true] at h
          show (decide (xs.length < 2 ^ 62) && xs.all (szD (n + 1))) = true
          rw [Bool.and_eq_true]
          exact ⟨h.1, List.all_eq_true.mpr fun x hx => ih x (List.all_eq_true.mp h.2 x hx)⟩
        | tup xs =>
          have h : (decide (xs.length < 2 ^ 62) && xs.all (szD n)) = true := h
          rw [Bool.and_eq_true] at h
          show (decide (xs.length < 2 ^ 62) && xs.all (szD (n + 1))) = true
          rw [Bool.and_eq_true]
          exact ⟨h.1, List.all_eq_true.mpr fun x hx => ih x (List.all_eq_true.mp h.2 x hx)⟩
        | _ => exact h
    exact key (n + j) d (run_mono_same hP j n d h)
end MX
end

section
set_option maxRecDepth 100000
set_option maxHeartbeats 0
namespace MX
def c_is_prime : Fn := ⟨1, 2, (.seq (.ifs (.cmp .lt (.var 0) (.int 2)) (.seq (.ret (.bl false))
  .nil) .nil)
  (.seq (.asg 1 (.int 2))
  (.seq (.whl 1002 (.cmp .le (.bin .mul (.var 1) (.var 1)) (.var 0)) (.seq (.ifs (.cmp .eq (.bin .mod (.var 0) (.var 1)) (.int 0)) (.seq (.ret (.bl false))
  .nil) .nil)
  (.seq (.asg 1 (.bin .add (.var 1) (.int 1)))
  .nil)))
  (.seq (.ret (.bl true))
  .nil))))⟩
def c_check_prime : Fn := ⟨1, 1, (.seq (.ifs (.or (.cmp .gt (.var 0) (.gint "GREATEST_PRIME" 97)) (.not (.call .pure "is_prime" (.acons (.var 0) .anil)))) (.seq (.raise "NotPrime" (.acons (.var 0) .anil))
  .nil) .nil)
  .nil)⟩
def c_inverse : Fn := ⟨2, 4, (.seq (.ifs (.cmp .eq (.bin .mod (.var 0) (.var 1)) (.int 0)) (.seq (.raise "NoInverse" .anil)
  .nil) .nil)
  (.seq (.asg 2 (.int 1))
  (.seq (.for_ .seq (.n 3) (.irng1 (.bin .sub (.var 1) (.int 2))) (.seq (.asg 2 (.bin .mod (.bin .mul (.var 2) (.var 0)) (.var 1)))
  .nil))
  (.seq (.ret (.var 2))
  .nil))))⟩
def c_check_size : Fn := ⟨1, 1, (.seq (.ifs (.not (.chain .le .le (.int 0) (.var 0) (.gint "GREATEST_SIZE" 9))) (.seq (.raise "BadSize" (.acons (.var 0) .anil))
  .nil) .nil)
  .nil)⟩
def c_Residue___init__ : Fn := ⟨3, 3, (.seq (.ex (.call .pure "check_prime" (.acons (.var 2) .anil)))
  (.seq (.sfld "value" (.var 0) (.bin .mod (.var 1) (.var 2)))
  (.seq (.sfld "prime" (.var 0) (.var 2))
  .nil)))⟩
def c_Residue_operand : Fn := ⟨2, 2, (.seq (.ifs (.isi (.var 1) [.int]) (.seq (.ret (.bin .mod (.var 1) (.fld "prime" (.var 0))))
  .nil) .nil)
  (.seq (.ifs (.cmp .ne (.fld "prime" (.var 1)) (.fld "prime" (.var 0))) (.seq (.raise "Mismatch" .anil)
  .nil) .nil)
  (.seq (.ret (.fld "value" (.var 1)))
  .nil)))⟩
def c_Residue___add__ : Fn := ⟨2, 2, (.seq (.ifs (.not (.isi (.var 1) [.int, .cls "Residue"])) (.seq .nim
  .nil) .nil)
  (.seq (.ret (.mk "Residue" (.acons (.bin .add (.fld "value" (.var 0)) (.meth "operand" (.var 0) (.acons (.var 1) .anil))) (.acons (.fld "prime" (.var 0)) .anil))))
  .nil))⟩
def c_Residue___radd__ : Fn := ⟨2, 2, (.seq (.ifs (.not (.isi (.var 1) [.int])) (.seq .nim
  .nil) .nil)
  (.seq (.ret (.mk "Residue" (.acons (.bin .add (.var 1) (.fld "value" (.var 0))) (.acons (.fld "prime" (.var 0)) .anil))))
  .nil))⟩
def c_Residue___sub__ : Fn := ⟨2, 2, (.seq (.ifs (.not (.isi (.var 1) [.int, .cls "Residue"])) (.seq .nim
  .nil) .nil)
  (.seq (.ret (.mk "Residue" (.acons (.bin .sub (.fld "value" (.var 0)) (.meth "operand" (.var 0) (.acons (.var 1) .anil))) (.acons (.fld "prime" (.var 0)) .anil))))
  .nil))⟩
def c_Residue___rsub__ : Fn := ⟨2, 2, (.seq (.ifs (.not (.isi (.var 1) [.int])) (.seq .nim
  .nil) .nil)
  (.seq (.ret (.mk "Residue" (.acons (.bin .sub (.var 1) (.fld "value" (.var 0))) (.acons (.fld "prime" (.var 0)) .anil))))
  .nil))⟩
def c_Residue___mul__ : Fn := ⟨2, 2, (.seq (.ifs (.not (.isi (.var 1) [.int, .cls "Residue"])) (.seq .nim
  .nil) .nil)
  (.seq (.ret (.mk "Residue" (.acons (.bin .mul (.fld "value" (.var 0)) (.meth "operand" (.var 0) (.acons (.var 1) .anil))) (.acons (.fld "prime" (.var 0)) .anil))))
  .nil))⟩
def c_Residue___rmul__ : Fn := ⟨2, 2, (.seq (.ifs (.not (.isi (.var 1) [.int])) (.seq .nim
  .nil) .nil)
  (.seq (.ret (.mk "Residue" (.acons (.bin .mul (.var 1) (.fld "value" (.var 0))) (.acons (.fld "prime" (.var 0)) .anil))))
  .nil))⟩
def c_Residue___floordiv__ : Fn := ⟨2, 2, (.seq (.ifs (.not (.isi (.var 1) [.int, .cls "Residue"])) (.seq .nim
  .nil) .nil)
  (.seq (.ret (.mk "Residue" (.acons (.bin .mul (.fld "value" (.var 0)) (.call .pure "inverse" (.acons (.meth "operand" (.var 0) (.acons (.var 1) .anil)) (.acons (.fld "prime" (.var 0)) .anil)))) (.acons (.fld "prime" (.var 0)) .anil))))
  .nil))⟩
def c_Residue___rfloordiv__ : Fn := ⟨2, 2, (.seq (.ifs (.not (.isi (.var 1) [.int])) (.seq .nim
  .nil) .nil)
  (.seq (.ret (.mk "Residue" (.acons (.bin .mul (.var 1) (.call .pure "inverse" (.acons (.fld "value" (.var 0)) (.acons (.fld "prime" (.var 0)) .anil)))) (.acons (.fld "prime" (.var 0)) .anil))))
  .nil))⟩
def c_Residue___pow__ : Fn := ⟨2, 4, (.seq (.ifs (.not (.isi (.var 1) [.int])) (.seq .nim
  .nil) .nil)
  (.seq (.asg 2 (.int 1))
  (.seq (.for_ .seq (.n 3) (.irng1 (.var 1)) (.seq (.asg 2 (.bin .mod (.bin .mul (.var 2) (.fld "value" (.var 0))) (.fld "prime" (.var 0))))
  .nil))
  (.seq (.ret (.mk "Residue" (.acons (.var 2) (.acons (.fld "prime" (.var 0)) .anil))))
  .nil))))⟩
def c_Residue___neg__ : Fn := ⟨1, 1, (.seq (.ret (.mk "Residue" (.acons (.neg (.fld "value" (.var 0))) (.acons (.fld "prime" (.var 0)) .anil))))
  .nil)⟩
def c_Residue___eq__ : Fn := ⟨2, 2, (.seq (.ret (.and (.isi (.var 1) [.cls "Residue"]) (.and (.cmp .eq (.fld "value" (.var 0)) (.fld "value" (.var 1))) (.cmp .eq (.fld "prime" (.var 0)) (.fld "prime" (.var 1))))))
  .nil)⟩
def c_Residue___bool__ : Fn := ⟨1, 1, (.seq (.ret (.bi .bool (.acons (.fld "value" (.var 0)) .anil)))
  .nil)⟩
def c_Mix___init__ : Fn := ⟨3, 4, (.seq (.ex (.call .pure "check_prime" (.acons (.var 1) .anil)))
  (.seq (.ex (.call .pure "check_size" (.acons (.bi .len (.acons (.var 2) .anil)) .anil)))
  (.seq (.sfld "prime" (.var 0) (.var 1))
  (.seq (.sfld "_weights" (.var 0) (.comp true [3] .seq (.n 3) (.var 2) (.bl true) (.bin .mod (.var 3) (.var 1))))
  .nil))))⟩
def c_Mix_zero : Fn := ⟨2, 2, (.seq (.ex (.call .pure "check_prime" (.acons (.var 0) .anil)))
  (.seq (.ex (.call .pure "check_size" (.acons (.var 1) .anil)))
  (.seq (.ret (.mk "Mix" (.acons (.var 0) (.acons (.bin .mul (.lst (.acons (.int 0) .anil)) (.var 1)) .anil))))
  .nil)))⟩
def c_Mix_unit : Fn := ⟨3, 4, (.seq (.asg 3 (.scall "Mix" "zero" (.acons (.var 0) (.acons (.var 1) .anil))))
  (.seq (.sidx (.var 3) (.var 2) (.int 1))
  (.seq (.ret (.var 3))
  .nil)))⟩
def c_Mix___len__ : Fn := ⟨1, 1, (.seq (.ret (.bi .len (.acons (.fld "_weights" (.var 0)) .anil)))
  .nil)⟩
def c_Mix_check_piece : Fn := ⟨2, 2, (.seq (.ifs (.not (.chain .le .lt (.int 0) (.var 1) (.bi .len (.acons (.fld "_weights" (.var 0)) .anil)))) (.seq (.raise "NoPiece" (.acons (.var 1) .anil))
  .nil) .nil)
  .nil)⟩
def c_Mix___getitem__ : Fn := ⟨2, 2, (.seq (.ex (.meth "check_piece" (.var 0) (.acons (.var 1) .anil)))
  (.seq (.ret (.idx (.fld "_weights" (.var 0)) (.var 1)))
  .nil))⟩
def c_Mix___setitem__ : Fn := ⟨3, 3, (.seq (.ex (.meth "check_piece" (.var 0) (.acons (.var 1) .anil)))
  (.seq (.sidx (.fld "_weights" (.var 0)) (.var 1) (.bin .mod (.var 2) (.fld "prime" (.var 0))))
  .nil))⟩
def c_Mix_weight : Fn := ⟨2, 2, (.seq (.ret (.mk "Residue" (.acons (.idx (.var 0) (.var 1)) (.acons (.fld "prime" (.var 0)) .anil))))
  .nil)⟩
def c_Mix_support : Fn := ⟨1, 3, (.seq (.ret (.bi .tuple (.acons (.comp false [1, 2] .enum (.t [1, 2]) (.acons (.fld "_weights" (.var 0)) .anil) (.cnd (.cmp .ne (.var 2) (.int 0))) (.var 1)) .anil)))
  .nil)⟩
def c_Mix_check_fit : Fn := ⟨2, 2, (.seq (.ifs (.or (.cmp .ne (.fld "prime" (.var 0)) (.fld "prime" (.var 1))) (.cmp .ne (.bi .len (.acons (.fld "_weights" (.var 0)) .anil)) (.bi .len (.acons (.var 1) .anil)))) (.seq (.raise "Mismatch" .anil)
  .nil) .nil)
  .nil)⟩
def c_Mix_scalar : Fn := ⟨2, 2, (.seq (.ifs (.isi (.var 1) [.int]) (.seq (.ret (.bin .mod (.var 1) (.fld "prime" (.var 0))))
  .nil) .nil)
  (.seq (.ifs (.cmp .ne (.fld "prime" (.var 1)) (.fld "prime" (.var 0))) (.seq (.raise "Mismatch" .anil)
  .nil) .nil)
  (.seq (.ret (.fld "value" (.var 1)))
  .nil)))⟩
def c_Mix_scaled : Fn := ⟨2, 3, (.seq (.ret (.mk "Mix" (.acons (.fld "prime" (.var 0)) (.acons (.comp false [2] .seq (.n 2) (.fld "_weights" (.var 0)) (.bl true) (.bin .mul (.var 2) (.var 1))) .anil))))
  .nil)⟩
def c_Mix___add__ : Fn := ⟨2, 4, (.seq (.ifs (.not (.isi (.var 1) [.cls "Mix"])) (.seq .nim
  .nil) .nil)
  (.seq (.ex (.meth "check_fit" (.var 0) (.acons (.var 1) .anil)))
  (.seq (.ret (.mk "Mix" (.acons (.fld "prime" (.var 0)) (.acons (.comp false [2, 3] .zip (.t [2, 3]) (.acons (.fld "_weights" (.var 0)) (.acons (.fld "_weights" (.var 1)) .anil)) (.bl true) (.bin .add (.var 2) (.var 3))) .anil))))
  .nil)))⟩
def c_Mix___iadd__ : Fn := ⟨2, 4, (.seq (.ifs (.not (.isi (.var 1) [.cls "Mix"])) (.seq .nim
  .nil) .nil)
  (.seq (.ex (.meth "check_fit" (.var 0) (.acons (.var 1) .anil)))
  (.seq (.sfld "_weights" (.var 0) (.comp true [2, 3] .zip (.t [2, 3]) (.acons (.fld "_weights" (.var 0)) (.acons (.fld "_weights" (.var 1)) .anil)) (.bl true) (.bin .mod (.bin .add (.var 2) (.var 3)) (.fld "prime" (.var 0)))))
  (.seq (.ret (.var 0))
  .nil))))⟩
def c_Mix___sub__ : Fn := ⟨2, 4, (.seq (.ifs (.not (.isi (.var 1) [.cls "Mix"])) (.seq .nim
  .nil) .nil)
  (.seq (.ex (.meth "check_fit" (.var 0) (.acons (.var 1) .anil)))
  (.seq (.ret (.mk "Mix" (.acons (.fld "prime" (.var 0)) (.acons (.comp false [2, 3] .zip (.t [2, 3]) (.acons (.fld "_weights" (.var 0)) (.acons (.fld "_weights" (.var 1)) .anil)) (.bl true) (.bin .sub (.var 2) (.var 3))) .anil))))
  .nil)))⟩
def c_Mix___neg__ : Fn := ⟨1, 1, (.seq (.ret (.meth "scaled" (.var 0) (.acons (.neg (.int 1)) .anil)))
  .nil)⟩
def c_Mix___mul__ : Fn := ⟨2, 2, (.seq (.ifs (.not (.isi (.var 1) [.int, .cls "Residue"])) (.seq .nim
  .nil) .nil)
  (.seq (.ret (.meth "scaled" (.var 0) (.acons (.meth "scalar" (.var 0) (.acons (.var 1) .anil)) .anil)))
  .nil))⟩
def c_Mix___rmul__ : Fn := ⟨2, 2, (.seq (.ifs (.not (.isi (.var 1) [.int, .cls "Residue"])) (.seq .nim
  .nil) .nil)
  (.seq (.ret (.meth "scaled" (.var 0) (.acons (.meth "scalar" (.var 0) (.acons (.var 1) .anil)) .anil)))
  .nil))⟩
def c_Mix___floordiv__ : Fn := ⟨2, 2, (.seq (.ifs (.not (.isi (.var 1) [.int, .cls "Residue"])) (.seq .nim
  .nil) .nil)
  (.seq (.ret (.meth "scaled" (.var 0) (.acons (.call .pure "inverse" (.acons (.meth "scalar" (.var 0) (.acons (.var 1) .anil)) (.acons (.fld "prime" (.var 0)) .anil))) .anil)))
  .nil))⟩
def c_Mix___eq__ : Fn := ⟨2, 2, (.seq (.ret (.and (.isi (.var 1) [.cls "Mix"]) (.and (.cmp .eq (.fld "prime" (.var 0)) (.fld "prime" (.var 1))) (.cmp .eq (.fld "_weights" (.var 0)) (.fld "_weights" (.var 1))))))
  .nil)⟩
def c_Mix___bool__ : Fn := ⟨1, 1, (.seq (.ret (.bi .any (.acons (.fld "_weights" (.var 0)) .anil)))
  .nil)⟩
def c__wall : Fn := ⟨1, 1, (.seq (.whl 1000 (.bl true) (.seq .pass
  .nil))
  .nil)⟩
end MX
end

section
set_option maxRecDepth 100000
set_option maxHeartbeats 4000000
namespace MX
open PySem
/-- the run of ints from a, n of them -/
def rngL (a : Int) (n : Nat) : List D := (List.range n).map fun (k : Nat) => D.int (a + (k : Int))
theorem rngL_zero (a : Int) : rngL a 0 = [] := rfl
theorem rngL_succ (a : Int) (n : Nat) : rngL a (n + 1) = .int a :: rngL (a + 1) n := by
  unfold rngL
  rw [List.range_succ_eq_map, List.map_cons, List.map_map]
  congr 1
  · simp
  · apply List.map_congr_left
    intro k _
    show D.int (a + ((k + 1 : Nat) : Int)) = D.int (a + 1 + (k : Int))
    congr 1
    omega
theorem rng1_L {n : Int} (h : -(2 ^ 62) ≤ n ∧ n < 2 ^ 62) : rngD [.int n] = some (rngL 0 n.toNat) := if_pos h
theorem rng2_L {a b : Int} (h : -(2 ^ 62) ≤ a ∧ a < 2 ^ 62 ∧ -(2 ^ 62) ≤ b ∧ b < 2 ^ 62) : rngD [.int a, .int b] = some (rngL a (b - a).toNat) := if_pos h
/-- a prime -/
def Pm (n : Int) : Prop := 2 ≤ n ∧ ∀ k : Int, 2 ≤ k → k * k ≤ n → n % k ≠ 0
noncomputable def pmB (n : Int) : Bool := @decide (Pm n) (Classical.propDecidable _)
theorem pmB_t {n : Int} (h : Pm n) : pmB n = true := by
  unfold pmB
  exact @decide_eq_true _ (Classical.propDecidable _) h
theorem pmB_f {n : Int} (h : ¬ Pm n) : pmB n = false := by
  unfold pmB
  exact @decide_eq_false _ (Classical.propDecidable _) h
theorem pmB_iff {n : Int} : pmB n = true ↔ Pm n := by
  constructor
  · intro e
    by_cases h : Pm n
    · exact h
    · rw [pmB_f h] at e
      cases e
  · exact pmB_t
theorem sq_big {d n : Int} (h : 1001 ≤ d) (hn : n ≤ 1002000) : n < d * d := by
  have := Int.mul_le_mul h h (by omega) (by omega)
  omega
/-- no divisor below d, and d's square is past n -/
theorem pm_of {n d : Int} (h2 : 2 ≤ n) (hd : 0 ≤ d) (h : ∀ k : Int, 2 ≤ k → k < d → n % k ≠ 0) (hs : n < d * d) : Pm n := ⟨h2, fun k k2 kk e => by
  by_cases hk : k < d
  · exact h k k2 hk e
  · have := Int.mul_le_mul (show d ≤ k by omega) (show d ≤ k by omega) (by omega) (by omega)
    omega⟩
theorem not_pm {n d : Int} (hd : 2 ≤ d) (hs : d * d ≤ n) (h : n % d = 0) : ¬ Pm n := fun p => p.2 d hd hs h
def ipC : E := .cmp .le (.bin .mul (.var 1) (.var 1)) (.var 0)
def ipB : Sx := .seq (.ifs (.cmp .eq (.bin .mod (.var 0) (.var 1)) (.int 0)) (.seq (.ret (.bl false)) .nil) .nil) (.seq (.asg 1 (.bin .add (.var 1) (.int 1))) .nil)
theorem is_loop {pr : Prog} {cb : Cb} {S : Store} {n : Int} (h2 : 2 ≤ n) (hn : n ≤ 1002000) : ∀ (f : Nat) (d : Int), 2 ≤ d → d ≤ 1002 → 1003 ≤ f + d → (∀ k : Int, 2 ≤ k → k < d → n % k ≠ 0) →
    sqS (whlL (evE pr cb ipC) (exS pr cb ipB) f [some (.int n), some (.int d)] S) (fun _ S => .rt (.bl true) S) = .rt (.bl (pmB n)) S
  | 0, d, h, h', h3, _ => by omega
  | f + 1, d, h, h', h3, hd => by
    have m := bin_mul (S := S) (i := d) (j := d) (by omega)
    have m2 := bin_mod (S := S) (i := n) (j := d) (by omega)
    rw [whl_succ]
    have c : evE pr cb ipC [some (.int n), some (.int d)] S = .ok (.bl (decide (d * d ≤ n))) S := by
      unfold ipC
      simp [m]
    rw [c, sr_ok, look_bl, truD_bl, selS_some]
    by_cases hs : d * d ≤ n
    · rw [if_pos (decide_eq_true hs)]
      by_cases hm : n % d = 0
      · have b : exS pr cb ipB [some (.int n), some (.int d)] S = .rt (.bl false) S := by
          unfold ipB
          simp [m2, hm]
        rw [b, loopR_rt, sqS_rt, pmB_f (not_pm h hs hm)]
      · have b : exS pr cb ipB [some (.int n), some (.int d)] S = .nx [some (.int n), some (.int (d + 1))] S := by
          unfold ipB
          simp [m2, hm]
        have hd1 : d < 1001 := by
          by_cases q : d < 1001
          · exact q
          · have := sq_big (show 1001 ≤ d by omega) hn
            omega
        rw [b, loopR_nx]
        exact is_loop h2 hn f (d + 1) (by omega) (by omega) (by omega) fun k k2 kd => by
          by_cases e : k = d
          · rw [e]
            exact hm
          · exact hd k k2 (by omega)
    · rw [if_neg (by rw [decide_eq_true_iff]; exact hs), sqS_nx, pmB_t (pm_of h2 (by omega) hd (by omega))]
theorem is_run {P : Prog} (h : P.fn "is_prime" = some c_is_prime) (j : Nat) (n : Int) (hn : n ≤ 1002000) (S : Store) : run P (j + 1) "is_prime" [.int n] S = .ok (.bl (pmB n)) S := by
  rw [run_fn h rfl]
  show endR (exS P (run P j) (.seq (.ifs (.cmp .lt (.var 0) (.int 2)) (.seq (.ret (.bl false)) .nil) .nil) (.seq (.asg 1 (.int 2)) (.seq (.whl 1002 ipC ipB) (.seq (.ret (.bl true)) .nil)))) [some (.int n), none] S) = _
  by_cases h2 : n < 2
  · have z : ¬ Pm n := fun p => by have := p.1; omega
    rw [pmB_f z]
    simp [h2]
  · have l := is_loop (pr := P) (cb := run P j) (S := S) (n := n) (by omega) hn 1002 2 (by omega) (by omega) (by omega) fun k k2 k3 => by omega
    rw [ex_seq]
    have a : exS P (run P j) (.ifs (.cmp .lt (.var 0) (.int 2)) (.seq (.ret (.bl false)) .nil) .nil) [some (.int n), none] S = .nx [some (.int n), none] S := by simp [h2]
    rw [a, sqS_nx, ex_seq, ex_asg, ev_int, sr_ok, sqS_nx, ex_seq, ex_whl]
    have k : (fun σ S => exS P (run P j) (.seq (.ret (.bl true)) .nil) σ S) = fun _ S => SR.rt (.bl true) S := by
      funext σ S
      simp
    rw [k]
    show endR (sqS (whlL (evE P (run P j) ipC) (exS P (run P j) ipB) 1002 [some (.int n), some (.int 2)] S) _) = _
    rw [l, endR_rt]

/-! ### exceptions -/
theorem raise_none {pr : Prog} {cb : Cb} {σ : DSt} {S : Store} {c : String} {k : ExD} (hx : pr.xt c = some k) (hi : k.ini = none) : exS pr cb (.raise c .anil) σ S = .ex ⟨c, []⟩ σ S := by
  have e1 : raB pr c .anil = true := by unfold raB; rw [hx]; show raQ k.ini .anil = true; rw [hi]; rfl
  have e2 : exnD pr c [] = some ⟨c, []⟩ := by unfold exnD; rw [hx]; show (match k.ini with | some l => _ | none => _) = _; rw [hi]; rfl
  show (if raB pr c .anil then (evE pr cb .anil σ S).sr σ fun x S1 => (match exnD pr c (unT x) with | some y => SR.ex y σ S1 | none => .bad) else .bad) = _
  rw [if_pos e1, ev_anil, sr_ok, unT_tup, e2]
theorem raise_one {pr : Prog} {cb : Cb} {σ : DSt} {S S1 : Store} {c f : String} {k : ExD} {e : E} {d : D} (hx : pr.xt c = some k) (hi : k.ini = some [f]) (he : evE pr cb e σ S = .ok d S1) : exS pr cb (.raise c (.acons e .anil)) σ S = .ex ⟨c, [(f, d)]⟩ σ S1 := by
  have e1 : raB pr c (.acons e .anil) = true := by unfold raB; rw [hx]; show raQ k.ini _ = true; rw [hi]; rfl
  have e2 : exnD pr c [d] = some ⟨c, [(f, d)]⟩ := by unfold exnD; rw [hx]; show (match k.ini with | some l => _ | none => _) = _; rw [hi]; rfl
  show (if raB pr c (.acons e .anil) then (evE pr cb (.acons e .anil) σ S).sr σ fun x S1 => (match exnD pr c (unT x) with | some y => SR.ex y σ S1 | none => .bad) else .bad) = _
  rw [if_pos e1, ev_acons, he, bind_ok, ev_anil, bind_ok, sr_ok, unT_tup, unT_tup, e2]
/-! ### residues -/
def resD (v p : Int) : D := .ins "Residue" [("value", .int v), ("prime", .int p)]
def resC : ClsD := { flds := ["value", "prime", "__rmod__", "__rpow__"], meths := [("operand", ("Residue.operand", .pure)), ("__add__", ("Residue.__add__", .pure)), ("__radd__", ("Residue.__radd__", .pure)), ("__sub__", ("Residue.__sub__", .pure)), ("__rsub__", ("Residue.__rsub__", .pure)), ("__mul__", ("Residue.__mul__", .pure)), ("__rmul__", ("Residue.__rmul__", .pure)), ("__floordiv__", ("Residue.__floordiv__", .pure)), ("__rfloordiv__", ("Residue.__rfloordiv__", .pure)), ("__pow__", ("Residue.__pow__", .pure)), ("__neg__", ("Residue.__neg__", .pure)), ("__eq__", ("Residue.__eq__", .pure)), ("__bool__", ("Residue.__bool__", .pure))], init := some ("Residue.__init__", .pure) }
structure FldP (P : Prog) : Prop where
  ip : P.fn "is_prime" = some c_is_prime
  cp : P.fn "check_prime" = some c_check_prime
  iv : P.fn "inverse" = some c_inverse
  ini : P.fn "Residue.__init__" = some c_Residue___init__
  opd : P.fn "Residue.operand" = some c_Residue_operand
  add : P.fn "Residue.__add__" = some c_Residue___add__
  radd : P.fn "Residue.__radd__" = some c_Residue___radd__
  sub : P.fn "Residue.__sub__" = some c_Residue___sub__
  rsub : P.fn "Residue.__rsub__" = some c_Residue___rsub__
  mul : P.fn "Residue.__mul__" = some c_Residue___mul__
  rmul : P.fn "Residue.__rmul__" = some c_Residue___rmul__
  fdv : P.fn "Residue.__floordiv__" = some c_Residue___floordiv__
  rfdv : P.fn "Residue.__rfloordiv__" = some c_Residue___rfloordiv__
  pow : P.fn "Residue.__pow__" = some c_Residue___pow__
  neg : P.fn "Residue.__neg__" = some c_Residue___neg__
  eq : P.fn "Residue.__eq__" = some c_Residue___eq__
  bool : P.fn "Residue.__bool__" = some c_Residue___bool__
  ct : P.ct "Residue" = some resC
  xN : P.xt "NotPrime" = some { ini := some ["value"], ups := ["NotPrime", "TalkError", "ValueError"] }
  xI : P.xt "NoInverse" = some { ini := none, ups := ["NoInverse", "TalkError", "ValueError"] }
  xM : P.xt "Mismatch" = some { ini := none, ups := ["Mismatch", "TalkError", "ValueError"] }
section
variable {P : Prog} (h : FldP P)
include h
theorem FldP.kn : P.kn "Residue" = true := by unfold Prog.kn; rw [h.ct]; rfl
theorem FldP.lv : P.lacks "Residue" "value" = true := by
  unfold Prog.lacks
  rw [h.ct]
  show resC.flds.contains "value" = true
  decide +kernel
theorem FldP.lp : P.lacks "Residue" "prime" = true := by
  unfold Prog.lacks
  rw [h.ct]
  show resC.flds.contains "prime" = true
  decide +kernel
theorem FldP.meth {x : String} {q : String × Mode} (e : resC.meths.lookup x = some q) : P.meth "Residue" x = some q := by
  unfold Prog.meth
  rw [h.ct]
  exact e
theorem FldP.rok (op : Bop) : P.rok "Residue" op = true := by
  unfold Prog.rok Prog.lacks Prog.meth
  rw [h.ct]
  show (resC.flds.contains op.rn || (op.rok && (resC.meths.lookup op.rn).isSome)) = true
  cases op <;> decide +kernel
theorem callP_is (j : Nat) (n : Int) (S : Store) (hn : n ≤ 1002000) : callP (run P (j + 1)) "is_prime" [.int n] S = .ok (.bl (pmB n)) S := callP_ok (by simp) (is_run h.ip j n hn []) (by simp)
theorem chk_ok (j : Nat) (p : Int) (hp : Pm p) (h9 : p ≤ 97) (S : Store) : run P (j + 2) "check_prime" [.int p] S = .ok .non S := by
  rw [run_fn h.cp rfl]
  have c := callP_is h j p S (by omega)
  rw [pmB_t hp] at c
  have q : ¬ (97 < p) := by omega
  have st : startD c_check_prime.ns [D.int p] = [some (.int p)] := rfl
  rw [st]
  simp [c_check_prime, c, q]
theorem chk_ex (j : Nat) (p : Int) (hp : 97 < p ∨ ¬ Pm p) (S : Store) : run P (j + 2) "check_prime" [.int p] S = .ex ⟨"NotPrime", [("value", .int p)]⟩ S := by
  rw [run_fn h.cp rfl]
  have st : startD c_check_prime.ns [D.int p] = [some (.int p)] := rfl
  rw [st]
  have rz : exS P (run P (j + 1)) (.raise "NotPrime" (.acons (.var 0) .anil)) [some (.int p)] S = .ex ⟨"NotPrime", [("value", .int p)]⟩ [some (.int p)] S := raise_one h.xN rfl (by simp)
  by_cases q : 97 < p
  · simp [c_check_prime, rz, q]
  · have c := callP_is h j p S (by omega)
    rw [pmB_f (hp.resolve_left q)] at c
    simp [c_check_prime, rz, q, c]
theorem init_ok (j : Nat) (v p : Int) (hp : Pm p) (h9 : p ≤ 97) : run P (j + 3) "Residue.__init__" [.ptr 0, .int v, .int p] [.ins "Residue" []] = .ok .non [.ins "Residue" [("value", .int (v % p)), ("prime", .int p)]] := by
  rw [run_fn h.ini rfl]
  have c := callP_ok (cb := run P (j + 2)) (S := [.ins "Residue" []]) (f := "check_prime") (ds := [.int p]) (by simp) (chk_ok h j p hp h9 []) (by simp)
  have m := bin_mod (S := [Cell.ins "Residue" []]) (i := v) (j := p) (by have := hp.1; omega)
  have s1 : sfldD P "value" [.ins "Residue" []] (.ptr 0) (.int (v % p)) = some [.ins "Residue" [("value", .int (v % p))]] := sfld_ptr (fs := []) rfl h.lv (by decide)
  have s2 : sfldD P "prime" [.ins "Residue" [("value", .int (v % p))]] (.ptr 0) (.int p) = some [.ins "Residue" [("value", .int (v % p)), ("prime", .int p)]] := by
    rw [sfld_ptr (fs := [("value", .int (v % p))]) rfl h.lp (by simp)]
    simp [putD]
  have st : startD c_Residue___init__.ns [D.ptr 0, .int v, .int p] = [some (.ptr 0), some (.int v), some (.int p)] := rfl
  rw [st]
  simp [c_Residue___init__, c, m, s1, s2]
theorem init_ex (j : Nat) (v p : Int) (hp : 97 < p ∨ ¬ Pm p) : run P (j + 3) "Residue.__init__" [.ptr 0, .int v, .int p] [.ins "Residue" []] = .ex ⟨"NotPrime", [("value", .int p)]⟩ [.ins "Residue" []] := by
  rw [run_fn h.ini rfl]
  have c := callP_ex (cb := run P (j + 2)) (S := [.ins "Residue" []]) (f := "check_prime") (ds := [.int p]) (by simp) (chk_ex h j p hp []) (by simp)
  have st : startD c_Residue___init__.ns [D.ptr 0, .int v, .int p] = [some (.ptr 0), some (.int v), some (.int p)] := rfl
  rw [st]
  simp [c_Residue___init__, c]
theorem mk_ok (j : Nat) (v p : Int) (hp : Pm p) (h9 : p ≤ 97) (S : Store) : mkX P (run P (j + 3)) "Residue" [.int v, .int p] S = .ok (resD (v % p) p) S := by
  unfold mkX
  rw [h.ct]
  show pureK (mkK (run P (j + 3) "Residue.__init__") "Residue") [.int v, .int p] S = _
  unfold pureK
  rw [frzL_pf (by simp)]
  have z : mkK (run P (j + 3) "Residue.__init__") "Residue" [.int v, .int p] [] = .ok (.ptr 0) [.ins "Residue" [("value", .int (v % p)), ("prime", .int p)]] := by
    show (match run P (j + 3) "Residue.__init__" [.ptr 0, .int v, .int p] [.ins "Residue" []] with
      | .ok .non S1 => Res.ok (D.ptr 0) S1
      | .ok _ _ => .bad
      | .ex x S1 => .ex x S1
      | .bad => .bad) = _
    rw [init_ok h j v p hp h9]
  simp only [z]
  simp [frzK, frzD, frzF, D.pf, resD]
theorem mk_ex (j : Nat) (v p : Int) (hp : 97 < p ∨ ¬ Pm p) (S : Store) : mkX P (run P (j + 3)) "Residue" [.int v, .int p] S = .ex ⟨"NotPrime", [("value", .int p)]⟩ S := by
  unfold mkX
  rw [h.ct]
  show pureK (mkK (run P (j + 3) "Residue.__init__") "Residue") [.int v, .int p] S = _
  unfold pureK
  rw [frzL_pf (by simp)]
  have z : mkK (run P (j + 3) "Residue.__init__") "Residue" [.int v, .int p] [] = .ex ⟨"NotPrime", [("value", .int p)]⟩ [.ins "Residue" []] := by
    show (match run P (j + 3) "Residue.__init__" [.ptr 0, .int v, .int p] [.ins "Residue" []] with
      | .ok .non S1 => Res.ok (D.ptr 0) S1
      | .ok _ _ => .bad
      | .ex x S1 => .ex x S1
      | .bad => .bad) = _
    rw [init_ex h j v p hp]
  simp only [z]
  simp
theorem fld_v (S : Store) (v p : Int) : fldD P "value" S (resD v p) = .ok (.int v) S := fld_ins h.lv rfl
theorem fld_p (S : Store) (v p : Int) : fldD P "prime" S (resD v p) = .ok (.int p) S := fld_ins h.lp rfl
theorem meth_o (S : Store) (v p : Int) : methD P "operand" S (resD v p) = some ("Residue.operand", .pure) := by
  unfold resD
  rw [meth_ins (by rfl)]
  exact h.meth (by decide +kernel)
end
@[simp] theorem pf_res (v p : Int) : (resD v p).pf = true := by unfold resD; simp
@[simp] theorem look_res (S : Store) (v p : Int) : look S (resD v p) = resD v p := rfl
@[simp] theorem ins_res (S : Store) (v p : Int) : insD S (resD v p) = some ("Residue", [("value", .int v), ("prime", .int p)]) := rfl
theorem isR_int {P : Prog} (h : FldP P) (S : Store) (v p : Int) : isiX P.kn S (resD v p) .int = some false := by
  unfold resD
  rw [isX_ins_int, h.kn]
  rfl
theorem isR_bool {P : Prog} (h : FldP P) (S : Store) (v p : Int) : isiX P.kn S (resD v p) .bool = some false := by
  unfold resD
  rw [isX_ins_bool, h.kn]
  rfl
theorem isR_cls {P : Prog} (h : FldP P) (S : Store) (v p : Int) : isiX P.kn S (resD v p) (.cls "Residue") = some true := by
  unfold resD
  rw [isX_ins_cls, h.kn]
  rfl
theorem isI_cls {P : Prog} (h : FldP P) (S : Store) (i : Int) : isiX P.kn S (.int i) (.cls "Residue") = some false := by
  rw [isX_int_cls, h.kn]
  rfl
/-- d stands for w modulo p -/
def Opd (p : Int) (d : D) (w : Int) : Prop := (∃ i : Int, d = .int i ∧ w = i % p) ∨ d = resD w p
theorem Opd.pf {p w : Int} {d : D} (o : Opd p d w) : d.pf = true := by
  rcases o with ⟨i, rfl, _⟩ | rfl <;> simp
section
variable {P : Prog} (h : FldP P)
include h
theorem opd_run (j : Nat) (v p w : Int) (d : D) (hp : 0 < p) (o : Opd p d w) (S : Store) : run P (j + 1) "Residue.operand" [resD v p, d] S = .ok (.int w) S := by
  rw [run_fn h.opd rfl]
  have st : startD c_Residue_operand.ns [resD v p, d] = [some (resD v p), some d] := rfl
  rw [st]
  rcases o with ⟨i, rfl, rfl⟩ | rfl
  · simp [c_Residue_operand, fld_p h, bin_mod hp]
  · simp [c_Residue_operand, fld_p h, fld_v h, isR_int h]
theorem opd_ex (j : Nat) (v p w q : Int) (hq : p ≠ q) (S : Store) : run P (j + 1) "Residue.operand" [resD v p, resD w q] S = .ex ⟨"Mismatch", []⟩ S := by
  rw [run_fn h.opd rfl]
  have st : startD c_Residue_operand.ns [resD v p, resD w q] = [some (resD v p), some (resD w q)] := rfl
  rw [st]
  have rz : exS P (run P j) (.raise "Mismatch" .anil) [some (resD v p), some (resD w q)] S = .ex ⟨"Mismatch", []⟩ [some (resD v p), some (resD w q)] S := raise_none h.xM rfl
  simp [c_Residue_operand, fld_p h, fld_v h, isR_int h, rz, Ne.symm hq]
theorem cal_opd (j : Nat) (v p w : Int) (d : D) (hp : 0 < p) (o : Opd p d w) (S : Store) : callP (run P (j + 1)) "Residue.operand" [resD v p, d] S = .ok (.int w) S := callP_ok (by simp [o.pf]) (opd_run h j v p w d hp o []) (by simp)
theorem cal_opx (j : Nat) (v p w q : Int) (hq : p ≠ q) (S : Store) : callP (run P (j + 1)) "Residue.operand" [resD v p, resD w q] S = .ex ⟨"Mismatch", []⟩ S := callP_ex (by simp) (opd_ex h j v p w q hq []) (by simp)
theorem isO (p w : Int) (d : D) (o : Opd p d w) (S : Store) : isiXs P.kn S d [.int, .cls "Residue"] = some true := by
  rcases o with ⟨i, rfl, rfl⟩ | rfl
  · simp
  · simp [isR_int h, isR_cls h]
theorem add_run (j : Nat) (v p w : Int) (d : D) (hp : Pm p) (h9 : p ≤ 97) (o : Opd p d w) (S : Store) : run P (j + 4) "Residue.__add__" [resD v p, d] S = .ok (resD ((v + w) % p) p) S := by
  rw [run_fn h.add rfl]
  have st : startD c_Residue___add__.ns [resD v p, d] = [some (resD v p), some d] := rfl
  rw [st]
  simp [-isXs_cons, c_Residue___add__, isO h p w d o, fld_p h, fld_v h, meth_o h, cal_opd h (j + 2) v p w d (by have := hp.1; omega) o, mk_ok h j _ p hp h9]
theorem sub_run (j : Nat) (v p w : Int) (d : D) (hp : Pm p) (h9 : p ≤ 97) (o : Opd p d w) (S : Store) : run P (j + 4) "Residue.__sub__" [resD v p, d] S = .ok (resD ((v - w) % p) p) S := by
  rw [run_fn h.sub rfl]
  have st : startD c_Residue___sub__.ns [resD v p, d] = [some (resD v p), some d] := rfl
  rw [st]
  simp [-isXs_cons, c_Residue___sub__, isO h p w d o, fld_p h, fld_v h, meth_o h, cal_opd h (j + 2) v p w d (by have := hp.1; omega) o, mk_ok h j _ p hp h9]
theorem mul_run (j : Nat) (v p w : Int) (d : D) (hp : Pm p) (h9 : p ≤ 97) (hv : 0 ≤ v ∧ v < p) (o : Opd p d w) (S : Store) : run P (j + 4) "Residue.__mul__" [resD v p, d] S = .ok (resD ((v * w) % p) p) S := by
  rw [run_fn h.mul rfl]
  have st : startD c_Residue___mul__.ns [resD v p, d] = [some (resD v p), some d] := rfl
  rw [st]
  have m := bin_mul (S := S) (i := v) (j := w) (by omega)
  simp [-isXs_cons, c_Residue___mul__, isO h p w d o, fld_p h, fld_v h, meth_o h, cal_opd h (j + 2) v p w d (by have := hp.1; omega) o, mk_ok h j _ p hp h9, m]
theorem radd_run (j : Nat) (v p i : Int) (hp : Pm p) (h9 : p ≤ 97) (S : Store) : run P (j + 4) "Residue.__radd__" [resD v p, .int i] S = .ok (resD ((i + v) % p) p) S := by
  rw [run_fn h.radd rfl]
  have st : startD c_Residue___radd__.ns [resD v p, .int i] = [some (resD v p), some (.int i)] := rfl
  rw [st]
  simp [c_Residue___radd__, fld_p h, fld_v h, mk_ok h j _ p hp h9]
theorem rsub_run (j : Nat) (v p i : Int) (hp : Pm p) (h9 : p ≤ 97) (S : Store) : run P (j + 4) "Residue.__rsub__" [resD v p, .int i] S = .ok (resD ((i - v) % p) p) S := by
  rw [run_fn h.rsub rfl]
  have st : startD c_Residue___rsub__.ns [resD v p, .int i] = [some (resD v p), some (.int i)] := rfl
  rw [st]
  simp [c_Residue___rsub__, fld_p h, fld_v h, mk_ok h j _ p hp h9]
theorem rmul_run (j : Nat) (v p i : Int) (hp : Pm p) (h9 : p ≤ 97) (hv : 0 ≤ v ∧ v < p) (S : Store) : run P (j + 4) "Residue.__rmul__" [resD v p, .int i] S = .ok (resD ((i * v) % p) p) S := by
  rw [run_fn h.rmul rfl]
  have st : startD c_Residue___rmul__.ns [resD v p, .int i] = [some (resD v p), some (.int i)] := rfl
  rw [st]
  have m := bin_mul (S := S) (i := i) (j := v) (by omega)
  simp [c_Residue___rmul__, fld_p h, fld_v h, mk_ok h j _ p hp h9, m]
end
/-! ### powers and inverses -/
theorem pow_step {a p : Int} (k : Nat) : (a ^ k % p) * a % p = a ^ (k + 1) % p := by
  rw [Int.pow_succ, Int.mul_emod, Int.emod_emod_of_dvd _ (Int.dvd_refl p), ← Int.mul_emod]
theorem pow_mod {a p : Int} : ∀ k : Nat, (a % p) ^ k % p = a ^ k % p
  | 0 => by simp
  | k + 1 => by
    rw [← pow_step, pow_mod k, Int.mul_emod, Int.emod_emod_of_dvd _ (Int.dvd_refl p), Int.emod_emod_of_dvd _ (Int.dvd_refl p), ← Int.mul_emod, Int.pow_succ]
def ivB : Sx := .seq (.asg 2 (.bin .mod (.bin .mul (.var 2) (.var 0)) (.var 1))) .nil
theorem iv_loop {pr : Prog} {cb : Cb} {S : Store} {v p : Int} (hp : 2 ≤ p ∧ p ≤ 97) : ∀ (m k : Nat) (a : Int) {o : Option D}, ∃ o', forL (fun x σ S => exS pr cb ivB (σ.set 3 (some x)) S) (rngL a m) [some (.int v), some (.int p), some (.int (v ^ k % p)), o] S = .nx [some (.int v), some (.int p), some (.int (v ^ (k + m) % p)), o'] S
  | 0, k, a, o => ⟨o, rfl⟩
  | m + 1, k, a, o => by
    obtain ⟨o', e⟩ := iv_loop (v := v) hp m (k + 1) (a + 1) (o := some (.int a)) (pr := pr) (cb := cb) (S := S)
    refine ⟨o', ?_⟩
    have b1 := Int.emod_nonneg (v ^ k) (b := p) (by omega)
    have b2 := Int.emod_lt_of_pos (v ^ k) (b := p) (by omega)
    have m1 := bin_mul (S := S) (i := v ^ k % p) (j := v) (by omega)
    have b : exS pr cb ivB ([some (.int v), some (.int p), some (.int (v ^ k % p)), o].set 3 (some (.int a))) S = .nx [some (.int v), some (.int p), some (.int (v ^ (k + 1) % p)), some (.int a)] S := by
      unfold ivB
      simp [m1, bin_mod (show 0 < p by omega), pow_step]
    rw [rngL_succ, for_cons, b, loopR_nx, e, show k + 1 + m = k + (m + 1) by omega]
section
variable {P : Prog} (h : FldP P)
include h
theorem inv_run (j : Nat) (v p : Int) (hp : 2 ≤ p ∧ p ≤ 97) (hv : v % p ≠ 0) (S : Store) : run P (j + 1) "inverse" [.int v, .int p] S = .ok (.int (v ^ (p - 2).toNat % p)) S := by
  rw [run_fn h.iv rfl]
  show endR (exS P (run P j) (.seq (.ifs (.cmp .eq (.bin .mod (.var 0) (.var 1)) (.int 0)) (.seq (.raise "NoInverse" .anil) .nil) .nil) (.seq (.asg 2 (.int 1)) (.seq (.for_ .seq (.n 3) (.irng1 (.bin .sub (.var 1) (.int 2))) ivB) (.seq (.ret (.var 2)) .nil)))) [some (.int v), some (.int p), none, none] S) = _
  obtain ⟨o', e⟩ := iv_loop (v := v) hp (p - 2).toNat 0 0 (o := none) (pr := P) (cb := run P j) (S := S)
  have e0 : v ^ 0 % p = 1 := by rw [Int.pow_zero]; exact Int.emod_eq_of_lt (by omega) (by omega)
  rw [e0, Nat.zero_add] at e
  have r := rng1_L (n := p - 2) (by omega)
  simp [bin_mod (show 0 < p by omega), hv, r, e]
theorem inv_ex (j : Nat) (v p : Int) (hp : 0 < p) (hv : v % p = 0) (S : Store) : run P (j + 1) "inverse" [.int v, .int p] S = .ex ⟨"NoInverse", []⟩ S := by
  rw [run_fn h.iv rfl]
  have st : startD c_inverse.ns [.int v, .int p] = [some (.int v), some (.int p), none, none] := rfl
  rw [st]
  have rz : exS P (run P j) (.raise "NoInverse" .anil) [some (.int v), some (.int p), none, none] S = .ex ⟨"NoInverse", []⟩ [some (.int v), some (.int p), none, none] S := raise_none h.xI rfl
  simp [c_inverse, bin_mod hp, hv, rz]
theorem cal_inv (j : Nat) (v p : Int) (hp : 2 ≤ p ∧ p ≤ 97) (hv : v % p ≠ 0) (S : Store) : callP (run P (j + 1)) "inverse" [.int v, .int p] S = .ok (.int (v ^ (p - 2).toNat % p)) S := callP_ok (by simp) (inv_run h j v p hp hv []) (by simp)
theorem cal_inx (j : Nat) (v p : Int) (hp : 0 < p) (hv : v % p = 0) (S : Store) : callP (run P (j + 1)) "inverse" [.int v, .int p] S = .ex ⟨"NoInverse", []⟩ S := callP_ex (by simp) (inv_ex h j v p hp hv []) (by simp)
theorem fdv_run (j : Nat) (v p w : Int) (d : D) (hp : Pm p) (h9 : p ≤ 97) (hv : 0 ≤ v ∧ v < p) (o : Opd p d w) (hw : w % p ≠ 0) (S : Store) : run P (j + 4) "Residue.__floordiv__" [resD v p, d] S = .ok (resD ((v * (w ^ (p - 2).toNat % p)) % p) p) S := by
  rw [run_fn h.fdv rfl]
  have st : startD c_Residue___floordiv__.ns [resD v p, d] = [some (resD v p), some d] := rfl
  rw [st]
  have m := bin_mul (S := S) (i := v) (j := w ^ (p - 2).toNat % p) (by omega)
  simp [-isXs_cons, c_Residue___floordiv__, isO h p w d o, fld_p h, fld_v h, meth_o h, cal_opd h (j + 2) v p w d (by have := hp.1; omega) o, mk_ok h j _ p hp h9, m, cal_inv h (j + 2) w p ⟨hp.1, h9⟩ hw]
theorem rfdv_run (j : Nat) (v p i : Int) (hp : Pm p) (h9 : p ≤ 97) (hw : v % p ≠ 0) (S : Store) : run P (j + 4) "Residue.__rfloordiv__" [resD v p, .int i] S = .ok (resD ((i * (v ^ (p - 2).toNat % p)) % p) p) S := by
  rw [run_fn h.rfdv rfl]
  have st : startD c_Residue___rfloordiv__.ns [resD v p, .int i] = [some (resD v p), some (.int i)] := rfl
  rw [st]
  have b1 := Int.emod_nonneg (v ^ (p - 2).toNat) (b := p) (by have := hp.1; omega)
  have b2 := Int.emod_lt_of_pos (v ^ (p - 2).toNat) (b := p) (by have := hp.1; omega)
  have m := bin_mul (S := S) (i := i) (j := v ^ (p - 2).toNat % p) (by omega)
  simp [c_Residue___rfloordiv__, fld_p h, fld_v h, mk_ok h j _ p hp h9, m, cal_inv h (j + 2) v p ⟨hp.1, h9⟩ hw]
end
/-- the operators, on data -/
theorem bx_r {P : Prog} (h : FldP P) {cb : Cb} {op : Bop} {S : Store} {v p w : Int} {d : D} (o : Opd p d w) : binX P cb op S (resD v p) d = callO cb (P.meth "Residue" op.dn) [resD v p, d] S := by
  unfold binX
  rw [ins_res]
  rcases o with ⟨i, rfl, rfl⟩ | rfl
  · show (if (isInt (.int i) && P.rok "Residue" op) = true then _ else _) = _
    rw [h.rok]
    rfl
  · exact if_pos rfl
theorem bx_l {P : Prog} {cb : Cb} {op : Bop} {S : Store} {w p i : Int} (e : (op.rok && (P.meth "Residue" op.dn).isSome) = true) : binX P cb op S (.int i) (resD w p) = callO cb (P.meth "Residue" op.rn) [resD w p, .int i] S := by
  show (if (isInt (.int i) && (op.rok && (P.meth "Residue" op.dn).isSome)) = true then _ else _) = _
  rw [e]
  rfl
end MX
end

section
set_option maxRecDepth 100000
set_option maxHeartbeats 4000000
namespace MX
open PySem
def pwB : Sx := (.seq (.asg 2 (.bin .mod (.bin .mul (.var 2) (.fld "value" (.var 0))) (.fld "prime" (.var 0)))) .nil)
/-! ### the inverse, on numbers -/
def pB (p : Nat) : Bool := decide (2 ≤ p) && (List.range 10).all fun k => decide (k < 2) || (decide (p < k * k) || !decide (p % k = 0))
def ivAll : Bool := (List.range 98).all fun p => !pB p || (List.range p).all fun w => decide (w = 0) || decide (w * (w ^ (p - 2) % p) % p = 1)
theorem ivAll_ok : ivAll = true := by decide +kernel
theorem pB_of {p : Int} (h : Pm p) : pB p.toNat = true := by
  have h2 := h.1
  unfold pB
  rw [Bool.and_eq_true, decide_eq_true_eq, List.all_eq_true]
  refine ⟨by omega, fun k _ => ?_⟩
  by_cases h1 : k < 2
  · simp [h1]
  · by_cases h3 : p.toNat < k * k
    · simp [h3]
    · have kk : (k : Int) * k ≤ p := by
        have z : ((k * k : Nat) : Int) ≤ (p.toNat : Int) := by exact_mod_cast Nat.le_of_not_lt h3
        rw [Int.toNat_of_nonneg (by omega)] at z
        exact_mod_cast z
      have q := h.2 k (by omega) kk
      have n : ¬ (p.toNat % k = 0) := fun e => q (by
        have z : ((p.toNat % k : Nat) : Int) = 0 := by exact_mod_cast e
        rw [Int.natCast_emod, Int.toNat_of_nonneg (by omega)] at z
        exact z)
      simp [n]
theorem finv {p w : Int} (hp : Pm p) (h9 : p ≤ 97) (hw : 0 < w ∧ w < p) : w * (w ^ (p - 2).toNat % p) % p = 1 := by
  have h2 := hp.1
  have z := List.all_eq_true.mp ivAll_ok p.toNat (List.mem_range.mpr (by omega))
  rw [pB_of hp, Bool.not_true, Bool.false_or] at z
  have z := List.all_eq_true.mp z w.toNat (List.mem_range.mpr (by omega))
  rw [Bool.or_eq_true, decide_eq_true_eq, decide_eq_true_eq] at z
  have z := z.resolve_left (by omega)
  have e1 : (w.toNat : Int) = w := Int.toNat_of_nonneg (by omega)
  have e2 : (p.toNat : Int) = p := Int.toNat_of_nonneg (by omega)
  have e3 : p.toNat - 2 = (p - 2).toNat := by omega
  have z2 : ((w.toNat * (w.toNat ^ (p.toNat - 2) % p.toNat) % p.toNat : Nat) : Int) = 1 := by exact_mod_cast z
  rw [Int.natCast_emod, Int.natCast_mul, Int.natCast_emod, Int.natCast_pow, e1, e2, e3] at z2
  exact z2
/-! ### the pairs -/
/-- d stands for a modulo p -/
def Sd (p a : Int) (d : D) : Prop := d = .int a ∨ d = resD (a % p) p
theorem Sd.opd {p a : Int} {d : D} (h : Sd p a d) : Opd p d (a % p) := by
  rcases h with rfl | rfl
  · exact .inl ⟨a, rfl, rfl⟩
  · exact .inr rfl
theorem Sd.pf {p a : Int} {d : D} (h : Sd p a d) : d.pf = true := h.opd.pf
def Pr (p a b : Int) (d1 d2 : D) : Prop := (d1 = resD (a % p) p ∧ Sd p b d2) ∨ (d1 = .int a ∧ d2 = resD (b % p) p)
section
variable {P : Prog} (h : FldP P)
include h
theorem mt_add : P.meth "Residue" "__add__" = some ("Residue.__add__", .pure) := h.meth (by decide +kernel)
theorem mt_radd : P.meth "Residue" "__radd__" = some ("Residue.__radd__", .pure) := h.meth (by decide +kernel)
theorem mt_sub : P.meth "Residue" "__sub__" = some ("Residue.__sub__", .pure) := h.meth (by decide +kernel)
theorem mt_rsub : P.meth "Residue" "__rsub__" = some ("Residue.__rsub__", .pure) := h.meth (by decide +kernel)
theorem mt_mul : P.meth "Residue" "__mul__" = some ("Residue.__mul__", .pure) := h.meth (by decide +kernel)
theorem mt_rmul : P.meth "Residue" "__rmul__" = some ("Residue.__rmul__", .pure) := h.meth (by decide +kernel)
theorem mt_fdv : P.meth "Residue" "__floordiv__" = some ("Residue.__floordiv__", .pure) := h.meth (by decide +kernel)
theorem mt_rfdv : P.meth "Residue" "__rfloordiv__" = some ("Residue.__rfloordiv__", .pure) := h.meth (by decide +kernel)
theorem mt_pow : P.meth "Residue" "__pow__" = some ("Residue.__pow__", .pure) := h.meth (by decide +kernel)
theorem mt_neg : P.meth "Residue" "__neg__" = some ("Residue.__neg__", .pure) := h.meth (by decide +kernel)
theorem mt_eq : P.meth "Residue" "__eq__" = some ("Residue.__eq__", .pure) := h.meth (by decide +kernel)
theorem mt_bool : P.meth "Residue" "__bool__" = some ("Residue.__bool__", .pure) := h.meth (by decide +kernel)
theorem add_pr (j : Nat) {p a b : Int} {d1 d2 : D} (hp : Pm p) (h9 : p ≤ 97) (q : Pr p a b d1 d2) (S : Store) : binX P (run P (j + 4)) .add S d1 d2 = .ok (resD ((a + b) % p) p) S := by
  rcases q with ⟨rfl, s⟩ | ⟨rfl, rfl⟩
  · rw [bx_r h s.opd]
    show callO _ (P.meth "Residue" "__add__") _ _ = _
    rw [mt_add h]
    have z := callP_ok (cb := run P (j + 4)) (S := S) (ds := [resD (a % p) p, d2]) (by simp [s.pf]) (add_run h j (a % p) p _ d2 hp h9 s.opd []) (by simp)
    rw [← Int.add_emod] at z
    exact z
  · rw [bx_l (by show (true && (P.meth "Residue" "__add__").isSome) = true; rw [mt_add h]; rfl)]
    show callO _ (P.meth "Residue" "__radd__") _ _ = _
    rw [mt_radd h]
    have z := callP_ok (cb := run P (j + 4)) (S := S) (ds := [resD (b % p) p, .int a]) (by simp) (radd_run h j (b % p) p a hp h9 []) (by simp)
    rw [Int.add_emod_emod] at z
    exact z
theorem sub_pr (j : Nat) {p a b : Int} {d1 d2 : D} (hp : Pm p) (h9 : p ≤ 97) (q : Pr p a b d1 d2) (S : Store) : binX P (run P (j + 4)) .sub S d1 d2 = .ok (resD ((a - b) % p) p) S := by
  rcases q with ⟨rfl, s⟩ | ⟨rfl, rfl⟩
  · rw [bx_r h s.opd]
    show callO _ (P.meth "Residue" "__sub__") _ _ = _
    rw [mt_sub h]
    have z := callP_ok (cb := run P (j + 4)) (S := S) (ds := [resD (a % p) p, d2]) (by simp [s.pf]) (sub_run h j (a % p) p _ d2 hp h9 s.opd []) (by simp)
    rw [← Int.sub_emod] at z
    exact z
  · rw [bx_l (by show (true && (P.meth "Residue" "__sub__").isSome) = true; rw [mt_sub h]; rfl)]
    show callO _ (P.meth "Residue" "__rsub__") _ _ = _
    rw [mt_rsub h]
    have z := callP_ok (cb := run P (j + 4)) (S := S) (ds := [resD (b % p) p, .int a]) (by simp) (rsub_run h j (b % p) p a hp h9 []) (by simp)
    rw [show (a - b % p) % p = (a - b) % p by rw [Int.sub_emod, Int.emod_emod_of_dvd _ (Int.dvd_refl p), ← Int.sub_emod]] at z
    exact z
theorem mul_pr (j : Nat) {p a b : Int} {d1 d2 : D} (hp : Pm p) (h9 : p ≤ 97) (q : Pr p a b d1 d2) (S : Store) : binX P (run P (j + 4)) .mul S d1 d2 = .ok (resD ((a * b) % p) p) S := by
  have p0 : 0 < p := by have := hp.1; omega
  have rg := fun x => And.intro (Int.emod_nonneg x (b := p) (by omega)) (Int.emod_lt_of_pos x p0)
  rcases q with ⟨rfl, s⟩ | ⟨rfl, rfl⟩
  · rw [bx_r h s.opd]
    show callO _ (P.meth "Residue" "__mul__") _ _ = _
    rw [mt_mul h]
    have z := callP_ok (cb := run P (j + 4)) (S := S) (ds := [resD (a % p) p, d2]) (by simp [s.pf]) (mul_run h j (a % p) p _ d2 hp h9 (rg a) s.opd []) (by simp)
    rw [← Int.mul_emod] at z
    exact z
  · rw [bx_l (by show (true && (P.meth "Residue" "__mul__").isSome) = true; rw [mt_mul h]; rfl)]
    show callO _ (P.meth "Residue" "__rmul__") _ _ = _
    rw [mt_rmul h]
    have z := callP_ok (cb := run P (j + 4)) (S := S) (ds := [resD (b % p) p, .int a]) (by simp) (rmul_run h j (b % p) p a hp h9 (rg b) []) (by simp)
    rw [show (a * (b % p)) % p = (a * b) % p by rw [Int.mul_emod, Int.emod_emod_of_dvd _ (Int.dvd_refl p), ← Int.mul_emod]] at z
    exact z
theorem fdv_num {p a b x : Int} (hp : Pm p) (h9 : p ≤ 97) (hb : b % p ≠ 0) (hx : x % p = a % p) : ((x * ((b % p) ^ (p - 2).toNat % p)) % p * b - a) % p = 0 := by
  have p0 : 0 < p := by have := hp.1; omega
  have f := finv hp h9 (w := b % p) ⟨by have := Int.emod_nonneg b (b := p) (by omega); omega, Int.emod_lt_of_pos b p0⟩
  have e : ((x * ((b % p) ^ (p - 2).toNat % p)) % p * b) % p = a % p := by
    generalize (b % p) ^ (p - 2).toNat % p = t at f ⊢
    rw [Int.mul_emod, Int.emod_emod_of_dvd _ (Int.dvd_refl p), ← Int.mul_emod, Int.mul_assoc, Int.mul_emod, hx]
    have g : t * b % p = 1 := by
      rw [Int.mul_comm t b, Int.mul_emod]
      rw [Int.mul_emod, Int.emod_emod_of_dvd _ (Int.dvd_refl p)] at f
      exact f
    rw [g, Int.mul_one, Int.emod_emod_of_dvd _ (Int.dvd_refl p)]
  rw [Int.sub_emod, e, Int.sub_self]
  exact Int.zero_emod p
theorem fdv_pr (j : Nat) {p a b : Int} {d1 d2 : D} (hp : Pm p) (h9 : p ≤ 97) (q : Pr p a b d1 d2) (hb : b % p ≠ 0) (S : Store) : ∃ y : Int, (0 ≤ y ∧ y < p) ∧ binX P (run P (j + 4)) .fdiv S d1 d2 = .ok (resD y p) S ∧ (y * b - a) % p = 0 := by
  have p0 : 0 < p := by have := hp.1; omega
  have rg := fun x => And.intro (Int.emod_nonneg x (b := p) (by omega)) (Int.emod_lt_of_pos x p0)
  have hb2 : b % p % p ≠ 0 := by rw [Int.emod_emod_of_dvd _ (Int.dvd_refl p)]; exact hb
  rcases q with ⟨rfl, s⟩ | ⟨rfl, rfl⟩
  · refine ⟨_, rg _, ?_, fdv_num h hp h9 hb (x := a % p) (by rw [Int.emod_emod_of_dvd _ (Int.dvd_refl p)])⟩
    rw [bx_r h s.opd]
    show callO _ (P.meth "Residue" "__floordiv__") _ _ = _
    rw [mt_fdv h]
    exact callP_ok (cb := run P (j + 4)) (S := S) (ds := [resD (a % p) p, d2]) (by simp [s.pf]) (fdv_run h j (a % p) p _ d2 hp h9 (rg a) s.opd hb2 []) (by simp)
  · refine ⟨_, rg _, ?_, fdv_num h hp h9 hb (x := a) rfl⟩
    rw [bx_l (by show (true && (P.meth "Residue" "__floordiv__").isSome) = true; rw [mt_fdv h]; rfl)]
    show callO _ (P.meth "Residue" "__rfloordiv__") _ _ = _
    rw [mt_rfdv h]
    exact callP_ok (cb := run P (j + 4)) (S := S) (ds := [resD (b % p) p, .int a]) (by simp) (rfdv_run h j (b % p) p a hp h9 hb2 []) (by simp)
end
end MX
end

section
set_option maxRecDepth 100000
set_option maxHeartbeats 4000000
namespace MX
open PySem
theorem seq_nx {pr : Prog} {cb : Cb} {s t : Sx} {σ σ1 : DSt} {S S1 : Store} {r : SR} (h : exS pr cb s σ S = .nx σ1 S1) (k : exS pr cb t σ1 S1 = r) : exS pr cb (.seq s t) σ S = r := by
  rw [ex_seq, h, sqS_nx, k]
def Bd (v : Int) : Prop := -(2 ^ 100) < v ∧ v < 2 ^ 100
theorem Bd.wide {a b : Int} (h : Bd a) (k : Bd b) : wideM a b = true := by
  unfold wideM
  unfold Bd at h k
  simp only [Bool.and_eq_true, decide_eq_true_eq]
  set_option exponentiation.threshold 700 in
  have q : (2 : Nat) ^ 100 ≤ 2 ^ 600 := Nat.pow_le_pow_right (by decide) (by decide)
  refine ⟨?_, ?_⟩ <;> (refine Nat.lt_of_lt_of_le ?_ q; omega)
/-! ### the primes -/
def pl : List Int := [2, 3, 5, 7, 11, 13, 17, 19, 23, 29, 31, 37, 41, 43, 47, 53, 59, 61, 67, 71, 73, 79, 83, 89, 97]
theorem pm_pB {n : Nat} (h : pB n = true) (hn : n < 100) : Pm n := by
  unfold pB at h
  rw [Bool.and_eq_true, decide_eq_true_eq, List.all_eq_true] at h
  refine ⟨by omega, fun k k2 kk e => ?_⟩
  have hk : k < 10 := by
    by_cases q : k < 10
    · exact q
    · have := Int.mul_le_mul (show (10 : Int) ≤ k by omega) (show (10 : Int) ≤ k by omega) (by omega) (by omega)
      omega
  have z := h.2 k.toNat (List.mem_range.mpr (by omega))
  simp only [Bool.or_eq_true, decide_eq_true_eq, Bool.not_eq_true', decide_eq_false_iff_not] at z
  have ek : (k.toNat : Int) = k := Int.toNat_of_nonneg (by omega)
  rcases z with z | z | z
  · omega
  · have : ((n : Nat) : Int) < ((k.toNat * k.toNat : Nat) : Int) := by exact_mod_cast z
    rw [Int.natCast_mul, ek] at this
    omega
  · apply z
    have : ((n % k.toNat : Nat) : Int) = 0 := by
      rw [Int.natCast_emod, ek]
      exact e
    exact_mod_cast this
theorem pl_all : ∀ n : Nat, n < 25 → pl[n]? = some (pl.getD n 0) ∧ pB (pl.getD n 0).toNat = true ∧ 0 ≤ pl.getD n 0 ∧ pl.getD n 0 ≤ 97 := by decide +kernel
theorem pl_ne : ∀ n : Nat, n < 25 → ∀ m : Nat, m < 25 → n ≠ m → pl.getD n 0 ≠ pl.getD m 0 := by decide +kernel
theorem pl_idx {i : Int} (h0 : 0 ≤ i) (h : i < 25) (S : Store) : idxD S (.lst (pl.map .int)) (.int i) = .ok (.int (pl.getD i.toNat 0)) S ∧ Pm (pl.getD i.toNat 0) ∧ pl.getD i.toNat 0 ≤ 97 := by
  obtain ⟨h1, h2, h3, h4⟩ := pl_all i.toNat (by omega)
  refine ⟨?_, ?_, h4⟩
  · have e : atD (pl.map .int) i = some (.int (pl.getD i.toNat 0)) := by
      unfold atD L2.atI L2.ixN
      rw [if_pos h0, if_pos (show i < ((pl.map D.int).length : Int) from h)]
      show (pl.map D.int)[i.toNat]? = _
      rw [List.getElem?_map, h1]
      rfl
    show (match atD (pl.map .int) i with
      | some d => Res.ok d S
      | none => .bad) = _
    rw [e]
  · have z := pm_pB h2 (by omega)
    rw [Int.toNat_of_nonneg h3] at z
    exact z
end MX
end

section
set_option maxRecDepth 100000
set_option maxHeartbeats 1000000
namespace MX
open PySem
/-! ### a comprehension whose turns change nothing, over any source -/
theorem compK_map {ok : Store → Bool} {f : D → Store → Res (Option D)} {g : D → D} {S : Store} (hok : ok S = true) : ∀ {xs : List D}, (∀ x ∈ xs, f x S = .ok (some (g x)) S) → compK ok f xs S = .ok (xs.map g) S
  | [], _ => if_pos hok
  | x :: r, h => by
    show (if ok S then (f x S).bind fun o S1 => (compK ok f r S1).bind fun ys S2 => Res.ok (o.toList ++ ys) S2 else .bad) = _
    rw [if_pos hok, h x List.mem_cons_self, bind_ok, compK_map hok fun y hy => h y (List.mem_cons_of_mem _ hy)]
    rfl
theorem comp_src {pr : Prog} {cb : Cb} {nw : Bool} {own : List Nat} {k : ItK} {tg : Tg} {it elt : E} {σ : DSt} {S S1 : Store} {d : D} {s : Src} {g : D → D} (hi : evE pr cb it σ S = .ok d S1) (hs : srcD k S1 d = some s) (hok : s.ok S1 = true)
    (he : ∀ x ∈ s.xs, ∃ σx, setT tg (wipeD σ own) x = some σx ∧ evE pr cb elt σx S1 = .ok (g x) S1) (hl : s.xs.length ≤ sizeLine) : evE pr cb (.comp nw own k tg it (.bl true) elt) σ S = newL nw S1 (s.xs.map g) := by
  show (evE pr cb it σ S).bind _ = _
  rw [hi, bind_ok]
  simp only [hs]
  rw [compK_map (g := g) hok fun x hx => ?_]
  · rw [bind_ok, if_pos (by rw [List.length_map]; exact hl)]
  · obtain ⟨σx, e1, e2⟩ := he x hx
    simp only [e1]
    show noEx ((Res.ok (D.bl true) S1).bind _) = _
    rw [bind_ok, look_bl, truD_bl]
    show noEx ((evE pr cb elt σx S1).bind _) = _
    rw [e2, bind_ok]
    rfl
/-- what is walked as a list of whole numbers -/
def SeqAt (S : Store) (W : D) (ws : List Int) : Prop := ∃ s : Src, srcD .seq S W = some s ∧ s.xs = ws.map .int ∧ s.ok S = true ∧ lenD S W = some ws.length ∧ insD S W = none
theorem SeqAt.lst {S : Store} {ws : List Int} : SeqAt S (.lst (ws.map .int)) ws := ⟨⟨ws.map .int, fun _ => true⟩, rfl, rfl, rfl, by simp, rfl⟩
theorem SeqAt.tup {S : Store} {ws : List Int} : SeqAt S (.tup (ws.map .int)) ws := ⟨⟨ws.map .int, fun _ => true⟩, rfl, rfl, rfl, by simp, rfl⟩
/-! ### the class Mix, its defs' meaning -/
def mixD (p : Int) (ws : List Int) : D := .ins "Mix" [("prime", .int p), ("_weights", .lst (ws.map .int))]
def mixC : ClsD := { flds := ["prime", "_weights", "__radd__", "__rsub__", "__rfloordiv__", "__rmod__", "__rpow__"], meths := [("__len__", ("Mix.__len__", .flat)), ("check_piece", ("Mix.check_piece", .flat)), ("__getitem__", ("Mix.__getitem__", .flat)), ("__setitem__", ("Mix.__setitem__", .st)), ("weight", ("Mix.weight", .st)), ("check_fit", ("Mix.check_fit", .flat)), ("scalar", ("Mix.scalar", .flat)), ("scaled", ("Mix.scaled", .st)), ("__add__", ("Mix.__add__", .st)), ("__iadd__", ("Mix.__iadd__", .st)), ("__sub__", ("Mix.__sub__", .st)), ("__neg__", ("Mix.__neg__", .st)), ("__mul__", ("Mix.__mul__", .st)), ("__rmul__", ("Mix.__rmul__", .st)), ("__floordiv__", ("Mix.__floordiv__", .st)), ("__eq__", ("Mix.__eq__", .flat)), ("__bool__", ("Mix.__bool__", .flat))], init := some ("Mix.__init__", .st), iter := some "_weights" }
theorem lkm {α : Type} : ∀ {l : List (String × α)} {x : String} {q : α}, l.lookup x = some q → (x, q) ∈ l
  | [], _, _, h => by cases h
  | (a, z) :: r, x, q, h => by
    rw [List.lookup_cons] at h
    by_cases e : x = a
    · rw [beq_iff_eq.mpr e] at h
      cases h
      rw [e]
      exact List.mem_cons_self
    · rw [beq_eq_false_iff_ne.mpr e] at h
      exact List.mem_cons_of_mem _ (lkm h)
def mixOk (C : ClsD) : Bool := mixC.flds.all C.flds.contains && (mixC.meths.all (fun p => decide (C.meths.lookup p.1 = some p.2)) && (decide (C.init = mixC.init) && decide (C.iter = mixC.iter)))
structure MixP (P : Prog) : Prop where
  f : FldP P
  cs : P.fn "check_size" = some c_check_size
  ini : P.fn "Mix.__init__" = some c_Mix___init__
  len : P.fn "Mix.__len__" = some c_Mix___len__
  cpc : P.fn "Mix.check_piece" = some c_Mix_check_piece
  gi : P.fn "Mix.__getitem__" = some c_Mix___getitem__
  si : P.fn "Mix.__setitem__" = some c_Mix___setitem__
  wt : P.fn "Mix.weight" = some c_Mix_weight
  fit : P.fn "Mix.check_fit" = some c_Mix_check_fit
  scal : P.fn "Mix.scalar" = some c_Mix_scalar
  scd : P.fn "Mix.scaled" = some c_Mix_scaled
  add : P.fn "Mix.__add__" = some c_Mix___add__
  iadd : P.fn "Mix.__iadd__" = some c_Mix___iadd__
  sub : P.fn "Mix.__sub__" = some c_Mix___sub__
  neg : P.fn "Mix.__neg__" = some c_Mix___neg__
  mul : P.fn "Mix.__mul__" = some c_Mix___mul__
  rmul : P.fn "Mix.__rmul__" = some c_Mix___rmul__
  fdv : P.fn "Mix.__floordiv__" = some c_Mix___floordiv__
  eq : P.fn "Mix.__eq__" = some c_Mix___eq__
  bool : P.fn "Mix.__bool__" = some c_Mix___bool__
  ct : ∃ C, P.ct "Mix" = some C ∧ mixOk C = true
  xB : P.xt "BadSize" = some { ini := some ["size"], ups := ["BadSize", "TalkError", "ValueError"] }
  xP : P.xt "NoPiece" = some { ini := some ["piece"], ups := ["NoPiece", "TalkError", "ValueError"] }
/-- d is a mix now: its prime, its weights -/
def MixAt (S : Store) (d : D) (p : Int) (ws : List Int) : Prop := ∃ w, insD S d = some ("Mix", [("prime", .int p), ("_weights", w)]) ∧ look S w = .lst (ws.map .int) ∧ rdD frzK S d = some (mixD p ws)
theorem mix_pf (p : Int) (ws : List Int) : (mixD p ws).pf = true := by simp [mixD]
theorem MixAt.pure {S : Store} {p : Int} {ws : List Int} : MixAt S (mixD p ws) p ws := ⟨_, rfl, rfl, rdD_pf (mix_pf p ws)⟩
theorem MixAt.cell {S : Store} {n m : Nat} {p : Int} {ws : List Int} (h1 : S[n]? = some (.ins "Mix" [("prime", .int p), ("_weights", .ptr m)])) (h2 : S[m]? = some (.lst (ws.map .int))) : MixAt S (.ptr n) p ws := by
  refine ⟨.ptr m, ins_ptr h1, look_ptr_lst h2, ?_⟩
  have e2 : rdD 5 S (.ptr m) = some (.lst (ws.map .int)) := by
    unfold rdD
    rw [if_neg (by unfold D.pf; simp)]
    simp only [h2]
    rw [rdL_pf (pfL_ints ws)]
  unfold frzK rdD
  rw [if_neg (by unfold D.pf; simp)]
  simp only [h1]
  unfold rdF
  rw [rdD_pf (pf_int p)]
  unfold rdF
  simp only [e2]
  unfold rdF
  rfl
theorem asLen_ok {S : Store} {n : Int} (h1 : 0 ≤ n) (h2 : n ≤ 1000000) : asLen (.ok (.int n) S) = .ok (.int n) S := by
  show (if 0 ≤ n ∧ n < 2 ^ 63 then Res.ok (D.int n) S else .bad) = _
  rw [if_pos ⟨h1, by omega⟩]
theorem sameBL_ints : ∀ ws : List Int, sameBL (ws.map .int) (ws.map .int) = true
  | [] => by unfold sameBL; rfl
  | w :: ws => by
    rw [List.map_cons, sameBL, sameB, sameBL_ints ws]
    simp
theorem SeqAt.look {S : Store} {w : D} {ws : List Int} (e : MX.look S w = .lst (ws.map .int)) : SeqAt S w ws := by
  refine ⟨⟨ws.map .int, if still S w then fun _ => true else fun S => sameSrc S w (ws.map .int)⟩, ?_, rfl, ?_, ?_, ?_⟩
  · show seqG (still S w) w (itemsD S w) = _
    unfold itemsD
    rw [e]
    rfl
  · cases still S w with
    | true => rfl
    | false =>
      show sameSrc S w (ws.map .int) = true
      unfold sameSrc
      rw [e]
      exact sameBL_ints ws
  · unfold lenD
    rw [e]
    simp
  · unfold insD
    rw [e]
/-! a store that grew -/
theorem get_app {S T : Store} {n : Nat} {c : Cell} (e : S[n]? = some c) : (S ++ T)[n]? = some c := by
  rw [List.getElem?_append_left (List.getElem?_eq_some_iff.mp e).1]
  exact e
theorem rdL_imp {f f' : D → Option D} (hf : ∀ d v, f d = some v → f' d = some v) : ∀ {ds es : List D}, rdL f ds = some es → rdL f' ds = some es
  | [], es, e => e
  | d :: r, es, e => by
    unfold rdL at e ⊢
    cases q : f d with
    | none => rw [q] at e; cases e
    | some v =>
      rw [q] at e
      rw [hf d v q]
      cases q2 : rdL f r with
      | none => simp only [q2] at e; cases e
      | some w =>
        simp only [q2] at e
        simp only [rdL_imp hf q2]
        exact e
theorem rdF_imp {f f' : D → Option D} (hf : ∀ d v, f d = some v → f' d = some v) : ∀ {ds es : List (String × D)}, rdF f ds = some es → rdF f' ds = some es
  | [], es, e => e
  | (x, d) :: r, es, e => by
    unfold rdF at e ⊢
    cases q : f d with
    | none => simp only [q] at e; cases e
    | some v =>
      simp only [q] at e
      simp only [hf d v q]
      cases q2 : rdF f r with
      | none => simp only [q2] at e; cases e
      | some w =>
        simp only [q2] at e
        simp only [rdF_imp hf q2]
        exact e
theorem rdD_app {S T : Store} : ∀ (k : Nat) (d v : D), rdD k S d = some v → rdD k (S ++ T) d = some v
  | 0, d, v, e => e
  | k + 1, d, v, e => by
    have ih := rdD_app (S := S) (T := T) k
    unfold rdD at e ⊢
    by_cases h : d.pf = true
    · rw [if_pos h] at e ⊢
      exact e
    · rw [if_neg h] at e ⊢
      cases d with
      | ptr n =>
        cases hc : S[n]? with
        | none => simp only [hc] at e; cases e
        | some c =>
          simp only [hc] at e
          simp only [get_app hc]
          cases c with
          | frz z => exact e
          | lst xs =>
            simp only at e ⊢
            cases q : rdL (rdD k S) xs with
            | none => simp only [q] at e; cases e
            | some ys =>
              simp only [q] at e
              simp only [rdL_imp ih q]
              exact e
          | ins c xs =>
            simp only at e ⊢
            cases q : rdF (rdD k S) xs with
            | none => simp only [q] at e; cases e
            | some ys =>
              simp only [q] at e
              simp only [rdF_imp ih q]
              exact e
      | lst xs =>
        simp only at e ⊢
        cases q : rdL (rdD k S) xs with
        | none => simp only [q] at e; cases e
        | some ys =>
          simp only [q] at e
          simp only [rdL_imp ih q]
          exact e
      | tup xs =>
        simp only at e ⊢
        cases q : rdL (rdD k S) xs with
        | none => simp only [q] at e; cases e
        | some ys =>
          simp only [q] at e
          simp only [rdL_imp ih q]
          exact e
      | ins c xs =>
        simp only at e ⊢
        cases q : rdF (rdD k S) xs with
        | none => simp only [q] at e; cases e
        | some ys =>
          simp only [q] at e
          simp only [rdF_imp ih q]
          exact e
      | _ => cases e
theorem look_app {S T : Store} {d : D} (h : ∀ n, look S d ≠ .ptr n) : look (S ++ T) d = look S d := by
  cases d with
  | ptr n =>
    cases hc : S[n]? with
    | none =>
      refine absurd ?_ (h n)
      unfold look
      simp only [hc]
    | some c =>
      unfold look
      simp only [hc, get_app hc]
  | _ => rfl
theorem MixAt.app {S T : Store} {d : D} {p : Int} {ws : List Int} (m : MixAt S d p ws) : MixAt (S ++ T) d p ws := by
  obtain ⟨w, e1, e2, e3⟩ := m
  refine ⟨w, ?_, ?_, rdD_app _ _ _ e3⟩
  · unfold insD at e1 ⊢
    rw [look_app fun n q => by rw [q] at e1; cases e1]
    exact e1
  · rw [look_app fun n q => by rw [q] at e2; cases e2]
    exact e2
/-- a turn over a pair -/
def zipF (f : Int → Int → Int) : D → D
  | .tup [.int a, .int b] => .int (f a b)
  | d => d
theorem zip_fun (f : Int → Int → Int) : ∀ ws vs : List Int, ((List.zip (ws.map D.int) (vs.map D.int)).map fun p => D.tup [p.1, p.2]).map (zipF f) = (List.zipWith f ws vs).map D.int
  | [], _ => rfl
  | _ :: _, [] => rfl
  | a :: ws, b :: vs => by
    simp only [List.map_cons, List.zip_cons_cons, List.zipWith_cons_cons]
    rw [zip_fun f ws vs]
    rfl
section
variable {P : Prog} (h : MixP P)
include h
theorem MixP.cls : ∃ C, P.ct "Mix" = some C ∧ (∀ x, mixC.flds.contains x = true → C.flds.contains x = true) ∧ (∀ x q, mixC.meths.lookup x = some q → C.meths.lookup x = some q) ∧ C.init = mixC.init ∧ C.iter = mixC.iter := by
  obtain ⟨C, e, k⟩ := h.ct
  unfold mixOk at k
  simp only [Bool.and_eq_true, decide_eq_true_eq] at k
  obtain ⟨k1, k2, k3, k4⟩ := k
  refine ⟨C, e, fun x hx => List.all_eq_true.mp k1 x (List.contains_iff_mem.mp hx), fun x q hq => ?_, k3, k4⟩
  have mem : (x, q) ∈ mixC.meths := lkm hq
  exact of_decide_eq_true (List.all_eq_true.mp k2 _ mem)
theorem MixP.kn : P.kn "Mix" = true := by
  obtain ⟨C, e, _⟩ := MixP.cls h
  unfold Prog.kn
  rw [e]
  rfl
theorem MixP.lk {x : String} (hx : mixC.flds.contains x = true) : P.lacks "Mix" x = true := by
  obtain ⟨C, e, k, _⟩ := MixP.cls h
  unfold Prog.lacks
  rw [e]
  exact k x hx
theorem MixP.lw : P.lacks "Mix" "_weights" = true := MixP.lk h (by decide +kernel)
theorem MixP.lp : P.lacks "Mix" "prime" = true := MixP.lk h (by decide +kernel)
theorem MixP.meth {x : String} {q : String × Mode} (e : mixC.meths.lookup x = some q) : P.meth "Mix" x = some q := by
  obtain ⟨C, e1, _, k, _⟩ := MixP.cls h
  unfold Prog.meth
  rw [e1]
  exact k x q e
theorem MixP.mk_eq {cb : Cb} {ds : List D} {S : Store} : mkX P cb "Mix" ds S = mkK (cb "Mix.__init__") "Mix" ds S := by
  obtain ⟨C, e1, _, _, k, _⟩ := MixP.cls h
  unfold mkX
  rw [e1]
  show (match C.init with
    | some (f, m) => mkM cb m "Mix" f ds S
    | none => .bad) = _
  rw [k]
  rfl
theorem mf_w {S : Store} {d w : D} {p : Int} (e : insD S d = some ("Mix", [("prime", .int p), ("_weights", w)])) : fldD P "_weights" S d = .ok w S := by
  unfold fldD
  rw [e]
  show (if P.lacks "Mix" "_weights" then _ else _) = _
  rw [if_pos h.lw]
  rfl
theorem mf_p {S : Store} {d w : D} {p : Int} (e : insD S d = some ("Mix", [("prime", .int p), ("_weights", w)])) : fldD P "prime" S d = .ok (.int p) S := by
  unfold fldD
  rw [e]
  show (if P.lacks "Mix" "prime" then _ else _) = _
  rw [if_pos h.lp]
  rfl
theorem mx_w {S : Store} {p : Int} {ws : List Int} : fldD P "_weights" S (mixD p ws) = .ok (.lst (ws.map .int)) S := mf_w h rfl
theorem mx_p {S : Store} {p : Int} {ws : List Int} : fldD P "prime" S (mixD p ws) = .ok (.int p) S := mf_p h rfl
theorem mx_m {S : Store} {d w : D} {p : Int} {x : String} {q : String × Mode} (e : insD S d = some ("Mix", [("prime", .int p), ("_weights", w)])) (hx : ([("prime", D.int p), ("_weights", w)] : List (String × D)).lookup x = none) (e2 : mixC.meths.lookup x = some q) : methD P x S d = some q := by
  unfold methD
  rw [e]
  simp only [hx, Option.isNone_none, if_true]
  exact h.meth e2
theorem ml_run (j : Nat) (p : Int) (ws : List Int) (S : Store) : run P (j + 1) "Mix.__len__" [mixD p ws] S = .ok (.int ws.length) S := by
  rw [run_fn h.len rfl]
  have st : startD c_Mix___len__.ns [mixD p ws] = [some (mixD p ws)] := rfl
  rw [st]
  simp [c_Mix___len__, mx_w h]
theorem ml_at (j : Nat) {S : Store} {d : D} {p : Int} {ws : List Int} (m : MixAt S d p ws) (hz : ws.length ≤ 1000000) : biX P (run P (j + 1)) .len S [d] = .ok (.int ws.length) S := by
  obtain ⟨w, e1, e2, e3⟩ := m
  show (match insD S d with
    | some (c, _) => asLen (callO (run P (j + 1)) (P.meth c "__len__") [d] S)
    | none => biD .len S [d]) = _
  rw [e1]
  show asLen (callO (run P (j + 1)) (P.meth "Mix" "__len__") [d] S) = _
  rw [h.meth (q := ("Mix.__len__", .flat)) (by decide +kernel)]
  show asLen (flatK (run P (j + 1) "Mix.__len__") [d] S) = _
  rw [flatK_ok (rdL_cons e3 rfl) (ml_run h j p ws []) rfl]
  exact asLen_ok (by omega) (by omega)
theorem li_at (j : Nat) {S : Store} {d : D} {p : Int} {ws : List Int} (m : MixAt S d p ws) (hz : ws.length ≤ 1000000) : biX P (run P (j + 1)) .list S [d] = .ok (.lst (ws.map .int)) S := by
  obtain ⟨w, e1, e2, e3⟩ := m
  show (match insD S d with
    | some (c, fs) => iterX P (run P (j + 1)) c fs S d fun S1 e => biD .list S1 [e]
    | none => biD .list S [d]) = _
  rw [e1]
  show iterX P (run P (j + 1)) "Mix" _ S d _ = _
  have q : P.itF "Mix" = some "_weights" := by
    obtain ⟨C, e1, _, _, _, k⟩ := MixP.cls h
    unfold Prog.itF
    rw [e1]
    exact k
  have il : isLst S w = true := by
    unfold isLst
    rw [e2]
  have c : callO (run P (j + 1)) (P.meth "Mix" "__len__") [d] S = .ok (.int ws.length) S := by
    rw [h.meth (q := ("Mix.__len__", .flat)) (by decide +kernel)]
    show flatK (run P (j + 1) "Mix.__len__") [d] S = _
    exact flatK_ok (rdL_cons e3 rfl) (ml_run h j p ws []) rfl
  unfold iterX
  rw [q]
  show (if isLst S w = true then _ else _) = _
  rw [if_pos il, c]
  show (if (0 ≤ ((ws.length : Nat) : Int) ∧ ((ws.length : Nat) : Int) ≤ 1000000) ∧ isLst S w = true then biD .list S [w] else Res.bad) = _
  rw [if_pos ⟨⟨by omega, by omega⟩, il⟩]
  show (match look S w with
    | .lst xs => Res.ok (D.lst xs) S
    | .tup xs => Res.ok (D.lst xs) S
    | _ => .bad) = _
  rw [e2]
theorem cpc_run (j : Nat) (p : Int) (ws : List Int) (i : Int) (hi : 0 ≤ i ∧ i < ws.length) (S : Store) : run P (j + 1) "Mix.check_piece" [mixD p ws, .int i] S = .ok .non S := by
  rw [run_fn h.cpc rfl]
  have st : startD c_Mix_check_piece.ns [mixD p ws, .int i] = [some (mixD p ws), some (.int i)] := rfl
  rw [st]
  simp [c_Mix_check_piece, mx_w h, hi]
theorem cpc_ex (j : Nat) (p : Int) (ws : List Int) (i : Int) (hi : ¬ (0 ≤ i ∧ i < ws.length)) (S : Store) : run P (j + 1) "Mix.check_piece" [mixD p ws, .int i] S = .ex ⟨"NoPiece", [("piece", .int i)]⟩ S := by
  rw [run_fn h.cpc rfl]
  have st : startD c_Mix_check_piece.ns [mixD p ws, .int i] = [some (mixD p ws), some (.int i)] := rfl
  rw [st]
  have rz : exS P (run P j) (.raise "NoPiece" (.acons (.var 1) .anil)) [some (mixD p ws), some (.int i)] S = .ex ⟨"NoPiece", [("piece", .int i)]⟩ [some (mixD p ws), some (.int i)] S := raise_one h.xP rfl rfl
  by_cases h0 : 0 ≤ i
  · have h1 : ¬ i < ws.length := fun q => hi ⟨h0, q⟩
    simp [c_Mix_check_piece, mx_w h, h0, h1, rz]
  · simp [c_Mix_check_piece, mx_w h, h0, rz]
theorem cs_run (j : Nat) (k : Int) (hk : 0 ≤ k ∧ k ≤ 9) (S : Store) : run P (j + 1) "check_size" [.int k] S = .ok .non S := by
  rw [run_fn h.cs rfl]
  have st : startD c_check_size.ns [.int k] = [some (.int k)] := rfl
  rw [st]
  simp [c_check_size, hk]
theorem sfld_at {S : Store} {n : Nat} {x : String} {d : D} {fs : List (String × D)} (hn : S[n]? = some (.ins "Mix" fs)) (hx : P.lacks "Mix" x = true) (hl : fs.length < 1000) : sfldD P x S (.ptr n) d = some (S.set n (.ins "Mix" (putD x d fs))) := by
  unfold sfldD
  simp only [hn]
  exact if_pos ⟨hx, hl⟩
theorem mini_run (j : Nat) {S : Store} {n : Nat} {p : Int} {W : D} {ws : List Int} (hn : S[n]? = some (.ins "Mix" [])) (hp : Pm p) (h9 : p ≤ 97) (hw : SeqAt S W ws) (hw2 : ∀ c, SeqAt (S.set n c) W ws) (hl : ws.length ≤ 9) :
    run P (j + 3) "Mix.__init__" [.ptr n, .int p, W] S = .ok .non (((S.set n (.ins "Mix" [("prime", .int p)])) ++ [Cell.lst ((ws.map fun w => w % p).map .int)]).set n (.ins "Mix" [("prime", .int p), ("_weights", .ptr S.length)])) := by
  generalize hL : (ws.map fun w => w % p).map D.int = L
  have p0 : 0 < p := by have := hp.1; omega
  have hlt : n < S.length := (List.getElem?_eq_some_iff.mp hn).1
  obtain ⟨s, s1, s2, s3, s4, s5⟩ := hw
  have c1 : callP (run P (j + 2)) "check_prime" [.int p] S = .ok .non S := callP_ok (by simp) (chk_ok h.f j p hp h9 []) (by simp)
  have c2 : callP (run P (j + 2)) "check_size" [.int ws.length] S = .ok .non S := callP_ok (by simp) (cs_run h (j + 1) _ ⟨by omega, by omega⟩ []) (by simp)
  have b1 : biX P (run P (j + 2)) .len S [W] = .ok (.int ws.length) S := by
    rw [biX_lenn s5]
    show (match lenD S W with
      | some n => Res.ok (D.int n) S
      | none => .bad) = _
    rw [s4]
  have f1 := sfld_at h (x := "prime") (d := .int p) hn h.lp (by simp)
  refine run_byN h.ini rfl (σ := [some (.ptr n), some (.int p), some W, none]) ?_
  show exS P (run P (j + 2)) c_Mix___init__.body [some (.ptr n), some (.int p), some W, none] S = _
  unfold c_Mix___init__
  refine seq_stp (by (conv => lhs; simp [-ev_comp, -ev_compT, -ex_for, -ex_forT, -ev_str, c1]) <;> rfl) ?_
  refine seq_stp (by (conv => lhs; simp [-ev_comp, -ev_compT, -ex_for, -ex_forT, -ev_str, b1, c2]) <;> rfl) ?_
  refine seq_stp (by (conv => lhs; simp [-ev_comp, -ev_compT, -ex_for, -ex_forT, -ev_str, f1, putD]) <;> rfl) ?_
  have hn2 : (S.set n (.ins "Mix" [("prime", .int p)]))[n]? = some (.ins "Mix" [("prime", .int p)]) := by rw [List.getElem?_set_self hlt]
  obtain ⟨t, t1, t2, t3, t4, t5⟩ := hw2 (.ins "Mix" [("prime", .int p)])
  have cp : evE P (run P (j + 2)) (.comp true [3] .seq (.n 3) (.var 2) (.bl true) (.bin .mod (.var 3) (.var 1))) [some (.ptr n), some (.int p), some W, none] (S.set n (.ins "Mix" [("prime", .int p)])) = .ok (.ptr S.length) ((S.set n (.ins "Mix" [("prime", .int p)])) ++ [.lst L]) := by
    have z := comp_src (pr := P) (cb := run P (j + 2)) (nw := true) (own := [3]) (k := .seq) (tg := .n 3) (it := .var 2) (elt := .bin .mod (.var 3) (.var 1)) (σ := [some (.ptr n), some (.int p), some W, none]) (S := S.set n (.ins "Mix" [("prime", .int p)])) (S1 := S.set n (.ins "Mix" [("prime", .int p)])) (d := W) (s := t)
      (g := fun x => match x with
        | .int w => .int (w % p)
        | d => d) rfl t1 t3 (fun x hx => ?_) (by rw [t2]; simp; have : sizeLine = 16777216 := rfl; omega)
    · rw [z, t2]
      show newL true _ _ = _
      have e : (List.map D.int ws).map (fun x => match x with
        | .int w => D.int (w % p)
        | d => d) = L := by
        rw [← hL, List.map_map, List.map_map]
        rfl
      rw [e]
      show Res.ok (D.ptr (S.set n (.ins "Mix" [("prime", .int p)])).length) _ = _
      rw [List.length_set]
    · rw [t2] at hx
      obtain ⟨w, _, rfl⟩ := List.mem_map.mp hx
      refine ⟨_, rfl, ?_⟩
      simp [wipeD, bin_mod p0]
  have f2 := sfld_at h (S := (S.set n (.ins "Mix" [("prime", .int p)])) ++ [.lst L]) (n := n) (x := "_weights") (d := .ptr S.length) (fs := [("prime", .int p)]) (by rw [List.getElem?_append_left (by rw [List.length_set]; exact hlt)]; exact hn2) h.lw (by simp)
  refine seq_stp (by (conv => lhs; simp [-ev_comp, -ev_compT, -ex_for, -ex_forT, -ev_str, cp, f2, putD]) <;> rfl) ?_
  rfl
/-- Mix(p, W): the instance, its list of weights -/
def newMx (S : Store) (p : Int) (ws : List Int) : Store := S ++ [.ins "Mix" [("prime", .int p), ("_weights", .ptr (S.length + 1))], .lst (ws.map .int)]
omit h in
theorem new_at {S : Store} {p : Int} {ws : List Int} : MixAt (newMx S p ws) (.ptr S.length) p ws := MixAt.cell (m := S.length + 1) (by unfold newMx; simp) (by unfold newMx; simp)
theorem mmk (j : Nat) {p : Int} {W : D} {ws : List Int} (hp : Pm p) (h9 : p ≤ 97) (hw : ∀ S, SeqAt S W ws) (hl : ws.length ≤ 9) (S : Store) : mkX P (run P (j + 3)) "Mix" [.int p, W] S = .ok (.ptr S.length) (newMx S p (ws.map fun w => w % p)) := by
  rw [MixP.mk_eq h]
  show mkK (run P (j + 3) "Mix.__init__") "Mix" [.int p, W] S = _
  unfold mkK
  rw [mini_run h j (n := S.length) (by simp) hp h9 (hw _) (fun c => hw _) hl]
  show Res.ok (D.ptr S.length) _ = _
  congr 1
  unfold newMx
  simp
/-- a comprehension over a mix's weights -/
theorem wcomp {cb : Cb} {S : Store} {d : D} {p : Int} {ws : List Int} (m : MixAt S d p ws) {σ : DSt} {own : List Nat} {i t : Nat} {elt : E} {f : Int → Int} (hi : σ[i]? = some (some d)) (he : ∀ w ∈ ws, evE P cb elt ((wipeD σ own).set t (some (.int w))) S = .ok (.int (f w)) S) (hl : ws.length ≤ 9) :
    evE P cb (.comp false own .seq (.n t) (.fld "_weights" (.var i)) (.bl true) elt) σ S = .ok (.lst ((ws.map f).map .int)) S := by
  obtain ⟨w, e1, e2, e3⟩ := m
  obtain ⟨s, s1, s2, s3, _⟩ := SeqAt.look e2
  have ev : evE P cb (.fld "_weights" (.var i)) σ S = .ok w S := by
    rw [ev_fld, ev_var, hi]
    exact mf_w h e1
  rw [comp_src (g := fun x => match x with
    | .int w => .int (f w)
    | d => d) ev s1 s3 (fun x hx => ?_) (by rw [s2]; simp; have : sizeLine = 16777216 := rfl; omega), s2]
  · show Res.ok (D.lst _) S = _
    rw [List.map_map, List.map_map]
    rfl
  · rw [s2] at hx
    obtain ⟨v, hv, rfl⟩ := List.mem_map.mp hx
    exact ⟨_, rfl, he v hv⟩
theorem mscd (j : Nat) {S : Store} {d : D} {p : Int} {ws : List Int} (m : MixAt S d p ws) (hp : Pm p) (h9 : p ≤ 97) (hl : ws.length ≤ 9) (hr : ∀ w ∈ ws, 0 ≤ w ∧ w < p) (k : Int) :
    run P (j + 4) "Mix.scaled" [d, .int k] S = .ok (.ptr S.length) (newMx S p ((ws.map fun w => w * k).map fun w => w % p)) := by
  have cp := wcomp h (cb := run P (j + 3)) m (σ := [some d, some (.int k), none]) (own := [2]) (i := 0) (t := 2) (elt := .bin .mul (.var 2) (.var 1)) (f := fun w => w * k) rfl (fun w hw => by
    have b := hr w hw
    have z := bin_mul (S := S) (i := w) (j := k) (by omega)
    simp [wipeD, z]) hl
  obtain ⟨w, e1, e2, e3⟩ := m
  have fp := mf_p h e1
  have mk := mmk h j (W := .lst ((ws.map fun w => w * k).map .int)) hp h9 (fun S => SeqAt.lst) (by simpa using hl) S
  generalize hL : (ws.map fun w => w * k).map D.int = L at cp mk
  rw [run_fn h.scd rfl]
  have st : startD c_Mix_scaled.ns [d, .int k] = [some d, some (.int k), none] := rfl
  rw [st]
  simp [c_Mix_scaled, fp, cp, mk, -ev_comp]
/-- an operand in the mix's field -/
theorem mscal (j : Nat) (p w : Int) (ws : List Int) (d : D) (hp : 0 < p) (o : Opd p d w) (S : Store) : run P (j + 1) "Mix.scalar" [mixD p ws, d] S = .ok (.int w) S := by
  rw [run_fn h.scal rfl]
  have st : startD c_Mix_scalar.ns [mixD p ws, d] = [some (mixD p ws), some d] := rfl
  rw [st]
  rcases o with ⟨i, rfl, rfl⟩ | rfl
  · simp [c_Mix_scalar, mx_p h, bin_mod hp]
  · simp [c_Mix_scalar, mx_p h, fld_p h.f, fld_v h.f, isR_int h.f]
omit h in
theorem callM_fl (cb : Cb) (f : String) (ds : List D) (S : Store) : callM cb .flat f ds S = flatK (cb f) ds S := rfl
theorem cscal (j : Nat) {S : Store} {d o : D} {p w : Int} {ws : List Int} (m : MixAt S d p ws) (hp : 0 < p) (ho : Opd p o w) : flatK (run P (j + 1) "Mix.scalar") [d, o] S = .ok (.int w) S := by
  obtain ⟨_, _, _, e3⟩ := m
  exact flatK_ok (rdL_cons e3 (rdL_cons (rdD_pf ho.pf) rfl)) (mscal h j p w ws o hp ho []) rfl
theorem mm_scd {S : Store} {d : D} {p : Int} {ws : List Int} (m : MixAt S d p ws) : methD P "scaled" S d = some ("Mix.scaled", .st) := by
  obtain ⟨w, e1, _, _⟩ := m
  exact mx_m h e1 (by simp [List.lookup]) (by decide +kernel)
theorem mm_scal {S : Store} {d : D} {p : Int} {ws : List Int} (m : MixAt S d p ws) : methD P "scalar" S d = some ("Mix.scalar", .flat) := by
  obtain ⟨w, e1, _, _⟩ := m
  exact mx_m h e1 (by simp [List.lookup]) (by decide +kernel)
theorem mm_fit {S : Store} {d : D} {p : Int} {ws : List Int} (m : MixAt S d p ws) : methD P "check_fit" S d = some ("Mix.check_fit", .flat) := by
  obtain ⟨w, e1, _, _⟩ := m
  exact mx_m h e1 (by simp [List.lookup]) (by decide +kernel)
theorem mmul_run (j : Nat) {S : Store} {d o : D} {p w : Int} {ws : List Int} (m : MixAt S d p ws) (hp : Pm p) (h9 : p ≤ 97) (hl : ws.length ≤ 9) (hr : ∀ w ∈ ws, 0 ≤ w ∧ w < p) (ho : Opd p o w) :
    run P (j + 5) "Mix.__mul__" [d, o] S = .ok (.ptr S.length) (newMx S p ((ws.map fun v => v * w).map fun w => w % p)) := by
  have p0 : 0 < p := by have := hp.1; omega
  rw [run_fn h.mul rfl]
  have st : startD c_Mix___mul__.ns [d, o] = [some d, some o] := rfl
  rw [st]
  have is := isO h.f p w o ho S
  have c1 := cscal h (j + 3) m p0 ho
  have c2 := mscd h j m hp h9 hl hr w
  simp only [isXs_cons, isXs_nil] at is
  simp [c_Mix___mul__, is, mm_scd h m, mm_scal h m, callM_st, callM_fl, c1, c2]
theorem mrmul_run (j : Nat) {S : Store} {d o : D} {p w : Int} {ws : List Int} (m : MixAt S d p ws) (hp : Pm p) (h9 : p ≤ 97) (hl : ws.length ≤ 9) (hr : ∀ w ∈ ws, 0 ≤ w ∧ w < p) (ho : Opd p o w) :
    run P (j + 5) "Mix.__rmul__" [d, o] S = .ok (.ptr S.length) (newMx S p ((ws.map fun v => v * w).map fun w => w % p)) := by
  have p0 : 0 < p := by have := hp.1; omega
  rw [run_fn h.rmul rfl]
  have st : startD c_Mix___rmul__.ns [d, o] = [some d, some o] := rfl
  rw [st]
  have is := isO h.f p w o ho S
  have c1 := cscal h (j + 3) m p0 ho
  have c2 := mscd h j m hp h9 hl hr w
  simp only [isXs_cons, isXs_nil] at is
  simp [c_Mix___rmul__, is, mm_scd h m, mm_scal h m, callM_st, callM_fl, c1, c2]
theorem mfdv_run (j : Nat) {S : Store} {d o : D} {p w : Int} {ws : List Int} (m : MixAt S d p ws) (hp : Pm p) (h9 : p ≤ 97) (hl : ws.length ≤ 9) (hr : ∀ w ∈ ws, 0 ≤ w ∧ w < p) (ho : Opd p o w) (hw : w % p ≠ 0) :
    run P (j + 5) "Mix.__floordiv__" [d, o] S = .ok (.ptr S.length) (newMx S p ((ws.map fun v => v * (w ^ (p - 2).toNat % p)).map fun w => w % p)) := by
  have p0 : 0 < p := by have := hp.1; omega
  rw [run_fn h.fdv rfl]
  have st : startD c_Mix___floordiv__.ns [d, o] = [some d, some o] := rfl
  rw [st]
  have is := isO h.f p w o ho S
  have c1 := cscal h (j + 3) m p0 ho
  have c3 := cal_inv h.f (j + 3) w p ⟨hp.1, h9⟩ hw S
  have c2 := mscd h j m hp h9 hl hr (w ^ (p - 2).toNat % p)
  have fp : fldD P "prime" S d = .ok (.int p) S := by
    obtain ⟨w, e1, _, _⟩ := m
    exact mf_p h e1
  simp only [isXs_cons, isXs_nil] at is
  simp [c_Mix___floordiv__, is, mm_scd h m, mm_scal h m, callM_st, callM_fl, c1, c2, c3, fp]
theorem mneg_run (j : Nat) {S : Store} {d : D} {p : Int} {ws : List Int} (m : MixAt S d p ws) (hp : Pm p) (h9 : p ≤ 97) (hl : ws.length ≤ 9) (hr : ∀ w ∈ ws, 0 ≤ w ∧ w < p) :
    run P (j + 5) "Mix.__neg__" [d] S = .ok (.ptr S.length) (newMx S p ((ws.map fun v => v * (-1)).map fun w => w % p)) := by
  rw [run_fn h.neg rfl]
  have st : startD c_Mix___neg__.ns [d] = [some d] := rfl
  rw [st]
  have c2 := mscd h j m hp h9 hl hr (-1)
  simp [c_Mix___neg__, mm_scd h m, callM_st, c2, -Int.mul_one]
theorem mfit_run (j : Nat) (p : Int) (ws vs : List Int) (hl : ws.length = vs.length) (h9 : vs.length ≤ 9) (S : Store) : run P (j + 2) "Mix.check_fit" [mixD p ws, mixD p vs] S = .ok .non S := by
  rw [run_fn h.fit rfl]
  have st : startD c_Mix_check_fit.ns [mixD p ws, mixD p vs] = [some (mixD p ws), some (mixD p vs)] := rfl
  rw [st]
  have c := ml_at h j (S := S) (MixAt.pure (p := p) (ws := vs)) (by omega)
  simp [c_Mix_check_fit, mx_p h, mx_w h, c, hl]
theorem cfit (j : Nat) {S : Store} {d e : D} {p : Int} {ws vs : List Int} (m : MixAt S d p ws) (k : MixAt S e p vs) (hl : ws.length = vs.length) (h9 : vs.length ≤ 9) : flatK (run P (j + 2) "Mix.check_fit") [d, e] S = .ok .non S := by
  obtain ⟨_, _, _, e3⟩ := m
  obtain ⟨_, _, _, f3⟩ := k
  exact flatK_ok (rdL_cons e3 (rdL_cons f3 rfl)) (mfit_run h j p ws vs hl h9 []) rfl
theorem isM_cls {S : Store} {d : D} {p : Int} {ws : List Int} (m : MixAt S d p ws) : isiX P.kn S d (.cls "Mix") = some true := by
  obtain ⟨w, e1, _, _⟩ := m
  unfold insD at e1
  unfold isiX
  cases q : look S d with
  | ins k fs =>
    rw [q] at e1
    cases e1
    simp [h.kn]
  | _ => rw [q] at e1; cases e1
theorem zcomp {cb : Cb} {S : Store} {d e : D} {p q : Int} {ws vs : List Int} (m : MixAt S d p ws) (k : MixAt S e q vs) {σ : DSt} {own : List Nat} {nw : Bool} {t1 t2 : Nat} {elt : E} {f : Int → Int → Int} (h0 : σ[0]? = some (some d)) (h1 : σ[1]? = some (some e))
    (he : ∀ a b, evE P cb elt (((wipeD σ own).set t1 (some (.int a))).set t2 (some (.int b))) S = .ok (.int (f a b)) S) (hl : ws.length ≤ 9) :
    evE P cb (.comp nw own .zip (.t [t1, t2]) (.acons (.fld "_weights" (.var 0)) (.acons (.fld "_weights" (.var 1)) .anil)) (.bl true) elt) σ S = newL nw S ((List.zipWith f ws vs).map .int) := by
  obtain ⟨w, e1, e2, e3⟩ := m
  obtain ⟨v, f1, f2, f3⟩ := k
  obtain ⟨s, s1, s2, s3, _⟩ := SeqAt.look e2
  obtain ⟨t, t1', t2', t3, _⟩ := SeqAt.look f2
  have ev : evE P cb (.acons (.fld "_weights" (.var 0)) (.acons (.fld "_weights" (.var 1)) .anil)) σ S = .ok (.tup [w, v]) S := by
    have z1 := mf_w h e1
    have z2 := mf_w h f1
    simp [h0, h1, z1, z2]
  have al : alikeS S w v = true := by
    unfold alikeS
    rw [e2, f2]
  have hs : srcD .zip S (.tup [w, v]) = some ⟨(List.zip s.xs t.xs).map fun p => .tup [p.1, p.2], fun S => s.ok S && t.ok S⟩ := by
    show zipG (alikeS S w v) (seqD S w) (seqD S v) = _
    rw [al, show seqD S w = some s from s1, show seqD S v = some t from t1']
    rfl
  rw [comp_src (g := zipF f) ev hs (by show (s.ok S && t.ok S) = true; rw [s3, t3]; rfl) (fun x hx => ?_) (by rw [s2, t2']; simp; have : sizeLine = 16777216 := rfl; omega)]
  · rw [s2, t2']
    exact congrArg (newL nw S) (zip_fun f ws vs)
  · rw [s2, t2'] at hx
    obtain ⟨⟨x1, x2⟩, hx2, rfl⟩ := List.mem_map.mp hx
    have hz := List.of_mem_zip hx2
    obtain ⟨a, _, rfl⟩ := List.mem_map.mp hz.1
    obtain ⟨b, _, rfl⟩ := List.mem_map.mp hz.2
    exact ⟨_, rfl, he a b⟩
theorem madd_run (j : Nat) {S : Store} {d e : D} {p : Int} {ws vs : List Int} (m : MixAt S d p ws) (k : MixAt S e p vs) (hp : Pm p) (h9 : p ≤ 97) (hl : ws.length = vs.length) (hz : vs.length ≤ 9) :
    run P (j + 4) "Mix.__add__" [d, e] S = .ok (.ptr S.length) (newMx S p ((List.zipWith (fun a b => a + b) ws vs).map fun w => w % p)) := by
  have cp := zcomp h (cb := run P (j + 3)) m k (σ := [some d, some e, none, none]) (own := [2, 3]) (nw := false) (t1 := 2) (t2 := 3) (elt := .bin .add (.var 2) (.var 3)) (f := fun a b => a + b) rfl rfl (fun a b => by simp [wipeD]) (by omega)
  have c1 := cfit h (j + 1) m k hl hz
  have is := isM_cls h k
  have fp : fldD P "prime" S d = .ok (.int p) S := by
    obtain ⟨w, e1, _, _⟩ := m
    exact mf_p h e1
  have mk := mmk h j (W := .lst ((List.zipWith (fun a b => a + b) ws vs).map .int)) hp h9 (fun S => SeqAt.lst) (by simp; omega) S
  have e2 : newL false S ((List.zipWith (fun a b => a + b) ws vs).map .int) = .ok (.lst ((List.zipWith (fun a b => a + b) ws vs).map .int)) S := rfl
  rw [e2] at cp
  generalize hL : (List.zipWith (fun a b => a + b) ws vs).map D.int = L at cp mk
  rw [run_fn h.add rfl]
  have st : startD c_Mix___add__.ns [d, e] = [some d, some e, none, none] := rfl
  rw [st]
  simp [c_Mix___add__, is, mm_fit h m, callM_fl, c1, fp, cp, mk, -ev_comp, -ev_compT]
theorem msub_run (j : Nat) {S : Store} {d e : D} {p : Int} {ws vs : List Int} (m : MixAt S d p ws) (k : MixAt S e p vs) (hp : Pm p) (h9 : p ≤ 97) (hl : ws.length = vs.length) (hz : vs.length ≤ 9) :
    run P (j + 4) "Mix.__sub__" [d, e] S = .ok (.ptr S.length) (newMx S p ((List.zipWith (fun a b => a - b) ws vs).map fun w => w % p)) := by
  have cp := zcomp h (cb := run P (j + 3)) m k (σ := [some d, some e, none, none]) (own := [2, 3]) (nw := false) (t1 := 2) (t2 := 3) (elt := .bin .sub (.var 2) (.var 3)) (f := fun a b => a - b) rfl rfl (fun a b => by simp [wipeD]) (by omega)
  have c1 := cfit h (j + 1) m k hl hz
  have is := isM_cls h k
  have fp : fldD P "prime" S d = .ok (.int p) S := by
    obtain ⟨w, e1, _, _⟩ := m
    exact mf_p h e1
  have mk := mmk h j (W := .lst ((List.zipWith (fun a b => a - b) ws vs).map .int)) hp h9 (fun S => SeqAt.lst) (by simp; omega) S
  have e2 : newL false S ((List.zipWith (fun a b => a - b) ws vs).map .int) = .ok (.lst ((List.zipWith (fun a b => a - b) ws vs).map .int)) S := rfl
  rw [e2] at cp
  generalize hL : (List.zipWith (fun a b => a - b) ws vs).map D.int = L at cp mk
  rw [run_fn h.sub rfl]
  have st : startD c_Mix___sub__.ns [d, e] = [some d, some e, none, none] := rfl
  rw [st]
  simp [c_Mix___sub__, is, mm_fit h m, callM_fl, c1, fp, cp, mk, -ev_comp, -ev_compT]
theorem mm_cpc {S : Store} {d : D} {p : Int} {ws : List Int} (m : MixAt S d p ws) : methD P "check_piece" S d = some ("Mix.check_piece", .flat) := by
  obtain ⟨w, e1, _, _⟩ := m
  exact mx_m h e1 (by simp [List.lookup]) (by decide +kernel)
theorem ccpc (j : Nat) {S : Store} {d : D} {p : Int} {ws : List Int} (m : MixAt S d p ws) (i : Int) (hi : 0 ≤ i ∧ i < ws.length) : flatK (run P (j + 1) "Mix.check_piece") [d, .int i] S = .ok .non S := by
  obtain ⟨_, _, _, e3⟩ := m
  exact flatK_ok (rdL_cons e3 (rdL_cons (rdD_pf (pf_int i)) rfl)) (cpc_run h j p ws i hi []) rfl
theorem mgi_run (j : Nat) (p : Int) (ws : List Int) (i : Int) (hi : 0 ≤ i ∧ i < ws.length) (S : Store) : run P (j + 2) "Mix.__getitem__" [mixD p ws, .int i] S = .ok (.int (ws.getD i.toNat 0)) S := by
  rw [run_fn h.gi rfl]
  have st : startD c_Mix___getitem__.ns [mixD p ws, .int i] = [some (mixD p ws), some (.int i)] := rfl
  rw [st]
  have c := ccpc h j (S := S) (MixAt.pure (p := p) (ws := ws)) i hi
  have e := getD_idx (S := S) hi.1 hi.2
  simp [c_Mix___getitem__, mm_cpc h (S := S) (MixAt.pure (p := p) (ws := ws)), callM_fl, c, mx_w h, e]
theorem mgi_at (j : Nat) {S : Store} {d : D} {p : Int} {ws : List Int} (m : MixAt S d p ws) (i : Int) (hi : 0 ≤ i ∧ i < ws.length) : idxX P (run P (j + 2)) S d (.int i) = .ok (.int (ws.getD i.toNat 0)) S := by
  obtain ⟨w, e1, _, e3⟩ := m
  unfold idxX
  rw [e1]
  show callO (run P (j + 2)) (P.meth "Mix" "__getitem__") [d, .int i] S = _
  rw [h.meth (q := ("Mix.__getitem__", .flat)) (by decide +kernel)]
  show flatK (run P (j + 2) "Mix.__getitem__") [d, .int i] S = _
  exact flatK_ok (rdL_cons e3 (rdL_cons (rdD_pf (pf_int i)) rfl)) (mgi_run h j p ws i hi []) rfl
theorem meq_run (j : Nat) (p q : Int) (ws vs : List Int) (S : Store) : run P (j + 1) "Mix.__eq__" [mixD p ws, mixD q vs] S = .ok (.bl (decide (p = q) && decide (ws = vs))) S := by
  rw [run_fn h.eq rfl]
  have st : startD c_Mix___eq__.ns [mixD p ws, mixD q vs] = [some (mixD p ws), some (mixD q vs)] := rfl
  rw [st]
  have is := isM_cls h (S := S) (MixAt.pure (p := q) (ws := vs))
  have c : eqO (.lst (ws.map .int)) (.lst (vs.map .int)) = some (decide (ws = vs)) := by
    rw [eqO_of (by exact dp_ints 7 ws) (by exact dp_ints 7 vs), eqB_lst, eqBL_ints]
  by_cases hq : p = q
  · simp [c_Mix___eq__, is, mx_p h, mx_w h, hq, c]
  · simp [c_Mix___eq__, is, mx_p h, mx_w h, hq]
/-- a live mix: its cell, its list -/
def MixC (S : Store) (n m : Nat) (p : Int) (ws : List Int) : Prop := S[n]? = some (.ins "Mix" [("prime", .int p), ("_weights", .ptr m)]) ∧ S[m]? = some (.lst (ws.map .int))
theorem msi_run (j : Nat) {S : Store} {n m : Nat} {p : Int} {ws : List Int} (c : MixC S n m p ws) (hp : 0 < p) (i v : Int) (hi : 0 ≤ i ∧ i < ws.length) : run P (j + 2) "Mix.__setitem__" [.ptr n, .int i, .int v] S = .ok .non (S.set m (.lst ((ws.set i.toNat (v % p)).map .int))) := by
  have M : MixAt S (.ptr n) p ws := MixAt.cell c.1 c.2
  have c1 := ccpc h j M i hi
  have e1 : insD S (.ptr n) = some ("Mix", [("prime", .int p), ("_weights", .ptr m)]) := ins_ptr c.1
  have f1 := mf_w h e1
  have f2 := mf_p h e1
  have s1 := sidxX_n (pr := P) (cb := run P (j + 1)) (p := .ptr m) (k := .int i) (d := .int (v % p)) (ins_ptr_lst c.2) (sidx_ok c.2 hi.1 (by simpa using hi.2))
  rw [← List.map_set] at s1
  generalize hL : (ws.set i.toNat (v % p)).map D.int = L at s1
  rw [run_fn h.si rfl]
  have st : startD c_Mix___setitem__.ns [.ptr n, .int i, .int v] = [some (.ptr n), some (.int i), some (.int v)] := rfl
  rw [st]
  simp [c_Mix___setitem__, mm_cpc h M, callM_fl, c1, f1, f2, bin_mod hp, s1]
theorem miadd_run (j : Nat) {S : Store} {n m : Nat} {e : D} {p : Int} {ws vs : List Int} (c : MixC S n m p ws) (k : MixAt S e p vs) (hp : 0 < p) (hl : ws.length = vs.length) (hz : vs.length ≤ 9) :
    run P (j + 3) "Mix.__iadd__" [.ptr n, e] S = .ok (.ptr n) ((S ++ [Cell.lst ((List.zipWith (fun a b => (a + b) % p) ws vs).map .int)]).set n (.ins "Mix" [("prime", .int p), ("_weights", .ptr S.length)])) := by
  have M : MixAt S (.ptr n) p ws := MixAt.cell c.1 c.2
  have e1 : insD S (.ptr n) = some ("Mix", [("prime", .int p), ("_weights", .ptr m)]) := ins_ptr c.1
  have f2 := mf_p h e1
  have cp := zcomp h (cb := run P (j + 2)) M k (σ := [some (.ptr n), some e, none, none]) (own := [2, 3]) (nw := true) (t1 := 2) (t2 := 3) (elt := .bin .mod (.bin .add (.var 2) (.var 3)) (.fld "prime" (.var 0))) (f := fun a b => (a + b) % p) rfl rfl (fun a b => by simp [wipeD, f2, bin_mod hp]) (by omega)
  have c1 := cfit h j M k hl hz
  have is := isM_cls h k
  generalize hL : (List.zipWith (fun a b => (a + b) % p) ws vs).map D.int = L at cp ⊢
  have e2 : newL true S L = .ok (.ptr S.length) (S ++ [.lst L]) := rfl
  rw [e2] at cp
  have s1 := sfld_at h (S := S ++ [.lst L]) (n := n) (x := "_weights") (d := .ptr S.length) (fs := [("prime", .int p), ("_weights", .ptr m)]) (get_app c.1) h.lw (by simp)
  rw [run_fn h.iadd rfl]
  have st : startD c_Mix___iadd__.ns [.ptr n, e] = [some (.ptr n), some e, none, none] := rfl
  rw [st]
  simp [c_Mix___iadd__, is, mm_fit h M, callM_fl, c1, cp, s1, putD, -ev_comp, -ev_compT]
/-! operators as the laws ask them -/
theorem MixP.rok (op : Bop) (hop : op = .mul ∨ op = .add ∨ op = .sub ∨ op = .fdiv) : P.rok "Mix" op = true := by
  unfold Prog.rok
  rcases hop with rfl | rfl | rfl | rfl
  · rw [h.meth (x := Bop.mul.rn) (q := ("Mix.__rmul__", .st)) (by decide +kernel)]
    simp [Bop.rok]
  · rw [MixP.lk h (x := Bop.add.rn) (by decide +kernel)]
    rfl
  · rw [MixP.lk h (x := Bop.sub.rn) (by decide +kernel)]
    rfl
  · rw [MixP.lk h (x := Bop.fdiv.rn) (by decide +kernel)]
    rfl
theorem bx_mm {cb : Cb} {op : Bop} {S : Store} {d e : D} {p q : Int} {ws vs : List Int} (m : MixAt S d p ws) (k : MixAt S e q vs) : binX P cb op S d e = callO cb (P.meth "Mix" op.dn) [d, e] S := by
  obtain ⟨w, e1, _, _⟩ := m
  obtain ⟨v, f1, _, _⟩ := k
  unfold binX
  rw [e1, f1]
  simp
theorem bx_add (j : Nat) {S : Store} {d e : D} {p : Int} {ws vs : List Int} (m : MixAt S d p ws) (k : MixAt S e p vs) (hp : Pm p) (h9 : p ≤ 97) (hl : ws.length = vs.length) (hz : vs.length ≤ 9) :
    binX P (run P (j + 4)) .add S d e = .ok (.ptr S.length) (newMx S p ((List.zipWith (fun a b => a + b) ws vs).map fun w => w % p)) := by
  rw [bx_mm h m k, h.meth (q := ("Mix.__add__", .st)) (by decide +kernel)]
  exact madd_run h j m k hp h9 hl hz
theorem bx_sub (j : Nat) {S : Store} {d e : D} {p : Int} {ws vs : List Int} (m : MixAt S d p ws) (k : MixAt S e p vs) (hp : Pm p) (h9 : p ≤ 97) (hl : ws.length = vs.length) (hz : vs.length ≤ 9) :
    binX P (run P (j + 4)) .sub S d e = .ok (.ptr S.length) (newMx S p ((List.zipWith (fun a b => a - b) ws vs).map fun w => w % p)) := by
  rw [bx_mm h m k, h.meth (q := ("Mix.__sub__", .st)) (by decide +kernel)]
  exact msub_run h j m k hp h9 hl hz
theorem isO_at {p w : Int} {o : D} (ho : Opd p o w) (S : Store) : isiXs P.kn S o [.int, .cls "Residue"] = some true := isO h.f p w o ho S
theorem isM_o {S : Store} {d : D} {p : Int} {ws : List Int} (m : MixAt S d p ws) : isiXs P.kn S d [.int, .cls "Residue"] = some false := by
  obtain ⟨w, e1, _, _⟩ := m
  unfold insD at e1
  cases q : look S d with
  | ins k fs =>
    rw [q] at e1
    cases e1
    have k1 : isiX P.kn S d .int = some false := by
      unfold isiX
      simp [q, h.kn]
    have k2 : isiX P.kn S d (.cls "Residue") = some false := by
      unfold isiX
      simp [q, h.kn, h.f.kn]
    simp [k1, k2]
  | _ => rw [q] at e1; cases e1
/-- mix op o, o a whole number or a residue -/
theorem bx_mo {cb : Cb} {op : Bop} {S : Store} {d o : D} {p w : Int} {ws : List Int} {f : String} {m' : Mode} {F : Fn} (hop : op = .mul ∨ op = .fdiv) (m : MixAt S d p ws) (ho : Opd p o w) (hm : P.meth "Mix" op.dn = some (f, m')) (hf : P.fn f = some F) (hc : nimC F.body = some [.int, .cls "Residue"]) :
    binX P cb op S d o = callO cb (P.meth "Mix" op.dn) [d, o] S := by
  obtain ⟨w', e1, _, _⟩ := m
  have rk := MixP.rok h op (by rcases hop with rfl | rfl <;> simp)
  unfold binX
  rw [e1]
  rcases ho with ⟨i, rfl, _⟩ | rfl
  · show (if (isInt (.int i) && P.rok "Mix" op) = true then _ else _) = _
    rw [rk]
    rfl
  · show (if "Residue" = "Mix" then _ else if (P.rok "Mix" op && ((P.meth "Residue" op.dn).isSome && (P.meth "Residue" op.rn).isSome)) = true then binY P cb op "Mix" "Residue" S d (resD w p) else _) = _
    rw [if_neg (by decide), rk]
    have q1 : ((P.meth "Residue" op.dn).isSome && (P.meth "Residue" op.rn).isSome) = true := by
      rcases hop with rfl | rfl
      · rw [show P.meth "Residue" Bop.mul.dn = _ from mt_mul h.f, show P.meth "Residue" Bop.mul.rn = _ from mt_rmul h.f]
        rfl
      · rw [show P.meth "Residue" Bop.fdiv.dn = _ from mt_fdv h.f, show P.meth "Residue" Bop.fdiv.rn = _ from mt_rfdv h.f]
        rfl
    rw [q1]
    show binY P cb op "Mix" "Residue" S d (resD w p) = _
    unfold binY
    have q2 : nimB P (P.meth "Mix" op.dn) S (resD w p) = false := by
      unfold nimB
      rw [hm]
      simp only [hf, hc]
      rw [isO_at h (Or.inr rfl) S]
    rw [q2]
    rfl
theorem bx_mul (j : Nat) {S : Store} {d o : D} {p w : Int} {ws : List Int} (m : MixAt S d p ws) (hp : Pm p) (h9 : p ≤ 97) (hl : ws.length ≤ 9) (hr : ∀ w ∈ ws, 0 ≤ w ∧ w < p) (ho : Opd p o w) :
    binX P (run P (j + 5)) .mul S d o = .ok (.ptr S.length) (newMx S p ((ws.map fun v => v * w).map fun w => w % p)) := by
  have hm : P.meth "Mix" Bop.mul.dn = some ("Mix.__mul__", .st) := h.meth (by decide +kernel)
  rw [bx_mo h (.inl rfl) m ho hm h.mul rfl, hm]
  exact mmul_run h j m hp h9 hl hr ho
theorem bx_fdv (j : Nat) {S : Store} {d o : D} {p w : Int} {ws : List Int} (m : MixAt S d p ws) (hp : Pm p) (h9 : p ≤ 97) (hl : ws.length ≤ 9) (hr : ∀ w ∈ ws, 0 ≤ w ∧ w < p) (ho : Opd p o w) (hw : w % p ≠ 0) :
    binX P (run P (j + 5)) .fdiv S d o = .ok (.ptr S.length) (newMx S p ((ws.map fun v => v * (w ^ (p - 2).toNat % p)).map fun w => w % p)) := by
  have hm : P.meth "Mix" Bop.fdiv.dn = some ("Mix.__floordiv__", .st) := h.meth (by decide +kernel)
  rw [bx_mo h (.inr rfl) m ho hm h.fdv rfl, hm]
  exact mfdv_run h j m hp h9 hl hr ho hw
/-- o * mix -/
theorem bx_rmul (j : Nat) {S : Store} {d o : D} {p w : Int} {ws : List Int} (m : MixAt S d p ws) (hp : Pm p) (h9 : p ≤ 97) (hl : ws.length ≤ 9) (hr : ∀ w ∈ ws, 0 ≤ w ∧ w < p) (ho : Opd p o w) :
    binX P (run P (j + 5)) .mul S o d = .ok (.ptr S.length) (newMx S p ((ws.map fun v => v * w).map fun w => w % p)) := by
  have hm : P.meth "Mix" Bop.mul.dn = some ("Mix.__mul__", .st) := h.meth (by decide +kernel)
  have hmr : P.meth "Mix" Bop.mul.rn = some ("Mix.__rmul__", .st) := h.meth (by decide +kernel)
  have fin := mrmul_run h j m hp h9 hl hr ho
  have m0 := m
  obtain ⟨w', e1, _, _⟩ := m
  rcases ho with ⟨i, rfl, hi⟩ | rfl
  · unfold binX
    rw [show insD S (D.int i) = none from rfl, e1]
    show (if (true && (true && (P.meth "Mix" Bop.mul.dn).isSome)) = true then callO _ (P.meth "Mix" Bop.mul.rn) [d, .int i] S else .bad) = _
    rw [hm, hmr]
    exact fin
  · unfold binX
    rw [e1]
    show (if "Mix" = "Residue" then _ else if (P.rok "Residue" .mul && ((P.meth "Mix" Bop.mul.dn).isSome && (P.meth "Mix" Bop.mul.rn).isSome)) = true then binY P _ .mul "Residue" "Mix" S (resD w p) d else _) = _
    rw [if_neg (by decide), FldP.rok h.f .mul, hm, hmr]
    show binY P _ .mul "Residue" "Mix" S (resD w p) d = _
    unfold binY
    have q2 : nimB P (P.meth "Residue" Bop.mul.dn) S d = true := by
      unfold nimB
      rw [show P.meth "Residue" Bop.mul.dn = _ from mt_mul h.f]
      simp only [h.f.mul]
      show (match isiXs P.kn S d [.int, .cls "Residue"] with
        | some false => decide (c_Residue___mul__.np = 2)
        | _ => false) = true
      rw [isM_o h m0]
      rfl
    rw [q2, hmr]
    exact fin
/-- ==, != of mixes -/
theorem cx_eq (j : Nat) {S : Store} {d e : D} {p q : Int} {ws vs : List Int} (m : MixAt S d p ws) (k : MixAt S e q vs) : cmpX P (run P (j + 1)) .eq S d e = .ok (.bl (decide (p = q) && decide (ws = vs))) S ∧ cmpX P (run P (j + 1)) .ne S d e = .ok (.bl (!(decide (p = q) && decide (ws = vs)))) S := by
  obtain ⟨w, e1, _, e3⟩ := m
  obtain ⟨v, f1, _, f3⟩ := k
  have c : callO (run P (j + 1)) (P.meth "Mix" "__eq__") [d, e] S = .ok (.bl (decide (p = q) && decide (ws = vs))) S := by
    rw [h.meth (q := ("Mix.__eq__", .flat)) (by decide +kernel)]
    show flatK (run P (j + 1) "Mix.__eq__") [d, e] S = _
    exact flatK_ok (rdL_cons e3 (rdL_cons f3 rfl)) (meq_run h j p q ws vs []) rfl
  unfold cmpX
  rw [e1, f1]
  refine ⟨?_, ?_⟩
  · simp [c]
    rw [show (Cop.eq == Cop.ne) = false from rfl]
    simp
  · simp [c]
    try rw [show (Cop.ne == Cop.ne) = true from rfl]
    try simp
end
end MX
end

section
set_option maxRecDepth 100000
set_option maxHeartbeats 4000000
namespace MX
open PySem
theorem sz_int (n : Nat) (i : Int) : szD n (.int i) = true := by cases n <;> rfl
theorem sz_ints (n : Nat) (ws : List Int) (h : ws.length ≤ 1000) : szD (n + 1) (.lst (ws.map .int)) = true := by
  show (decide ((ws.map D.int).length < 2 ^ 62) && (ws.map D.int).all (szD n)) = true
  rw [Bool.and_eq_true, decide_eq_true_eq, List.length_map, List.all_eq_true]
  refine ⟨by omega, fun d hd => ?_⟩
  obtain ⟨i, _, rfl⟩ := List.mem_map.mp hd
  exact sz_int n i
theorem getD_all (ws : List Int) : (List.range ws.length).map (fun k => ws.getD k 0) = ws := by
  apply List.ext_getElem
  · simp
  · intro i h1 h2
    simp [List.getElem?_eq_getElem h2]
theorem mul_red {p k : Int} (vs : List Int) : ((vs.map fun w => w % p).map fun v => v * (k % p)).map (fun w => w % p) = (vs.map fun w => w * k).map fun w => w % p := by
  rw [List.map_map, List.map_map, List.map_map]
  refine List.map_congr_left fun w _ => ?_
  show (w % p * (k % p)) % p = w * k % p
  rw [← Int.mul_emod]
theorem div_red {p k : Int} (hp : Pm p) (h9 : p ≤ 97) (hk : k % p ≠ 0) (vs : List Int) : ((((vs.map fun w => w % p).map fun v => v * ((k % p) ^ (p - 2).toNat % p)).map (fun w => w % p)).map fun v => v * (k % p)).map (fun w => w % p) = vs.map fun w => w % p := by
  rw [List.map_map, List.map_map, List.map_map, List.map_map]
  refine List.map_congr_left fun w _ => ?_
  show (w % p * ((k % p) ^ (p - 2).toNat % p) % p * (k % p)) % p = w % p
  have p0 : 0 < p := by have := hp.1; omega
  have f := finv hp h9 (w := k % p) ⟨by have := Int.emod_nonneg k (b := p) (by omega); omega, Int.emod_lt_of_pos k p0⟩
  generalize (k % p) ^ (p - 2).toNat % p = t at f ⊢
  rw [Int.mul_emod, Int.emod_emod_of_dvd _ (Int.dvd_refl p), ← Int.mul_emod, Int.mul_assoc, Int.mul_comm t, Int.mul_emod, f, Int.mul_one, Int.emod_emod_of_dvd _ (Int.dvd_refl p), Int.emod_emod_of_dvd _ (Int.dvd_refl p)]
/-- a loop that appends one value a turn to a list -/
theorem for_app {pr : Prog} {cb : Cb} {r t n : Nat} {e : E} {g : D → D} (htr : t ≠ r) : ∀ {xs acc : List D} {σ : DSt} {S : Store}, σ[r]? = some (some (.ptr n)) → S[n]? = some (.lst acc) → acc.length + xs.length ≤ sizeLine →
    (∀ x ∈ xs, ∀ σ' : DSt, (∀ i, i ≠ t → σ'[i]? = σ[i]?) → σ'[t]? = some (some x) → ∀ S', evE pr cb e σ' S' = .ok (g x) S') → t < σ.length →
    ∃ o, forL (fun x σ S => exS pr cb (.seq (.ex (.app (.var r) e)) .nil) (σ.set t (some x)) S) xs σ S = .nx (σ.set t o) (S.set n (.lst (acc ++ xs.map g)))
  | [], acc, σ, S, h1, h2, h3, h4, h5 => by
    refine ⟨σ[t], ?_⟩
    rw [for_nil, List.set_getElem_self]
    congr 1
    rw [List.map_nil, List.append_nil]
    have hn := (List.getElem?_eq_some_iff.mp h2)
    rw [← hn.2, List.set_getElem_self]
  | x :: xs, acc, σ, S, h1, h2, h3, h4, h5 => by
    have hn := (List.getElem?_eq_some_iff.mp h2).1
    have hx := fun S' => h4 x List.mem_cons_self (σ.set t (some x)) (fun i hi => List.getElem?_set_ne (Ne.symm hi)) (List.getElem?_set_self h5) S'
    have hr : (σ.set t (some x))[r]? = some (some (.ptr n)) := by rw [List.getElem?_set_ne htr]; exact h1
    rw [List.length_cons] at h3
    obtain ⟨o, e1⟩ := for_app (pr := pr) (cb := cb) (e := e) (g := g) htr (xs := xs) (acc := acc ++ [g x]) (σ := σ.set t (some x)) (S := S.set n (.lst (acc ++ [g x]))) hr (List.getElem?_set_self hn) (by rw [List.length_append]; simp only [List.length_cons, List.length_nil]; omega)
      (fun y hy σ' k1 k2 => h4 y (List.mem_cons_of_mem _ hy) σ' (fun i hi => by rw [k1 i hi, List.getElem?_set_ne (Ne.symm hi)]) k2) (by rw [List.length_set]; exact h5)
    refine ⟨o, ?_⟩
    have one : exS pr cb (.seq (.ex (.app (.var r) e)) .nil) (σ.set t (some x)) S = .nx (σ.set t (some x)) (S.set n (.lst (acc ++ [g x]))) := by
      rw [ex_seq, ex_ex, ev_app, ev_var, hr]
      simp only [slot_some, bind_ok, appO_ptr, h2, appP_lst, hx, appR_lst]
      rw [if_pos (by omega)]
      rfl
    rw [for_cons, one, loopR_nx, e1, List.set_set, List.set_set]
    simp
theorem biD_bl {S : Store} (b : Bool) : biD .int S [.bl b] = .ok (.int (if b then 1 else 0)) S := rfl
/-- the indexes of what is not 0 -/
def supL (ws : List Int) : List Int := (List.range ws.length).filterMap fun k => if ws.getD k 0 = 0 then none else some (k : Int)
def pickS : D → Option D
  | .tup [i, .int w] => if w = 0 then none else some i
  | _ => none
theorem enumLk : ∀ (xs : List D) (i k : Nat), (enumL i xs)[k]? = (xs[k]?).map fun x => D.tup [.int ((i + k : Nat) : Int), x]
  | [], i, k => by simp [enumL]
  | x :: r, i, 0 => by simp [enumL]
  | x :: r, i, k + 1 => by
    show (enumL (i + 1) r)[k]? = _
    rw [enumLk r (i + 1) k]
    simp [Nat.add_assoc, Nat.add_comm 1 k]
theorem enum_ints (ws : List Int) : enumL 0 (ws.map .int) = (List.range ws.length).map fun (k : Nat) => D.tup [.int (k : Int), .int (ws.getD k 0)] := by
  apply List.ext_getElem?
  intro k
  rw [enumLk]
  by_cases q : k < ws.length
  · simp [q]
  · simp [q, List.getElem?_eq_none (Nat.le_of_not_lt q)]
theorem filt_map {α : Type} (f : α → Option Int) (xs : List α) : xs.filterMap (fun x => (f x).map D.int) = (xs.filterMap f).map D.int := by
  rw [List.map_filterMap]
theorem any_sup (ws : List Int) : (ws.map (fun w => w != 0)).any id = decide (supL ws ≠ []) := by
  rw [Bool.eq_iff_iff, decide_eq_true_eq, List.any_map, List.any_eq_true]
  constructor
  · rintro ⟨w, hw, h0⟩ e
    obtain ⟨k, hk, rfl⟩ := List.getElem_of_mem hw
    have := List.filterMap_eq_nil_iff.mp e k (List.mem_range.mpr hk)
    simp [List.getElem?_eq_getElem hk] at this
    simp [this] at h0
  · intro e
    obtain ⟨i, hi⟩ := List.exists_mem_of_ne_nil _ e
    obtain ⟨k, hk, h⟩ := List.mem_filterMap.mp hi
    have hk := List.mem_range.mp hk
    refine ⟨ws[k], List.getElem_mem hk, ?_⟩
    by_cases q : ws.getD k 0 = 0
    · rw [if_pos q] at h; cases h
    · simp [List.getElem?_eq_getElem hk] at q
      simp [q]
theorem bls_ints (ws : List Int) : blsD (ws.map .int) = some (ws.map fun w => w != 0) := by
  induction ws with
  | nil => rfl
  | cons w r ih => simp [blsD, ih]
theorem sup_le (ws : List Int) : (supL ws).length ≤ ws.length := by
  have := List.length_filterMap_le (fun k => if ws.getD k 0 = 0 then none else some ((k : Nat) : Int)) (List.range ws.length)
  rwa [List.length_range] at this
section
variable {P : Prog} (h : MixP P)
include h
theorem sup_run (hsup : P.fn "Mix.support" = some c_Mix_support) (j : Nat) {S : Store} {d : D} {p : Int} {ws : List Int} (m : MixAt S d p ws) (hl : ws.length ≤ 9) : run P (j + 1) "Mix.support" [d] S = .ok (.tup ((supL ws).map .int)) S := by
  obtain ⟨w, e1, e2, e3⟩ := m
  have ev : fldD P "_weights" S d = .ok w S := mf_w h e1
  obtain ⟨s, s1, s2, s3, _⟩ := SeqAt.look (S := S) (w := w) e2
  have sl : isLst S w = true := by unfold isLst; rw [e2]
  have st : startD c_Mix_support.ns [d] = [some d, none, none] := rfl
  rw [srcD_seq] at s1
  have c1 : evE P (run P j) (.comp false [1, 2] .enum (.t [1, 2]) (.acons (.fld "_weights" (.var 0)) .anil) (.cnd (.cmp .ne (.var 2) (.int 0))) (.var 1)) [some d, none, none] S = .ok (.lst ((supL ws).map .int)) S := by
    rw [ev_compT]
    simp only [ev_acons, ev_fld, ev_var, get_zero, slot_some, bind_ok, ev, ev_anil, unT, srcD_enum', sl, s1, enumG_t, compG_ok]
    rw [s2, enum_ints]
    have ok : ∀ xs : List D, (∀ x ∈ xs, x ∈ (List.range ws.length).map fun (k : Nat) => D.tup [.int (k : Int), .int (ws.getD k 0)]) → compK s.ok (compT P (run P j) [1, 2] [1, 2] (.cnd (.cmp .ne (.var 2) (.int 0))) (.var 1) [some d, none, none]) xs S = .ok (xs.filterMap pickS) S := by
      intro xs
      induction xs with
      | nil => intro _; show (if s.ok S = true then _ else _) = _; rw [if_pos s3]; rfl
      | cons x r ih =>
        intro hx
        obtain ⟨k, _, rfl⟩ := List.mem_map.mp (hx x List.mem_cons_self)
        have z := ih fun y hy => hx y (List.mem_cons_of_mem _ hy)
        show (if s.ok S = true then _ else _) = _
        rw [if_pos s3]
        have cq := compT_ok (pr := P) (cb := run P j) (c := .cnd (.cmp .ne (.var 2) (.int 0))) (e := .var 1) (S := S) (x := .tup [.int (k : Int), .int (ws.getD k 0)]) (σ1 := [some d, some (.int (k : Int)), some (.int (ws.getD k 0))]) (own := [1, 2]) (ts := [1, 2]) (σ := [some d, none, none]) rfl
        rw [cq]
        generalize ws.getD k 0 = v at *
        by_cases q : v = 0
        · subst q
          simp [z, pickS]
        · simp [q, z, pickS]
    rw [ok _ fun x hx => hx, bind_ok]
    have e : (((List.range ws.length).map fun (k : Nat) => D.tup [.int (k : Int), .int (ws.getD k 0)]).filterMap pickS) = (supL ws).map D.int := by
      have q : (pickS ∘ fun (k : Nat) => D.tup [.int (k : Int), .int (ws.getD k 0)]) = fun (k : Nat) => (if ws.getD k 0 = 0 then none else some (k : Int)).map D.int := by
        funext k
        show (if ws.getD k 0 = 0 then none else some (D.int (k : Int))) = _
        by_cases q : ws.getD k 0 = 0
        · rw [if_pos q, if_pos q]; rfl
        · rw [if_neg q, if_neg q]; rfl
      rw [List.filterMap_map, q]
      exact filt_map (fun (k : Nat) => if ws.getD k 0 = 0 then none else some (k : Int)) (List.range ws.length)
    have := sup_le ws
    rw [e, if_pos (by rw [List.length_map]; have : sizeLine = 16777216 := rfl; omega)]
    rfl
  refine run_by hsup rfl ?_
  rw [st]
  unfold c_Mix_support
  dsimp only
  generalize (supL ws).map D.int = L at c1 ⊢
  simp [c1, -ev_compT]
  rfl
theorem wt_run (j : Nat) {S : Store} {d : D} {p : Int} {ws : List Int} (m : MixAt S d p ws) (hp : Pm p) (h9 : p ≤ 97) (i : Int) (hi : 0 ≤ i ∧ i < ws.length) : run P (j + 4) "Mix.weight" [d, .int i] S = .ok (resD (ws.getD i.toNat 0 % p) p) S := by
  have g := mgi_at h (j + 1) m i hi
  have k := mk_ok h.f j (ws.getD i.toNat 0) p hp h9 S
  obtain ⟨w, e1, e2, e3⟩ := m
  have f := mf_p h e1
  refine run_by h.wt rfl ?_
  rw [show startD c_Mix_weight.ns [d, .int i] = [some d, some (.int i)] from rfl]
  unfold c_Mix_weight
  dsimp only
  generalize ws.getD i.toNat 0 = v at g k ⊢
  simp [g, k, f]
theorem mb_run (j : Nat) (p : Int) (ws : List Int) (S : Store) : run P (j + 1) "Mix.__bool__" [mixD p ws] S = .ok (.bl (decide (supL ws ≠ []))) S := by
  have f := mx_w h (S := S) (p := p) (ws := ws)
  have b : biX P (run P j) .any S [.lst (ws.map .int)] = .ok (.bl (decide (supL ws ≠ []))) S := by
    rw [biX_any]
    show (match blsD (ws.map .int) with
      | some ns => Res.ok (D.bl (ns.any id)) S
      | none => .bad) = _
    rw [bls_ints]
    show Res.ok (D.bl _) S = _
    rw [any_sup]
  refine run_by h.bool rfl ?_
  rw [show startD c_Mix___bool__.ns [mixD p ws] = [some (mixD p ws)] from rfl]
  unfold c_Mix___bool__
  dsimp only
  generalize D.lst (ws.map .int) = L at f b
  simp [f, b, -biX_any]
theorem mb_at (j : Nat) {S : Store} {d : D} {p : Int} {ws : List Int} (m : MixAt S d p ws) : biX P (run P (j + 1)) .bool S [d] = .ok (.bl (decide (supL ws ≠ []))) S := by
  obtain ⟨w, e1, e2, e3⟩ := m
  have z : biX P (run P (j + 1)) .bool S [d] = asBl (callO (run P (j + 1)) (P.meth "Mix" "__bool__") [d] S) id := by
    show (match insD S d with
      | some (c, _) => asBl (callO (run P (j + 1)) (P.meth c "__bool__") [d] S) id
      | none => biD .bool S [d]) = _
    rw [e1]
  rw [z]
  rw [h.meth (q := ("Mix.__bool__", .flat)) (by decide +kernel)]
  show asBl (flatK (run P (j + 1) "Mix.__bool__") [d] S) id = _
  rw [flatK_ok (rdL_cons e3 rfl) (mb_run h j p ws []) rfl]
  rfl
end
section
variable {P : Prog} (h : FldP P)
include h
theorem req_rr (j : Nat) (v p w q : Int) (S : Store) : callP (run P (j + 1)) "Residue.__eq__" [resD v p, resD w q] S = .ok (.bl (v == w && p == q)) S := by
  refine callP_ok (by simp) ?_ (pf_bl _) (S2 := [])
  rw [run_fn h.eq rfl]
  have st : startD c_Residue___eq__.ns [resD v p, resD w q] = [some (resD v p), some (resD w q)] := rfl
  rw [st]
  by_cases e : v = w <;> simp [c_Residue___eq__, fld_v h, fld_p h, isR_cls h, e]
theorem req_ri (j : Nat) (v p i : Int) (S : Store) : callP (run P (j + 1)) "Residue.__eq__" [resD v p, .int i] S = .ok (.bl false) S := by
  refine callP_ok (by simp) ?_ (pf_bl _) (S2 := [])
  rw [run_fn h.eq rfl]
  have st : startD c_Residue___eq__.ns [resD v p, .int i] = [some (resD v p), some (.int i)] := rfl
  rw [st]
  simp [c_Residue___eq__, isI_cls h]
theorem rceq_rr (j : Nat) (v p w q : Int) (S : Store) : cmpX P (run P (j + 1)) .eq S (resD v p) (resD w q) = .ok (.bl (v == w && p == q)) S := by
  show asBl (callO _ (P.meth "Residue" "__eq__") _ _) _ = _
  rw [mt_eq h]
  rw [callO_some, callM_pure, req_rr h]
  simp [show (Cop.eq == Cop.ne) = false from rfl]
theorem rceq_ri (j : Nat) (v p i : Int) (S : Store) : cmpX P (run P (j + 1)) .eq S (resD v p) (.int i) = .ok (.bl false) S := by
  show asBl (callO _ (P.meth "Residue" "__eq__") _ _) _ = _
  rw [mt_eq h]
  rw [callO_some, callM_pure, req_ri h]
  rfl
end
/-- a live mix at n, its weights at n + 1 -/
def Mk (p : Int) (N : Nat) (S : Store) (n : Nat) : Prop := ∃ W : List Int, MixC S n (n + 1) p W ∧ W.length = N ∧ ∀ w ∈ W, 0 ≤ w ∧ w < p
theorem mkn_new {p : Int} {N : Nat} {S : Store} {W : List Int} (h1 : W.length = N) (h2 : ∀ w ∈ W, 0 ≤ w ∧ w < p) : Mk p N (newMx S p W) S.length := ⟨W, ⟨by unfold newMx; simp, by unfold newMx; simp⟩, h1, h2⟩
theorem mkn_app {p q : Int} {N n : Nat} {S : Store} {W : List Int} (h : Mk p N S n) : Mk p N (newMx S q W) n := by
  obtain ⟨V, ⟨a, b⟩, c⟩ := h
  exact ⟨V, ⟨get_app a, get_app b⟩, c⟩
theorem new_len {p : Int} {S : Store} {W : List Int} : (newMx S p W).length = S.length + 2 := by unfold newMx; simp
theorem red_rng {p : Int} (hp : 0 < p) (ws : List Int) : ∀ w ∈ ws.map (fun w => w % p), 0 ≤ w ∧ w < p := fun w hw => by
  obtain ⟨x, _, rfl⟩ := List.mem_map.mp hw
  exact ⟨Int.emod_nonneg x (by omega), Int.emod_lt_of_pos x hp⟩
theorem frz_mixC {S : Store} {n m : Nat} {p : Int} {ws : List Int} (c : MixC S n m p ws) (hnm : n ≠ m) : ∃ S', frzE S (.ptr n) = .ok (mixD p ws) S' := by
  refine ⟨(S.set m (.frz (.lst (ws.map .int)))).set n (.frz (mixD p ws)), ?_⟩
  unfold frzE frzK
  have e2 : frzD 5 S (.ptr m) = some (.lst (ws.map .int), S.set m (.frz (.lst (ws.map .int)))) := frz_lst 4 c.2 (by simp)
  have e3 : frzF (frzD 5) S [("prime", .int p), ("_weights", .ptr m)] = some ([("prime", .int p), ("_weights", .lst (ws.map .int))], S.set m (.frz (.lst (ws.map .int)))) := by
    unfold frzF
    rw [frzD_pf (pf_int p)]
    simp only []
    unfold frzF
    rw [e2]
    simp only []
    unfold frzF
    rfl
  have e4 : frzD 6 S (.ptr n) = some (mixD p ws, (S.set m (.frz (.lst (ws.map .int)))).set n (.frz (mixD p ws))) := by
    unfold frzD
    rw [if_neg (by unfold D.pf; decide)]
    simp only [c.1, e3]
    rw [List.getElem?_set_ne (Ne.symm hnm), c.1]
    rfl
  rw [e4]
theorem frz_new {S : Store} {p : Int} {ws : List Int} : ∃ S', frzE (newMx S p ws) (.ptr S.length) = .ok (mixD p ws) S' := frz_mixC (m := S.length + 1) ⟨by unfold newMx; simp, by unfold newMx; simp⟩ (by omega)
theorem rep_red (n : Nat) (p k : Int) : (List.replicate n k).map (fun w => w % p) = List.replicate n (k % p) := List.map_replicate
/-- a list of one number, n times -/
theorem rep_ok {pr : Prog} {cb : Cb} {S : Store} {n k : Int} (h0 : 0 ≤ n) (h9 : n ≤ 1000) : binX pr cb .mul S (.lst [.int k]) (.int n) = .ok (.lst ((List.replicate n.toNat k).map .int)) S := by
  have : sizeLine = 16777216 := rfl
  have e : (List.replicate n.toNat [D.int k]).flatten = (List.replicate n.toNat k).map .int := by
    rw [List.map_replicate]
    generalize n.toNat = m
    induction m with
    | zero => rfl
    | succ m ih => simp [List.replicate_succ, ih]
  rw [binX_n rfl rfl]
  show (if -(2 ^ 63) ≤ n ∧ n < 2 ^ 63 ∧ [D.int k].length * n.toNat ≤ sizeLine then Res.ok (D.lst (List.replicate n.toNat [D.int k]).flatten) S else .bad) = _
  rw [if_pos ⟨by omega, by omega, by simp; omega⟩, e]
theorem step_mk {r : Res D} {S : Store} {p : Int} {N a : Nat} {W : List Int} (e : r = .ok (.ptr S.length) (newMx S p W)) (h1 : W.length = N) (h2 : ∀ w ∈ W, 0 ≤ w ∧ w < p) (hl : S.length = a) : ∃ T, r = .ok (.ptr a) T ∧ T.length = a + 2 ∧ (∀ n, Mk p N S n → Mk p N T n) ∧ Mk p N T a := by
  subst hl
  exact ⟨_, e, new_len, fun n k => mkn_app k, mkn_new h1 h2⟩
theorem cat_lst {pr : Prog} {cb : Cb} {S : Store} {xs ys : List D} (h : xs.length + ys.length ≤ 16777216) : binX pr cb .add S (.lst xs) (.lst ys) = .ok (.lst (xs ++ ys)) S := by
  rw [binX_n rfl rfl]
  show (if xs.length + ys.length ≤ sizeLine then Res.ok (D.lst (xs ++ ys)) S else .bad) = _
  rw [if_pos (show _ ≤ sizeLine from h)]
theorem neg_m {P : Prog} (h : MixP P) (j : Nat) {S : Store} {d : D} {p : Int} {ws : List Int} (m : MixAt S d p ws) (hp : Pm p) (h9 : p ≤ 97) (hl : ws.length ≤ 9) (hr : ∀ w ∈ ws, 0 ≤ w ∧ w < p) :
    negX P (run P (j + 5)) S d = .ok (.ptr S.length) (newMx S p ((ws.map fun v => v * (-1)).map fun w => w % p)) := by
  have r := mneg_run h j m hp h9 hl hr
  obtain ⟨w, e1, _, _⟩ := m
  unfold negX
  rw [e1]
  show callO (run P (j + 5)) (P.meth "Mix" "__neg__") _ _ = _
  rw [h.meth (q := ("Mix.__neg__", .st)) (by decide +kernel)]
  exact r
theorem Mk.keep {p : Int} {N n m : Nat} {S S' : Store} (h : Mk p N S n) (k : ∀ k, k < S.length → k ≠ m → S'[k]? = S[k]?) (h1 : n ≠ m) (h2 : n + 1 ≠ m) : Mk p N S' n := by
  obtain ⟨W, ⟨a, b⟩, c⟩ := h
  exact ⟨W, ⟨by rw [k n (List.getElem?_eq_some_iff.mp a).1 h1]; exact a, by rw [k (n + 1) (List.getElem?_eq_some_iff.mp b).1 h2]; exact b⟩, c⟩
/-- a loop that checks, and changes its own name alone -/
theorem for_chk {f : D → DSt → Store → SR} {t : Nat} {S : Store} {σ : DSt} : ∀ {xs : List D}, (∀ x ∈ xs, ∀ o, f x (σ.set t o) S = .nx (σ.set t (some x)) S) → ∀ o, ∃ o', forL f xs (σ.set t o) S = .nx (σ.set t o') S
  | [], _, o => ⟨o, rfl⟩
  | x :: xs, h, o => by
    obtain ⟨o', e⟩ := for_chk (f := f) (xs := xs) (fun y hy => h y (List.mem_cons_of_mem _ hy)) (some x)
    exact ⟨o', by rw [for_cons, h x List.mem_cons_self, loopR_nx, e]⟩
theorem frzD_mixC {S : Store} {n m : Nat} {p : Int} {ws : List Int} (k : Nat) (c : MixC S n m p ws) (hnm : n ≠ m) : frzD (k + 2) S (.ptr n) = some (mixD p ws, (S.set m (.frz (.lst (ws.map .int)))).set n (.frz (mixD p ws))) := by
  have e2 : frzD (k + 1) S (.ptr m) = some (.lst (ws.map .int), S.set m (.frz (.lst (ws.map .int)))) := frz_lst k c.2 (by simp)
  have e3 : frzF (frzD (k + 1)) S [("prime", .int p), ("_weights", .ptr m)] = some ([("prime", .int p), ("_weights", .lst (ws.map .int))], S.set m (.frz (.lst (ws.map .int)))) := by
    unfold frzF
    rw [frzD_pf (pf_int p)]
    simp only []
    unfold frzF
    rw [e2]
    simp only []
    unfold frzF
    rfl
  unfold frzD
  rw [if_neg (by unfold D.pf; decide)]
  simp only [c.1, e3]
  rw [List.getElem?_set_ne (Ne.symm hnm), c.1]
  rfl
theorem frzL_mixes (k : Nat) : ∀ (ms : List (Nat × Int × List Int)) (S : Store), ms.Pairwise (fun a b => a.1 + 1 < b.1) → (∀ m ∈ ms, MixC S m.1 (m.1 + 1) m.2.1 m.2.2) →
    ∃ S', frzL (frzD (k + 2)) S (ms.map fun m => .ptr m.1) = some (ms.map fun m => mixD m.2.1 m.2.2, S') ∧ ∀ i, (∀ m ∈ ms, i ≠ m.1 ∧ i ≠ m.1 + 1) → S'[i]? = S[i]?
  | [], S, _, _ => ⟨S, rfl, fun _ _ => rfl⟩
  | m :: ms, S, pw, H => by
    have pw := List.pairwise_cons.mp pw
    have e := frzD_mixC k (H m List.mem_cons_self) (by omega)
    have kp : ∀ i, i ≠ m.1 ∧ i ≠ m.1 + 1 → ((S.set (m.1 + 1) (.frz (.lst (m.2.2.map .int)))).set m.1 (.frz (mixD m.2.1 m.2.2)))[i]? = S[i]? := fun i hi => by
      rw [List.getElem?_set_ne (Ne.symm hi.1), List.getElem?_set_ne (Ne.symm hi.2)]
    obtain ⟨S', e', kp'⟩ := frzL_mixes k ms _ pw.2 (fun q hq => by
      have a := pw.1 q hq
      have b := H q (List.mem_cons_of_mem _ hq)
      exact ⟨by rw [kp _ ⟨by omega, by omega⟩]; exact b.1, by rw [kp _ ⟨by omega, by omega⟩]; exact b.2⟩)
    refine ⟨S', ?_, fun i hi => by rw [kp' i fun q hq => hi q (List.mem_cons_of_mem _ hq), kp i (hi m List.mem_cons_self)]⟩
    rw [List.map_cons, List.map_cons]
    unfold frzL
    rw [e]
    simp only [e']
/-- a live list of live mixes, frozen -/
theorem frz_mixes {S : Store} {c : Nat} (ms : List (Nat × Int × List Int)) (hc : S[c]? = some (.lst (ms.map fun m => .ptr m.1))) (pw : ms.Pairwise (fun a b => a.1 + 1 < b.1)) (H : ∀ m ∈ ms, MixC S m.1 (m.1 + 1) m.2.1 m.2.2) (nc : ∀ m ∈ ms, c ≠ m.1 ∧ c ≠ m.1 + 1) : ∃ S', frzE S (.ptr c) = .ok (.lst (ms.map fun m => mixD m.2.1 m.2.2)) S' := by
  obtain ⟨S', e, kp⟩ := frzL_mixes 3 ms S pw H
  have z : frzD 6 S (.ptr c) = some (.lst (ms.map fun m => mixD m.2.1 m.2.2), S'.set c (.frz (.lst (ms.map fun m => mixD m.2.1 m.2.2)))) := by
    unfold frzD
    rw [if_neg (by unfold D.pf; decide)]
    simp only [hc, e, kp c nc]
  refine ⟨S'.set c (.frz (.lst (ms.map fun m => mixD m.2.1 m.2.2))), ?_⟩
  unfold frzE frzK
  rw [z]
theorem mixC_new {S : Store} {p : Int} {W : List Int} : MixC (newMx S p W) S.length (S.length + 1) p W := ⟨by unfold newMx; simp, by unfold newMx; simp⟩
theorem MixC.app {S T : Store} {n m : Nat} {p : Int} {W : List Int} (c : MixC S n m p W) : MixC (S ++ T) n m p W := ⟨get_app c.1, get_app c.2⟩
theorem MixC.set_ {S : Store} {n m k : Nat} {d : Cell} {p : Int} {W : List Int} (c : MixC S n m p W) (h1 : k ≠ n) (h2 : k ≠ m) : MixC (S.set k d) n m p W := ⟨by rw [List.getElem?_set_ne h1]; exact c.1, by rw [List.getElem?_set_ne h2]; exact c.2⟩
theorem if_t {pr : Prog} {cb : Cb} {c : E} {b : Sx} {σ σ' : DSt} {S S' : Store} (hc : evE pr cb c σ S = .ok (.bl true) S) (hb : exS pr cb b σ S = .nx σ' S') : exS pr cb (.ifs c (.seq b .nil) .nil) σ S = .nx σ' S' := by
  rw [ex_ifs, hc, sr_ok]
  show selS (some true) _ _ = _
  rw [selS_some, if_pos rfl, ex_seq, hb]
  rfl
theorem if_f {pr : Prog} {cb : Cb} {c : E} {a : Sx} {σ : DSt} {S : Store} (hc : evE pr cb c σ S = .ok (.bl false) S) : exS pr cb (.ifs c a .nil) σ S = .nx σ S := by
  rw [ex_ifs, hc, sr_ok]
  show selS (some false) _ _ = _
  rw [selS_some, if_neg (by decide)]
  rfl
theorem pm5 : Pm 5 := pm_pB (n := 5) (by decide +kernel) (by omega)
theorem pm7 : Pm 7 := pm_pB (n := 7) (by decide +kernel) (by omega)
theorem for_chkS {f : D → DSt → Store → SR} {t : Nat} {σ : DSt} : ∀ {xs : List D}, (∀ x ∈ xs, ∀ o S, ∃ S', f x (σ.set t o) S = .nx (σ.set t (some x)) S') → ∀ o S, ∃ o' S', forL f xs (σ.set t o) S = .nx (σ.set t o') S'
  | [], _, o, S => ⟨o, S, rfl⟩
  | x :: xs, h, o, S => by
    obtain ⟨S1, e1⟩ := h x List.mem_cons_self o S
    obtain ⟨o', S', e⟩ := for_chkS (f := f) (xs := xs) (fun y hy => h y (List.mem_cons_of_mem _ hy)) (some x) S1
    exact ⟨o', S', by rw [for_cons, e1, loopR_nx, e]⟩
/-- the primes of the laws' list -/
theorem pr8 {i : Int} (h0 : 0 ≤ i) (h : i < 8) : ∃ p : Int, (∀ S, idxD S (.lst [.int 2, .int 3, .int 5, .int 7, .int 11, .int 13, .int 53, .int 97]) (.int i) = .ok (.int p) S) ∧ Pm p ∧ p ≤ 97 := by
  have c : i = 0 ∨ i = 1 ∨ i = 2 ∨ i = 3 ∨ i = 4 ∨ i = 5 ∨ i = 6 ∨ i = 7 := by omega
  rcases c with rfl | rfl | rfl | rfl | rfl | rfl | rfl | rfl
  · exact ⟨2, fun S => rfl, pm_pB (n := 2) (by decide +kernel) (by omega), by omega⟩
  · exact ⟨3, fun S => rfl, pm_pB (n := 3) (by decide +kernel) (by omega), by omega⟩
  · exact ⟨5, fun S => rfl, pm_pB (n := 5) (by decide +kernel) (by omega), by omega⟩
  · exact ⟨7, fun S => rfl, pm_pB (n := 7) (by decide +kernel) (by omega), by omega⟩
  · exact ⟨11, fun S => rfl, pm_pB (n := 11) (by decide +kernel) (by omega), by omega⟩
  · exact ⟨13, fun S => rfl, pm_pB (n := 13) (by decide +kernel) (by omega), by omega⟩
  · exact ⟨53, fun S => rfl, pm_pB (n := 53) (by decide +kernel) (by omega), by omega⟩
  · exact ⟨97, fun S => rfl, pm_pB (n := 97) (by decide +kernel) (by omega), by omega⟩
theorem zip_rng (f : Int → Int → Int) {a b : List Int} {n : Nat} (ha : a.length = n) (hb : b.length = n) : (List.range n).map (fun k => f (a.getD k 0) (b.getD k 0)) = List.zipWith f a b := by
  apply List.ext_getElem
  · simp [ha, hb]
  · intro i h1 h2
    simp at h1
    simp [List.getElem?_eq_getElem (show i < a.length by omega), List.getElem?_eq_getElem (show i < b.length by omega)]
theorem comp_rng {pr : Prog} {cb : Cb} {σ : DSt} {S : Store} {own : List Nat} {t : Nat} {it elt : E} {n : Nat} {g : Nat → Int} (hn : n ≤ 1000) (hi : evE pr cb it σ S = .ok (.int (n : Int)) S) (he : ∀ k, k < n → evE pr cb elt ((wipeD σ own).set t (some (.int (k : Int)))) S = .ok (.int (g k)) S) :
    evE pr cb (.comp false own .seq (.n t) (.irng1 it) (.bl true) elt) σ S = .ok (.lst (((List.range n).map g).map .int)) S := by
  have r := ev_rng1 hi (by omega)
  rw [Int.toNat_natCast] at r
  rw [comp_map (g := fun d => match d with
    | .int k => .int (g k.toNat)
    | d => d) r (fun x hx => by
      obtain ⟨k, hk, rfl⟩ := List.mem_map.mp hx
      exact he k (List.mem_range.mp hk)) (by simp; have : sizeLine = 16777216 := rfl; omega), List.map_map, List.map_map]
  rfl
theorem add_red (p : Int) : ∀ a b : List Int, (List.zipWith (fun x y => x + y) (a.map fun w => w % p) (b.map fun w => w % p)).map (fun w => w % p) = (List.zipWith (fun x y => x + y) a b).map fun w => w % p
  | [], _ => by simp
  | _ :: _, [] => by simp
  | x :: a, y :: b => by
    have := add_red p a b
    simp only [List.map_cons, List.zipWith_cons_cons, this]
    rw [← Int.add_emod]
theorem sub_red (p : Int) : ∀ a b : List Int, (List.zipWith (fun x y => x - y) (a.map fun w => w % p) (b.map fun w => w % p)).map (fun w => w % p) = (List.zipWith (fun x y => x - y) a b).map fun w => w % p
  | [], _ => by simp
  | _ :: _, [] => by simp
  | x :: a, y :: b => by
    have := sub_red p a b
    simp only [List.map_cons, List.zipWith_cons_cons, this]
    rw [← Int.sub_emod]
theorem mul_redk (p k : Int) (vs : List Int) : ((vs.map fun w => w % p).map fun v => v * k).map (fun w => w % p) = (vs.map fun w => w * k).map fun w => w % p := by
  rw [List.map_map, List.map_map, List.map_map]
  refine List.map_congr_left fun w _ => ?_
  show (w % p * k) % p = w * k % p
  rw [Int.mul_emod, Int.emod_emod_of_dvd _ (Int.dvd_refl p), ← Int.mul_emod]
theorem zero_red (p k : Int) (hk : k % p = 0) (vs : List Int) : (vs.map fun v => v * k).map (fun w => w % p) = (List.replicate vs.length 0).map fun w => w % p := by
  rw [List.map_map, List.map_replicate]
  apply List.ext_getElem
  · simp
  · intro i h1 h2
    simp [Int.mul_emod, hk]
theorem mmk_ptr {P : Prog} (h : MixP P) (j : Nat) {p : Int} {k : Nat} {ws : List Int} {S : Store} (hp : Pm p) (h9 : p ≤ 97) (hk : S[k]? = some (.lst (ws.map .int))) (hl : ws.length ≤ 9) : mkX P (run P (j + 3)) "Mix" [.int p, .ptr k] S = .ok (.ptr S.length) (newMx S p (ws.map fun w => w % p)) := by
  have kl : k < S.length := (List.getElem?_eq_some_iff.mp hk).1
  have sq : ∀ T : Store, T[k]? = some (.lst (ws.map .int)) → SeqAt T (.ptr k) ws := fun T e => SeqAt.look (look_ptr_lst e)
  rw [MixP.mk_eq h]
  show mkK (run P (j + 3) "Mix.__init__") "Mix" [.int p, .ptr k] S = _
  unfold mkK
  rw [mini_run h j (n := S.length) (by simp) hp h9 (sq _ (get_app hk)) (fun c => sq _ (by rw [List.getElem?_set_ne (by omega)]; exact get_app hk)) hl]
  show Res.ok (D.ptr S.length) _ = _
  congr 1
  unfold newMx
  simp
theorem frz_new_keep {S : Store} {p : Int} {ws : List Int} : ∃ S', frzE (newMx S p ws) (.ptr S.length) = .ok (mixD p ws) S' ∧ ∀ i, i < S.length → S'[i]? = S[i]? := by
  have e := frzD_mixC 4 (mixC_new (S := S) (p := p) (W := ws)) (by omega)
  refine ⟨((newMx S p ws).set (S.length + 1) (.frz (.lst (ws.map .int)))).set S.length (.frz (mixD p ws)), ?_, fun i hi => ?_⟩
  · unfold frzE frzK
    rw [e]
  · rw [List.getElem?_set_ne (by omega), List.getElem?_set_ne (by omega)]
    unfold newMx
    rw [List.getElem?_append_left hi]
theorem for_invS {f : D → DSt → Store → SR} {I : DSt → Store → Prop} : ∀ {xs : List D}, (∀ x ∈ xs, ∀ σ S, I σ S → ∃ σ' S', f x σ S = .nx σ' S' ∧ I σ' S') → ∀ σ S, I σ S → ∃ σ' S', forL f xs σ S = .nx σ' S' ∧ I σ' S'
  | [], _, σ, S, i => ⟨σ, S, rfl, i⟩
  | x :: xs, h, σ, S, i => by
    obtain ⟨σ1, S1, e1, i1⟩ := h x List.mem_cons_self σ S i
    obtain ⟨σ2, S2, e2, i2⟩ := for_invS (f := f) (xs := xs) (fun y hy => h y (List.mem_cons_of_mem _ hy)) σ1 S1 i1
    exact ⟨σ2, S2, by rw [for_cons, e1, loopR_nx, e2], i2⟩
theorem due_ev {pr : Prog} {cb : Cb} {op : Bop} {f : Int → Int → Int} (hop : ∀ a b S, binX pr cb op S (.int a) (.int b) = .ok (.int (f a b)) S) {σ : DSt} {S : Store} {a b : List Int} {n : Nat} (hn : n ≤ 9) (ha : a.length = n) (hb : b.length = n) {i3 i4 i5 t : Nat} (h3 : σ[i3]? = some (some (.int n))) (h4 : σ[i4]? = some (some (.lst (a.map .int)))) (h5 : σ[i5]? = some (some (.lst (b.map .int)))) (ht : t < σ.length) (n4 : t ≠ i4) (n5 : t ≠ i5) :
    evE pr cb (.comp false [t] .seq (.n t) (.irng1 (.var i3)) (.bl true) (.bin op (.idx (.var i4) (.var t)) (.idx (.var i5) (.var t)))) σ S = .ok (.lst ((List.zipWith f a b).map .int)) S := by
  rw [comp_rng (n := n) (g := fun k => f (a.getD k 0) (b.getD k 0)) (by omega) (by rw [ev_var, h3]; rfl) (fun k hk => ?_), zip_rng f ha hb]
  have w : wipeD σ [t] = σ.set t none := rfl
  rw [w, List.set_set]
  have j1 := getD_idx (S := S) (xs := a) (i := (k : Int)) (by omega) (by omega)
  have j2 := getD_idx (S := S) (xs := b) (i := (k : Int)) (by omega) (by omega)
  rw [Int.toNat_natCast] at j1 j2
  simp only [ev_bin, ev_idx, ev_var, List.getElem?_set_ne n4, List.getElem?_set_ne n5, List.getElem?_set_self ht, h4, h5, slot_some, bind_ok, idxX_lst, j1, j2, hop]
theorem sup_ev {pr : Prog} {cb : Cb} {σ : DSt} {S : Store} {a : List Int} {p : Int} {n : Nat} (hp : 0 < p) (hn : n ≤ 9) (ha : a.length = n) {i2 i3 i4 t : Nat} (h2 : σ[i2]? = some (some (.int p))) (h3 : σ[i3]? = some (some (.int n))) (h4 : σ[i4]? = some (some (.lst (a.map .int)))) (ht : t < σ.length) (n2 : t ≠ i2) (n4 : t ≠ i4) :
    evE pr cb (.comp false [t] .seq (.n t) (.irng1 (.var i3)) (.cnd (.cmp .ne (.bin .mod (.bi .int (.acons (.idx (.var i4) (.var t)) .anil)) (.var i2)) (.int 0))) (.var t)) σ S = .ok (.lst ((supL (a.map fun w => w % p)).map .int)) S := by
  have r := ev_rng1 (pr := pr) (cb := cb) (e := .var i3) (σ := σ) (S := S) (S1 := S) (n := (n : Int)) (by rw [ev_var, h3]; rfl) (by omega)
  rw [Int.toNat_natCast] at r
  have sz : sizeLine = 16777216 := rfl
  rw [ev_comp, r, bind_ok, srcD_seq, still_lst, items_lst, seqG_t, compG_ok, compK_true]
  have z : compL (compF pr cb [t] t (.cnd (.cmp .ne (.bin .mod (.bi .int (.acons (.idx (.var i4) (.var t)) .anil)) (.var i2)) (.int 0))) (.var t) σ) ((List.range n).map fun (k : Nat) => D.int (k : Int)) S = .ok (((List.range n).map fun (k : Nat) => D.int (k : Int)).filterMap fun d => match d with
      | .int k => if (a.map fun w => w % p).getD k.toNat 0 = 0 then none else some (.int k)
      | _ => none) S := compL_filt (g := fun d => match d with
      | .int k => if (a.map fun w => w % p).getD k.toNat 0 = 0 then none else some (.int k)
      | _ => none) fun x hx => by
    obtain ⟨k, hk, rfl⟩ := List.mem_map.mp hx
    have hk := List.mem_range.mp hk
    have w : wipeD σ [t] = σ.set t none := rfl
    have j1 := getD_idx (S := S) (xs := a) (i := (k : Int)) (by omega) (by omega)
    rw [Int.toNat_natCast] at j1
    have g : (a.map fun w => w % p).getD k 0 = a.getD k 0 % p := by
      simp [List.getElem?_eq_getElem (show k < a.length by omega)]
    have e4 : (σ.set t (some (.int (k : Int))))[i4]? = some (some (.lst (a.map .int))) := by rw [List.getElem?_set_ne n4]; exact h4
    have e2 : (σ.set t (some (.int (k : Int))))[i2]? = some (some (.int p)) := by rw [List.getElem?_set_ne n2]; exact h2
    have et : (σ.set t (some (.int (k : Int))))[t]? = some (some (.int (k : Int))) := List.getElem?_set_self ht
    show compF pr cb [t] t _ _ σ (.int (k : Int)) S = .ok (if (a.map fun w => w % p).getD (k : Int).toNat 0 = 0 then none else some (.int (k : Int))) S
    rw [Int.toNat_natCast, g]
    unfold compF
    rw [w, List.set_set]
    generalize a.getD k 0 = v at *
    by_cases q : v % p = 0
    · simp [e4, e2, et, j1, bin_mod hp, q]
    · simp [e4, e2, et, j1, bin_mod hp, q]
  rw [z, bind_ok]
  have e : (((List.range n).map fun (k : Nat) => D.int (k : Int)).filterMap fun d => match d with
      | .int k => if (a.map fun w => w % p).getD k.toNat 0 = 0 then none else some (.int k)
      | _ => none) = (supL (a.map fun w => w % p)).map D.int := by
    unfold supL
    rw [List.filterMap_map, List.map_filterMap, List.length_map, ha]
    congr 1
    funext k
    show (if (a.map fun w => w % p).getD (k : Int).toNat 0 = 0 then none else some (D.int (k : Int))) = _
    rw [Int.toNat_natCast]
    by_cases q : (a.map fun w => w % p).getD k 0 = 0
    · rw [if_pos q, if_pos q]; rfl
    · rw [if_neg q, if_neg q]; rfl
  have := sup_le (a.map fun w => w % p)
  rw [List.length_map] at this
  rw [e, if_pos (by rw [List.length_map]; omega), newL_f]
theorem dp_lsti (n : Nat) (a : List Int) : dpD (n + 1) (.lst (a.map .int)) = true := dp_ints n a
theorem eq_ints {pr : Prog} {cb : Cb} {S : Store} (a b : List Int) : cmpX pr cb .eq S (.lst (a.map .int)) (.lst (b.map .int)) = .ok (.bl (decide (a = b))) S := by
  rw [cmpX_lst]
  show ofB S (eqO (.lst (a.map .int)) (.lst (b.map .int))) = _
  rw [eqO_of (dp_lsti 7 _) (dp_lsti 7 _), eqB_lst, eqBL_ints]
  rfl
theorem ne_nilL {pr : Prog} {cb : Cb} {S : Store} (a : List Int) : cmpX pr cb .ne S (.lst (a.map .int)) (.lst []) = .ok (.bl (decide (a ≠ []))) S := by
  rw [cmpX_lst]
  show ofB S (notO (eqO (.lst (a.map .int)) (.lst (([] : List Int).map .int)))) = _
  rw [eqO_of (dp_lsti 7 _) (dp_lsti 7 _), eqB_lst, eqBL_ints]
  show Res.ok (D.bl (!decide (a = []))) S = _
  by_cases q : a = [] <;> simp [q]
theorem sz_sup {ws : List Int} (h : ws.length ≤ 1000) : szD 7 (.tup (ws.map .int)) = true := by
  show (decide ((ws.map D.int).length < 2 ^ 62) && (ws.map D.int).all (szD 6)) = true
  rw [Bool.and_eq_true, decide_eq_true_eq, List.length_map, List.all_eq_true]
  refine ⟨by omega, fun d hd => ?_⟩
  obtain ⟨i, _, rfl⟩ := List.mem_map.mp hd
  exact sz_int 6 i
theorem mm_sup {P : Prog} (hm : P.meth "Mix" "support" = some ("Mix.support", .st)) {S : Store} {d : D} {p : Int} {ws : List Int} (m : MixAt S d p ws) : methD P "support" S d = some ("Mix.support", .st) := by
  obtain ⟨w, e1, _, _⟩ := m
  unfold methD
  rw [e1]
  show (if (([("prime", D.int p), ("_weights", w)] : List (String × D)).lookup "support").isNone then P.meth "Mix" "support" else none) = _
  rw [hm]
  rfl
theorem mm_wt {P : Prog} (h : MixP P) {S : Store} {d : D} {p : Int} {ws : List Int} (m : MixAt S d p ws) : methD P "weight" S d = some ("Mix.weight", .st) := by
  obtain ⟨w, e1, _, _⟩ := m
  exact mx_m h e1 rfl (by decide +kernel)
theorem seq_E {pr : Prog} {cb : Cb} {a b : Sx} {σ σ1 : DSt} {S S1 : Store} {d : D} (h : exS pr cb a σ S = .nx σ1 S1) (k : ∃ S', exS pr cb b σ1 S1 = .rt d S') : ∃ S', exS pr cb (.seq a b) σ S = .rt d S' := by
  obtain ⟨S', k⟩ := k
  exact ⟨S', seq_stp h k⟩
end MX
end

section
set_option maxRecDepth 100000
set_option maxHeartbeats 4000000
namespace MX
open PySem
theorem ev_scall {pr : Prog} {cb : Cb} {c x f : String} {m : Mode} {as : E} {σ : DSt} {S : Store} (h : pr.stat c x = some (f, m)) : evE pr cb (.scall c x as) σ S = (evE pr cb as σ S).bind fun y S1 => callM cb m f (unT y) S1 := by
  show (match pr.stat c x with
    | some (f, m) => (evE pr cb as σ S).bind fun y S1 => callM cb m f (unT y) S1
    | none => .bad) = _
  rw [h]
theorem ifs_f {pr : Prog} {cb : Cb} {c : E} {a b : Sx} {σ : DSt} {S : Store} (hc : evE pr cb c σ S = .ok (.bl false) S) : exS pr cb (.ifs c a b) σ S = exS pr cb b σ S := by
  rw [ex_ifs, hc, sr_ok]
  show selS (some false) _ _ = _
  rw [selS_some, if_neg (by decide)]
theorem ifs_t {pr : Prog} {cb : Cb} {c : E} {a b : Sx} {σ : DSt} {S : Store} (hc : evE pr cb c σ S = .ok (.bl true) S) : exS pr cb (.ifs c a b) σ S = exS pr cb a σ S := by
  rw [ex_ifs, hc, sr_ok]
  show selS (some true) _ _ = _
  rw [selS_some, if_pos rfl]
theorem ev_prop {pr : Prog} {cb : Cb} {x : String} {o : E} {σ : DSt} {S : Store} : evE pr cb (.prop x o) σ S = (evE pr cb o σ S).bind fun d S1 => propX pr cb x S1 d := rfl
def xMis : Exn := ⟨"Mismatch", []⟩
def xInv : Exn := ⟨"NoInverse", []⟩
def xPrm (p : Int) : Exn := ⟨"NotPrime", [("value", .int p)]⟩
def xSiz (n : Int) : Exn := ⟨"BadSize", [("size", .int n)]⟩
def xPce (i : Int) : Exn := ⟨"NoPiece", [("piece", .int i)]⟩
section
variable {P : Prog} (h : MixP P)
include h
theorem mfit_ex (j : Nat) (p q : Int) (ws vs : List Int) (hl : ¬ (p = q ∧ ws.length = vs.length)) (h9 : vs.length ≤ 1000) (S : Store) : run P (j + 2) "Mix.check_fit" [mixD p ws, mixD q vs] S = .ex xMis S := by
  rw [run_fn h.fit rfl]
  have st : startD c_Mix_check_fit.ns [mixD p ws, mixD q vs] = [some (mixD p ws), some (mixD q vs)] := rfl
  rw [st]
  have c := ml_at h j (S := S) (MixAt.pure (p := q) (ws := vs)) (by omega)
  have rz : exS P (run P (j + 1)) (.raise "Mismatch" .anil) [some (mixD p ws), some (mixD q vs)] S = .ex xMis [some (mixD p ws), some (mixD q vs)] S := raise_none h.f.xM rfl
  by_cases e : p = q
  · have e2 : ¬ ws.length = vs.length := fun z => hl ⟨e, z⟩
    have e3 : ((ws.length : Int) == (vs.length : Int)) = false := by
      rw [beq_eq_false_iff_ne]
      omega
    simp [c_Mix_check_fit, mx_p h, mx_w h, c, e, e3, rz] at rz ⊢
    simp [rz]
  · have e3 : (p == q) = false := by rw [beq_eq_false_iff_ne]; exact e
    simp [c_Mix_check_fit, mx_p h, mx_w h, c, e3, rz]
theorem cfit_ex (j : Nat) {S : Store} {d e : D} {p q : Int} {ws vs : List Int} (m : MixAt S d p ws) (k : MixAt S e q vs) (hl : ¬ (p = q ∧ ws.length = vs.length)) (h9 : vs.length ≤ 1000) : flatK (run P (j + 2) "Mix.check_fit") [d, e] S = .ex xMis S := by
  obtain ⟨_, _, _, e3⟩ := m
  obtain ⟨_, _, _, f3⟩ := k
  exact flatK_ex (rdL_cons e3 (rdL_cons f3 rfl)) (mfit_ex h j p q ws vs hl h9 []) rfl
theorem bx_mix_ex (j : Nat) {op : Bop} (hop : op = .add ∨ op = .sub) {S : Store} {d e : D} {p q : Int} {ws vs : List Int} (m : MixAt S d p ws) (k : MixAt S e q vs) (hl : ¬ (p = q ∧ ws.length = vs.length)) (h9 : vs.length ≤ 1000) :
    binX P (run P (j + 4)) op S d e = .ex xMis S := by
  have c1 := cfit_ex h (j + 1) m k hl h9
  have is := isM_cls h k
  rw [bx_mm h m k]
  rcases hop with rfl | rfl
  · rw [h.meth (q := ("Mix.__add__", .st)) (by decide +kernel)]
    show run P (j + 4) "Mix.__add__" [d, e] S = _
    rw [run_fn h.add rfl]
    have st : startD c_Mix___add__.ns [d, e] = [some d, some e, none, none] := rfl
    rw [st]
    simp [c_Mix___add__, is, mm_fit h m, callM_fl, c1, -ev_comp, -ev_compT]
  · rw [h.meth (q := ("Mix.__sub__", .st)) (by decide +kernel)]
    show run P (j + 4) "Mix.__sub__" [d, e] S = _
    rw [run_fn h.sub rfl]
    have st : startD c_Mix___sub__.ns [d, e] = [some d, some e, none, none] := rfl
    rw [st]
    simp [c_Mix___sub__, is, mm_fit h m, callM_fl, c1, -ev_comp, -ev_compT]
theorem ax_mix_ex (j : Nat) {S : Store} {d e : D} {p q : Int} {ws vs : List Int} (m : MixAt S d p ws) (k : MixAt S e q vs) (hl : ¬ (p = q ∧ ws.length = vs.length)) (h9 : vs.length ≤ 1000) :
    augX P (run P (j + 4)) .add S d e = .ex xMis S := by
  have c1 := cfit_ex h (j + 1) m k hl h9
  have is := isM_cls h k
  have mf := mm_fit h m
  obtain ⟨w, e1, _, _⟩ := m
  unfold augX
  rw [e1]
  show callO (run P (j + 4)) (P.meth "Mix" "__iadd__") _ _ = _
  rw [h.meth (q := ("Mix.__iadd__", .st)) (by decide +kernel)]
  show run P (j + 4) "Mix.__iadd__" [d, e] S = _
  rw [run_fn h.iadd rfl]
  have st : startD c_Mix___iadd__.ns [d, e] = [some d, some e, none, none] := rfl
  rw [st]
  simp [c_Mix___iadd__, is, mf, callM_fl, c1, -ev_comp, -ev_compT]
theorem mscal_ex (j : Nat) (p v q : Int) (ws : List Int) (hq : p ≠ q) (S : Store) : run P (j + 1) "Mix.scalar" [mixD p ws, resD v q] S = .ex xMis S := by
  rw [run_fn h.scal rfl]
  have st : startD c_Mix_scalar.ns [mixD p ws, resD v q] = [some (mixD p ws), some (resD v q)] := rfl
  rw [st]
  have rz : exS P (run P j) (.raise "Mismatch" .anil) [some (mixD p ws), some (resD v q)] S = .ex xMis [some (mixD p ws), some (resD v q)] S := raise_none h.f.xM rfl
  have e3 : (q == p) = false := by rw [beq_eq_false_iff_ne]; exact Ne.symm hq
  simp [c_Mix_scalar, mx_p h, fld_p h.f, fld_v h.f, isR_int h.f, e3, rz]
theorem cscal_ex (j : Nat) {S : Store} {d : D} {p v q : Int} {ws : List Int} (m : MixAt S d p ws) (hq : p ≠ q) : flatK (run P (j + 1) "Mix.scalar") [d, resD v q] S = .ex xMis S := by
  obtain ⟨_, _, _, e3⟩ := m
  exact flatK_ex (rdL_cons e3 (rdL_cons (rdD_pf (by simp)) rfl)) (mscal_ex h j p v q ws hq []) rfl
theorem bx_res {cb : Cb} {op : Bop} {S : Store} {d : D} {p v q : Int} {ws : List Int} {f : String} {m' : Mode} {F : Fn} (hop : op = .mul ∨ op = .fdiv) (m : MixAt S d p ws) (hm : P.meth "Mix" op.dn = some (f, m')) (hf : P.fn f = some F) (hc : nimC F.body = some [.int, .cls "Residue"]) :
    binX P cb op S d (resD v q) = callO cb (P.meth "Mix" op.dn) [d, resD v q] S := by
  obtain ⟨w', e1, _, _⟩ := m
  have rk := MixP.rok h op (by rcases hop with rfl | rfl <;> simp)
  unfold binX
  rw [e1]
  show (if "Residue" = "Mix" then _ else if (P.rok "Mix" op && ((P.meth "Residue" op.dn).isSome && (P.meth "Residue" op.rn).isSome)) = true then binY P cb op "Mix" "Residue" S d (resD v q) else _) = _
  rw [if_neg (by decide), rk]
  have q1 : ((P.meth "Residue" op.dn).isSome && (P.meth "Residue" op.rn).isSome) = true := by
    rcases hop with rfl | rfl
    · rw [show P.meth "Residue" Bop.mul.dn = _ from mt_mul h.f, show P.meth "Residue" Bop.mul.rn = _ from mt_rmul h.f]
      rfl
    · rw [show P.meth "Residue" Bop.fdiv.dn = _ from mt_fdv h.f, show P.meth "Residue" Bop.fdiv.rn = _ from mt_rfdv h.f]
      rfl
  rw [q1]
  show binY P cb op "Mix" "Residue" S d (resD v q) = _
  unfold binY
  have q2 : nimB P (P.meth "Mix" op.dn) S (resD v q) = false := by
    unfold nimB
    rw [hm]
    simp only [hf, hc]
    rw [isO_at h (p := q) (w := v) (Or.inr rfl) S]
  rw [q2]
  rfl
theorem bx_res_l {cb : Cb} {S : Store} {d : D} {p v q : Int} {ws : List Int} (m : MixAt S d p ws) : binX P cb .mul S (resD v q) d = callO cb (P.meth "Mix" "__rmul__") [d, resD v q] S := by
  have hm : P.meth "Mix" Bop.mul.dn = some ("Mix.__mul__", .st) := h.meth (by decide +kernel)
  have hmr : P.meth "Mix" Bop.mul.rn = some ("Mix.__rmul__", .st) := h.meth (by decide +kernel)
  have m0 := m
  obtain ⟨w', e1, _, _⟩ := m
  unfold binX
  rw [e1]
  show (if "Mix" = "Residue" then _ else if (P.rok "Residue" .mul && ((P.meth "Mix" Bop.mul.dn).isSome && (P.meth "Mix" Bop.mul.rn).isSome)) = true then binY P _ .mul "Residue" "Mix" S (resD v q) d else _) = _
  rw [if_neg (by decide), FldP.rok h.f .mul, hm, hmr]
  show binY P _ .mul "Residue" "Mix" S (resD v q) d = _
  unfold binY
  have q2 : nimB P (P.meth "Residue" Bop.mul.dn) S d = true := by
    unfold nimB
    rw [show P.meth "Residue" Bop.mul.dn = _ from mt_mul h.f]
    simp only [h.f.mul]
    show (match isiXs P.kn S d [.int, .cls "Residue"] with
      | some false => decide (c_Residue___mul__.np = 2)
      | _ => false) = true
    rw [isM_o h m0]
    rfl
  rw [q2]
  rfl
theorem bx_res_ex (j : Nat) {op : Bop} (hop : op = .mul ∨ op = .fdiv) {S : Store} {d : D} {p v q : Int} {ws : List Int} (m : MixAt S d p ws) (hq : p ≠ q) : binX P (run P (j + 4)) op S d (resD v q) = .ex xMis S := by
  have is := isO h.f q v (resD v q) (Or.inr rfl) S
  have c1 := cscal_ex h (j + 2) (v := v) m hq
  simp only [isXs_cons, isXs_nil] at is
  rcases hop with rfl | rfl
  · have hm : P.meth "Mix" Bop.mul.dn = some ("Mix.__mul__", .st) := h.meth (by decide +kernel)
    rw [bx_res h (.inl rfl) m hm h.mul rfl, hm]
    show run P (j + 4) "Mix.__mul__" [d, resD v q] S = _
    rw [run_fn h.mul rfl]
    rw [show startD c_Mix___mul__.ns [d, resD v q] = [some d, some (resD v q)] from rfl]
    simp [c_Mix___mul__, is, mm_scd h m, mm_scal h m, callM_st, callM_fl, c1]
  · have hm : P.meth "Mix" Bop.fdiv.dn = some ("Mix.__floordiv__", .st) := h.meth (by decide +kernel)
    rw [bx_res h (.inr rfl) m hm h.fdv rfl, hm]
    show run P (j + 4) "Mix.__floordiv__" [d, resD v q] S = _
    rw [run_fn h.fdv rfl]
    rw [show startD c_Mix___floordiv__.ns [d, resD v q] = [some d, some (resD v q)] from rfl]
    simp [c_Mix___floordiv__, is, mm_scd h m, mm_scal h m, callM_st, callM_fl, c1]
theorem bx_resl_ex (j : Nat) {S : Store} {d : D} {p v q : Int} {ws : List Int} (m : MixAt S d p ws) (hq : p ≠ q) : binX P (run P (j + 4)) .mul S (resD v q) d = .ex xMis S := by
  have is := isO h.f q v (resD v q) (Or.inr rfl) S
  have c1 := cscal_ex h (j + 2) (v := v) m hq
  simp only [isXs_cons, isXs_nil] at is
  rw [bx_res_l h m, h.meth (q := ("Mix.__rmul__", .st)) (by decide +kernel)]
  show run P (j + 4) "Mix.__rmul__" [d, resD v q] S = _
  rw [run_fn h.rmul rfl]
  rw [show startD c_Mix___rmul__.ns [d, resD v q] = [some d, some (resD v q)] from rfl]
  simp [c_Mix___rmul__, is, mm_scd h m, mm_scal h m, callM_st, callM_fl, c1]
theorem bx_fdv_ex (j : Nat) {S : Store} {d o : D} {p w : Int} {ws : List Int} (m : MixAt S d p ws) (hp : Pm p) (ho : Opd p o w) (hw : w % p = 0) : binX P (run P (j + 4)) .fdiv S d o = .ex xInv S := by
  have p0 : 0 < p := by have := hp.1; omega
  have is := isO h.f p w o ho S
  have c1 := cscal h (j + 2) m p0 ho
  have c3 := cal_inx h.f (j + 2) w p p0 hw S
  have hm : P.meth "Mix" Bop.fdiv.dn = some ("Mix.__floordiv__", .st) := h.meth (by decide +kernel)
  rw [bx_mo h (.inr rfl) m ho hm h.fdv rfl, hm]
  show run P (j + 4) "Mix.__floordiv__" [d, o] S = _
  rw [run_fn h.fdv rfl]
  rw [show startD c_Mix___floordiv__.ns [d, o] = [some d, some o] from rfl]
  have fp : fldD P "prime" S d = .ok (.int p) S := by
    obtain ⟨w, e1, _, _⟩ := m
    exact mf_p h e1
  simp only [isXs_cons, isXs_nil] at is
  simp [c_Mix___floordiv__, is, mm_scd h m, mm_scal h m, callM_st, callM_fl, c1, c3, fp, xInv]
theorem ccpc_ex (j : Nat) {S : Store} {d : D} {p : Int} {ws : List Int} (m : MixAt S d p ws) (i : Int) (hi : ¬ (0 ≤ i ∧ i < ws.length)) : flatK (run P (j + 1) "Mix.check_piece") [d, .int i] S = .ex (xPce i) S := by
  obtain ⟨_, _, _, e3⟩ := m
  exact flatK_ex (rdL_cons e3 (rdL_cons (rdD_pf (pf_int i)) rfl)) (cpc_ex h j p ws i hi []) rfl
theorem mgi_ex (j : Nat) {S : Store} {d : D} {p : Int} {ws : List Int} (m : MixAt S d p ws) (i : Int) (hi : ¬ (0 ≤ i ∧ i < ws.length)) : idxX P (run P (j + 2)) S d (.int i) = .ex (xPce i) S := by
  obtain ⟨w, e1, _, e3⟩ := m
  have r : run P (j + 2) "Mix.__getitem__" [mixD p ws, .int i] [] = .ex (xPce i) [] := by
    have c1 := ccpc_ex h j (S := []) (MixAt.pure (p := p) (ws := ws)) i hi
    rw [run_fn h.gi rfl]
    rw [show startD c_Mix___getitem__.ns [mixD p ws, .int i] = [some (mixD p ws), some (.int i)] from rfl]
    simp [c_Mix___getitem__, mm_cpc h (MixAt.pure (p := p) (ws := ws)), callM_fl, c1]
  unfold idxX
  rw [e1]
  show callO _ (P.meth "Mix" "__getitem__") _ _ = _
  rw [h.meth (q := ("Mix.__getitem__", .flat)) (by decide +kernel)]
  exact flatK_ex (rdL_cons e3 (rdL_cons (rdD_pf (pf_int i)) rfl)) r rfl
theorem msi_ex (j : Nat) {S : Store} {d : D} {p : Int} {ws : List Int} (m : MixAt S d p ws) (i v : Int) (hi : ¬ (0 ≤ i ∧ i < ws.length)) : sidxX P (run P (j + 2)) S d (.int i) (.int v) = .ex (xPce i) S := by
  have c1 := ccpc_ex h j m i hi
  have mc := mm_cpc h m
  obtain ⟨w, e1, _, e3⟩ := m
  unfold sidxX
  rw [e1]
  show callO _ (P.meth "Mix" "__setitem__") _ _ = _
  rw [h.meth (q := ("Mix.__setitem__", .st)) (by decide +kernel)]
  show run P (j + 2) "Mix.__setitem__" [d, .int i, .int v] S = _
  rw [run_fn h.si rfl]
  rw [show startD c_Mix___setitem__.ns [d, .int i, .int v] = [some d, some (.int i), some (.int v)] from rfl]
  simp [c_Mix___setitem__, mc, callM_fl, c1]
theorem wt_ex (j : Nat) {S : Store} {d : D} {p : Int} {ws : List Int} (m : MixAt S d p ws) (i : Int) (hi : ¬ (0 ≤ i ∧ i < ws.length)) : run P (j + 3) "Mix.weight" [d, .int i] S = .ex (xPce i) S := by
  have g := mgi_ex h j m i hi
  refine run_byX h.wt rfl (σ := [some d, some (.int i)]) ?_
  rw [show startD c_Mix_weight.ns [d, .int i] = [some d, some (.int i)] from rfl]
  unfold c_Mix_weight
  dsimp only
  simp [g]
/-! making -/
theorem cs_ex (j : Nat) (k : Int) (hk : ¬ (0 ≤ k ∧ k ≤ 9)) (S : Store) : run P (j + 1) "check_size" [.int k] S = .ex (xSiz k) S := by
  rw [run_fn h.cs rfl]
  rw [show startD c_check_size.ns [.int k] = [some (.int k)] from rfl]
  have rz : exS P (run P j) (.raise "BadSize" (.acons (.var 0) .anil)) [some (.int k)] S = .ex (xSiz k) [some (.int k)] S := raise_one h.xB rfl rfl
  by_cases h0 : 0 ≤ k
  · have h1 : ¬ k ≤ 9 := fun q => hk ⟨h0, q⟩
    simp [c_check_size, h0, h1, rz]
  · simp [c_check_size, h0, rz]
theorem ccs_ok (j : Nat) (k : Int) (hk : 0 ≤ k ∧ k ≤ 9) (S : Store) : callP (run P (j + 1)) "check_size" [.int k] S = .ok .non S := callP_ok (by simp) (cs_run h j k hk []) (by simp)
theorem ccs_ex (j : Nat) (k : Int) (hk : ¬ (0 ≤ k ∧ k ≤ 9)) (S : Store) : callP (run P (j + 1)) "check_size" [.int k] S = .ex (xSiz k) S := callP_ex (by simp) (cs_ex h j k hk []) (by simp [xSiz])
theorem ccp_ok (j : Nat) (p : Int) (hp : Pm p) (h9 : p ≤ 97) (S : Store) : callP (run P (j + 2)) "check_prime" [.int p] S = .ok .non S := callP_ok (by simp) (chk_ok h.f j p hp h9 []) (by simp)
theorem ccp_ex (j : Nat) (p : Int) (hp : 97 < p ∨ ¬ Pm p) (S : Store) : callP (run P (j + 2)) "check_prime" [.int p] S = .ex (xPrm p) S := callP_ex (by rfl) (chk_ex h.f j p hp []) (by simp [xPrm])
/-- Mix(..) refused: the prime, the size -/
theorem mmk_ex (j : Nat) {p : Int} {ws : List Int} (hl : ws.length ≤ 1000) (S : Store) {x : Exn} (hx : ((97 < p ∨ ¬ Pm p) ∧ x = xPrm p) ∨ ((Pm p ∧ p ≤ 97) ∧ 9 < ws.length ∧ x = xSiz ws.length)) : ∃ T, mkX P (run P (j + 3)) "Mix" [.int p, .lst (ws.map .int)] S = .ex x (S ++ T) := by
  refine ⟨[.ins "Mix" []], ?_⟩
  rw [MixP.mk_eq h]
  unfold mkK
  have r : run P (j + 3) "Mix.__init__" [.ptr S.length, .int p, .lst (ws.map .int)] (S ++ [.ins "Mix" []]) = .ex x (S ++ [.ins "Mix" []]) := by
    have b1 : biX P (run P (j + 2)) .len (S ++ [Cell.ins "Mix" []]) [.lst (ws.map .int)] = .ok (.int ws.length) (S ++ [Cell.ins "Mix" []]) := by simp
    generalize S ++ [Cell.ins "Mix" []] = S1 at *
    generalize D.lst (ws.map .int) = L at *
    refine run_byX h.ini rfl (σ := [some (.ptr S.length), some (.int p), some L, none]) ?_
    rw [show startD c_Mix___init__.ns [.ptr S.length, .int p, L] = [some (.ptr S.length), some (.int p), some L, none] from rfl]
    unfold c_Mix___init__
    dsimp only
    rcases hx with ⟨hp, rfl⟩ | ⟨hp, hz, rfl⟩
    · have c1 := ccp_ex h j p hp S1
      simp [c1]
    · have c1 := ccp_ok h j p hp.1 hp.2 S1
      have c2 := ccs_ex h (j + 1) ws.length (by omega) S1
      simp [c1, c2, b1, -biX_len]
  rw [r]
theorem zero_run (hz : P.fn "Mix.zero" = some c_Mix_zero) (j : Nat) {p n : Int} (hp : Pm p) (h9 : p ≤ 97) (hn : 0 ≤ n ∧ n ≤ 9) (S : Store) : run P (j + 4) "Mix.zero" [.int p, .int n] S = .ok (.ptr S.length) (newMx S p (List.replicate n.toNat 0)) := by
  have c1 := ccp_ok h (j + 1) p hp h9 S
  have c2 := ccs_ok h (j + 2) n hn S
  have r0 := rep_ok (pr := P) (cb := run P (j + 3)) (S := S) (n := n) (k := 0) hn.1 (by omega)
  have m0 := mmk h j (W := .lst ((List.replicate n.toNat (0 : Int)).map .int)) (ws := List.replicate n.toNat 0) hp h9 (fun S => SeqAt.lst) (by simp; omega) S
  have sz : sizeLine = 16777216 := rfl
  rw [rep_red, Int.zero_emod] at m0
  refine run_by hz rfl ?_
  rw [show startD c_Mix_zero.ns [.int p, .int n] = [some (.int p), some (.int n)] from rfl]
  unfold c_Mix_zero
  dsimp only
  generalize (List.replicate n.toNat (0 : Int)).map D.int = L at *
  simp [c1, c2, r0, m0, sz]
theorem zero_ex (hz : P.fn "Mix.zero" = some c_Mix_zero) (j : Nat) {p n : Int} (S : Store) {x : Exn} (hx : ((97 < p ∨ ¬ Pm p) ∧ x = xPrm p) ∨ ((Pm p ∧ p ≤ 97) ∧ ¬ (0 ≤ n ∧ n ≤ 9) ∧ x = xSiz n)) : run P (j + 3) "Mix.zero" [.int p, .int n] S = .ex x S := by
  refine run_byX hz rfl (σ := [some (.int p), some (.int n)]) ?_
  rw [show startD c_Mix_zero.ns [.int p, .int n] = [some (.int p), some (.int n)] from rfl]
  unfold c_Mix_zero
  dsimp only
  rcases hx with ⟨hp, rfl⟩ | ⟨hp, hz, rfl⟩
  · have c1 := ccp_ex h j p hp S
    simp [c1]
  · have c1 := ccp_ok h j p hp.1 hp.2 S
    have c2 := ccs_ex h (j + 1) n hz S
    simp [c1, c2]
end
end MX
end

section
set_option maxRecDepth 100000
set_option maxHeartbeats 0
namespace MX
def c__law_weights : Fn := ⟨3, 5, (.seq (.ifs (.or (.not (.isi (.var 0) [.cls "Mix"])) (.not (.call .pure "_law_same" (.acons (.fld "prime" (.var 0)) (.acons (.var 2) .anil))))) (.seq (.ret (.bl false))
  .nil) .nil)
  (.seq (.asg 3 (.comp false [4] .seq (.n 4) (.var 1) (.bl true) (.bin .mod (.bi .int (.acons (.var 4) .anil)) (.var 2))))
  (.seq (.ifs (.not (.call .pure "_law_same" (.acons (.bi .len (.acons (.var 0) .anil)) (.acons (.bi .len (.acons (.var 3) .anil)) .anil)))) (.seq (.ret (.bl false))
  .nil) .nil)
  (.seq (.ret (.call .pure "_law_same" (.acons (.bi .list (.acons (.var 0) .anil)) (.acons (.var 3) .anil))))
  .nil))))⟩
def c__law_read : Fn := ⟨3, 5, (.seq (.try_ (.seq (.ifs (.cmp .eq (.var 2) (.int 0)) (.seq (.asg 4 (.idx (.var 0) (.var 1)))
  .nil) (.seq (.ifs (.cmp .eq (.var 2) (.int 1)) (.seq (.asg 4 (.fld "value" (.meth "weight" (.var 0) (.acons (.var 1) .anil))))
  .nil) (.seq (.sidx (.var 0) (.var 1) (.int 3))
  (.seq (.asg 4 (.int 3))
  .nil)))
  .nil))
  .nil) (.hcons "NoPiece" (some 3) [] (.tup (.acons (.str "NoPiece") (.acons (.fld "piece") .anil))) .hnil))
  (.seq (.ret (.tup (.acons (.str "told") (.acons (.var 4) .anil))))
  .nil))⟩
def c__law_made : Fn := ⟨4, 6, (.seq (.try_ (.seq (.ifs (.cmp .eq (.var 0) (.int 0)) (.seq (.asg 5 (.mk "Mix" (.acons (.var 1) (.acons (.bin .mul (.lst (.acons (.int 1) .anil)) (.var 2)) .anil))))
  .nil) (.seq (.ifs (.cmp .eq (.var 0) (.int 1)) (.seq (.asg 5 (.scall "Mix" "zero" (.acons (.var 1) (.acons (.var 2) .anil))))
  .nil) (.seq (.asg 5 (.scall "Mix" "unit" (.acons (.var 1) (.acons (.var 2) (.acons (.var 3) .anil)))))
  .nil))
  .nil))
  .nil) (.hcons "NotPrime" (some 4) [] (.tup (.acons (.str "NotPrime") (.acons (.fld "value") .anil))) (.hcons "BadSize" (some 4) [] (.tup (.acons (.str "BadSize") (.acons (.fld "size") .anil))) (.hcons "NoPiece" (some 4) [] (.tup (.acons (.str "NoPiece") (.acons (.fld "piece") .anil))) .hnil))))
  (.seq (.ret (.tup (.acons (.str "made") (.acons (.bi .list (.acons (.var 5) .anil)) (.acons (.fld "prime" (.var 5)) .anil)))))
  .nil))⟩
def c__law_done : Fn := ⟨3, 4, (.seq (.try_ (.seq (.ifs (.cmp .eq (.var 0) (.int 0)) (.seq (.asg 3 (.bin .add (.var 1) (.var 2)))
  .nil) (.seq (.ifs (.cmp .eq (.var 0) (.int 1)) (.seq (.asg 3 (.bin .sub (.var 1) (.var 2)))
  .nil) (.seq (.ifs (.cmp .eq (.var 0) (.int 2)) (.seq (.aug .add 1 (.var 2))
  (.seq (.asg 3 (.var 1))
  .nil)) (.seq (.ifs (.cmp .eq (.var 0) (.int 3)) (.seq (.asg 3 (.bin .mul (.var 1) (.var 2)))
  .nil) (.seq (.ifs (.cmp .eq (.var 0) (.int 4)) (.seq (.asg 3 (.bin .mul (.var 2) (.var 1)))
  .nil) (.seq (.asg 3 (.bin .fdiv (.var 1) (.var 2)))
  .nil))
  .nil))
  .nil))
  .nil))
  .nil))
  .nil) (.hcons "Mismatch" none [] (.tup (.acons (.str "Mismatch") (.acons (.int 0) .anil))) (.hcons "NoInverse" none [] (.tup (.acons (.str "NoInverse") (.acons (.int 0) .anil))) .hnil)))
  (.seq (.ret (.tup (.acons (.str "done") (.acons (.bi .list (.acons (.var 3) .anil)) .anil))))
  .nil))⟩
def c__law_makes : Fn := ⟨5, 10, (.seq (.ifs (.cmp .ne (.call .pure "_law_made" (.acons (.int 0) (.acons (.var 2) (.acons (.var 1) (.acons (.int 0) .anil))))) (.tup (.acons (.str "NotPrime") (.acons (.var 2) .anil)))) (.seq (.ret (.bl false))
  .nil) .nil)
  (.seq (.ifs (.cmp .ne (.call .pure "_law_made" (.acons (.int 0) (.acons (.var 2) (.acons (.var 3) (.acons (.int 0) .anil))))) (.tup (.acons (.str "NotPrime") (.acons (.var 2) .anil)))) (.seq (.ret (.bl false))
  .nil) .nil)
  (.seq (.ifs (.cmp .ne (.call .pure "_law_made" (.acons (.int 0) (.acons (.var 0) (.acons (.var 3) (.acons (.int 0) .anil))))) (.tup (.acons (.str "BadSize") (.acons (.var 3) .anil)))) (.seq (.ret (.bl false))
  .nil) .nil)
  (.seq (.for_ .seq (.n 5) (.lst (.acons (.int 1) (.acons (.int 2) .anil))) (.seq (.ifs (.cmp .ne (.call .pure "_law_made" (.acons (.var 5) (.acons (.var 2) (.acons (.var 1) (.acons (.var 4) .anil))))) (.tup (.acons (.str "NotPrime") (.acons (.var 2) .anil)))) (.seq (.ret (.bl false))
  .nil) .nil)
  .nil))
  (.seq (.for_ .seq (.n 6) (.lst (.acons (.var 3) (.acons (.bin .sub (.var 1) (.int 10)) (.acons (.bin .pow (.int 10) (.int 29)) (.acons (.bin .sub (.int 0) (.bin .pow (.int 10) (.int 29))) .anil))))) (.seq (.for_ .seq (.n 5) (.lst (.acons (.int 1) (.acons (.int 2) .anil))) (.seq (.ifs (.cmp .ne (.call .pure "_law_made" (.acons (.var 5) (.acons (.var 2) (.acons (.var 6) (.acons (.var 4) .anil))))) (.tup (.acons (.str "NotPrime") (.acons (.var 2) .anil)))) (.seq (.ret (.bl false))
  .nil) .nil)
  (.seq (.ifs (.cmp .ne (.call .pure "_law_made" (.acons (.var 5) (.acons (.var 0) (.acons (.var 6) (.acons (.var 4) .anil))))) (.tup (.acons (.str "BadSize") (.acons (.var 6) .anil)))) (.seq (.ret (.bl false))
  .nil) .nil)
  .nil)))
  .nil))
  (.seq (.ifs (.cmp .ne (.call .pure "_law_made" (.acons (.int 2) (.acons (.var 0) (.acons (.var 1) (.acons (.var 4) .anil))))) (.tup (.acons (.str "NoPiece") (.acons (.var 4) .anil)))) (.seq (.ret (.bl false))
  .nil) .nil)
  (.seq (.ifs (.not (.call .pure "_law_same" (.acons (.call .pure "_law_made" (.acons (.int 1) (.acons (.var 0) (.acons (.var 1) (.acons (.int 0) .anil))))) (.acons (.tup (.acons (.str "made") (.acons (.bin .mul (.lst (.acons (.int 0) .anil)) (.var 1)) (.acons (.var 0) .anil)))) .anil)))) (.seq (.ret (.bl false))
  .nil) .nil)
  (.seq (.for_ .seq (.n 7) (.irng1 (.var 1)) (.seq (.asg 8 (.tup (.acons (.str "made") (.acons (.comp false [9] .seq (.n 9) (.irng1 (.var 1)) (.bl true) (.bi .int (.acons (.cmp .eq (.var 9) (.var 7)) .anil))) (.acons (.var 0) .anil)))))
  (.seq (.ifs (.not (.call .pure "_law_same" (.acons (.call .pure "_law_made" (.acons (.int 2) (.acons (.var 0) (.acons (.var 1) (.acons (.var 7) .anil))))) (.acons (.var 8) .anil)))) (.seq (.ret (.bl false))
  .nil) .nil)
  .nil)))
  (.seq (.ret (.bl true))
  .nil)))))))))⟩
def c_law : Fn := ⟨1, 22, (.seq (.asg 1 (.call .pure "_law_pool" (.acons (.var 0) (.acons (.int 20) .anil))))
  (.seq (.asg 2 (.idx (.lst (.acons (.int 2) (.acons (.int 3) (.acons (.int 5) (.acons (.int 7) (.acons (.int 11) (.acons (.int 13) (.acons (.int 53) (.acons (.int 97) .anil))))))))) (.bin .mod (.bi .int (.acons (.idx (.var 1) (.int 0)) .anil)) (.int 8))))
  (.seq (.asg 3 (.bin .mod (.bi .int (.acons (.idx (.var 1) (.int 1)) .anil)) (.int 10)))
  (.seq (.asg 4 (.comp false [19] .seq (.n 19) (.cut (.var 1) (.part (.int 2)) (.part (.bin .add (.int 2) (.var 3)))) (.bl true) (.bi .int (.acons (.var 19) .anil))))
  (.seq (.asg 5 (.mk "Mix" (.acons (.var 2) (.acons (.bi .list (.acons (.var 4) .anil)) .anil))))
  (.seq (.asg 6 (.bi .int (.acons (.idx (.var 1) (.int 11)) .anil)))
  (.seq (.asg 7 (.lst (.acons (.bin .sub (.int 0) (.int 1)) (.acons (.var 3) (.acons (.bin .add (.var 3) (.var 6)) (.acons (.bin .sub (.bin .sub (.int 0) (.int 1)) (.var 6)) (.acons (.bin .pow (.int 10) (.int 29)) (.acons (.bin .sub (.int 0) (.bin .pow (.int 10) (.int 29))) .anil))))))))
  (.seq (.asg 8 (.idx (.var 7) (.bin .mod (.bi .int (.acons (.idx (.var 1) (.int 12)) .anil)) (.int 6))))
  (.seq (.for_ .seq (.n 9) (.irng1 (.int 3)) (.seq (.ifs (.cmp .ne (.call .st "_law_read" (.acons (.var 5) (.acons (.var 8) (.acons (.var 9) .anil)))) (.tup (.acons (.str "NoPiece") (.acons (.var 8) .anil)))) (.seq (.ret (.bl false))
  .nil) .nil)
  (.seq (.for_ .seq (.n 16) (.irng1 (.var 3)) (.seq (.asg 20 (.bin .mod (.bi .int (.acons (.idx (.var 4) (.var 16)) .anil)) (.var 2)))
  (.seq (.asg 21 (.tup (.acons (.str "told") (.acons (.idx (.lst (.acons (.var 20) (.acons (.var 20) (.acons (.int 3) .anil)))) (.var 9)) .anil))))
  (.seq (.ifs (.not (.call .pure "_law_same" (.acons (.call .st "_law_read" (.acons (.mk "Mix" (.acons (.var 2) (.acons (.bi .list (.acons (.var 4) .anil)) .anil))) (.acons (.var 16) (.acons (.var 9) .anil)))) (.acons (.var 21) .anil)))) (.seq (.ret (.bl false))
  .nil) .nil)
  .nil))))
  .nil)))
  (.seq (.asg 10 (.lst (.acons (.int 0) (.acons (.int 1) (.acons (.bin .sub (.int 0) (.int 5)) (.acons (.int 4) (.acons (.int 6) (.acons (.int 9) (.acons (.int 91) (.acons (.int 95) (.acons (.int 98) (.acons (.int 100) (.acons (.int 101) (.acons (.int 103) (.acons (.bin .add (.bin .pow (.int 10) (.int 6)) (.int 3)) .anil)))))))))))))))
  (.seq (.asg 11 (.bin .add (.int 10) (.bin .mod (.bi .int (.acons (.idx (.var 1) (.int 14)) .anil)) (.int 31))))
  (.seq (.ifs (.not (.call .pure "_law_makes" (.acons (.var 2) (.acons (.var 3) (.acons (.idx (.var 10) (.bin .mod (.bi .int (.acons (.idx (.var 1) (.int 13)) .anil)) (.int 13))) (.acons (.var 11) (.acons (.var 8) .anil))))))) (.seq (.ret (.bl false))
  .nil) .nil)
  (.seq (.asg 12 (.idx (.lst (.acons (.int 3) (.acons (.int 2) .anil))) (.bi .int (.acons (.cmp .eq (.var 2) (.int 3)) .anil))))
  (.seq (.asg 13 (.mk "Mix" (.acons (.var 2) (.acons (.bin .mul (.lst (.acons (.int 1) .anil)) (.bin .sub (.bin .add (.var 3) (.int 1)) (.bin .mul (.int 2) (.bi .int (.acons (.cmp .eq (.var 3) (.int 9)) .anil))))) .anil))))
  (.seq (.for_ .seq (.n 14) (.irng1 (.int 3)) (.seq (.for_ .seq (.n 17) (.lst (.acons (.mk "Mix" (.acons (.var 12) (.acons (.bi .list (.acons (.var 4) .anil)) .anil))) (.acons (.var 13) (.acons (.mk "Mix" (.acons (.var 12) (.acons (.bi .list (.acons (.var 13) .anil)) .anil))) .anil)))) (.seq (.ifs (.cmp .ne (.call .st "_law_done" (.acons (.var 14) (.acons (.var 5) (.acons (.var 17) .anil)))) (.tup (.acons (.str "Mismatch") (.acons (.int 0) .anil)))) (.seq (.ret (.bl false))
  .nil) .nil)
  (.seq (.ifs (.cmp .ne (.call .st "_law_done" (.acons (.var 14) (.acons (.var 17) (.acons (.var 5) .anil)))) (.tup (.acons (.str "Mismatch") (.acons (.int 0) .anil)))) (.seq (.ret (.bl false))
  .nil) .nil)
  .nil)))
  .nil))
  (.seq (.for_ .seq (.n 14) (.lst (.acons (.int 3) (.acons (.int 4) (.acons (.int 5) .anil)))) (.seq (.for_ .seq (.n 18) (.lst (.acons (.mk "Residue" (.acons (.int 1) (.acons (.var 12) .anil))) (.acons (.mk "Residue" (.acons (.int 0) (.acons (.var 12) .anil))) .anil))) (.seq (.ifs (.cmp .ne (.call .st "_law_done" (.acons (.var 14) (.acons (.var 5) (.acons (.var 18) .anil)))) (.tup (.acons (.str "Mismatch") (.acons (.int 0) .anil)))) (.seq (.ret (.bl false))
  .nil) .nil)
  .nil))
  .nil))
  (.seq (.for_ .seq (.n 15) (.lst (.acons (.int 0) (.acons (.bin .mul (.var 2) (.bin .sub (.bin .mod (.bi .int (.acons (.idx (.var 1) (.int 15)) .anil)) (.int 9)) (.int 4))) (.acons (.mk "Residue" (.acons (.int 0) (.acons (.var 2) .anil))) .anil)))) (.seq (.ifs (.cmp .ne (.call .st "_law_done" (.acons (.int 5) (.acons (.var 5) (.acons (.var 15) .anil)))) (.tup (.acons (.str "NoInverse") (.acons (.int 0) .anil)))) (.seq (.ret (.bl false))
  .nil) .nil)
  .nil))
  (.seq (.ifs (.cmp .ne (.call .st "_law_done" (.acons (.int 5) (.acons (.var 5) (.acons (.int 1) .anil)))) (.tup (.acons (.str "done") (.acons (.comp false [19] .seq (.n 19) (.var 4) (.bl true) (.bin .mod (.bi .int (.acons (.var 19) .anil)) (.var 2))) .anil)))) (.seq (.ret (.bl false))
  .nil) .nil)
  (.seq (.ret (.and (.call .flat "_law_weights" (.acons (.var 5) (.acons (.var 4) (.acons (.var 2) .anil)))) (.cmp .eq (.bi .list (.acons (.var 13) .anil)) (.bin .mul (.lst (.acons (.int 1) .anil)) (.bi .len (.acons (.var 13) .anil))))))
  .nil)))))))))))))))))))⟩
end MX
end

section
set_option maxRecDepth 100000
set_option maxHeartbeats 4000000
namespace MX
open PySem
structure LawP (P : Prog) : Prop extends MixP P where
  z : P.fn "Mix.zero" = some c_Mix_zero
  u : P.fn "Mix.unit" = some c_Mix_unit
  sz : P.stat "Mix" "zero" = some ("Mix.zero", .st)
  su : P.stat "Mix" "unit" = some ("Mix.unit", .st)
  mx : P.fn "_law_mixed" = some c__law_mixed
  pl : P.fn "_law_pool" = some c__law_pool
  sm : P.fn "_law_same" = some c__law_same
  wts : P.fn "_law_weights" = some c__law_weights
  rd : P.fn "_law_read" = some c__law_read
  md : P.fn "_law_made" = some c__law_made
  dn : P.fn "_law_done" = some c__law_done
  mks : P.fn "_law_makes" = some c__law_makes
  lw : P.fn "law" = some c_law
section
variable {P : Prog} (h : LawP P)
include h
theorem lw_run (j : Nat) (p : Int) (ws vs : List Int) (hp : 0 < p) (hl : vs.length ≤ 9) (e : ws = vs.map fun w => w % p) (S : Store) : run P (j + 4) "_law_weights" [mixD p ws, .lst (vs.map .int), .int p] S = .ok (.bl true) S := by
  have lz : ws.length = vs.length := by rw [e]; simp
  have is := isM_cls h.toMixP (S := S) (MixAt.pure (p := p) (ws := ws))
  have s1 := call_same h.sm (j + 2) (sz_int (j + 2) p) S
  have s2 := call_same h.sm (j + 2) (sz_int (j + 2) ws.length) S
  have s3 := call_same h.sm (j + 2) (sz_ints (j + 1) ws (by omega)) S
  have l1 := ml_at h.toMixP (j + 2) (S := S) (MixAt.pure (p := p) (ws := ws)) (by omega)
  have l2 := li_at h.toMixP (j + 2) (S := S) (MixAt.pure (p := p) (ws := ws)) (by omega)
  have c1 : evE P (run P (j + 3)) (.comp false [4] .seq (.n 4) (.var 1) (.bl true) (.bin .mod (.bi .int (.acons (.var 4) .anil)) (.var 2))) [some (mixD p ws), some (.lst (vs.map .int)), some (.int p), none, none] S = .ok (.lst (ws.map .int)) S := by
    rw [e]
    exact comp_ints (g := fun w => w % p) rfl (fun w _ => by simp [wipeD, bin_mod hp]) (by have : sizeLine = 16777216 := rfl; omega)
  refine run_by h.wts rfl ?_
  rw [show startD c__law_weights.ns [mixD p ws, .lst (vs.map .int), .int p] = [some (mixD p ws), some (.lst (vs.map .int)), some (.int p), none, none] from rfl]
  generalize hL : ws.map D.int = L at s3 l2 c1
  have ll : L.length = ws.length := by rw [← hL]; simp
  unfold c__law_weights
  dsimp only
  simp [is, mx_p h.toMixP, s1, c1, l1, l2, s2, s3, ll, -ev_comp]
theorem clw (j : Nat) {S : Store} {d : D} {p : Int} {ws vs : List Int} (m : MixAt S d p ws) (hp : 0 < p) (hl : vs.length ≤ 9) (e : ws = vs.map fun w => w % p) : flatK (run P (j + 4) "_law_weights") [d, .lst (vs.map .int), .int p] S = .ok (.bl true) S := by
  obtain ⟨_, _, _, e3⟩ := m
  exact flatK_ok (rdL_cons e3 (rdL_cons (rdD_pf (by simp)) (rdL_cons (rdD_pf (pf_int p)) rfl))) (lw_run h j p ws vs hp hl e []) rfl
/-! _law_read -/
theorem rd_bad (j : Nat) {S : Store} {d : D} {p : Int} {ws : List Int} (m : MixAt S d p ws) (i k : Int) (hk : k = 0 ∨ k = 1 ∨ k = 2) (hi : ¬ (0 ≤ i ∧ i < ws.length)) : run P (j + 4) "_law_read" [d, .int i, .int k] S = .ok (.tup [tx "NoPiece", .int i]) S := by
  have g := mgi_ex h.toMixP (j + 1) m i hi
  have w := wt_ex h.toMixP j m i hi
  have s := msi_ex h.toMixP (j + 1) m i 3 hi
  have mw := mm_wt h.toMixP m
  refine run_by h.rd rfl ?_
  rw [show startD c__law_read.ns [d, .int i, .int k] = [some d, some (.int i), some (.int k), none, none] from rfl]
  unfold c__law_read
  dsimp only
  rcases hk with rfl | rfl | rfl <;> simp [g, w, s, mw, hdS, xeL, xeD, h.xP, unO, sizeLine, tx, xPce]
theorem rd_told (j : Nat) {S : Store} {d : D} {p : Int} {ws : List Int} (m : MixAt S d p ws) (hp : Pm p) (h9 : p ≤ 97) (hr : ∀ w ∈ ws, 0 ≤ w ∧ w < p) (i k : Int) (hk : k = 0 ∨ k = 1) (hi : 0 ≤ i ∧ i < ws.length) : run P (j + 5) "_law_read" [d, .int i, .int k] S = .ok (.tup [tx "told", .int (ws.getD i.toNat 0)]) S := by
  have g := mgi_at h.toMixP (j + 2) m i hi
  have w := wt_run h.toMixP j m hp h9 i hi
  have mw := mm_wt h.toMixP m
  have rg : ws.getD i.toNat 0 % p = ws.getD i.toNat 0 := by
    have hl : i.toNat < ws.length := by omega
    have e : ws.getD i.toNat 0 = ws[i.toNat] := by simp [List.getElem?_eq_getElem hl]
    rw [e]
    have := hr _ (List.getElem_mem hl)
    exact Int.emod_eq_of_lt this.1 this.2
  rw [rg] at w
  generalize ws.getD i.toNat 0 = v at *
  refine run_by h.rd rfl ?_
  rw [show startD c__law_read.ns [d, .int i, .int k] = [some d, some (.int i), some (.int k), none, none] from rfl]
  unfold c__law_read
  dsimp only
  rcases hk with rfl | rfl <;> simp [g, w, mw, fld_v h.f, sizeLine, tx]
theorem rd_set (j : Nat) {S : Store} {n m : Nat} {p : Int} {ws : List Int} (c : MixC S n m p ws) (hp : 0 < p) (i : Int) (hi : 0 ≤ i ∧ i < ws.length) : ∃ S', run P (j + 5) "_law_read" [.ptr n, .int i, .int 2] S = .ok (.tup [tx "told", .int 3]) S' ∧ ∀ k, k ≠ m → S'[k]? = S[k]? := by
  have s := msi_run h.toMixP (j + 2) c hp i 3 hi
  refine ⟨S.set m (.lst ((ws.set i.toNat (3 % p)).map .int)), ?_, fun k hk => List.getElem?_set_ne (Ne.symm hk)⟩
  have sx : sidxX P (run P (j + 4)) S (.ptr n) (.int i) (.int 3) = .ok .non (S.set m (.lst ((ws.set i.toNat (3 % p)).map .int))) := by
    unfold sidxX
    rw [ins_ptr c.1]
    show callO (run P (j + 4)) (P.meth "Mix" "__setitem__") _ _ = _
    rw [h.meth (q := ("Mix.__setitem__", .st)) (by decide +kernel)]
    exact s
  generalize S.set m (.lst ((ws.set i.toNat (3 % p)).map .int)) = S1 at *
  refine run_by h.rd rfl ?_
  rw [show startD c__law_read.ns [.ptr n, .int i, .int 2] = [some (.ptr n), some (.int i), some (.int 2), none, none] from rfl]
  unfold c__law_read
  dsimp only
  simp [sx, sizeLine, tx]
/-! _law_made -/
theorem md_mk (j : Nat) {p n a : Int} (h0 : 0 ≤ n) (h1 : n ≤ 1000) {d : D} (hx : ((97 < p ∨ ¬ Pm p) ∧ d = .tup [tx "NotPrime", .int p]) ∨ ((Pm p ∧ p ≤ 97) ∧ 9 < n ∧ d = .tup [tx "BadSize", .int n])) : ∃ S', run P (j + 4) "_law_made" [.int 0, .int p, .int n, .int a] [] = .ok d S' := by
  have r0 := rep_ok (pr := P) (cb := run P (j + 3)) (S := []) (n := n) (k := 1) h0 h1
  have ln : ((List.replicate n.toNat (1 : Int)).length : Int) = n := by simp; omega
  rcases hx with ⟨hp, rfl⟩ | ⟨hp, h9, rfl⟩
  · obtain ⟨T, e⟩ := mmk_ex h.toMixP j (p := p) (ws := List.replicate n.toNat 1) (by simp; omega) [] (.inl ⟨hp, rfl⟩)
    refine ⟨[] ++ T, run_by h.md rfl ?_⟩
    rw [show startD c__law_made.ns [.int 0, .int p, .int n, .int a] = [some (.int 0), some (.int p), some (.int n), some (.int a), none, none] from rfl]
    generalize (List.replicate n.toNat (1 : Int)).map D.int = L at *
    unfold c__law_made
    dsimp only
    simp at e
    simp [r0, e, hdS, xeL, xeD, h.f.xN, h.xB, h.xP, unO, sizeLine, tx, xPrm]
  · obtain ⟨T, e⟩ := mmk_ex h.toMixP j (p := p) (ws := List.replicate n.toNat 1) (by simp; omega) [] (.inr ⟨hp, by simp; omega, rfl⟩)
    rw [ln] at e
    refine ⟨[] ++ T, run_by h.md rfl ?_⟩
    rw [show startD c__law_made.ns [.int 0, .int p, .int n, .int a] = [some (.int 0), some (.int p), some (.int n), some (.int a), none, none] from rfl]
    generalize (List.replicate n.toNat (1 : Int)).map D.int = L at *
    unfold c__law_made
    dsimp only
    simp at e
    simp [r0, e, hdS, xeL, xeD, h.f.xN, h.xB, h.xP, unO, sizeLine, tx, xSiz]
theorem unit_ex (j : Nat) {p n a : Int} (S : Store) {x : Exn} (hx : ((97 < p ∨ ¬ Pm p) ∧ x = xPrm p) ∨ ((Pm p ∧ p ≤ 97) ∧ ¬ (0 ≤ n ∧ n ≤ 9) ∧ x = xSiz n)) : run P (j + 4) "Mix.unit" [.int p, .int n, .int a] S = .ex x S := by
  have z := zero_ex h.toMixP h.z j S hx
  refine run_byX h.u rfl (σ := [some (.int p), some (.int n), some (.int a), none]) ?_
  rw [show startD c_Mix_unit.ns [.int p, .int n, .int a] = [some (.int p), some (.int n), some (.int a), none] from rfl]
  unfold c_Mix_unit
  dsimp only
  have ev : evE P (run P (j + 3)) (.scall "Mix" "zero" (.acons (.var 0) (.acons (.var 1) .anil))) [some (.int p), some (.int n), some (.int a), none] S = .ex x S := by
    rw [ev_scall h.sz]
    simp [z]
  simp [ev]
theorem unit_run (j : Nat) {p n a : Int} (hp : Pm p) (h9 : p ≤ 97) (hn : 0 ≤ n ∧ n ≤ 9) (ha : 0 ≤ a ∧ a < n) (S : Store) : ∃ S', run P (j + 5) "Mix.unit" [.int p, .int n, .int a] S = .ok (.ptr S.length) S' ∧ MixC S' S.length (S.length + 1) p ((List.replicate n.toNat 0).set a.toNat 1) := by
  have z := zero_run h.toMixP h.z j hp h9 hn S
  have C := mixC_new (S := S) (p := p) (W := List.replicate n.toNat 0)
  have p1 : 1 % p = 1 := Int.emod_eq_of_lt (by omega) (by have := hp.1; omega)
  have s := msi_run h.toMixP (j + 2) C (by have := hp.1; omega) a 1 ⟨ha.1, by simp; omega⟩
  rw [p1] at s
  have nl := new_len (p := p) (S := S) (W := List.replicate n.toNat 0)
  refine ⟨(newMx S p (List.replicate n.toNat 0)).set (S.length + 1) (.lst (((List.replicate n.toNat 0).set a.toNat 1).map .int)), ?_, ⟨by rw [List.getElem?_set_ne (by omega)]; exact C.1, by rw [List.getElem?_set_self (by omega)]⟩⟩
  have sx : sidxX P (run P (j + 4)) (newMx S p (List.replicate n.toNat 0)) (.ptr S.length) (.int a) (.int 1) = .ok .non ((newMx S p (List.replicate n.toNat 0)).set (S.length + 1) (.lst (((List.replicate n.toNat 0).set a.toNat 1).map .int))) := by
    unfold sidxX
    rw [ins_ptr C.1]
    show callO (run P (j + 4)) (P.meth "Mix" "__setitem__") _ _ = _
    rw [h.meth (q := ("Mix.__setitem__", .st)) (by decide +kernel)]
    exact s
  generalize (newMx S p (List.replicate n.toNat 0)).set (S.length + 1) (.lst (((List.replicate n.toNat 0).set a.toNat 1).map .int)) = S2 at *
  generalize newMx S p (List.replicate n.toNat 0) = S1 at *
  refine run_by h.u rfl ?_
  rw [show startD c_Mix_unit.ns [.int p, .int n, .int a] = [some (.int p), some (.int n), some (.int a), none] from rfl]
  unfold c_Mix_unit
  dsimp only
  have ev : evE P (run P (j + 4)) (.scall "Mix" "zero" (.acons (.var 0) (.acons (.var 1) .anil))) [some (.int p), some (.int n), some (.int a), none] S = .ok (.ptr S.length) S1 := by
    rw [ev_scall h.sz]
    simp [z]
  simp [ev, sx]
theorem unit_pce (j : Nat) {p n a : Int} (hp : Pm p) (h9 : p ≤ 97) (hn : 0 ≤ n ∧ n ≤ 9) (ha : ¬ (0 ≤ a ∧ a < n)) (S : Store) : ∃ S', run P (j + 5) "Mix.unit" [.int p, .int n, .int a] S = .ex (xPce a) S' := by
  have z := zero_run h.toMixP h.z j hp h9 hn S
  have M := new_at (S := S) (p := p) (ws := List.replicate n.toNat 0)
  have s := msi_ex h.toMixP (j + 2) M a 1 (by simp; omega)
  generalize newMx S p (List.replicate n.toNat 0) = S1 at *
  refine ⟨S1, run_byX h.u rfl (σ := [some (.int p), some (.int n), some (.int a), some (.ptr S.length)]) ?_⟩
  rw [show startD c_Mix_unit.ns [.int p, .int n, .int a] = [some (.int p), some (.int n), some (.int a), none] from rfl]
  unfold c_Mix_unit
  dsimp only
  have ev : evE P (run P (j + 4)) (.scall "Mix" "zero" (.acons (.var 0) (.acons (.var 1) .anil))) [some (.int p), some (.int n), some (.int a), none] S = .ok (.ptr S.length) S1 := by
    rw [ev_scall h.sz]
    simp [z]
  simp [ev, s]
/-- zero and unit, refused -/
theorem md_ex (j : Nat) {k p n a : Int} (hk : k = 1 ∨ k = 2) {d : D} (hx : ((97 < p ∨ ¬ Pm p) ∧ d = .tup [tx "NotPrime", .int p]) ∨ ((Pm p ∧ p ≤ 97) ∧ ¬ (0 ≤ n ∧ n ≤ 9) ∧ d = .tup [tx "BadSize", .int n])) : run P (j + 5) "_law_made" [.int k, .int p, .int n, .int a] [] = .ok d [] := by
  obtain ⟨x, hx2, hd⟩ : ∃ x, (((97 < p ∨ ¬ Pm p) ∧ x = xPrm p) ∨ ((Pm p ∧ p ≤ 97) ∧ ¬ (0 ≤ n ∧ n ≤ 9) ∧ x = xSiz n)) ∧ ∀ σ S, hdS P x σ S (.hcons "NotPrime" (some 4) [] (.tup (.acons (.str "NotPrime") (.acons (.fld "value") .anil))) (.hcons "BadSize" (some 4) [] (.tup (.acons (.str "BadSize") (.acons (.fld "size") .anil))) (.hcons "NoPiece" (some 4) [] (.tup (.acons (.str "NoPiece") (.acons (.fld "piece") .anil))) .hnil))) = .rt d S := by
    rcases hx with ⟨hp, rfl⟩ | ⟨hp, hn, rfl⟩
    · exact ⟨xPrm p, .inl ⟨hp, rfl⟩, fun σ S => by simp [hdS, xeL, xeD, h.f.xN, h.xB, h.xP, unO, sizeLine, tx, xPrm]⟩
    · exact ⟨xSiz n, .inr ⟨hp, hn, rfl⟩, fun σ S => by simp [hdS, xeL, xeD, h.f.xN, h.xB, h.xP, unO, sizeLine, tx, xSiz]⟩
  have e1 : evE P (run P (j + 4)) (.scall "Mix" "zero" (.acons (.var 1) (.acons (.var 2) .anil))) [some (.int k), some (.int p), some (.int n), some (.int a), none, none] [] = .ex x [] := by
    rw [ev_scall h.sz]
    simp [zero_ex h.toMixP h.z (j + 1) [] hx2]
  have e2 : evE P (run P (j + 4)) (.scall "Mix" "unit" (.acons (.var 1) (.acons (.var 2) (.acons (.var 3) .anil)))) [some (.int k), some (.int p), some (.int n), some (.int a), none, none] [] = .ex x [] := by
    rw [ev_scall h.su]
    simp [unit_ex h j [] hx2]
  refine run_by h.md rfl ?_
  rw [show startD c__law_made.ns [.int k, .int p, .int n, .int a] = [some (.int k), some (.int p), some (.int n), some (.int a), none, none] from rfl]
  unfold c__law_made
  dsimp only
  rcases hk with rfl | rfl <;> simp [e1, e2, hd]
theorem md_pce (j : Nat) {p n a : Int} (hp : Pm p) (h9 : p ≤ 97) (hn : 0 ≤ n ∧ n ≤ 9) (ha : ¬ (0 ≤ a ∧ a < n)) : ∃ S', run P (j + 6) "_law_made" [.int 2, .int p, .int n, .int a] [] = .ok (.tup [tx "NoPiece", .int a]) S' := by
  obtain ⟨S1, z⟩ := unit_pce h j hp h9 hn ha []
  have e2 : evE P (run P (j + 5)) (.scall "Mix" "unit" (.acons (.var 1) (.acons (.var 2) (.acons (.var 3) .anil)))) [some (.int 2), some (.int p), some (.int n), some (.int a), none, none] [] = .ex (xPce a) S1 := by
    rw [ev_scall h.su]
    simp [z]
  refine ⟨S1, run_by h.md rfl ?_⟩
  rw [show startD c__law_made.ns [.int 2, .int p, .int n, .int a] = [some (.int 2), some (.int p), some (.int n), some (.int a), none, none] from rfl]
  unfold c__law_made
  dsimp only
  simp [e2, hdS, xeL, xeD, h.f.xN, h.xB, h.xP, unO, sizeLine, tx, xPce]
/-- zero and unit, made -/
theorem md_ok (j : Nat) {k p n a : Int} (hp : Pm p) (h9 : p ≤ 97) (hn : 0 ≤ n ∧ n ≤ 9) (hk : k = 1 ∨ (k = 2 ∧ 0 ≤ a ∧ a < n)) : ∃ S', run P (j + 6) "_law_made" [.int k, .int p, .int n, .int a] [] = .ok (.tup [tx "made", .lst ((if k = 1 then List.replicate n.toNat 0 else (List.replicate n.toNat 0).set a.toNat 1).map .int), .int p]) S' := by
  obtain ⟨S1, d, W, hev, M, hl, hW⟩ : ∃ S1 d W, exS P (run P (j + 5)) (.ifs (.cmp .eq (.var 0) (.int 1)) (.seq (.asg 5 (.scall "Mix" "zero" (.acons (.var 1) (.acons (.var 2) .anil))))
  .nil) (.seq (.asg 5 (.scall "Mix" "unit" (.acons (.var 1) (.acons (.var 2) (.acons (.var 3) .anil)))))
  .nil)) [some (.int k), some (.int p), some (.int n), some (.int a), none, none] [] = .nx [some (.int k), some (.int p), some (.int n), some (.int a), none, some d] S1 ∧ MixAt S1 d p W ∧ W.length ≤ 9 ∧ W = (if k = 1 then List.replicate n.toNat 0 else (List.replicate n.toNat 0).set a.toNat 1) := by
    rcases hk with rfl | ⟨rfl, ha⟩
    · have z := zero_run h.toMixP h.z (j + 1) hp h9 hn []
      refine ⟨newMx [] p (List.replicate n.toNat 0), .ptr 0, List.replicate n.toNat 0, ?_, new_at (S := []), by simp; omega, by simp⟩
      have e1 : evE P (run P (j + 5)) (.scall "Mix" "zero" (.acons (.var 1) (.acons (.var 2) .anil))) [some (.int 1), some (.int p), some (.int n), some (.int a), none, none] [] = .ok (.ptr 0) (newMx [] p (List.replicate n.toNat 0)) := by
        rw [ev_scall h.sz]
        generalize newMx [] p (List.replicate n.toNat 0) = N at *
        simp [z]
      generalize newMx [] p (List.replicate n.toNat 0) = N at *
      simp [e1]
    · obtain ⟨S1, z, C⟩ := unit_run h j hp h9 hn ha []
      refine ⟨S1, .ptr 0, (List.replicate n.toNat 0).set a.toNat 1, ?_, MixAt.cell C.1 C.2, by simp; omega, by simp⟩
      have e1 : evE P (run P (j + 5)) (.scall "Mix" "unit" (.acons (.var 1) (.acons (.var 2) (.acons (.var 3) .anil)))) [some (.int 2), some (.int p), some (.int n), some (.int a), none, none] [] = .ok (.ptr 0) S1 := by
        rw [ev_scall h.su]
        simp [z]
      simp [e1]
  rw [← hW]
  have l2 := li_at h.toMixP (j + 4) M (by omega)
  have fp : fldD P "prime" S1 d = .ok (.int p) S1 := by
    obtain ⟨w, e1, _, _⟩ := M
    exact mf_p h.toMixP e1
  have k0 : k ≠ 0 := by omega
  refine ⟨S1, run_by h.md rfl ?_⟩
  rw [show startD c__law_made.ns [.int k, .int p, .int n, .int a] = [some (.int k), some (.int p), some (.int n), some (.int a), none, none] from rfl]
  unfold c__law_made
  dsimp only
  have c0 : evE P (run P (j + 5)) (.cmp .eq (.var 0) (.int 0)) [some (.int k), some (.int p), some (.int n), some (.int a), none, none] [] = .ok (.bl false) [] := by
    have : (k == 0) = false := by simpa using k0
    simp [this]
  rw [ex_seq, ex_try, ex_seq, ifs_f c0, ex_seq, hev]
  generalize W.map D.int = L at *
  simp [l2, fp, sizeLine, tx]
end
end MX
end

section
set_option maxRecDepth 100000
set_option maxHeartbeats 4000000
namespace MX
open PySem
theorem ne_self {pr : Prog} {cb : Cb} {S : Store} {xs : List D} (h : dpD 8 (.tup xs) = true) : cmpX pr cb .ne S (.tup xs) (.tup xs) = .ok (.bl false) S := by
  rw [cmpX_tup]
  show ofB S (notO (eqO (.tup xs) (.tup xs))) = _
  rw [eqO_refl h]
  rfl
theorem dp_pair {s : String} (hs : PySem.PyData.canLay0 (.str (Str.ofString s)) = true) (a : Int) : dpD 8 (.tup [tx s, .int a]) = true := by
  show ([tx s, D.int a].all (dpD 7)) = true
  rw [List.all_cons, dp_tx hs]
  rfl
theorem ne_NoPiece {pr : Prog} {cb : Cb} {S : Store} (a : Int) : cmpX pr cb .ne S (.tup [tx "NoPiece", .int a]) (.tup [tx "NoPiece", .int a]) = .ok (.bl false) S := ne_self (dp_pair (by decide +kernel) a)
theorem ne_NotPrime {pr : Prog} {cb : Cb} {S : Store} (a : Int) : cmpX pr cb .ne S (.tup [tx "NotPrime", .int a]) (.tup [tx "NotPrime", .int a]) = .ok (.bl false) S := ne_self (dp_pair (by decide +kernel) a)
theorem ne_BadSize {pr : Prog} {cb : Cb} {S : Store} (a : Int) : cmpX pr cb .ne S (.tup [tx "BadSize", .int a]) (.tup [tx "BadSize", .int a]) = .ok (.bl false) S := ne_self (dp_pair (by decide +kernel) a)
theorem ne_Mismatch {pr : Prog} {cb : Cb} {S : Store} (a : Int) : cmpX pr cb .ne S (.tup [tx "Mismatch", .int a]) (.tup [tx "Mismatch", .int a]) = .ok (.bl false) S := ne_self (dp_pair (by decide +kernel) a)
theorem ne_NoInverse {pr : Prog} {cb : Cb} {S : Store} (a : Int) : cmpX pr cb .ne S (.tup [tx "NoInverse", .int a]) (.tup [tx "NoInverse", .int a]) = .ok (.bl false) S := ne_self (dp_pair (by decide +kernel) a)
section
variable {P : Prog} (h : LawP P)
include h
/-! _law_done -/
theorem dn_mis (j : Nat) {S : Store} {d e : D} {p q : Int} {ws vs : List Int} {k : Int} (hk : k = 0 ∨ k = 1 ∨ k = 2) (m : MixAt S d p ws) (m2 : MixAt S e q vs) (hl : ¬ (p = q ∧ ws.length = vs.length)) (h9 : vs.length ≤ 1000) : run P (j + 5) "_law_done" [.int k, d, e] S = .ok (.tup [tx "Mismatch", .int 0]) S := by
  have a := bx_mix_ex h.toMixP j (op := .add) (.inl rfl) m m2 hl h9
  have b := bx_mix_ex h.toMixP j (op := .sub) (.inr rfl) m m2 hl h9
  have c := ax_mix_ex h.toMixP j m m2 hl h9
  refine run_by h.dn rfl ?_
  rw [show startD c__law_done.ns [.int k, d, e] = [some (.int k), some d, some e, none] from rfl]
  unfold c__law_done
  dsimp only
  rcases hk with rfl | rfl | rfl <;> simp [a, b, c, hdS, xeL, xeD, h.f.xM, h.f.xI, unO, sizeLine, tx, xMis]
theorem dn_res (j : Nat) {S : Store} {d : D} {p q v : Int} {ws : List Int} {k : Int} (hk : k = 3 ∨ k = 4 ∨ k = 5) (m : MixAt S d p ws) (hq : p ≠ q) : run P (j + 5) "_law_done" [.int k, d, resD v q] S = .ok (.tup [tx "Mismatch", .int 0]) S := by
  have a := bx_res_ex h.toMixP j (op := .mul) (v := v) (.inl rfl) m hq
  have b := bx_res_ex h.toMixP j (op := .fdiv) (v := v) (.inr rfl) m hq
  have c := bx_resl_ex h.toMixP j (v := v) m hq
  refine run_by h.dn rfl ?_
  rw [show startD c__law_done.ns [.int k, d, resD v q] = [some (.int k), some d, some (resD v q), none] from rfl]
  unfold c__law_done
  dsimp only
  rcases hk with rfl | rfl | rfl <;> simp [a, b, c, hdS, xeL, xeD, h.f.xM, h.f.xI, unO, sizeLine, tx, xMis]
theorem dn_inv (j : Nat) {S : Store} {d o : D} {p w : Int} {ws : List Int} (m : MixAt S d p ws) (hp : Pm p) (ho : Opd p o w) (hw : w % p = 0) : run P (j + 5) "_law_done" [.int 5, d, o] S = .ok (.tup [tx "NoInverse", .int 0]) S := by
  have a := bx_fdv_ex h.toMixP j m hp ho hw
  refine run_by h.dn rfl ?_
  rw [show startD c__law_done.ns [.int 5, d, o] = [some (.int 5), some d, some o, none] from rfl]
  unfold c__law_done
  dsimp only
  simp [a, hdS, xeL, xeD, h.f.xM, h.f.xI, unO, sizeLine, tx, xInv]
omit h in
theorem one_red {p : Int} (hp : Pm p) {ws : List Int} (hr : ∀ w ∈ ws, 0 ≤ w ∧ w < p) : (ws.map fun v => v * ((1 % p) ^ (p - 2).toNat % p)).map (fun w => w % p) = ws := by
  have p1 : 1 % p = 1 := Int.emod_eq_of_lt (by omega) (by have := hp.1; omega)
  rw [p1, Int.one_pow, p1, List.map_map]
  conv => rhs; rw [← List.map_id ws]
  refine List.map_congr_left fun w hw => ?_
  show w * 1 % p = w
  rw [Int.mul_one]
  exact Int.emod_eq_of_lt (hr w hw).1 (hr w hw).2
theorem dn_one (j : Nat) {S : Store} {d : D} {p : Int} {ws : List Int} (m : MixAt S d p ws) (hp : Pm p) (h9 : p ≤ 97) (hl : ws.length ≤ 9) (hr : ∀ w ∈ ws, 0 ≤ w ∧ w < p) : run P (j + 6) "_law_done" [.int 5, d, .int 1] S = .ok (.tup [tx "done", .lst (ws.map .int)]) (newMx S p ws) := by
  have p1 : 1 % p = 1 := Int.emod_eq_of_lt (by omega) (by have := hp.1; omega)
  have a := bx_fdv h.toMixP j m hp h9 hl hr (.inl ⟨1, rfl, rfl⟩ : Opd p (.int 1) (1 % p)) (by rw [p1, p1]; omega)
  rw [one_red hp hr] at a
  have M := new_at (S := S) (p := p) (ws := ws)
  have l := li_at h.toMixP (j + 4) M (by omega)
  generalize newMx S p ws = S1 at *
  generalize ws.map D.int = L at *
  refine run_by h.dn rfl ?_
  rw [show startD c__law_done.ns [.int 5, d, .int 1] = [some (.int 5), some d, some (.int 1), none] from rfl]
  unfold c__law_done
  dsimp only
  simp [a, l, sizeLine, tx]
end
end MX
end

section
set_option maxRecDepth 100000
set_option maxHeartbeats 40000000
namespace MX
open PySem
theorem unit_eq {n k : Nat} (hk : k < n) : (List.range n).map (fun x => if x = k then (1 : Int) else 0) = (List.replicate n 0).set k 1 := by
  apply List.ext_getElem
  · simp
  · intro i h1 h2
    simp at h1
    rw [List.getElem_map, List.getElem_range, List.getElem_set]
    by_cases q : i = k
    · subst q; simp
    · simp [q, Ne.symm q]
theorem sz_made {l : List Int} (hl : l.length ≤ 1000) (p : Int) : szD 6 (.tup [tx "made", .lst (l.map .int), .int p]) = true := by
  have a : szD 5 (tx "made") = true := by
    show flatS (tx "made") = true
    show PySem.PyData.canLay0 (.str (Str.ofString "made")) = true
    decide +kernel
  show (decide (([tx "made", D.lst (l.map .int), .int p]).length < 2 ^ 62) && ([tx "made", D.lst (l.map .int), .int p]).all (szD 5)) = true
  rw [List.all_cons, List.all_cons, List.all_cons, a, sz_ints 4 l hl, sz_int]
  rfl
section
variable {P : Prog} (h : LawP P)
include h
theorem cmd {k p n a : Int} {d : D} {S : Store} (e : ∃ S', run P 7 "_law_made" [.int k, .int p, .int n, .int a] [] = .ok d S') (hd : d.pf = true) : callP (run P 7) "_law_made" [.int k, .int p, .int n, .int a] S = .ok d S := by
  obtain ⟨S', e⟩ := e
  exact callP_ok (by simp) e hd
theorem mks_run {p w g a : Int} {n : Nat} (hp : Pm p) (h9 : p ≤ 97) (n9 : n ≤ 9) (hw : 97 < w ∨ ¬ Pm w) (hg : 10 ≤ g ∧ g ≤ 40) (ha : ¬ (0 ≤ a ∧ a < n)) : ∃ S', run P 8 "_law_makes" [.int p, .int (n : Int), .int w, .int g, .int a] [] = .ok (.bl true) S' := by
  have sz : sizeLine = 16777216 := rfl
  have go : ∃ S', exS P (run P 7) c__law_makes.body (startD c__law_makes.ns [.int p, .int (n : Int), .int w, .int g, .int a]) [] = .rt (.bl true) S' := by
    rw [show startD c__law_makes.ns [.int p, .int (n : Int), .int w, .int g, .int a] = [some (.int p), some (.int (n : Int)), some (.int w), some (.int g), some (.int a), none, none, none, none, none] from rfl]
    unfold c__law_makes
    dsimp only
    have pf2 : ∀ (s : String) (i : Int), (D.tup [tx s, .int i]).pf = true := fun s i => by simp
    have c1 : callP (run P 7) "_law_made" [.int 0, .int w, .int n, .int 0] [] = .ok (.tup [tx "NotPrime", .int w]) [] := cmd h (md_mk h 3 (a := 0) (by omega) (by omega) (.inl ⟨hw, rfl⟩)) (pf2 _ _)
    have c2 : callP (run P 7) "_law_made" [.int 0, .int w, .int g, .int 0] [] = .ok (.tup [tx "NotPrime", .int w]) [] := cmd h (md_mk h 3 (a := 0) (by omega) (by omega) (.inl ⟨hw, rfl⟩)) (pf2 _ _)
    have c3 : callP (run P 7) "_law_made" [.int 0, .int p, .int g, .int 0] [] = .ok (.tup [tx "BadSize", .int g]) [] := cmd h (md_mk h 3 (a := 0) (by omega) (by omega) (.inr ⟨⟨hp, h9⟩, by omega, rfl⟩)) (pf2 _ _)
    refine seq_E (σ1 := [some (.int p), some (.int (n : Int)), some (.int w), some (.int g), some (.int a), none, none, none, none, none]) (S1 := []) (by simp [c1, ne_NotPrime, sz, -ev_str, -cmpX_tup]) ?_
    refine seq_E (σ1 := [some (.int p), some (.int (n : Int)), some (.int w), some (.int g), some (.int a), none, none, none, none, none]) (S1 := []) (by simp [c2, ne_NotPrime, sz, -ev_str, -cmpX_tup]) ?_
    refine seq_E (σ1 := [some (.int p), some (.int (n : Int)), some (.int w), some (.int g), some (.int a), none, none, none, none, none]) (S1 := []) (by simp [c3, ne_BadSize, sz, -ev_str, -cmpX_tup]) ?_
    obtain ⟨σ4, S4, f4, ⟨v5, hσ4, rfl⟩⟩ := for_invS (f := fun x σ S => exS P (run P 7) (c__law_makes.body.tl.tl.tl.hd.bd) (σ.set 5 (some x)) S) (I := fun σ S => ∃ (u5 : Option D), σ = [some (.int p), some (.int (n : Int)), some (.int w), some (.int g), some (.int a), u5, none, none, none, none] ∧ S = []) (xs := [.int 1, .int 2]) (fun x hx σ S hI => by
      obtain ⟨u5, rfl, rfl⟩ := hI
      obtain ⟨k, hk, rfl⟩ : ∃ k : Int, (k = 1 ∨ k = 2) ∧ x = .int k := by
        rcases List.mem_cons.mp hx with rfl | hx
        · exact ⟨1, .inl rfl, rfl⟩
        · exact ⟨2, .inr rfl, List.mem_singleton.mp hx⟩
      have c : callP (run P 7) "_law_made" [.int k, .int w, .int n, .int a] [] = .ok (.tup [tx "NotPrime", .int w]) [] := cmd h ⟨_, md_ex h 2 hk (.inl ⟨hw, rfl⟩)⟩ (pf2 _ _)
      refine ⟨_, [], ?_, ⟨some (.int k), rfl, rfl⟩⟩
      unfold c__law_makes
      dsimp only [Sx.tl, Sx.hd, Sx.bd, List.set]
      simp [c, ne_NotPrime, sz, -ev_str, -cmpX_tup]) [some (.int p), some (.int (n : Int)), some (.int w), some (.int g), some (.int a), none, none, none, none, none] [] ⟨none, rfl, rfl⟩
    subst hσ4
    unfold c__law_makes at f4
    dsimp only [Sx.tl, Sx.hd, Sx.bd] at f4
    refine seq_E (σ1 := [some (.int p), some (.int (n : Int)), some (.int w), some (.int g), some (.int a), v5, none, none, none, none]) (S1 := []) (by rw [for_lst (xs := [.int 1, .int 2]) (S1 := []) (by simp [sz])]; exact f4) ?_
    have pw : ∀ S : Store, binD .pow S (.int 10) (.int 29) = .ok (.int (10 ^ 29)) S := fun S => bin_pow (S := S) (i := 10) (j := 29) (by decide)
    obtain ⟨σ5, S5, f5, ⟨v5', v6, hσ5, rfl⟩⟩ := for_invS (f := fun x σ S => exS P (run P 7) (c__law_makes.body.tl.tl.tl.tl.hd.bd) (σ.set 6 (some x)) S) (I := fun σ S => ∃ (u5 u6 : Option D), σ = [some (.int p), some (.int (n : Int)), some (.int w), some (.int g), some (.int a), u5, u6, none, none, none] ∧ S = []) (xs := [.int g, .int ((n : Int) - 10), .int (10 ^ 29), .int (0 - 10 ^ 29)]) (fun x hx σ S hI => by
      obtain ⟨u5, u6, rfl, rfl⟩ := hI
      obtain ⟨b, hb, rfl⟩ : ∃ b : Int, ¬ (0 ≤ b ∧ b ≤ 9) ∧ x = .int b := by
        simp only [List.mem_cons, List.not_mem_nil, or_false] at hx
        rcases hx with rfl | rfl | rfl | rfl
        · exact ⟨g, by omega, rfl⟩
        · exact ⟨_, by omega, rfl⟩
        · exact ⟨_, by omega, rfl⟩
        · exact ⟨_, by omega, rfl⟩
      obtain ⟨σ6, S6, f6, ⟨w5, hσ6, rfl⟩⟩ := for_invS (f := fun x σ S => exS P (run P 7) (c__law_makes.body.tl.tl.tl.tl.hd.bd.hd.bd) (σ.set 5 (some x)) S) (I := fun σ S => ∃ (u5 : Option D), σ = [some (.int p), some (.int (n : Int)), some (.int w), some (.int g), some (.int a), u5, some (.int b), none, none, none] ∧ S = []) (xs := [.int 1, .int 2]) (fun x hx σ S hI => by
        obtain ⟨u5, rfl, rfl⟩ := hI
        obtain ⟨k, hk, rfl⟩ : ∃ k : Int, (k = 1 ∨ k = 2) ∧ x = .int k := by
          rcases List.mem_cons.mp hx with rfl | hx
          · exact ⟨1, .inl rfl, rfl⟩
          · exact ⟨2, .inr rfl, List.mem_singleton.mp hx⟩
        have c : callP (run P 7) "_law_made" [.int k, .int w, .int b, .int a] [] = .ok (.tup [tx "NotPrime", .int w]) [] := cmd h ⟨_, md_ex h 2 hk (.inl ⟨hw, rfl⟩)⟩ (pf2 _ _)
        have c' : callP (run P 7) "_law_made" [.int k, .int p, .int b, .int a] [] = .ok (.tup [tx "BadSize", .int b]) [] := cmd h ⟨_, md_ex h 2 hk (.inr ⟨⟨hp, h9⟩, hb, rfl⟩)⟩ (pf2 _ _)
        refine ⟨_, [], ?_, ⟨some (.int k), rfl, rfl⟩⟩
        unfold c__law_makes
        dsimp only [Sx.tl, Sx.hd, Sx.bd, List.set]
        simp [c, c', ne_NotPrime, ne_BadSize, sz, -ev_str, -cmpX_tup]) [some (.int p), some (.int (n : Int)), some (.int w), some (.int g), some (.int a), u5, some (.int b), none, none, none] [] ⟨u5, rfl, rfl⟩
      subst hσ6
      unfold c__law_makes at f6
      dsimp only [Sx.tl, Sx.hd, Sx.bd] at f6
      refine ⟨_, [], ?_, ⟨w5, some (.int b), rfl, rfl⟩⟩
      unfold c__law_makes
      dsimp only [Sx.tl, Sx.hd, Sx.bd, List.set]
      rw [ex_seq, for_lst (xs := [.int 1, .int 2]) (S1 := []) (by simp [sz])]
      rw [f6]
      rfl) [some (.int p), some (.int (n : Int)), some (.int w), some (.int g), some (.int a), v5, none, none, none, none] [] ⟨v5, none, rfl, rfl⟩
    subst hσ5
    unfold c__law_makes at f5
    dsimp only [Sx.tl, Sx.hd, Sx.bd] at f5
    refine seq_E (σ1 := [some (.int p), some (.int (n : Int)), some (.int w), some (.int g), some (.int a), v5', v6, none, none, none]) (S1 := []) (by rw [for_lst (xs := [.int g, .int ((n : Int) - 10), .int (10 ^ 29), .int (0 - 10 ^ 29)]) (S1 := []) (by simp [sz, pw, -Int.zero_sub, -Int.reducePow])]; exact f5) ?_
    have c6 : callP (run P 7) "_law_made" [.int 2, .int p, .int n, .int a] [] = .ok (.tup [tx "NoPiece", .int a]) [] := cmd h (md_pce h 1 hp h9 ⟨by omega, by omega⟩ ha) (pf2 _ _)
    have r0 := rep_ok (pr := P) (cb := run P 7) (S := []) (n := (n : Int)) (k := 0) (by omega) (by omega)
    have pf3 : ∀ (l : List Int), (D.tup [tx "made", .lst (l.map .int), .int p]).pf = true := fun l => by simp
    have c7 : callP (run P 7) "_law_made" [.int 1, .int p, .int n, .int 0] [] = .ok (.tup [tx "made", .lst ((List.replicate n (0 : Int)).map .int), .int p]) [] := cmd h (by have z := md_ok h 1 (k := 1) (a := 0) (n := (n : Int)) hp h9 ⟨by omega, by omega⟩ (.inl rfl); rw [if_pos rfl, Int.toNat_natCast] at z; exact z) (pf3 _)
    rw [Int.toNat_natCast] at r0
    have sm := fun (l : List Int) (hl : l.length ≤ 1000) => call_same h.sm 6 (d := .tup [tx "made", .lst (l.map .int), .int p]) (sz_made hl p) []
    have s7 := sm (List.replicate n 0) (by simp; omega)
    refine seq_E (σ1 := [some (.int p), some (.int (n : Int)), some (.int w), some (.int g), some (.int a), v5', v6, none, none, none]) (S1 := []) (by simp [c6, ne_NoPiece, sz, -ev_str, -cmpX_tup]) ?_
    refine seq_E (σ1 := [some (.int p), some (.int (n : Int)), some (.int w), some (.int g), some (.int a), v5', v6, none, none, none]) (S1 := []) (by generalize (List.replicate n (0 : Int)).map D.int = L at *; simp [c7, r0, s7, sz, -ev_str, -cmpX_tup]) ?_
    obtain ⟨σ8, S8, f8, ⟨v7, v8, hσ8, rfl⟩⟩ := for_invS (f := fun x σ S => exS P (run P 7) (c__law_makes.body.tl.tl.tl.tl.tl.tl.tl.hd.bd) (σ.set 7 (some x)) S) (I := fun σ S => ∃ (u7 u8 : Option D), σ = [some (.int p), some (.int (n : Int)), some (.int w), some (.int g), some (.int a), v5', v6, u7, u8, none] ∧ S = []) (xs := (List.range n).map fun (k : Nat) => D.int (k : Int)) (fun x hx σ S hI => by
      obtain ⟨u7, u8, rfl, rfl⟩ := hI
      obtain ⟨k, hk, rfl⟩ := List.mem_map.mp hx
      have hk := List.mem_range.mp hk
      have c8 : callP (run P 7) "_law_made" [.int 2, .int p, .int n, .int k] [] = .ok (.tup [tx "made", .lst (((List.replicate n (0 : Int)).set k 1).map .int), .int p]) [] := cmd h (by have z := md_ok h 1 (k := 2) (a := (k : Int)) (n := (n : Int)) hp h9 ⟨by omega, by omega⟩ (.inr ⟨rfl, by omega, by omega⟩); rw [if_neg (by decide), Int.toNat_natCast, Int.toNat_natCast] at z; exact z) (pf3 _)
      have s8 := sm ((List.replicate n (0 : Int)).set k 1) (by simp; omega)
      have e8 : ∀ u8, evE P (run P 7) (.comp false [9] .seq (.n 9) (.irng1 (.var 1)) (.bl true) (.bi .int (.acons (.cmp .eq (.var 9) (.var 7)) .anil))) [some (.int p), some (.int (n : Int)), some (.int w), some (.int g), some (.int a), v5', v6, some (.int (k : Int)), u8, none] [] = .ok (.lst (((List.replicate n (0 : Int)).set k 1).map .int)) [] := fun u8 => by
        rw [comp_rng (n := n) (g := fun x => if x = k then 1 else 0) (by omega) (by simp) (fun x hx => by
          by_cases q : x = k
          · simp [wipeD, q, biD_bl]
          · have q2 : ((x : Int) == (k : Int)) = false := by rw [beq_eq_false_iff_ne]; omega
            simp [wipeD, q, q2, biD_bl]), unit_eq hk]
      refine ⟨_, [], ?_, ⟨some (.int k), some (.tup [tx "made", .lst (((List.replicate n (0 : Int)).set k 1).map .int), .int p]), rfl, rfl⟩⟩
      generalize ((List.replicate n (0 : Int)).set k 1).map D.int = L at *
      unfold c__law_makes
      dsimp only [Sx.tl, Sx.hd, Sx.bd, List.set]
      simp [c8, s8, e8, sz, -ev_comp, -ev_str, -cmpX_tup]) [some (.int p), some (.int (n : Int)), some (.int w), some (.int g), some (.int a), v5', v6, none, none, none] [] ⟨none, none, rfl, rfl⟩
    subst hσ8
    unfold c__law_makes at f8
    dsimp only [Sx.tl, Sx.hd, Sx.bd] at f8
    refine seq_E (σ1 := [some (.int p), some (.int (n : Int)), some (.int w), some (.int g), some (.int a), v5', v6, v7, v8, none]) (S1 := []) (by rw [for_rng1 (S1 := []) (n := (n : Int)) (by simp) (by omega), Int.toNat_natCast]; exact f8) ?_
    exact ⟨[], by simp⟩
  obtain ⟨S', go⟩ := go
  exact ⟨S', run_by h.mks rfl go⟩
end
end MX
end

section
set_option maxRecDepth 100000
set_option maxHeartbeats 40000000
namespace MX
open PySem
theorem np_of {n d : Int} (h1 : 2 ≤ d) (h2 : d * d ≤ n) (h : n % d = 0) : ¬ Pm n := fun p => p.2 d h1 h2 h
theorem ats6 {n : Nat} {f i : Int} (n9 : n ≤ 9) (hf : 0 ≤ f ∧ f < 5040) (h0 : 0 ≤ i) (h : i < 6) : ∃ a : Int, ¬ (0 ≤ a ∧ a < n) ∧ ∀ S : Store, idxD S (.lst [.int (0 - 1), .int (n : Int), .int ((n : Int) + f), .int (0 - 1 - f), .int (10 ^ 29), .int (0 - 10 ^ 29)]) (.int i) = .ok (.int a) S ∧ insD S (.lst [.int (0 - 1), .int (n : Int), .int ((n : Int) + f), .int (0 - 1 - f), .int (10 ^ 29), .int (0 - 10 ^ 29)]) = none := by
  have c : i = 0 ∨ i = 1 ∨ i = 2 ∨ i = 3 ∨ i = 4 ∨ i = 5 := by omega
  rcases c with rfl | rfl | rfl | rfl | rfl | rfl
  · exact ⟨_, by omega, fun S => ⟨rfl, rfl⟩⟩
  · exact ⟨_, by omega, fun S => ⟨rfl, rfl⟩⟩
  · exact ⟨_, by omega, fun S => ⟨rfl, rfl⟩⟩
  · exact ⟨_, by omega, fun S => ⟨rfl, rfl⟩⟩
  · exact ⟨_, by omega, fun S => ⟨rfl, rfl⟩⟩
  · exact ⟨_, by omega, fun S => ⟨rfl, rfl⟩⟩
theorem wrongs13 {i : Int} (h0 : 0 ≤ i) (h : i < 13) : ∃ w : Int, (97 < w ∨ ¬ Pm w) ∧ ∀ S : Store, idxD S (.lst [.int 0, .int 1, .int (0 - 5), .int 4, .int 6, .int 9, .int 91, .int 95, .int 98, .int 100, .int 101, .int 103, .int (10 ^ 6 + 3)]) (.int i) = .ok (.int w) S ∧ insD S (.lst [.int 0, .int 1, .int (0 - 5), .int 4, .int 6, .int 9, .int 91, .int 95, .int 98, .int 100, .int 101, .int 103, .int (10 ^ 6 + 3)]) = none := by
  have c : i = 0 ∨ i = 1 ∨ i = 2 ∨ i = 3 ∨ i = 4 ∨ i = 5 ∨ i = 6 ∨ i = 7 ∨ i = 8 ∨ i = 9 ∨ i = 10 ∨ i = 11 ∨ i = 12 := by omega
  rcases c with rfl | rfl | rfl | rfl | rfl | rfl | rfl | rfl | rfl | rfl | rfl | rfl | rfl
  · exact ⟨_, .inr fun p => by have := p.1; omega, fun S => ⟨rfl, rfl⟩⟩
  · exact ⟨_, .inr fun p => by have := p.1; omega, fun S => ⟨rfl, rfl⟩⟩
  · exact ⟨_, .inr fun p => by have := p.1; omega, fun S => ⟨rfl, rfl⟩⟩
  · exact ⟨_, .inr (np_of (d := 2) (by decide) (by decide) (by decide)), fun S => ⟨rfl, rfl⟩⟩
  · exact ⟨_, .inr (np_of (d := 2) (by decide) (by decide) (by decide)), fun S => ⟨rfl, rfl⟩⟩
  · exact ⟨_, .inr (np_of (d := 3) (by decide) (by decide) (by decide)), fun S => ⟨rfl, rfl⟩⟩
  · exact ⟨_, .inr (np_of (d := 7) (by decide) (by decide) (by decide)), fun S => ⟨rfl, rfl⟩⟩
  · exact ⟨_, .inr (np_of (d := 5) (by decide) (by decide) (by decide)), fun S => ⟨rfl, rfl⟩⟩
  · exact ⟨_, .inl (by decide), fun S => ⟨rfl, rfl⟩⟩
  · exact ⟨_, .inl (by decide), fun S => ⟨rfl, rfl⟩⟩
  · exact ⟨_, .inl (by decide), fun S => ⟨rfl, rfl⟩⟩
  · exact ⟨_, .inl (by decide), fun S => ⟨rfl, rfl⟩⟩
  · exact ⟨_, .inl (by decide), fun S => ⟨rfl, rfl⟩⟩
theorem sz_told (a : Int) : szD 7 (.tup [tx "told", .int a]) = true := by
  have e : szD 6 (tx "told") = true := by
    show PySem.PyData.canLay0 (.str (Str.ofString "told")) = true
    decide +kernel
  show (decide (([tx "told", D.int a]).length < 2 ^ 62) && ([tx "told", D.int a]).all (szD 6)) = true
  rw [List.all_cons, e]
  rfl
theorem dp_done (l : List Int) : dpD 8 (.tup [tx "done", .lst (l.map .int)]) = true := by
  show ([tx "done", D.lst (l.map .int)].all (dpD 7)) = true
  rw [List.all_cons, dp_tx (by decide +kernel), List.all_cons, dp_lsti]
  rfl
section
variable {P : Prog} (h : LawP P)
include h
theorem law6_run (ns : List Int) (hn : ns.length ≤ 63) : ∃ S, run P 9 "law" [.scr ns] [] = .ok (.bl true) S := by
  have sz : sizeLine = 16777216 := rfl
  obtain ⟨xs, S', e, xl, xs5⟩ := pool_run h.mx h.pl 6 ns hn 20 (by omega)
  have cp : callP (run P 8) "_law_pool" [.scr ns, .int 20] [] = .ok (.lst (xs.map .int)) [] := callP_ok (by simp) e (by simp)
  have bm := fun (i j : Int) (h : 0 < j) S => bin_mod (S := S) (i := i) (j := j) h
  have gx : ∀ (i : Int), 0 ≤ i → i < 20 → ∃ y : Int, (0 ≤ y ∧ y < 5040) ∧ ∀ S, idxD S (.lst (xs.map .int)) (.int i) = .ok (.int y) S := fun i h0 h1 => ⟨_, small_getD xs5 i.toNat, fun S => getD_idx h0 (by omega)⟩
  obtain ⟨y0, b0, i0⟩ := gx 0 (by omega) (by omega)
  obtain ⟨y1, b1, i1⟩ := gx 1 (by omega) (by omega)
  obtain ⟨y11, b11, i11⟩ := gx 11 (by omega) (by omega)
  obtain ⟨y12, b12, i12⟩ := gx 12 (by omega) (by omega)
  obtain ⟨y13, b13, i13⟩ := gx 13 (by omega) (by omega)
  obtain ⟨y14, b14, i14⟩ := gx 14 (by omega) (by omega)
  obtain ⟨y15, b15, i15⟩ := gx 15 (by omega) (by omega)
  obtain ⟨p, ip, hp, h9⟩ := pr8 (i := y0 % 8) (by omega) (by omega)
  have p2 : 2 ≤ p := hp.1
  have p0 : 0 < p := by omega
  obtain ⟨n, hn'⟩ : ∃ n : Nat, y1 % 10 = (n : Int) := ⟨(y1 % 10).toNat, by omega⟩
  have n9 : n ≤ 9 := by omega
  have ct : cutL (xs.map D.int) (some 2) (some (2 + (n : Int))) = ((xs.drop 2).take n).map .int := by
    rw [cutL_ok (by omega) (by omega) (by rw [List.length_map]; omega), ← List.map_drop, ← List.map_take]
    congr 2
    omega
  have lro : ((xs.drop 2).take n).length = n := by simp; omega
  generalize (xs.drop 2).take n = ro at ct lro
  generalize hX : xs.map D.int = X at *
  have go : ∃ S, exS P (run P 8) c_law.body (startD c_law.ns [.scr ns]) [] = .rt (.bl true) S := by
    rw [show startD c_law.ns [.scr ns] = [some (.scr ns), none, none, none, none, none, none, none, none, none, none, none, none, none, none, none, none, none, none, none, none, none] from rfl]
    unfold c_law
    dsimp only
    refine seq_E (σ1 := [some (.scr ns), some (.lst X), none, none, none, none, none, none, none, none, none, none, none, none, none, none, none, none, none, none, none, none]) (S1 := []) (by simp [cp]) ?_
    refine seq_E (σ1 := [some (.scr ns), some (.lst X), some (.int p), none, none, none, none, none, none, none, none, none, none, none, none, none, none, none, none, none, none, none]) (S1 := []) (by simp [i0, bm, ip, sz]) ?_
    refine seq_E (σ1 := [some (.scr ns), some (.lst X), some (.int p), some (.int (n : Int)), none, none, none, none, none, none, none, none, none, none, none, none, none, none, none, none, none, none]) (S1 := []) (by simp [i1, bm, hn']) ?_
    have c4 : evE P (run P 8) (.comp false [19] .seq (.n 19) (.cut (.var 1) (.part (.int 2)) (.part (.bin .add (.int 2) (.var 3)))) (.bl true) (.bi .int (.acons (.var 19) .anil))) [some (.scr ns), some (.lst X), some (.int p), some (.int (n : Int)), none, none, none, none, none, none, none, none, none, none, none, none, none, none, none, none, none, none] [] = .ok (.lst (ro.map .int)) [] := by
      rw [comp_ints (S := []) (S1 := []) (g := fun x => x) (xs := ro) (by simp [cut_lst, ct]) (fun w _ => by simp [wipeD]) (by omega)]
      simp
    refine seq_E (σ1 := [some (.scr ns), some (.lst X), some (.int p), some (.int (n : Int)), some (.lst (ro.map .int)), none, none, none, none, none, none, none, none, none, none, none, none, none, none, none, none, none]) (S1 := []) (by rw [ex_asg, c4]; rfl) ?_
    have li : ∀ (vs : List Int) S, biX P (run P 8) .list S [.lst (vs.map .int)] = .ok (.lst (vs.map .int)) S := fun vs S => by simp; rfl
    have mk := fun (q : Int) (vs : List Int) (hq : Pm q) (q9 : q ≤ 97) (hl : vs.length ≤ 9) S => mmk h.toMixP 5 (W := .lst (vs.map .int)) (ws := vs) hq q9 (fun S => SeqAt.lst) hl S
    have m5 := mk p ro hp h9 (by omega) []
    have C0 := mixC_new (S := []) (p := p) (W := ro.map fun w => w % p)
    refine seq_E (σ1 := [some (.scr ns), some (.lst X), some (.int p), some (.int (n : Int)), some (.lst (ro.map .int)), some (.ptr 0), none, none, none, none, none, none, none, none, none, none, none, none, none, none, none, none]) (S1 := (newMx [] p (ro.map fun w => w % p))) (by
      have z := li ro []
      have m5 : mkX P (run P 8) "Mix" [.int p, .lst (ro.map .int)] [] = .ok (.ptr 0) (newMx [] p (ro.map fun w => w % p)) := m5
      generalize newMx [] p (ro.map fun w => w % p) = N at *
      generalize ro.map D.int = L at *
      simp [z, m5, -biX_list]) ?_
    have C0 : MixC (newMx [] p (ro.map fun w => w % p)) 0 1 p (ro.map fun w => w % p) := C0
    have nl0 : 2 ≤ (newMx [] p (ro.map fun w => w % p)).length := by unfold newMx; simp
    generalize newMx [] p (ro.map fun w => w % p) = T0 at C0 nl0 ⊢
    have lA : (ro.map fun w => w % p).length = n := by rw [List.length_map]; exact lro
    have rA := red_rng p0 ro
    generalize hA : ro.map (fun w => w % p) = A at C0 lA rA
    refine seq_E (σ1 := [some (.scr ns), some (.lst X), some (.int p), some (.int (n : Int)), some (.lst (ro.map .int)), some (.ptr 0), some (.int y11), none, none, none, none, none, none, none, none, none, none, none, none, none, none, none]) (S1 := T0) (by simp [i11]) ?_
    have pw : ∀ S : Store, binD .pow S (.int 10) (.int 29) = .ok (.int (10 ^ 29)) S := fun S => bin_pow (S := S) (i := 10) (j := 29) (by decide)
    refine seq_E (σ1 := [some (.scr ns), some (.lst X), some (.int p), some (.int (n : Int)), some (.lst (ro.map .int)), some (.ptr 0), some (.int y11), some (.lst [.int (0 - 1), .int (n : Int), .int ((n : Int) + y11), .int (0 - 1 - y11), .int (10 ^ 29), .int (0 - 10 ^ 29)]), none, none, none, none, none, none, none, none, none, none, none, none, none, none]) (S1 := T0) (by simp [pw, sz, -Int.zero_sub, -Int.reducePow, -Int.reduceSub, -Int.reduceNeg]) ?_
    obtain ⟨at_, hat, iat⟩ := ats6 (n := n) (f := y11) (i := y12 % 6) n9 b11 (by omega) (by omega)
    generalize (D.lst [.int (0 - 1), .int (n : Int), .int ((n : Int) + y11), .int (0 - 1 - y11), .int (10 ^ 29), .int (0 - 10 ^ 29)]) = ATS at iat ⊢
    refine seq_E (σ1 := [some (.scr ns), some (.lst X), some (.int p), some (.int (n : Int)), some (.lst (ro.map .int)), some (.ptr 0), some (.int y11), some ATS, some (.int at_), none, none, none, none, none, none, none, none, none, none, none, none, none]) (S1 := T0) (by have z := bm y12 6 (by omega) T0; have w := idxX_n (pr := P) (cb := run P 8) (i := .int (y12 % 6)) (iat T0).2; simp [i12, z, w, (iat T0).1]) ?_
    have tell : ∀ (w : Nat), w < 3 → ∀ S, MixC S 0 1 p A → run P 8 "_law_read" [.ptr 0, .int at_, .int (w : Int)] S = .ok (.tup [tx "NoPiece", .int at_]) S := fun w hw S C => rd_bad h 4 (MixAt.cell C.1 C.2) at_ (w : Int) (by omega) (by rw [lA]; exact hat)
    obtain ⟨σ9, T9, f9, ⟨v9, v16, v20, v21, hσ9, C9, nl9⟩⟩ := for_invS (f := fun x σ S => exS P (run P 8) (c_law.body.tl.tl.tl.tl.tl.tl.tl.tl.hd.bd) (σ.set 9 (some x)) S) (I := fun σ S => ∃ (u9 u16 u20 u21 : Option D), σ = [some (.scr ns), some (.lst X), some (.int p), some (.int (n : Int)), some (.lst (ro.map .int)), some (.ptr 0), some (.int y11), some ATS, some (.int at_), u9, none, none, none, none, none, none, u16, none, none, none, u20, u21] ∧ MixC S 0 1 p A ∧ 2 ≤ S.length) (xs := (List.range 3).map fun (k : Nat) => D.int (k : Int)) (fun x hx σ S hI => by
      obtain ⟨u9, u16, u20, u21, rfl, C, nl⟩ := hI
      obtain ⟨w, hw, rfl⟩ := List.mem_map.mp hx
      have hw := List.mem_range.mp hw
      have t1 := tell w hw S C
      obtain ⟨σ6, S6, f6, ⟨v16, v20, v21, hσ6, C6, nl6⟩⟩ := for_invS (f := fun x σ S => exS P (run P 8) (c_law.body.tl.tl.tl.tl.tl.tl.tl.tl.hd.bd.tl.hd.bd) (σ.set 16 (some x)) S) (I := fun σ S => ∃ (u16 u20 u21 : Option D), σ = [some (.scr ns), some (.lst X), some (.int p), some (.int (n : Int)), some (.lst (ro.map .int)), some (.ptr 0), some (.int y11), some ATS, some (.int at_), some (.int (w : Int)), none, none, none, none, none, none, u16, none, none, none, u20, u21] ∧ MixC S 0 1 p A ∧ 2 ≤ S.length) (xs := (List.range n).map fun (k : Nat) => D.int (k : Int)) (fun x hx σ S hI => by
        obtain ⟨u16, u20, u21, rfl, C, nl⟩ := hI
        obtain ⟨k, hk, rfl⟩ := List.mem_map.mp hx
        have hk := List.mem_range.mp hk
        have g := getD_idx (S := S) (xs := ro) (i := (k : Int)) (by omega) (by omega)
        rw [Int.toNat_natCast] at g
        have g2 : A.getD k 0 = ro.getD k 0 % p := by
          rw [← hA]
          simp [List.getElem?_eq_getElem (show k < ro.length by omega)]
        have m1 := mk p ro hp h9 (by omega) S
        rw [hA] at m1
        have C1 := mixC_new (S := S) (p := p) (W := A)
        have CA : MixC (newMx S p A) 0 1 p A := C.app
        have nl1 := new_len (S := S) (p := p) (W := A)
        generalize newMx S p A = S1 at m1 C1 CA nl1
        obtain ⟨due, hdue, S2, e2, C2, nl2⟩ : ∃ due : Int, (∀ S, idxD S (.lst [.int (ro.getD k 0 % p), .int (ro.getD k 0 % p), .int 3]) (.int (w : Int)) = .ok (.int due) S) ∧ ∃ S2, run P 8 "_law_read" [.ptr S.length, .int (k : Int), .int (w : Int)] S1 = .ok (.tup [tx "told", .int due]) S2 ∧ MixC S2 0 1 p A ∧ 2 ≤ S2.length := by
          have c : w = 0 ∨ w = 1 ∨ w = 2 := by omega
          have t := rd_told h 3 (MixAt.cell C1.1 C1.2) hp h9 rA (k : Int) (w : Int)
          rcases c with rfl | rfl | rfl
          · exact ⟨_, fun S => rfl, S1, by rw [t (by omega) ⟨by omega, by omega⟩, Int.toNat_natCast, g2], CA, by omega⟩
          · exact ⟨_, fun S => rfl, S1, by rw [t (by omega) ⟨by omega, by omega⟩, Int.toNat_natCast, g2], CA, by omega⟩
          · obtain ⟨S2, e, kp⟩ := rd_set h 3 C1 p0 (k : Int) ⟨by omega, by omega⟩
            exact ⟨_, fun S => rfl, S2, e, ⟨by rw [kp 0 (by omega)]; exact CA.1, by rw [kp 1 (by omega)]; exact CA.2⟩, by
              have := (List.getElem?_eq_some_iff.mp (show S2[1]? = some _ by rw [kp 1 (by omega)]; exact CA.2)).1
              omega⟩
        have sm := call_same h.sm 7 (d := .tup [tx "told", .int due]) (sz_told due) S2
        have lr := li ro S
        have md := bm (ro.getD k 0) p p0 S
        generalize ro.getD k 0 = v at *
        refine ⟨_, S2, ?_, ⟨some (.int (k : Int)), some (.int (v % p)), some (.tup [tx "told", .int due]), rfl, C2, nl2⟩⟩
        unfold c_law
        dsimp only [Sx.tl, Sx.hd, Sx.bd, List.set]
        generalize ro.map D.int = L at *
        simp [g, md, hdue, m1, e2, sm, lr, sz, -ev_str, -biX_list]) [some (.scr ns), some (.lst X), some (.int p), some (.int (n : Int)), some (.lst (ro.map .int)), some (.ptr 0), some (.int y11), some ATS, some (.int at_), some (.int (w : Int)), none, none, none, none, none, none, u16, none, none, none, u20, u21] S ⟨u16, u20, u21, rfl, C, nl⟩
      subst hσ6
      unfold c_law at f6
      dsimp only [Sx.tl, Sx.hd, Sx.bd] at f6
      refine ⟨_, S6, ?_, ⟨some (.int (w : Int)), v16, v20, v21, rfl, C6, nl6⟩⟩
      unfold c_law
      dsimp only [Sx.tl, Sx.hd, Sx.bd, List.set]
      refine seq_stp (σ1 := [some (.scr ns), some (.lst X), some (.int p), some (.int (n : Int)), some (.lst (ro.map .int)), some (.ptr 0), some (.int y11), some ATS, some (.int at_), some (.int (w : Int)), none, none, none, none, none, none, u16, none, none, none, u20, u21]) (S1 := S) (by generalize ro.map D.int = L at *; simp [t1, ne_NoPiece, sz, -ev_str, -cmpX_tup]) ?_
      rw [ex_seq, for_rng1 (S1 := S) (n := (n : Int)) (by simp) (by omega), Int.toNat_natCast, f6]
      rfl) [some (.scr ns), some (.lst X), some (.int p), some (.int (n : Int)), some (.lst (ro.map .int)), some (.ptr 0), some (.int y11), some ATS, some (.int at_), none, none, none, none, none, none, none, none, none, none, none, none, none] T0 ⟨none, none, none, none, rfl, C0, nl0⟩
    subst hσ9
    unfold c_law at f9
    dsimp only [Sx.tl, Sx.hd, Sx.bd] at f9
    refine seq_E (σ1 := [some (.scr ns), some (.lst X), some (.int p), some (.int (n : Int)), some (.lst (ro.map .int)), some (.ptr 0), some (.int y11), some ATS, some (.int at_), v9, none, none, none, none, none, none, v16, none, none, none, v20, v21]) (S1 := T9) (by rw [for_rng1 (S1 := T0) (n := 3) (by simp) (by omega)]; exact f9) ?_
    have pw6 : ∀ S : Store, binD .pow S (.int 10) (.int 6) = .ok (.int (10 ^ 6)) S := fun S => bin_pow (S := S) (i := 10) (j := 6) (by decide)
    refine seq_E (σ1 := [some (.scr ns), some (.lst X), some (.int p), some (.int (n : Int)), some (.lst (ro.map .int)), some (.ptr 0), some (.int y11), some ATS, some (.int at_), v9, some (.lst [.int 0, .int 1, .int (0 - 5), .int 4, .int 6, .int 9, .int 91, .int 95, .int 98, .int 100, .int 101, .int 103, .int (10 ^ 6 + 3)]), none, none, none, none, none, v16, none, none, none, v20, v21]) (S1 := T9) (by simp [pw6, sz, -Int.zero_sub, -Int.reducePow, -Int.reduceSub, -Int.reduceNeg, -Int.reduceAdd]) ?_
    obtain ⟨wr, hwr, iwr⟩ := wrongs13 (i := y13 % 13) (by omega) (by omega)
    generalize (D.lst [.int 0, .int 1, .int (0 - 5), .int 4, .int 6, .int 9, .int 91, .int 95, .int 98, .int 100, .int 101, .int 103, .int (10 ^ 6 + 3)]) = WR at iwr ⊢
    refine seq_E (σ1 := [some (.scr ns), some (.lst X), some (.int p), some (.int (n : Int)), some (.lst (ro.map .int)), some (.ptr 0), some (.int y11), some ATS, some (.int at_), v9, some WR, some (.int (10 + y14 % 31)), none, none, none, none, v16, none, none, none, v20, v21]) (S1 := T9) (by simp [i14, bm _ 31]) ?_
    have mks : callP (run P 8) "_law_makes" [.int p, .int (n : Int), .int wr, .int (10 + y14 % 31), .int at_] T9 = .ok (.bl true) T9 := by
      obtain ⟨S', e⟩ := mks_run h hp h9 n9 hwr (g := 10 + y14 % 31) (by omega) hat
      exact callP_ok (by simp) e (by simp)
    refine seq_E (σ1 := [some (.scr ns), some (.lst X), some (.int p), some (.int (n : Int)), some (.lst (ro.map .int)), some (.ptr 0), some (.int y11), some ATS, some (.int at_), v9, some WR, some (.int (10 + y14 % 31)), none, none, none, none, v16, none, none, none, v20, v21]) (S1 := T9) (by have z := bm y13 13 (by omega) T9; have w := idxX_n (pr := P) (cb := run P 8) (i := .int (y13 % 13)) (iwr T9).2; simp [i13, z, w, (iwr T9).1, mks]) ?_
    obtain ⟨st, s1, s2, s3, s4⟩ : ∃ st : Int, Pm st ∧ st ≤ 97 ∧ p ≠ st ∧ idxD T9 (.lst [.int 3, .int 2]) (.int (if p = 3 then 1 else 0)) = .ok (.int st) T9 := by
      by_cases e : p = 3
      · exact ⟨2, pm_pB (n := 2) (by decide +kernel) (by omega), by omega, by omega, by rw [if_pos e]; rfl⟩
      · exact ⟨3, pm_pB (n := 3) (by decide +kernel) (by omega), by omega, e, by rw [if_neg e]; rfl⟩
    refine seq_E (σ1 := [some (.scr ns), some (.lst X), some (.int p), some (.int (n : Int)), some (.lst (ro.map .int)), some (.ptr 0), some (.int y11), some ATS, some (.int at_), v9, some WR, some (.int (10 + y14 % 31)), some (.int st), none, none, none, v16, none, none, none, v20, v21]) (S1 := T9) (by
      by_cases e : p = 3
      · rw [if_pos e] at s4; simp [e, s4, sz, biD_bl]
      · have e2 : (p == 3) = false := by simpa using e
        rw [if_neg e] at s4; simp [e2, s4, sz, biD_bl]) ?_
    obtain ⟨N, hN, hNn, hN9⟩ : ∃ N : Nat, (n : Int) + 1 - 2 * (if (n : Int) = 9 then 1 else 0) = N ∧ N ≠ n ∧ N ≤ 9 := by
      by_cases e : n = 9
      · exact ⟨8, by simp [e], by omega, by omega⟩
      · exact ⟨n + 1, by have : ¬ ((n : Int) = 9) := by omega
                         simp [this], by omega, by omega⟩
    have rN := fun S => rep_ok (pr := P) (cb := run P 8) (S := S) (n := (N : Int)) (k := 1) (by omega) (by omega)
    rw [Int.toNat_natCast] at rN
    have mB := mk p (List.replicate N 1) hp h9 (by simp; omega) T9
    have p1 : 1 % p = 1 := Int.emod_eq_of_lt (by omega) (by omega)
    rw [rep_red, p1] at mB
    have CB := mixC_new (S := T9) (p := p) (W := List.replicate N 1)
    have C13 : MixC (newMx T9 p (List.replicate N 1)) 0 1 p A := C9.app
    have nl13 := new_len (S := T9) (p := p) (W := List.replicate N 1)
    obtain ⟨b, hb⟩ : ∃ b, T9.length = b := ⟨_, rfl⟩
    rw [hb] at mB CB nl13
    refine seq_E (σ1 := [some (.scr ns), some (.lst X), some (.int p), some (.int (n : Int)), some (.lst (ro.map .int)), some (.ptr 0), some (.int y11), some ATS, some (.int at_), v9, some WR, some (.int (10 + y14 % 31)), some (.int st), some (.ptr b), none, none, v16, none, none, none, v20, v21]) (S1 := (newMx T9 p (List.replicate N 1))) (by
      have e : evE P (run P 8) (.bin .sub (.bin .add (.var 3) (.int 1)) (.bin .mul (.int 2) (.bi .int (.acons (.cmp .eq (.var 3) (.int 9)) .anil)))) [some (.scr ns), some (.lst X), some (.int p), some (.int (n : Int)), some (.lst (ro.map .int)), some (.ptr 0), some (.int y11), some ATS, some (.int at_), v9, some WR, some (.int (10 + y14 % 31)), some (.int st), none, none, none, v16, none, none, none, v20, v21] T9 = .ok (.int N) T9 := by
        by_cases e : (n : Int) = 9
        · have m2 := bin_mul (S := T9) (i := 2) (j := 1) (by omega)
          rw [if_pos e] at hN
          simp [e, biD_bl, m2]
          omega
        · have m2 := bin_mul (S := T9) (i := 2) (j := 0) (by omega)
          have e2 : ((n : Int) == 9) = false := by simpa using e
          rw [if_neg e] at hN
          simp [e2, biD_bl, m2]
          omega
      generalize newMx T9 p (List.replicate N 1) = NN at *
      generalize (List.replicate N (1 : Int)).map D.int = L at *
      have e' : evE P (run P 8) (.bin .mul (.lst (.acons (.int 1) .anil)) (.bin .sub (.bin .add (.var 3) (.int 1)) (.bin .mul (.int 2) (.bi .int (.acons (.cmp .eq (.var 3) (.int 9)) .anil))))) [some (.scr ns), some (.lst X), some (.int p), some (.int (n : Int)), some (.lst (ro.map .int)), some (.ptr 0), some (.int y11), some ATS, some (.int at_), v9, some WR, some (.int (10 + y14 % 31)), some (.int st), none, none, none, v16, none, none, none, v20, v21] T9 = .ok (.lst L) T9 := by
        rw [ev_bin, show evE P (run P 8) (.lst (.acons (.int 1) .anil)) [some (.scr ns), some (.lst X), some (.int p), some (.int (n : Int)), some (.lst (ro.map .int)), some (.ptr 0), some (.int y11), some ATS, some (.int at_), v9, some WR, some (.int (10 + y14 % 31)), some (.int st), none, none, none, v16, none, none, none, v20, v21] T9 = .ok (.lst [.int 1]) T9 from by simp [sz], bind_ok, e, bind_ok]
        exact rN T9
      simp [e', mB, -ev_bin]) ?_
    generalize newMx T9 p (List.replicate N 1) = T13 at CB C13 nl13 ⊢
    have lB := fun {S : Store} (C : MixC S b (b + 1) p (List.replicate N 1)) => li_at h.toMixP 7 (MixAt.cell C.1 C.2) (by simp; omega)
    obtain ⟨σ15, T15, f15, ⟨v14, v17, hσ15, C15, D15⟩⟩ := for_invS (f := fun x σ S => exS P (run P 8) (c_law.body.tl.tl.tl.tl.tl.tl.tl.tl.tl.tl.tl.tl.tl.tl.hd.bd) (σ.set 14 (some x)) S) (I := fun σ S => ∃ (u14 u17 : Option D), σ = [some (.scr ns), some (.lst X), some (.int p), some (.int (n : Int)), some (.lst (ro.map .int)), some (.ptr 0), some (.int y11), some ATS, some (.int at_), v9, some WR, some (.int (10 + y14 % 31)), some (.int st), some (.ptr b), u14, none, v16, u17, none, none, v20, v21] ∧ MixC S 0 1 p A ∧ MixC S b (b + 1) p (List.replicate N 1)) (xs := (List.range 3).map fun (k : Nat) => D.int (k : Int)) (fun x hx σ S hI => by
      obtain ⟨u14, u17, rfl, C, Db⟩ := hI
      obtain ⟨w, hw, rfl⟩ := List.mem_map.mp hx
      have hw := List.mem_range.mp hw
      have a1 := mk st ro s1 s2 (by omega) S
      have K1 := new_at (S := S) (p := st) (ws := ro.map fun w => w % st)
      have C1 : MixC (newMx S st (ro.map fun w => w % st)) 0 1 p A := C.app
      have D1 : MixC (newMx S st (ro.map fun w => w % st)) b (b + 1) p (List.replicate N 1) := Db.app
      generalize newMx S st (ro.map fun w => w % st) = S1 at a1 K1 C1 D1
      have a2 := mk st (List.replicate N 1) s1 s2 (by simp; omega) S1
      have l1 := lB D1
      have K2 := new_at (S := S1) (p := st) (ws := (List.replicate N 1).map fun w => w % st)
      have K1' : MixAt (newMx S1 st ((List.replicate N 1).map fun w => w % st)) (.ptr S.length) st (ro.map fun w => w % st) := K1.app
      have C2 : MixC (newMx S1 st ((List.replicate N 1).map fun w => w % st)) 0 1 p A := C1.app
      have D2 : MixC (newMx S1 st ((List.replicate N 1).map fun w => w % st)) b (b + 1) p (List.replicate N 1) := D1.app
      generalize newMx S1 st ((List.replicate N 1).map fun w => w % st) = S2 at a2 K1' K2 C2 D2
      obtain ⟨σ6, S6, f6, ⟨w17, hσ6, hS6⟩⟩ := for_invS (f := fun x σ S => exS P (run P 8) (c_law.body.tl.tl.tl.tl.tl.tl.tl.tl.tl.tl.tl.tl.tl.tl.hd.bd.hd.bd) (σ.set 17 (some x)) S) (I := fun σ S => ∃ (u17 : Option D), σ = [some (.scr ns), some (.lst X), some (.int p), some (.int (n : Int)), some (.lst (ro.map .int)), some (.ptr 0), some (.int y11), some ATS, some (.int at_), v9, some WR, some (.int (10 + y14 % 31)), some (.int st), some (.ptr b), some (.int (w : Int)), none, v16, u17, none, none, v20, v21] ∧ S = S2) (xs := [.ptr S.length, .ptr b, .ptr S1.length]) (fun x hx σ S' hI => by
        obtain ⟨u17, rfl, rfl⟩ := hI
        obtain ⟨qq, W, K, ne, nW⟩ : ∃ (qq : Int) (W : List Int), MixAt S' x qq W ∧ ¬ (p = qq ∧ A.length = W.length) ∧ W.length ≤ 9 := by
          simp only [List.mem_cons, List.not_mem_nil, or_false] at hx
          rcases hx with rfl | rfl | rfl
          · exact ⟨st, _, K1', fun z => s3 z.1, by rw [List.length_map]; omega⟩
          · exact ⟨p, _, MixAt.cell D2.1 D2.2, fun z => hNn (by have := z.2; rw [List.length_replicate] at this; omega), by simp; omega⟩
          · exact ⟨st, _, K2, fun z => s3 z.1, by simp; omega⟩
        have k1 := dn_mis h 3 (S := S') (k := (w : Int)) (by omega) (MixAt.cell C2.1 C2.2) K ne (by omega)
        have k2 := dn_mis h 3 (S := S') (k := (w : Int)) (by omega) K (MixAt.cell C2.1 C2.2) (fun z => ne ⟨z.1.symm, z.2.symm⟩) (by omega)
        refine ⟨_, S', ?_, ⟨some x, rfl, rfl⟩⟩
        unfold c_law
        dsimp only [Sx.tl, Sx.hd, Sx.bd, List.set]
        generalize ro.map D.int = L at *
        simp [k1, k2, ne_Mismatch, sz, -ev_str, -cmpX_tup]) [some (.scr ns), some (.lst X), some (.int p), some (.int (n : Int)), some (.lst (ro.map .int)), some (.ptr 0), some (.int y11), some ATS, some (.int at_), v9, some WR, some (.int (10 + y14 % 31)), some (.int st), some (.ptr b), some (.int (w : Int)), none, v16, u17, none, none, v20, v21] S2 ⟨u17, rfl, rfl⟩
      subst hσ6 hS6
      unfold c_law at f6
      dsimp only [Sx.tl, Sx.hd, Sx.bd] at f6
      refine ⟨_, S6, ?_, ⟨some (.int (w : Int)), w17, rfl, C2, D2⟩⟩
      have lr := li ro S
      unfold c_law
      dsimp only [Sx.tl, Sx.hd, Sx.bd, List.set]
      rw [ex_seq, for_lst (xs := [.ptr S.length, .ptr b, .ptr S1.length]) (S1 := S6) (by
        generalize ro.map D.int = L at *
        generalize (List.replicate N (1 : Int)).map D.int = L2 at *
        simp [a1, a2, l1, lr, sz, -biX_list])]
      rw [f6]
      rfl) [some (.scr ns), some (.lst X), some (.int p), some (.int (n : Int)), some (.lst (ro.map .int)), some (.ptr 0), some (.int y11), some ATS, some (.int at_), v9, some WR, some (.int (10 + y14 % 31)), some (.int st), some (.ptr b), none, none, v16, none, none, none, v20, v21] T13 ⟨none, none, rfl, C13, CB⟩
    subst hσ15
    unfold c_law at f15
    dsimp only [Sx.tl, Sx.hd, Sx.bd] at f15
    refine seq_E (σ1 := [some (.scr ns), some (.lst X), some (.int p), some (.int (n : Int)), some (.lst (ro.map .int)), some (.ptr 0), some (.int y11), some ATS, some (.int at_), v9, some WR, some (.int (10 + y14 % 31)), some (.int st), some (.ptr b), v14, none, v16, v17, none, none, v20, v21]) (S1 := T15) (by rw [for_rng1 (S1 := T13) (n := 3) (by simp) (by omega)]; exact f15) ?_
    have M15 : MixAt T15 (.ptr 0) p A := MixAt.cell C15.1 C15.2
    have z1 : mkX P (run P 8) "Residue" [.int 1, .int st] T15 = .ok (resD (1 % st) st) T15 := mk_ok h.f 5 1 st s1 s2 T15
    have z0 : mkX P (run P 8) "Residue" [.int 0, .int st] T15 = .ok (resD (0 % st) st) T15 := mk_ok h.f 5 0 st s1 s2 T15
    obtain ⟨σ16, T16, f16, ⟨v14', v18, hσ16, hT16⟩⟩ := for_invS (f := fun x σ S => exS P (run P 8) (c_law.body.tl.tl.tl.tl.tl.tl.tl.tl.tl.tl.tl.tl.tl.tl.tl.hd.bd) (σ.set 14 (some x)) S) (I := fun σ S => ∃ (u14 u18 : Option D), σ = [some (.scr ns), some (.lst X), some (.int p), some (.int (n : Int)), some (.lst (ro.map .int)), some (.ptr 0), some (.int y11), some ATS, some (.int at_), v9, some WR, some (.int (10 + y14 % 31)), some (.int st), some (.ptr b), u14, none, v16, v17, u18, none, v20, v21] ∧ S = T15) (xs := [.int 3, .int 4, .int 5]) (fun x hx σ S hI => by
      obtain ⟨u14, u18, rfl, rfl⟩ := hI
      obtain ⟨k, hk, rfl⟩ : ∃ k : Int, (k = 3 ∨ k = 4 ∨ k = 5) ∧ x = .int k := by
        simp only [List.mem_cons, List.not_mem_nil, or_false] at hx
        rcases hx with rfl | rfl | rfl
        · exact ⟨3, by omega, rfl⟩
        · exact ⟨4, by omega, rfl⟩
        · exact ⟨5, by omega, rfl⟩
      obtain ⟨σ6, S6, f6, ⟨w18, hσ6, hS6⟩⟩ := for_invS (f := fun x σ S => exS P (run P 8) (c_law.body.tl.tl.tl.tl.tl.tl.tl.tl.tl.tl.tl.tl.tl.tl.tl.hd.bd.hd.bd) (σ.set 18 (some x)) S) (I := fun σ S' => ∃ (u18 : Option D), σ = [some (.scr ns), some (.lst X), some (.int p), some (.int (n : Int)), some (.lst (ro.map .int)), some (.ptr 0), some (.int y11), some ATS, some (.int at_), v9, some WR, some (.int (10 + y14 % 31)), some (.int st), some (.ptr b), some (.int k), none, v16, v17, u18, none, v20, v21] ∧ S' = S) (xs := [resD (1 % st) st, resD (0 % st) st]) (fun x hx σ S' hI => by
        obtain ⟨u18, rfl, rfl⟩ := hI
        obtain ⟨v, rfl⟩ : ∃ v, x = resD v st := by
          simp only [List.mem_cons, List.not_mem_nil, or_false] at hx
          rcases hx with rfl | rfl <;> exact ⟨_, rfl⟩
        have k1 := dn_res h 3 (S := S') (v := v) hk M15 s3
        refine ⟨_, S', ?_, ⟨some (resD v st), rfl, rfl⟩⟩
        unfold c_law
        dsimp only [Sx.tl, Sx.hd, Sx.bd, List.set]
        generalize ro.map D.int = L at *
        simp [k1, ne_Mismatch, sz, -ev_str, -cmpX_tup]) [some (.scr ns), some (.lst X), some (.int p), some (.int (n : Int)), some (.lst (ro.map .int)), some (.ptr 0), some (.int y11), some ATS, some (.int at_), v9, some WR, some (.int (10 + y14 % 31)), some (.int st), some (.ptr b), some (.int k), none, v16, v17, u18, none, v20, v21] S ⟨u18, rfl, rfl⟩
      subst hσ6 hS6
      unfold c_law at f6
      dsimp only [Sx.tl, Sx.hd, Sx.bd] at f6
      refine ⟨_, S6, ?_, ⟨some (.int k), w18, rfl, rfl⟩⟩
      unfold c_law
      dsimp only [Sx.tl, Sx.hd, Sx.bd, List.set]
      rw [ex_seq, for_lst (xs := [resD (1 % st) st, resD (0 % st) st]) (S1 := S6) (by simp [z1, z0, sz])]
      rw [f6]
      rfl) [some (.scr ns), some (.lst X), some (.int p), some (.int (n : Int)), some (.lst (ro.map .int)), some (.ptr 0), some (.int y11), some ATS, some (.int at_), v9, some WR, some (.int (10 + y14 % 31)), some (.int st), some (.ptr b), v14, none, v16, v17, none, none, v20, v21] T15 ⟨v14, none, rfl, rfl⟩
    subst hσ16 hT16
    unfold c_law at f16
    dsimp only [Sx.tl, Sx.hd, Sx.bd] at f16
    refine seq_E (σ1 := [some (.scr ns), some (.lst X), some (.int p), some (.int (n : Int)), some (.lst (ro.map .int)), some (.ptr 0), some (.int y11), some ATS, some (.int at_), v9, some WR, some (.int (10 + y14 % 31)), some (.int st), some (.ptr b), v14', none, v16, v17, v18, none, v20, v21]) (S1 := T16) (by rw [for_lst (xs := [.int 3, .int 4, .int 5]) (S1 := T16) (by simp [sz])]; exact f16) ?_
    obtain ⟨a, ha⟩ : ∃ a, y15 % 9 - 4 = a := ⟨_, rfl⟩
    have mz := fun S => bin_mul (S := S) (i := p) (j := a) (.inl ⟨by omega, by omega⟩)
    have zp : mkX P (run P 8) "Residue" [.int 0, .int p] T16 = .ok (resD (0 % p) p) T16 := mk_ok h.f 5 0 p hp h9 T16
    obtain ⟨σ17, T17, f17, ⟨v15, hσ17, hT17⟩⟩ := for_invS (f := fun x σ S => exS P (run P 8) (c_law.body.tl.tl.tl.tl.tl.tl.tl.tl.tl.tl.tl.tl.tl.tl.tl.tl.hd.bd) (σ.set 15 (some x)) S) (I := fun σ S => ∃ (u15 : Option D), σ = [some (.scr ns), some (.lst X), some (.int p), some (.int (n : Int)), some (.lst (ro.map .int)), some (.ptr 0), some (.int y11), some ATS, some (.int at_), v9, some WR, some (.int (10 + y14 % 31)), some (.int st), some (.ptr b), v14', u15, v16, v17, v18, none, v20, v21] ∧ S = T16) (xs := [.int 0, .int (p * a), resD (0 % p) p]) (fun x hx σ S hI => by
      obtain ⟨u15, rfl, rfl⟩ := hI
      obtain ⟨v, ho, hv⟩ : ∃ v, Opd p x v ∧ v % p = 0 := by
        simp only [List.mem_cons, List.not_mem_nil, or_false] at hx
        rcases hx with rfl | rfl | rfl
        · exact ⟨0 % p, .inl ⟨0, rfl, rfl⟩, by simp⟩
        · exact ⟨p * a % p, .inl ⟨_, rfl, rfl⟩, by simp⟩
        · exact ⟨0 % p, .inr rfl, by simp⟩
      have k1 := dn_inv h 3 (S := S) M15 hp ho hv
      refine ⟨_, S, ?_, ⟨some x, rfl, rfl⟩⟩
      unfold c_law
      dsimp only [Sx.tl, Sx.hd, Sx.bd, List.set]
      generalize ro.map D.int = L at *
      simp [k1, ne_NoInverse, sz, -ev_str, -cmpX_tup]) [some (.scr ns), some (.lst X), some (.int p), some (.int (n : Int)), some (.lst (ro.map .int)), some (.ptr 0), some (.int y11), some ATS, some (.int at_), v9, some WR, some (.int (10 + y14 % 31)), some (.int st), some (.ptr b), v14', none, v16, v17, v18, none, v20, v21] T16 ⟨none, rfl, rfl⟩
    subst hσ17 hT17
    unfold c_law at f17
    dsimp only [Sx.tl, Sx.hd, Sx.bd] at f17
    refine seq_E (σ1 := [some (.scr ns), some (.lst X), some (.int p), some (.int (n : Int)), some (.lst (ro.map .int)), some (.ptr 0), some (.int y11), some ATS, some (.int at_), v9, some WR, some (.int (10 + y14 % 31)), some (.int st), some (.ptr b), v14', v15, v16, v17, v18, none, v20, v21]) (S1 := T17) (by rw [for_lst (xs := [.int 0, .int (p * a), resD (0 % p) p]) (S1 := T17) (by simp [sz, i15, bm _ 9, ha, mz, zp])]; exact f17) ?_
    have d1 := dn_one h 2 M15 hp h9 (by omega) rA
    have C18 : MixC (newMx T17 p A) 0 1 p A := C15.app
    have D18 : MixC (newMx T17 p A) b (b + 1) p (List.replicate N 1) := D15.app
    generalize newMx T17 p A = T18 at d1 C18 D18
    have c18 : evE P (run P 8) (.comp false [19] .seq (.n 19) (.var 4) (.bl true) (.bin .mod (.bi .int (.acons (.var 19) .anil)) (.var 2))) [some (.scr ns), some (.lst X), some (.int p), some (.int (n : Int)), some (.lst (ro.map .int)), some (.ptr 0), some (.int y11), some ATS, some (.int at_), v9, some WR, some (.int (10 + y14 % 31)), some (.int st), some (.ptr b), v14', v15, v16, v17, v18, none, v20, v21] T18 = .ok (.lst (A.map .int)) T18 := by
      rw [← hA]
      exact comp_ints (g := fun w => w % p) rfl (fun w _ => by simp [wipeD, bm _ p p0]) (by omega)
    have n18 : cmpX P (run P 8) .ne T18 (.tup [tx "done", .lst (A.map .int)]) (.tup [tx "done", .lst (A.map .int)]) = .ok (.bl false) T18 := ne_self (dp_done A)
    refine seq_E (σ1 := [some (.scr ns), some (.lst X), some (.int p), some (.int (n : Int)), some (.lst (ro.map .int)), some (.ptr 0), some (.int y11), some ATS, some (.int at_), v9, some WR, some (.int (10 + y14 % 31)), some (.int st), some (.ptr b), v14', v15, v16, v17, v18, none, v20, v21]) (S1 := T18) (by
      generalize ro.map D.int = L at *
      generalize A.map D.int = L2 at *
      simp [d1, c18, n18, sz, -ev_str, -cmpX_tup, -ev_comp]) ?_
    have wt : flatK (run P 8 "_law_weights") [.ptr 0, .lst (ro.map .int), .int p] T18 = .ok (.bl true) T18 := clw h 4 (MixAt.cell C18.1 C18.2) p0 (by omega) hA.symm
    have lb := lB D18
    have nb := ml_at h.toMixP 7 (MixAt.cell D18.1 D18.2) (by simp; omega)
    rw [List.length_replicate] at nb
    have eqb := eq_ints (pr := P) (cb := run P 8) (S := T18) (List.replicate N 1) (List.replicate N 1)
    have rb := rN T18
    refine ⟨T18, ?_⟩
    generalize ro.map D.int = L at *
    generalize (List.replicate N (1 : Int)).map D.int = L2 at *
    simp [wt, lb, nb, rb, eqb, sz, -cmpX_lst]
  obtain ⟨S, go⟩ := go
  exact ⟨S, run_by h.lw rfl go⟩
end
end MX
end

section
set_option maxRecDepth 100000
set_option maxHeartbeats 0
namespace MX.K06
open PySem PySem.Spec PyProof.Rows L2
def tp (i : Nat) : Stmt := PySem.Challenge.pw_mixaloud_k06_mix_refusals.main.body.getD i (.Pass ⟨0, 0, 0, 0⟩)
def cp (i j : Nat) : Stmt := MX.inCls (tp i) j
def defs : List Ent := [⟨"_wall", ("_wall", Option.none), "_wall", "_wall", tp 0, ["k"], c__wall, ""⟩,
  ⟨"is_prime", ("is_prime", Option.none), "is_prime", "is_prime", tp 10, ["number", "divisor"], c_is_prime, ""⟩,
  ⟨"check_prime", ("check_prime", Option.none), "check_prime", "check_prime", tp 11, ["prime"], c_check_prime, ""⟩,
  ⟨"inverse", ("inverse", Option.none), "inverse", "inverse", tp 12, ["value", "prime", "power", "_"], c_inverse, ""⟩,
  ⟨"check_size", ("check_size", Option.none), "check_size", "check_size", tp 16, ["size"], c_check_size, ""⟩,
  ⟨"_law_mixed", ("_law_mixed", Option.none), "_law_mixed", "_law_mixed", tp 19, ["_law_cell", "_law_k", "_law_one"], c__law_mixed, ""⟩,
  ⟨"_law_pool", ("_law_pool", Option.none), "_law_pool", "_law_pool", tp 20, ["_law_script", "_law_many", "_law_pool_here", "_law_cell", "_law_seed", "_law_tail", "_law_k", "_law_left", "_law_shift", "_law_x"], c__law_pool, ""⟩,
  ⟨"_law_same", ("_law_same", Option.none), "_law_same", "_law_same", tp 21, ["_law_actual", "_law_due", "_law_k"], c__law_same, ""⟩,
  ⟨"_law_weights", ("_law_weights", Option.none), "_law_weights", "_law_weights", tp 22, ["_law_actual", "_law_weights_here", "_law_field", "_law_due", "_law_x"], c__law_weights, ""⟩,
  ⟨"_law_read", ("_law_read", Option.none), "_law_read", "_law_read", tp 23, ["_law_mix", "_law_at", "_law_how", "e", "_law_told"], c__law_read, ""⟩,
  ⟨"_law_made", ("_law_made", Option.none), "_law_made", "_law_made", tp 24, ["_law_kind", "_law_field", "_law_size", "_law_at", "e", "_law_made_here"], c__law_made, ""⟩,
  ⟨"_law_done", ("_law_done", Option.none), "_law_done", "_law_done", tp 25, ["_law_sign", "_law_one", "_law_two", "_law_done_here"], c__law_done, ""⟩,
  ⟨"_law_makes", ("_law_makes", Option.none), "_law_makes", "_law_makes", tp 26, ["_law_field", "_law_size", "_law_wrong", "_law_large", "_law_at", "_law_kind", "_law_bad", "_law_k", "_law_due", "_law_x"], c__law_makes, ""⟩,
  ⟨"law", ("law", Option.none), "law", "law", tp 27, ["_law_script", "_law_pool_here", "_law_field", "_law_size", "_law_rows", "_law_mix", "_law_far", "_law_ats", "_law_at", "_law_how", "_law_wrongs", "_law_large", "_law_strange", "_law_bigger", "_law_sign", "_law_zero", "_law_k", "_law_other", "_law_scalar", "_law_x", "_law_worth", "_law_due"], c_law, ""⟩,
  ⟨"Residue.__init__", ("Residue", some "__init__"), "__init__", "Residue.__init__", cp 13 0, ["self", "value", "prime"], c_Residue___init__, ""⟩,
  ⟨"Residue.operand", ("Residue", some "operand"), "operand", "Residue.operand", cp 13 1, ["self", "other"], c_Residue_operand, ""⟩,
  ⟨"Residue.__add__", ("Residue", some "__add__"), "__add__", "Residue.__add__", cp 13 2, ["self", "other"], c_Residue___add__, ""⟩,
  ⟨"Residue.__radd__", ("Residue", some "__radd__"), "__radd__", "Residue.__radd__", cp 13 3, ["self", "other"], c_Residue___radd__, ""⟩,
  ⟨"Residue.__sub__", ("Residue", some "__sub__"), "__sub__", "Residue.__sub__", cp 13 4, ["self", "other"], c_Residue___sub__, ""⟩,
  ⟨"Residue.__rsub__", ("Residue", some "__rsub__"), "__rsub__", "Residue.__rsub__", cp 13 5, ["self", "other"], c_Residue___rsub__, ""⟩,
  ⟨"Residue.__mul__", ("Residue", some "__mul__"), "__mul__", "Residue.__mul__", cp 13 6, ["self", "other"], c_Residue___mul__, ""⟩,
  ⟨"Residue.__rmul__", ("Residue", some "__rmul__"), "__rmul__", "Residue.__rmul__", cp 13 7, ["self", "other"], c_Residue___rmul__, ""⟩,
  ⟨"Residue.__floordiv__", ("Residue", some "__floordiv__"), "__floordiv__", "Residue.__floordiv__", cp 13 8, ["self", "other"], c_Residue___floordiv__, ""⟩,
  ⟨"Residue.__rfloordiv__", ("Residue", some "__rfloordiv__"), "__rfloordiv__", "Residue.__rfloordiv__", cp 13 9, ["self", "other"], c_Residue___rfloordiv__, ""⟩,
  ⟨"Residue.__pow__", ("Residue", some "__pow__"), "__pow__", "Residue.__pow__", cp 13 10, ["self", "other", "power", "_"], c_Residue___pow__, ""⟩,
  ⟨"Residue.__neg__", ("Residue", some "__neg__"), "__neg__", "Residue.__neg__", cp 13 11, ["self"], c_Residue___neg__, ""⟩,
  ⟨"Residue.__eq__", ("Residue", some "__eq__"), "__eq__", "Residue.__eq__", cp 13 12, ["self", "other"], c_Residue___eq__, ""⟩,
  ⟨"Residue.__bool__", ("Residue", some "__bool__"), "__bool__", "Residue.__bool__", cp 13 13, ["self"], c_Residue___bool__, ""⟩,
  ⟨"Mix.__init__", ("Mix", some "__init__"), "__init__", "Mix.__init__", cp 17 0, ["self", "prime", "weights", "weight"], c_Mix___init__, ""⟩,
  ⟨"Mix.zero", ("Mix", some "zero"), "zero", "Mix.zero", cp 17 1, ["prime", "size"], c_Mix_zero, "staticmethod"⟩,
  ⟨"Mix.unit", ("Mix", some "unit"), "unit", "Mix.unit", cp 17 2, ["prime", "size", "piece", "mix"], c_Mix_unit, "staticmethod"⟩,
  ⟨"Mix.__len__", ("Mix", some "__len__"), "__len__", "Mix.__len__", cp 17 3, ["self"], c_Mix___len__, ""⟩,
  ⟨"Mix.check_piece", ("Mix", some "check_piece"), "check_piece", "Mix.check_piece", cp 17 5, ["self", "piece"], c_Mix_check_piece, ""⟩,
  ⟨"Mix.__getitem__", ("Mix", some "__getitem__"), "__getitem__", "Mix.__getitem__", cp 17 6, ["self", "at"], c_Mix___getitem__, ""⟩,
  ⟨"Mix.__setitem__", ("Mix", some "__setitem__"), "__setitem__", "Mix.__setitem__", cp 17 7, ["self", "at", "worth"], c_Mix___setitem__, ""⟩,
  ⟨"Mix.weight", ("Mix", some "weight"), "weight", "Mix.weight", cp 17 8, ["self", "piece"], c_Mix_weight, ""⟩,
  ⟨"Mix.check_fit", ("Mix", some "check_fit"), "check_fit", "Mix.check_fit", cp 17 10, ["self", "other"], c_Mix_check_fit, ""⟩,
  ⟨"Mix.scalar", ("Mix", some "scalar"), "scalar", "Mix.scalar", cp 17 11, ["self", "other"], c_Mix_scalar, ""⟩,
  ⟨"Mix.scaled", ("Mix", some "scaled"), "scaled", "Mix.scaled", cp 17 12, ["self", "factor", "weight"], c_Mix_scaled, ""⟩,
  ⟨"Mix.__add__", ("Mix", some "__add__"), "__add__", "Mix.__add__", cp 17 13, ["self", "other", "one", "two"], c_Mix___add__, ""⟩,
  ⟨"Mix.__iadd__", ("Mix", some "__iadd__"), "__iadd__", "Mix.__iadd__", cp 17 14, ["self", "other", "one", "two"], c_Mix___iadd__, ""⟩,
  ⟨"Mix.__sub__", ("Mix", some "__sub__"), "__sub__", "Mix.__sub__", cp 17 15, ["self", "other", "one", "two"], c_Mix___sub__, ""⟩,
  ⟨"Mix.__neg__", ("Mix", some "__neg__"), "__neg__", "Mix.__neg__", cp 17 16, ["self"], c_Mix___neg__, ""⟩,
  ⟨"Mix.__mul__", ("Mix", some "__mul__"), "__mul__", "Mix.__mul__", cp 17 17, ["self", "other"], c_Mix___mul__, ""⟩,
  ⟨"Mix.__rmul__", ("Mix", some "__rmul__"), "__rmul__", "Mix.__rmul__", cp 17 18, ["self", "other"], c_Mix___rmul__, ""⟩,
  ⟨"Mix.__floordiv__", ("Mix", some "__floordiv__"), "__floordiv__", "Mix.__floordiv__", cp 17 19, ["self", "other"], c_Mix___floordiv__, ""⟩,
  ⟨"Mix.__eq__", ("Mix", some "__eq__"), "__eq__", "Mix.__eq__", cp 17 20, ["self", "other"], c_Mix___eq__, ""⟩,
  ⟨"Mix.__bool__", ("Mix", some "__bool__"), "__bool__", "Mix.__bool__", cp 17 21, ["self"], c_Mix___bool__, ""⟩]
def clss : List (String × ClsD) := [("Residue", { flds := ["value", "prime", "__rmod__", "__rpow__"], meths := [("operand", ("Residue.operand", .pure)), ("__add__", ("Residue.__add__", .pure)), ("__radd__", ("Residue.__radd__", .pure)), ("__sub__", ("Residue.__sub__", .pure)), ("__rsub__", ("Residue.__rsub__", .pure)), ("__mul__", ("Residue.__mul__", .pure)), ("__rmul__", ("Residue.__rmul__", .pure)), ("__floordiv__", ("Residue.__floordiv__", .pure)), ("__rfloordiv__", ("Residue.__rfloordiv__", .pure)), ("__pow__", ("Residue.__pow__", .pure)), ("__neg__", ("Residue.__neg__", .pure)), ("__eq__", ("Residue.__eq__", .pure)), ("__bool__", ("Residue.__bool__", .pure))], init := some ("Residue.__init__", .pure) }),
  ("Mix", { flds := ["prime", "_weights", "__radd__", "__rsub__", "__rfloordiv__", "__rmod__", "__rpow__"], meths := [("__len__", ("Mix.__len__", .flat)), ("check_piece", ("Mix.check_piece", .flat)), ("__getitem__", ("Mix.__getitem__", .flat)), ("__setitem__", ("Mix.__setitem__", .st)), ("weight", ("Mix.weight", .st)), ("check_fit", ("Mix.check_fit", .flat)), ("scalar", ("Mix.scalar", .flat)), ("scaled", ("Mix.scaled", .st)), ("__add__", ("Mix.__add__", .st)), ("__iadd__", ("Mix.__iadd__", .st)), ("__sub__", ("Mix.__sub__", .st)), ("__neg__", ("Mix.__neg__", .st)), ("__mul__", ("Mix.__mul__", .st)), ("__rmul__", ("Mix.__rmul__", .st)), ("__floordiv__", ("Mix.__floordiv__", .st)), ("__eq__", ("Mix.__eq__", .flat)), ("__bool__", ("Mix.__bool__", .flat))], init := some ("Mix.__init__", .st), iter := some "_weights", stat := [("zero", ("Mix.zero", .st)), ("unit", ("Mix.unit", .st))] })]
def exs : List (String × ExD) := [("TalkError", { ini := none, ups := ["TalkError", "ValueError"] }), ("NotPrime", { ini := some ["value"], ups := ["NotPrime", "TalkError", "ValueError"] }), ("NoInverse", { ini := none, ups := ["NoInverse", "TalkError", "ValueError"] }), ("Mismatch", { ini := none, ups := ["Mismatch", "TalkError", "ValueError"] }), ("BadSize", { ini := some ["size"], ups := ["BadSize", "TalkError", "ValueError"] }), ("NoPiece", { ini := some ["piece"], ups := ["NoPiece", "TalkError", "ValueError"] })]
def xis : List XI := [⟨"NotPrime", "NotPrime.__init__", cp 3 0, "self", [("value", "value")]⟩, ⟨"BadSize", "BadSize.__init__", cp 6 0, "self", [("size", "size")]⟩, ⟨"NoPiece", "NoPiece.__init__", cp 7 0, "self", [("piece", "piece")]⟩]
def its : List (String × Ent) := [("Mix", ⟨"Mix.__iter__", ("Mix", some "__iter__"), "__iter__", "Mix.__iter__", cp 17 4, ["self"], ⟨1, 1, .nil⟩, ""⟩)]
def tbl : Tab := { defs := defs, cls := clss, exs := exs, xis := xis, file := "/claim/cut.py", its := its }
def gls : List (Str × GK) := ([(("law" : Str), GK.fn "law"), (("iter" : Str), GK.blt), (("is_prime" : Str), GK.fn "is_prime"), (("GREATEST_PRIME" : Str), GK.int 97), (("NotPrime" : Str), GK.exc "NotPrime"), (("range" : Str), GK.blt), (("NoInverse" : Str), GK.exc "NoInverse"), (("GREATEST_SIZE" : Str), GK.int 9), (("BadSize" : Str), GK.exc "BadSize"), (("int" : Str), GK.blt), (("sum" : Str), GK.blt), (("len" : Str), GK.blt), (("_law_mixed" : Str), GK.fn "_law_mixed"), (("abs" : Str), GK.blt), (("_law_same" : Str), GK.fn "_law_same"), (("isinstance" : Str), GK.blt), (("list" : Str), GK.blt), (("tuple" : Str), GK.blt), (("str" : Str), GK.blt), (("bool" : Str), GK.blt), (("Mix" : Str), GK.cls "Mix"), (("NoPiece" : Str), GK.exc "NoPiece"), (("Mismatch" : Str), GK.exc "Mismatch"), (("_law_made" : Str), GK.fn "_law_made"), (("_law_weights" : Str), GK.fn "_law_weights"), (("_law_done" : Str), GK.fn "_law_done"), (("Residue" : Str), GK.cls "Residue"), (("_law_makes" : Str), GK.fn "_law_makes"), (("_law_read" : Str), GK.fn "_law_read"), (("_law_pool" : Str), GK.fn "_law_pool")] : List (Str × GK)) ++ ([(("check_prime" : Str), GK.fn "check_prime"), (("NotImplemented" : Str), GK.blt), (("inverse" : Str), GK.fn "inverse"), (("check_size" : Str), GK.fn "check_size"), (("zip" : Str), GK.blt), (("any" : Str), GK.blt)] : List (Str × GK))
abbrev RO : PySem.W.OpenRow := PySem.W.OpenLaw.row PySem.Challenge.rw_mixaloud_k06_mix_refusals
def fa : List He.Fa := gls.map faOf ++ []
def fn : List He5.DefA := tbl.alld.map Ent.dd
abbrev hk : PySem.W.Hook := hookY 6 (fun K => clsTab K tbl && exTab K tbl.file tbl.exs tbl.xis) fa fn tbl.xis
def ob (s : PySem.W.SharedT) : AlY := obsYG 6 (fun K => clsTab K tbl && exTab K tbl.file tbl.exs tbl.xis) fa fn tbl.xis (HandSHeadRun.getT s)
theorem ob_eq (s : PySem.W.SharedT) : ob s = hk.obs s.abs := obsYG_eq (HandSHeadRun.getT_eq s)
def names : List PySem.Str := (["_wall", "TalkError", "NotPrime", "NoInverse", "Mismatch", "BadSize", "NoPiece", "GREATEST_PRIME", "is_prime", "check_prime", "inverse", "Residue", "GREATEST_SIZE", "check_size", "Mix", "_law_mixed", "_law_pool", "_law_same", "_law_weights", "_law_read", "_law_made", "_law_done", "_law_makes"] : List PySem.Str)
theorem headRun (w : World) : HandSHeadRun.RunEq RO (PySem.W.view RO.prog [27]) hk ob 20000 names w := by
  intro os
  kernel_rfl
theorem tbl_nd : (tbl.defs.map (·.id)).Nodup := by decide +kernel
theorem tbl_ok : tbl.defs.all (Ent.ok gls) = true := by kernel_rfl
theorem gls_ok : glB tbl gls = true := by kernel_rfl
theorem cls_ok : clsDefs tbl = true := by kernel_rfl
theorem it_ok : itDefs gls tbl = true := by kernel_rfl
theorem nim_ok : nimDefs gls tbl = true := by kernel_rfl
theorem xdf_ok : exDefs tbl.exs tbl.xis = true := by kernel_rfl
theorem file_ok : (PySem.Challenge.rw_mixaloud_k06_mix_refusals.prog.main.file == tbl.file) = true := by kernel_rfl
theorem top_ok : (PySem.Challenge.rw_mixaloud_k06_mix_refusals.prog.main.scope.names.lookup ("super" : Str)).isSome = false := by kernel_rfl
theorem law_ok : tbl.defs.any (fun e => (e.id == "law") && (decide (e.at_ = (("law" : Str), Option.none)) && decide (e.ps = [("_law_script" : Str)]))) = true := by kernel_rfl
theorem fldp : FldP (progOf tbl) := by constructor <;> kernel_rfl
theorem mixp : MixP (progOf tbl) := by constructor <;> first | exact fldp | kernel_rfl | exact ⟨_, by rfl, by kernel_rfl⟩
theorem lawp : LawP (progOf tbl) := by constructor <;> first | exact mixp | kernel_rfl
theorem law_true : LawTrue tbl 9 := fun ns hn => law6_run lawp ns hn
end MX.K06
open PySem PySem.W PySem.Calls PyProof.Rows
theorem PySem.Challenge.cw_mixaloud_k06_mix_refusals_holds : PySem.Challenge.rw_mixaloud_k06_mix_refusals.Holds := by
  w_on; o_law
  refine HandSHeadRun.head_any (r := OpenLaw.row PySem.Challenge.rw_mixaloud_k06_mix_refusals) (q := view (OpenLaw.row PySem.Challenge.rw_mixaloud_k06_mix_refusals).prog [27]) (H := MX.K06.hk) (ob := MX.K06.ob) (M := 20000) (loose := MX.K06.names) (d := HandSHeadRun.topDef (OpenLaw.row PySem.Challenge.rw_mixaloud_k06_mix_refusals).prog 27) (kwd := []) MX.K06.ob_eq
    (by kernel_rfl) (fun s => by kernel_rfl) MX.K06.headRun (by kernel_rfl) (by kernel_rfl) (by kernel_rfl) (by rfl) (by first | assumption | decide +kernel) (by decide +kernel) ⟨rfl, rfl, rfl, rfl, rfl, by decide +kernel⟩ ?hw ?hc
  case hw => w_witness2
  case hc =>
    exact MX.walk_mx (l := PySem.Challenge.rw_mixaloud_k06_mix_refusals) (T := MX.K06.tbl) (gl := MX.K06.gls) (more := []) (n := 9) (x := "_law_script") rfl (by kernel_rfl) ⟨rfl, by decide, by decide⟩ (by kernel_rfl) MX.K06.tbl_nd MX.K06.tbl_ok MX.K06.gls_ok MX.K06.cls_ok MX.K06.it_ok MX.K06.nim_ok MX.K06.xdf_ok MX.K06.file_ok MX.K06.top_ok MX.K06.law_ok (by decide +kernel) MX.K06.law_true
end
