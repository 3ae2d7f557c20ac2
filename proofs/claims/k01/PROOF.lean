import PyProof.Rows.All
import Wide.All
import OpenK.AllK
import Wide.FinOn
import PySem.Challenge.RW_mixaloud_k01_prime_numbers
import HandS.ForMost
import HandS.Exc
import HandS.Defaults
import HandS.ExcOwn
import HandS.CallSlots
import HandS.Flow
import HandS.IsInst
import HandS.HeadEnd
import HandS.HeadHook1
import HandS.HeadHook2
import HandS.Head0
import HandS.Head1
import HandS.Head2
import KE.KStateDown
set_option Elab.async false
set_option linter.all false
section
set_option maxRecDepth 100000
namespace MX
open PySem

/-- a value as data: ptr n is the n-th cell of the store; all else is never changed -/
inductive D where
  | non
  | bl (b : Bool)
  | int (i : Int)
  | str (s : Str)
  | lst (xs : List D)
  | tup (xs : List D)
  | ins (c : String) (fs : List (String × D))
  | ptr (n : Nat)
  | scr (ns : List Int)
  deriving Inhabited

inductive Cell where
  | lst (xs : List D)
  | ins (c : String) (fs : List (String × D))
  | frz (d : D)
  deriving Inhabited

abbrev Store := List Cell
abbrev DSt := List (Option D)

structure Exn where
  cls : String
  fs : List (String × D) := []

inductive Res (α : Type) where
  | ok (a : α) (S : Store)
  | ex (x : Exn) (S : Store)
  | bad

def Res.bind {α β : Type} (r : Res α) (f : α → Store → Res β) : Res β :=
  match r with
  | .ok a S => f a S
  | .ex x S => .ex x S
  | .bad => .bad

/-- what a value is: a cell's content -/
def look (S : Store) : D → D
  | .ptr n => match S[n]? with
    | some (.lst xs) => .lst xs
    | some (.ins c fs) => .ins c fs
    | some (.frz d) => d
    | none => .ptr n
  | d => d

mutual
def D.pf : D → Bool
  | .lst xs => pfL xs
  | .tup xs => pfL xs
  | .ins _ fs => pfF fs
  | .ptr _ => false
  | _ => true
def pfL : List D → Bool
  | [] => true
  | d :: r => d.pf && pfL r
def pfF : List (String × D) → Bool
  | [] => true
  | (_, d) :: r => d.pf && pfF r
end

inductive Bop where | add | sub | mul | fdiv | mod | pow
  deriving DecidableEq
inductive Cop where | eq | ne | lt | le | gt | ge | is_ | isn | in_ | nin
  deriving DecidableEq
/-- built-in functions and types called by name -/
inductive Bi where | abs | int | bool | len | sum | list | tuple | max2 | min2 | any | all
  deriving DecidableEq
/-- the types that isinstance is asked of -/
inductive Ty where | int | bool | str | list | tuple | cls (c : String)
  deriving DecidableEq
inductive Mode where | pure | st
  deriving DecidableEq

inductive E where
  | var (i : Nat) | int (i : Int) | bl (b : Bool) | non | str (s : String)
  | gint (x : String) (i : Int)
  | bin (op : Bop) (a b : E) | neg (a : E) | not (a : E)
  | cmp (op : Cop) (a b : E) | chain (o1 o2 : Cop) (a b c : E)
  | and (a b : E) | or (a b : E) | ife (c a b : E)
  | tup (as : E) | lst (as : E)
  | cell (as : E)
  | anil | acons (e r : E)
  | idx (a i : E) | cut (a lo hi : E) | nopart | part (e : E)
  | call (m : Mode) (f : String) (as : E)
  | bi (b : Bi) (as : E)
  | isi (e : E) (cs : List Ty)
  | app (o e : E)
  | comp (own : List Nat) (t : Nat) (it c elt : E)
  | irng1 (a : E) | irng2 (a b : E) | cnd (e : E)
  | frz (e : E) | catc (a b : E)
  deriving Inhabited

inductive Sx where
  | nil | pass | brk | cont | seq (a b : Sx)
  | asg (i : Nat) (e : E)
  | aug (op : Bop) (i : Nat) (e : E)
  | ex (e : E) | ret (e : E) | retN
  | ifs (c : E) (a b : Sx)
  | whl (fuel : Nat) (c : E) (b : Sx)
  | for_ (t : Nat) (it : E) (b : Sx)
  deriving Inhabited

/-! ### operators -/
def cdI : D → Option Int
  | .int i => some i
  | _ => none
def intsD : List D → Option (List Int)
  | [] => some []
  | .int i :: r => (intsD r).map (i :: ·)
  | _ :: _ => none
def blsD : List D → Option (List Bool)
  | [] => some []
  | .bl i :: r => (blsD r).map (i :: ·)
  | _ :: _ => none

def binI : Bop → Int → Int → Option Int
  | .add, i, j => some (i + j)
  | .sub, i, j => some (i - j)
  | .mul, i, j => if (-(2 ^ 64) < i ∧ i < 2 ^ 64) ∨ (-(2 ^ 64) < j ∧ j < 2 ^ 64) then some (i * j) else none
  | .fdiv, i, j => if 0 < j ∧ j < 1073741824 then some (i / j) else none
  | .mod, i, j => if 0 < j then some (i % j) else none
  | .pow, i, j => if 0 ≤ j ∧ j ≤ 1000000 ∧ i.natAbs < 2 ^ 64 then some (i ^ j.toNat) else none

/-- a op b: a value, ints, lists, tuples, texts -/
def binD (op : Bop) (S : Store) (a b : D) : Res D :=
  match look S a, look S b with
  | .int i, .int j => match binI op i j with
    | some k => .ok (.int k) S
    | none => .bad
  | .str x, .str y => match op with
    | .add => if x.length + y.length ≤ sizeLine then .ok (.str (x ++ y)) S else .bad
    | _ => .bad
  | .lst xs, .lst ys => match op with
    | .add => if xs.length + ys.length ≤ sizeLine then .ok (.lst (xs ++ ys)) S else .bad
    | _ => .bad
  | .tup xs, .tup ys => match op with
    | .add => if xs ≠ [] ∧ ys ≠ [] ∧ xs.length + ys.length ≤ sizeLine then .ok (.tup (xs ++ ys)) S else .bad
    | _ => .bad
  | .lst xs, .int k => match op with
    | .mul => if -(2 ^ 63) ≤ k ∧ k < 2 ^ 63 ∧ xs.length * k.toNat ≤ sizeLine then .ok (.lst (List.replicate k.toNat xs).flatten) S else .bad
    | _ => .bad
  | _, _ => .bad

/-- flat values -/
def flatD : D → Bool
  | .non => true
  | .bl _ => true
  | .int _ => true
  | .str _ => true
  | _ => false
def flatS : D → Bool
  | .str x => PySem.PyData.canLay0 (.str x)
  | d => flatD d
/-- plain data of at most this depth -/
def dpD : Nat → D → Bool
  | 0, d => flatS d
  | n + 1, .lst xs => xs.all (dpD n)
  | n + 1, .tup xs => xs.all (dpD n)
  | _ + 1, d => flatS d
mutual
/-- == at any depth -/
def eqB : D → D → Bool
  | .non, .non => true
  | .bl a, .bl b => a == b
  | .bl a, .int b => (if a then 1 else 0) == b
  | .int a, .bl b => a == (if b then 1 else 0)
  | .int a, .int b => a == b
  | .str a, .str b => a == b
  | .lst xs, .lst ys => eqBL xs ys
  | .tup xs, .tup ys => eqBL xs ys
  | _, _ => false
def eqBL : List D → List D → Bool
  | [], [] => true
  | a :: r, b :: q => eqB a b && eqBL r q
  | _, _ => false
end
def eqO (x y : D) : Option Bool := if dpD 8 x && dpD 8 y then some (eqB x y) else none
def inO (x : D) (ys : List D) : Option Bool := if flatD x && ys.all flatD then some (ys.any fun y => eqB y x) else none
def notO : Option Bool → Option Bool
  | some b => some (!b)
  | none => none
def cmpB (op : Cop) (S : Store) (a b : D) : Option Bool :=
  match op with
  | .eq => eqO (look S a) (look S b)
  | .ne => notO (eqO (look S a) (look S b))
  | .lt => match look S a, look S b with
    | .int i, .int j => some (decide (i < j))
    | _, _ => none
  | .le => match look S a, look S b with
    | .int i, .int j => some (decide (i ≤ j))
    | _, _ => none
  | .gt => match look S a, look S b with
    | .int i, .int j => some (decide (j < i))
    | _, _ => none
  | .ge => match look S a, look S b with
    | .int i, .int j => some (decide (j ≤ i))
    | _, _ => none
  | .is_ => match b with
    | .non => match a with
      | .non => some true
      | _ => some false
    | _ => none
  | .isn => match b with
    | .non => match a with
      | .non => some false
      | _ => some true
    | _ => none
  | .in_ => match look S b with
    | .lst ys => inO a ys
    | .tup ys => inO a ys
    | _ => none
  | .nin => match look S b with
    | .lst ys => notO (inO a ys)
    | .tup ys => notO (inO a ys)
    | _ => none
def ofB (S : Store) : Option Bool → Res D
  | some b => .ok (.bl b) S
  | none => .bad
/-- a value's truth -/
def truD : D → Option Bool
  | .non => some false
  | .bl b => some b
  | .int i => some (i != 0)
  | .str s => if s.length ≤ sizeLine then some ((s.length : Int) != 0) else none
  | .lst xs => some (!xs.isEmpty)
  | .tup xs => some (!xs.isEmpty)
  | _ => none
def atD (xs : List D) (i : Int) : Option D := L2.atI xs i
def idxD (S : Store) (a i : D) : Res D :=
  match look S a, i with
  | .lst xs, .int k => match atD xs k with
    | some d => .ok d S
    | none => .bad
  | .tup xs, .int k => match atD xs k with
    | some d => .ok d S
    | none => .bad
  | _, _ => .bad
def partD : D → Option (Option Int)
  | .non => some none
  | .int i => some (some i)
  | _ => none
def cutL (xs : List D) (lo hi : Option Int) : List D := (xs.drop (HT.sIx xs.length 0 lo)).take (HT.sIx xs.length xs.length hi - HT.sIx xs.length 0 lo)
def cutD (S : Store) (a : D) (l h : Option Int) : Res D :=
  match look S a with
  | .lst xs => .ok (.lst (cutL xs l h)) S
  | .tup xs => if HT.sIx xs.length 0 l = 0 ∧ HT.sIx xs.length xs.length h = xs.length then .bad else .ok (.tup (cutL xs l h)) S
  | _ => .bad
def withPart {α : Type} (d : D) (k : Option Int → Res α) : Res α :=
  match partD d with
  | some o => k o
  | none => .bad
/-- the items of what is walked -/
def itemsD (S : Store) (d : D) : Option (List D) :=
  match look S d with
  | .lst xs => some xs
  | .tup xs => some xs
  | .scr ns => some (ns.map .int)
  | _ => none
def rngD : List D → Option (List D)
  | [.int n] => if -(2 ^ 62) ≤ n ∧ n < 2 ^ 62 then some ((List.range n.toNat).map fun (k : Nat) => D.int (0 + (k : Int))) else none
  | [.int a, .int b] => if -(2 ^ 62) ≤ a ∧ a < 2 ^ 62 ∧ -(2 ^ 62) ≤ b ∧ b < 2 ^ 62 then some ((List.range (b - a).toNat).map fun (k : Nat) => D.int (a + (k : Int))) else none
  | _ => none
def lenD (S : Store) (d : D) : Option Nat :=
  match look S d with
  | .lst xs => some xs.length
  | .tup xs => some xs.length
  | .str s => if s.length ≤ sizeLine then some s.length else none
  | .scr ns => some ns.length
  | _ => none
def biD (b : Bi) (S : Store) (ds : List D) : Res D :=
  match b, ds with
  | .abs, [.int i] => .ok (.int (if i < 0 then -i else i)) S
  | .int, [.int i] => .ok (.int i) S
  | .int, [.bl k] => .ok (.int (if k then 1 else 0)) S
  | .bool, [.int i] => .ok (.bl (i != 0)) S
  | .bool, [.bl k] => .ok (.bl k) S
  | .len, [d] => match lenD S d with
    | some n => .ok (.int n) S
    | none => .bad
  | .max2, [.int i, .int j] => .ok (.int (if j > i then j else i)) S
  | .min2, [.int i, .int j] => .ok (.int (if j < i then j else i)) S
  | .sum, [d] => match look S d with
    | .lst xs => match intsD xs with
      | some ns => .ok (.int ns.sum) S
      | none => .bad
    | _ => .bad
  | .any, [d] => match look S d with
    | .lst xs => match blsD xs with
      | some ns => .ok (.bl (ns.any id)) S
      | none => .bad
    | _ => .bad
  | .all, [d] => match look S d with
    | .lst xs => match blsD xs with
      | some ns => .ok (.bl (ns.all id)) S
      | none => .bad
    | _ => .bad
  | .list, [d] => match look S d with
    | .lst xs => .ok (.lst xs) S
    | .tup xs => .ok (.lst xs) S
    | _ => .bad
  | .tuple, [d] => match look S d with
    | .lst xs => .ok (.tup xs) S
    | .tup xs => .ok (.tup xs) S
    | _ => .bad
  | _, _ => .bad
/-- isinstance of plain data -/
def isiD (S : Store) (d : D) (t : Ty) : Option Bool :=
  match look S d, t with
  | .int _, .int => some true | .int _, _ => some false
  | .bl _, .int => some true | .bl _, .bool => some true | .bl _, _ => some false
  | .str _, .str => some true | .str _, _ => some false
  | .non, _ => some false
  | .lst _, .list => some true | .lst _, .cls _ => none | .lst _, _ => some false
  | .tup _, .tuple => some true | .tup _, .cls _ => none | .tup _, _ => some false
  | _, _ => none
def isiAny (S : Store) (d : D) : List Ty → Option Bool
  | [] => some false
  | t :: r => match isiD S d t with
    | some true => some true
    | some false => isiAny S d r
    | none => none
def wipeD (σ : DSt) : List Nat → DSt
  | [] => σ
  | v :: vs => (wipeD σ vs).set v none
/-! ### freezing -/
def frzL (f : Store → D → Option (D × Store)) : Store → List D → Option (List D × Store)
  | S, [] => some ([], S)
  | S, d :: r => match f S d with
    | some (e, S1) => match frzL f S1 r with
      | some (q, S2) => some (e :: q, S2)
      | none => none
    | none => none
def frzF (f : Store → D → Option (D × Store)) : Store → List (String × D) → Option (List (String × D) × Store)
  | S, [] => some ([], S)
  | S, (x, d) :: r => match f S d with
    | some (e, S1) => match frzF f S1 r with
      | some (q, S2) => some ((x, e) :: q, S2)
      | none => none
    | none => none
def frzD : Nat → Store → D → Option (D × Store)
  | 0, S, d => if d.pf then some (d, S) else none
  | k + 1, S, d => if d.pf then some (d, S) else match d with
    | .ptr n => match S[n]? with
      | some (.frz e) => some (e, S)
      | some (.lst xs) => match frzL (frzD k) S xs with
        | some (ys, S1) => match S1[n]? with
          | some (.lst _) => some (.lst ys, S1.set n (.frz (.lst ys)))
          | _ => none
        | none => none
      | some (.ins c fs) => match frzF (frzD k) S fs with
        | some (gs, S1) => match S1[n]? with
          | some (.ins _ _) => some (.ins c gs, S1.set n (.frz (.ins c gs)))
          | _ => none
        | none => none
      | none => none
    | .tup xs => match frzL (frzD k) S xs with
      | some (ys, S1) => some (.tup ys, S1)
      | none => none
    | .lst xs => match frzL (frzD k) S xs with
      | some (ys, S1) => some (.lst ys, S1)
      | none => none
    | .ins c fs => match frzF (frzD k) S fs with
      | some (gs, S1) => some (.ins c gs, S1)
      | none => none
    | _ => none
/-! ### the evaluator: cb runs a def -/
abbrev Cb := String → List D → Store → Res D
def frzK : Nat := 6
def frzE (S : Store) (d : D) : Res D :=
  match frzD frzK S d with
  | some (e, S1) => .ok e S1
  | none => .bad
/-- a + b of lists, the new list a cell -/
def catD (S : Store) (a b : D) : Res D :=
  match look S a, look S b with
  | .lst xs, .lst ys => if xs.length + ys.length ≤ sizeLine then .ok (.ptr S.length) (S ++ [.lst (xs ++ ys)]) else .bad
  | _, _ => .bad
/-- a call that sees frozen data only: its own store is empty -/
def callP (cb : Cb) (f : String) (ds : List D) (S : Store) : Res D :=
  match frzL (frzD frzK) S ds with
  | some (es, S1) => match cb f es [] with
    | .ok d S2 => match frzD frzK S2 d with
      | some (d', _) => .ok d' S1
      | none => .bad
    | .ex x _ => if pfF x.fs then .ex x S1 else .bad
    | .bad => .bad
  | none => .bad
def callM (cb : Cb) (m : Mode) (f : String) (ds : List D) (S : Store) : Res D :=
  match m with
  | .pure => callP cb f ds S
  | .st => cb f ds S
def unT : D → List D
  | .tup xs => xs
  | _ => []
def tru (S : Store) (d : D) (k : Bool → Res D) : Res D :=
  match truD (look S d) with
  | some b => k b
  | none => .bad
/-- the turns of a comprehension -/
def compL (f : D → Store → Res (Option D)) : List D → Store → Res (List D)
  | [], S => .ok [] S
  | x :: r, S => (f x S).bind fun o S1 => (compL f r S1).bind fun ys S2 => .ok (o.toList ++ ys) S2
def noEx {α : Type} : Res α → Res α
  | .ex _ _ => .bad
  | r => r
/-- a source that no one changes -/
def still (S : Store) : D → Bool
  | .ptr n => match S[n]? with
    | some (.frz _) => true
    | _ => false
  | _ => true
def evE (cb : Cb) : E → DSt → Store → Res D
  | .var i, σ, S => match σ[i]? with
    | some (some d) => .ok d S
    | _ => .bad
  | .int i, _, S => .ok (.int i) S
  | .bl b, _, S => .ok (.bl b) S
  | .non, _, S => .ok .non S
  | .nopart, _, S => .ok .non S
  | .part e, σ, S => (evE cb e σ S).bind fun x S1 => match x with
    | .int i => .ok (.int i) S1
    | _ => .bad
  | .str s, _, S => .ok (.str (Str.ofString s)) S
  | .gint _ i, _, S => .ok (.int i) S
  | .bin op a b, σ, S => (evE cb a σ S).bind fun x S1 => (evE cb b σ S1).bind fun y S2 => binD op S2 x y
  | .neg a, σ, S => (evE cb a σ S).bind fun x S1 => match x with
    | .int i => .ok (.int (-i)) S1
    | _ => .bad
  | .not a, σ, S => (evE cb a σ S).bind fun x S1 => tru S1 x fun b => .ok (.bl (!b)) S1
  | .cmp op a b, σ, S => (evE cb a σ S).bind fun x S1 => (evE cb b σ S1).bind fun y S2 => ofB S2 (cmpB op S2 x y)
  | .chain o1 o2 a b c, σ, S => (evE cb a σ S).bind fun x S1 => (evE cb b σ S1).bind fun y S2 => match cmpB o1 S2 x y with
    | some true => (evE cb c σ S2).bind fun z S3 => ofB S3 (cmpB o2 S3 y z)
    | some false => .ok (.bl false) S2
    | none => .bad
  | .and a b, σ, S => (evE cb a σ S).bind fun x S1 => tru S1 x fun t => if t then evE cb b σ S1 else .ok x S1
  | .or a b, σ, S => (evE cb a σ S).bind fun x S1 => tru S1 x fun t => if t then .ok x S1 else evE cb b σ S1
  | .ife c a b, σ, S => (evE cb c σ S).bind fun x S1 => tru S1 x fun t => if t then evE cb a σ S1 else evE cb b σ S1
  | .tup as, σ, S => (evE cb as σ S).bind fun x S1 => if (unT x).length ≤ sizeLine then .ok (.tup (unT x)) S1 else .bad
  | .lst as, σ, S => (evE cb as σ S).bind fun x S1 => if (unT x).length ≤ sizeLine then .ok (.lst (unT x)) S1 else .bad
  | .cell as, σ, S => (evE cb as σ S).bind fun x S1 => if (unT x).length ≤ sizeLine then .ok (.ptr S1.length) (S1 ++ [.lst (unT x)]) else .bad
  | .anil, _, S => .ok (.tup []) S
  | .acons e r, σ, S => (evE cb e σ S).bind fun x S1 => (evE cb r σ S1).bind fun y S2 => .ok (.tup (x :: unT y)) S2
  | .idx a i, σ, S => (evE cb a σ S).bind fun x S1 => (evE cb i σ S1).bind fun y S2 => idxD S2 x y
  | .cut a lo hi, σ, S => (evE cb a σ S).bind fun x S1 => (evE cb lo σ S1).bind fun y S2 => withPart y fun l => (evE cb hi σ S2).bind fun z S3 => withPart z fun h => cutD S3 x l h
  | .call m f as, σ, S => (evE cb as σ S).bind fun x S1 => callM cb m f (unT x) S1
  | .bi b as, σ, S => (evE cb as σ S).bind fun x S1 => biD b S1 (unT x)
  | .isi e cs, σ, S => (evE cb e σ S).bind fun x S1 => ofB S1 (isiAny S1 x cs)
  | .app o e, σ, S => (evE cb o σ S).bind fun x S1 => match x with
    | .ptr n => match S1[n]? with
      | some (.lst _) => (evE cb e σ S1).bind fun y S2 => match S2[n]? with
        | some (.lst xs) => if xs.length < sizeLine then .ok .non (S2.set n (.lst (xs ++ [y]))) else .bad
        | _ => .bad
      | _ => .bad
    | _ => .bad
  | .cnd e, σ, S => evE cb e σ S
  | .frz e, σ, S => (evE cb e σ S).bind fun x S1 => frzE S1 x
  | .catc a b, σ, S => (evE cb a σ S).bind fun x S1 => (evE cb b σ S1).bind fun y S2 => catD S2 x y
  | .irng1 a, σ, S => (evE cb a σ S).bind fun x S1 => match rngD [x] with
    | some xs => .ok (.lst xs) S1
    | none => .bad
  | .irng2 a b, σ, S => (evE cb a σ S).bind fun x S1 => (evE cb b σ S1).bind fun y S2 => match rngD [x, y] with
    | some xs => .ok (.lst xs) S2
    | none => .bad
  | .comp own t it c elt, σ, S => (evE cb it σ S).bind fun d S1 => match still S1 d, itemsD S1 d with
    | true, some xs => (compL (fun x S => noEx ((evE cb c ((wipeD σ own).set t (some x)) S).bind fun y S2 => match truD (look S2 y) with
        | some true => (evE cb elt ((wipeD σ own).set t (some x)) S2).bind fun z S3 => .ok (some z) S3
        | some false => .ok none S2
        | none => .bad)) xs S1).bind fun ys S2 => if ys.length ≤ sizeLine then .ok (.lst ys) S2 else .bad
    | _, _ => .bad

def augI (op : Bop) (x y : D) : Option Int :=
  match op, x, y with
  | .add, .int i, .int j => some (i + j)
  | .sub, .int i, .int j => some (i - j)
  | _, _, _ => none
inductive SR where
  | nx (σ : DSt) (S : Store) | rt (d : D) (S : Store) | bk (σ : DSt) (S : Store) | ct (σ : DSt) (S : Store)
  | ex (x : Exn) (σ : DSt) (S : Store) | bad
def Res.sr {α : Type} (r : Res α) (σ : DSt) (f : α → Store → SR) : SR :=
  match r with
  | .ok a S => f a S
  | .ex x S => .ex x σ S
  | .bad => .bad
def forL (f : D → DSt → Store → SR) : List D → DSt → Store → SR
  | [], σ, S => .nx σ S
  | x :: r, σ, S => match f x σ S with
    | .nx σ1 S1 => forL f r σ1 S1
    | .ct σ1 S1 => forL f r σ1 S1
    | .bk σ1 S1 => .nx σ1 S1
    | .rt d S1 => .rt d S1
    | .ex x σ1 S1 => .ex x σ1 S1
    | .bad => .bad
def whlL (c : DSt → Store → Res D) (f : DSt → Store → SR) : Nat → DSt → Store → SR
  | 0, _, _ => .bad
  | n + 1, σ, S => (c σ S).sr σ fun x S1 => match truD (look S1 x) with
    | some true => match f σ S1 with
      | .nx σ1 S2 => whlL c f n σ1 S2
      | .ct σ1 S2 => whlL c f n σ1 S2
      | .bk σ1 S2 => .nx σ1 S2
      | .rt d S2 => .rt d S2
      | .ex x σ1 S2 => .ex x σ1 S2
      | .bad => .bad
    | some false => .nx σ S1
    | none => .bad
def exS (cb : Cb) : Sx → DSt → Store → SR
  | .nil, σ, S => .nx σ S
  | .pass, σ, S => .nx σ S
  | .brk, σ, S => .bk σ S
  | .cont, σ, S => .ct σ S
  | .seq a b, σ, S => match exS cb a σ S with
    | .nx σ1 S1 => exS cb b σ1 S1
    | r => r
  | .asg i e, σ, S => (evE cb e σ S).sr σ fun d S1 => .nx (σ.set i (some d)) S1
  | .aug op i e, σ, S => match σ[i]? with
    | some (some x) => (evE cb e σ S).sr σ fun y S1 => match augI op x y with
      | some k => .nx (σ.set i (some (.int k))) S1
      | none => .bad
    | _ => .bad
  | .ex e, σ, S => (evE cb e σ S).sr σ fun _ S1 => .nx σ S1
  | .ret e, σ, S => (evE cb e σ S).sr σ fun d S1 => .rt d S1
  | .retN, _, S => .rt .non S
  | .ifs c a b, σ, S => (evE cb c σ S).sr σ fun x S1 => match truD (look S1 x) with
    | some true => exS cb a σ S1
    | some false => exS cb b σ S1
    | none => .bad
  | .whl n c b, σ, S => whlL (evE cb c) (exS cb b) n σ S
  | .for_ t it b, σ, S => (evE cb it σ S).sr σ fun d S1 => match still S1 d, itemsD S1 d with
    | true, some xs => forL (fun x σ S => exS cb b (σ.set t (some x)) S) xs σ S1
    | _, _ => .bad

structure Fn where
  np : Nat
  ns : Nat
  body : Sx
structure Prog where
  fn : String → Option Fn
def startD (n : Nat) (ds : List D) : DSt := ds.map some ++ List.replicate (n - ds.length) none
def endR : SR → Res D
  | .nx _ S => .ok .non S
  | .rt d S => .ok d S
  | .ex x _ S => .ex x S
  | _ => .bad
def run (P : Prog) : Nat → Cb
  | 0 => fun _ _ _ => .bad
  | n + 1 => fun f ds S => match P.fn f with
    | some F => if ds.length = F.np then endR (exS (run P n) F.body (startD F.ns ds) S) else .bad
    | none => .bad
end MX
end

section
set_option maxRecDepth 100000
namespace MX
open PySem L2

/-- what is known of the heap beside the state: the frozen part, the cells' addresses, their number -/
structure Gh where
  F : Hp
  am : Nat → Addr
  n : Nat
/-- what stays through a def's run: the written part, the classes' addresses, the ground that is kept, the frozen part at the entry -/
structure Fix where
  K : PySem.W.Frag
  ca : String → Addr
  B : Hp
  F0 : Hp

mutual
inductive RelD (K : PySem.W.Frag) (ca : String → Addr) (g : Gh) : V → D → Prop
  | non : RelD K ca g .non .non
  | bl (b : Bool) : RelD K ca g (.bl b) (.bl b)
  | int (i : Int) : RelD K ca g (.int i) (.int i)
  | str (s : Str) : RelD K ca g (.str s) (.str s)
  | lst {a : Addr} {vs : List V} {xs : List D} : g.F a = some (.lst vs) → RelL K ca g vs xs → RelD K ca g (.ref a) (.lst xs)
  | tup {a : Addr} {vs : List V} {xs : List D} : g.F a = some (.tup vs) → RelL K ca g vs xs → RelD K ca g (.ref a) (.tup xs)
  | ins {a dx : Addr} {c : String} {vs : List (Str × V)} {fs : List (String × D)} : g.F a = some (.ins (ca c) dx vs) → RelF K ca g vs fs → RelD K ca g (.ref a) (.ins c fs)
  | ptr {n : Nat} : n < g.n → RelD K ca g (.ref (g.am n)) (.ptr n)
  | scr {a : Addr} {ns : List Int} : SqL K g.F a (ns.map V.int) → RelD K ca g (.ref a) (.scr ns)
inductive RelL (K : PySem.W.Frag) (ca : String → Addr) (g : Gh) : List V → List D → Prop
  | nil : RelL K ca g [] []
  | cons {v : V} {vs : List V} {d : D} {ds : List D} : RelD K ca g v d → RelL K ca g vs ds → RelL K ca g (v :: vs) (d :: ds)
inductive RelF (K : PySem.W.Frag) (ca : String → Addr) (g : Gh) : List (Str × V) → List (String × D) → Prop
  | nil : RelF K ca g [] []
  | cons {x : String} {v : V} {vs : List (Str × V)} {d : D} {ds : List (String × D)} : RelD K ca g v d → RelF K ca g vs ds → RelF K ca g ((Str.ofString x, v) :: vs) ((x, d) :: ds)
end

/-- more is known -/
structure Gh.le (g g' : Gh) : Prop where
  F : ∀ a o, g.F a = some o → g'.F a = some o
  am : ∀ n, n < g.n → g'.am n = g.am n
  n : g.n ≤ g'.n
theorem Gh.le.refl (g : Gh) : g.le g := ⟨fun _ _ h => h, fun _ _ => rfl, Nat.le_refl _⟩
theorem Gh.le.trans {a b c : Gh} (h : a.le b) (k : b.le c) : a.le c :=
  ⟨fun x o e => k.F x o (h.F x o e), fun n hn => (k.am n (Nat.lt_of_lt_of_le hn h.n)).trans (h.am n hn), Nat.le_trans h.n k.n⟩

section
variable {K : PySem.W.Frag} {ca : String → Addr} {g g' : Gh}
mutual
theorem RelD.mono (l : g.le g') : ∀ {v : V} {d : D}, RelD K ca g v d → RelD K ca g' v d
  | _, _, .non => .non
  | _, _, .bl b => .bl b
  | _, _, .int i => .int i
  | _, _, .str s => .str s
  | _, _, .lst e r => .lst (l.F _ _ e) (RelL.mono l r)
  | _, _, .tup e r => .tup (l.F _ _ e) (RelL.mono l r)
  | _, _, .ins e r => .ins (l.F _ _ e) (RelF.mono l r)
  | _, _, .ptr h => by rw [← l.am _ h]; exact .ptr (Nat.lt_of_lt_of_le h l.n)
  | _, _, .scr h => .scr ((show Same g.F g'.F from l.F).seq h)
theorem RelL.mono (l : g.le g') : ∀ {vs : List V} {ds : List D}, RelL K ca g vs ds → RelL K ca g' vs ds
  | _, _, .nil => .nil
  | _, _, .cons a b => .cons (RelD.mono l a) (RelL.mono l b)
theorem RelF.mono (l : g.le g') : ∀ {vs : List (Str × V)} {ds : List (String × D)}, RelF K ca g vs ds → RelF K ca g' vs ds
  | _, _, .nil => .nil
  | _, _, .cons a b => .cons (RelD.mono l a) (RelF.mono l b)
end
theorem RelL.length : ∀ {vs : List V} {ds : List D}, RelL K ca g vs ds → vs.length = ds.length
  | _, _, .nil => rfl
  | _, _, .cons _ b => congrArg (· + 1) (RelL.length b)
theorem RelL.append : ∀ {vs ws : List V} {ds es : List D}, RelL K ca g vs ds → RelL K ca g ws es → RelL K ca g (vs ++ ws) (ds ++ es)
  | _, _, _, _, .nil, h => h
  | _, _, _, _, .cons a b, h => .cons a (RelL.append b h)
theorem RelL.one {v : V} {d : D} (r : RelD K ca g v d) : RelL K ca g [v] [d] := .cons r .nil
theorem RelL.take : ∀ {vs : List V} {ds : List D} (n : Nat), RelL K ca g vs ds → RelL K ca g (vs.take n) (ds.take n)
  | _, _, 0, _ => .nil
  | _, _, _ + 1, .nil => .nil
  | _, _, n + 1, .cons a b => .cons a (RelL.take n b)
theorem RelL.drop : ∀ {vs : List V} {ds : List D} (n : Nat), RelL K ca g vs ds → RelL K ca g (vs.drop n) (ds.drop n)
  | _, _, 0, h => h
  | _, _, _ + 1, .nil => .nil
  | _, _, n + 1, .cons _ b => RelL.drop n b
theorem RelL.rep {vs : List V} {ds : List D} (h : RelL K ca g vs ds) : ∀ k : Nat, RelL K ca g (List.replicate k vs).flatten (List.replicate k ds).flatten
  | 0 => .nil
  | k + 1 => by
    rw [List.replicate_succ, List.replicate_succ, List.flatten_cons, List.flatten_cons]
    exact RelL.append h (RelL.rep h k)
theorem RelL.get : ∀ {vs : List V} {ds : List D} {i : Nat} {d : D}, RelL K ca g vs ds → ds[i]? = some d → ∃ v, vs[i]? = some v ∧ RelD K ca g v d
  | _, _, _, _, .nil, e => by simp at e
  | _, _, 0, _, .cons r _, e => by simp at e; subst e; exact ⟨_, rfl, r⟩
  | _, _, i + 1, x, .cons _ t, e => by
    obtain ⟨u, h1, h2⟩ := RelL.get (i := i) (d := x) t (by simpa using e)
    exact ⟨u, by simpa using h1, h2⟩
theorem RelL.getV : ∀ {vs : List V} {ds : List D} {i : Nat} {v : V}, RelL K ca g vs ds → vs[i]? = some v → ∃ d, ds[i]? = some d ∧ RelD K ca g v d
  | _, _, _, _, .nil, e => by simp at e
  | _, _, 0, _, .cons r _, e => by simp at e; subst e; exact ⟨_, rfl, r⟩
  | _, _, i + 1, x, .cons _ t, e => by
    obtain ⟨u, h1, h2⟩ := RelL.getV (i := i) (v := x) t (by simpa using e)
    exact ⟨u, by simpa using h1, h2⟩
theorem RelL.set {v : V} {d : D} (r : RelD K ca g v d) : ∀ {vs : List V} {ds : List D} (i : Nat), RelL K ca g vs ds → RelL K ca g (vs.set i v) (ds.set i d)
  | _, _, _, .nil => .nil
  | _, _, 0, .cons _ t => .cons r t
  | _, _, i + 1, .cons q t => .cons q (RelL.set r i t)
theorem RelL.at {vs : List V} {ds : List D} {i : Int} {d : D} (r : RelL K ca g vs ds) (e : atI ds i = some d) : ∃ v, atI vs i = some v ∧ RelD K ca g v d := by
  unfold atI at e ⊢
  rw [r.length]
  cases q : ixN ds.length i with
  | none => rw [q] at e; cases e
  | some j =>
    rw [q] at e
    exact r.get e
theorem RelL.cut {vs : List V} {ds : List D} (r : RelL K ca g vs ds) (lo hi : Option Int) : RelL K ca g (cutV vs lo hi) (cutL ds lo hi) := by
  unfold cutV cutL
  rw [r.length]
  exact (r.drop _).take _
theorem RelL.ints : ∀ {vs : List V} {ds : List D} {ns : List Int}, RelL K ca g vs ds → intsD ds = some ns → vs = ns.map V.int
  | _, _, ns, .nil, e => by cases e; rfl
  | _, _, ns, .cons (d := d) r t, e => by
    cases r with
    | int i =>
      unfold intsD at e
      cases q : intsD _ with
      | none => rw [q] at e; cases e
      | some ms =>
        rw [q] at e
        cases e
        rw [List.map_cons, t.ints q]
    | _ => cases e
theorem RelL.bls : ∀ {vs : List V} {ds : List D} {ns : List Bool}, RelL K ca g vs ds → blsD ds = some ns → vs = ns.map V.bl
  | _, _, ns, .nil, e => by cases e; rfl
  | _, _, ns, .cons (d := d) r t, e => by
    cases r with
    | bl i =>
      unfold blsD at e
      cases q : blsD _ with
      | none => rw [q] at e; cases e
      | some ms =>
        rw [q] at e
        cases e
        rw [List.map_cons, t.bls q]
    | _ => cases e
end


section
variable {K : PySem.W.Frag} {ca : String → Addr} {g : Gh}
theorem RelD.iLst {v : V} {xs : List D} (h : RelD K ca g v (.lst xs)) : ∃ a vs, v = .ref a ∧ g.F a = some (.lst vs) ∧ RelL K ca g vs xs := by
  cases h with
  | lst h1 h2 => exact ⟨_, _, rfl, h1, h2⟩
theorem RelD.iTup {v : V} {xs : List D} (h : RelD K ca g v (.tup xs)) : ∃ a vs, v = .ref a ∧ g.F a = some (.tup vs) ∧ RelL K ca g vs xs := by
  cases h with
  | tup h1 h2 => exact ⟨_, _, rfl, h1, h2⟩
theorem RelD.iIns {v : V} {c : String} {fs : List (String × D)} (h : RelD K ca g v (.ins c fs)) : ∃ a dx vs, v = .ref a ∧ g.F a = some (.ins (ca c) dx vs) ∧ RelF K ca g vs fs := by
  cases h with
  | ins h1 h2 => exact ⟨_, _, _, rfl, h1, h2⟩
theorem RelD.iScr {v : V} {ns : List Int} (h : RelD K ca g v (.scr ns)) : ∃ a, v = .ref a ∧ SqL K g.F a (ns.map V.int) := by
  cases h with
  | scr h1 => exact ⟨_, rfl, h1⟩
theorem RelD.iInt {v : V} {i : Int} (h : RelD K ca g v (.int i)) : v = .int i := by cases h; rfl
theorem RelD.iBl {v : V} {i : Bool} (h : RelD K ca g v (.bl i)) : v = .bl i := by cases h; rfl
theorem RelD.iStr {v : V} {i : Str} (h : RelD K ca g v (.str i)) : v = .str i := by cases h; rfl
theorem RelD.iNon {v : V} (h : RelD K ca g v .non) : v = .non := by cases h; rfl
theorem RelD.iPtr {v : V} {n : Nat} (h : RelD K ca g v (.ptr n)) : v = .ref (g.am n) ∧ n < g.n := by
  cases h with
  | ptr h1 => exact ⟨rfl, h1⟩
end
/-- a live cell's object -/
def CellOk (fx : Fix) (g : Gh) (H : Hp) (a : Addr) : Cell → Prop
  | .lst xs => g.F a = none ∧ fx.B a = none ∧ ∃ vs, H a = some (.lst vs) ∧ RelL fx.K fx.ca g vs xs
  | .ins c fs => g.F a = none ∧ fx.B a = none ∧ ∃ dx vs, H a = some (.ins (fx.ca c) dx vs) ∧ RelF fx.K fx.ca g vs fs
  | .frz d => d.pf = true ∧ RelD fx.K fx.ca g (.ref a) d
def live : Cell → Bool
  | .frz _ => false
  | _ => true

/-- the store and the frozen part, held by the heap -/
structure R (fx : Fix) (g : Gh) (S : Store) (H : Hp) : Prop where
  frame : ∀ a o, fx.B a = some o → H a = some o
  frz : ∀ a o, g.F a = some o → H a = some o
  fresh : ∀ a o, g.F a = some o → fx.F0 a = some o ∨ fx.B a = none
  f0 : ∀ a o, fx.F0 a = some o → g.F a = some o
  n : g.n = S.length
  cells : ∀ n c, S[n]? = some c → CellOk fx g H (g.am n) c
  inj : ∀ n m c d, S[n]? = some c → S[m]? = some d → live c = true → live d = true → g.am n = g.am m → n = m
/-- the slots -/
structure Sl (fx : Fix) (g : Gh) (dσ : DSt) (σ : L2.St) : Prop where
  len : dσ.length = σ.length
  at_ : ∀ (i : Nat) (d : D), dσ[i]? = some (some d) → ∃ v : V, σ[i]? = some (some v) ∧ RelD fx.K fx.ca g v d
theorem Sl.mono {fx : Fix} {g g' : Gh} {dσ : DSt} {σ : L2.St} (s : Sl fx g dσ σ) (l : g.le g') : Sl fx g' dσ σ :=
  ⟨s.len, fun i d e => by obtain ⟨v, h1, h2⟩ := s.at_ i d e; exact ⟨v, h1, h2.mono l⟩⟩
theorem Sl.set {fx : Fix} {g : Gh} {dσ : DSt} {σ : L2.St} (s : Sl fx g dσ σ) (i : Nat) {v : V} {d : D} (r : RelD fx.K fx.ca g v d) : Sl fx g (dσ.set i (some d)) (σ.set i (some v)) := by
  refine ⟨by rw [List.length_set, List.length_set, s.len], fun j e h => ?_⟩
  by_cases hij : i = j
  · subst hij
    by_cases hl : i < dσ.length
    · rw [List.getElem?_set_self hl] at h
      cases h
      exact ⟨v, by rw [List.getElem?_set_self (by rw [← s.len]; exact hl)], r⟩
    · rw [List.getElem?_eq_none (by rw [List.length_set]; omega)] at h
      cases h
  · rw [List.getElem?_set_ne hij] at h
    obtain ⟨u, h1, h2⟩ := s.at_ j e h
    exact ⟨u, by rw [List.getElem?_set_ne hij]; exact h1, h2⟩
theorem Sl.unset {fx : Fix} {g : Gh} {dσ : DSt} {σ : L2.St} (s : Sl fx g dσ σ) (i : Nat) : Sl fx g (dσ.set i none) (σ.set i none) := by
  refine ⟨by rw [List.length_set, List.length_set, s.len], fun j e h => ?_⟩
  by_cases hij : i = j
  · subst hij
    by_cases hl : i < dσ.length
    · rw [List.getElem?_set_self hl] at h
      cases h
    · rw [List.getElem?_eq_none (by rw [List.length_set]; omega)] at h
      cases h
  · rw [List.getElem?_set_ne hij] at h
    obtain ⟨u, h1, h2⟩ := s.at_ j e h
    exact ⟨u, by rw [List.getElem?_set_ne hij]; exact h1, h2⟩
theorem Sl.wipe {fx : Fix} {g : Gh} {dσ : DSt} {σ : L2.St} (s : Sl fx g dσ σ) : ∀ vs : List Nat, Sl fx g (wipeD dσ vs) (L2.wipe σ vs)
  | [] => s
  | v :: vs => (Sl.wipe s vs).unset v

section
variable {fx : Fix} {g : Gh} {S : Store} {H : Hp}
/-- an object just made, frozen at once -/
theorem R.laid (r : R fx g S H) {p : Addr} {o : HO} (hp : H p = none) : R fx { g with F := upd g.F p o } S (upd H p o) ∧ g.le { g with F := upd g.F p o } := by
  have nF : g.F p = none := by
    cases q : g.F p with
    | none => rfl
    | some u => rw [r.frz p u q] at hp; cases hp
  have nB : fx.B p = none := by
    cases q : fx.B p with
    | none => rfl
    | some u => rw [r.frame p u q] at hp; cases hp
  have le : g.le { g with F := upd g.F p o } := ⟨fun a u e => by
    show upd g.F p o a = some u
    rw [upd_ne (ne_of_none e nF)]
    exact e, fun _ _ => rfl, Nat.le_refl _⟩
  refine ⟨⟨fun a u e => ?_, fun a u e => ?_, fun a u e => ?_, fun a u e => ?_, r.n, fun n c e => ?_, r.inj⟩, le⟩
  · rw [upd_ne (ne_of_none e nB)]
    exact r.frame a u e
  · have e : upd g.F p o a = some u := e
    by_cases hq : a = p
    · subst hq
      rw [upd_same] at e ⊢
      exact e
    · rw [upd_ne hq] at e ⊢
      exact r.frz a u e
  · have e : upd g.F p o a = some u := e
    by_cases hq : a = p
    · subst hq
      exact .inr nB
    · rw [upd_ne hq] at e
      exact r.fresh a u e
  · exact le.F a u (r.f0 a u e)
  · have h := r.cells n c e
    have np : ∀ u, H (g.am n) = some u → g.am n ≠ p := fun u z => ne_of_none z hp
    cases c with
    | lst xs =>
      obtain ⟨h1, h2, vs, h3, h4⟩ := h
      have k := np _ h3
      exact ⟨by show upd g.F p o (g.am n) = none; rw [upd_ne k]; exact h1, h2, vs, by show upd H p o (g.am n) = _; rw [upd_ne k]; exact h3, h4.mono le⟩
    | ins c fs =>
      obtain ⟨h1, h2, dx, vs, h3, h4⟩ := h
      have k := np _ h3
      exact ⟨by show upd g.F p o (g.am n) = none; rw [upd_ne k]; exact h1, h2, dx, vs, by show upd H p o (g.am n) = _; rw [upd_ne k]; exact h3, h4.mono le⟩
    | frz d => exact ⟨h.1, h.2.mono le⟩
/-- what the heap grew by does not matter -/
theorem R.same {H' : Hp} (r : R fx g S H) (h : Same H H') : R fx g S H' := by
  refine ⟨fun a o e => h a o (r.frame a o e), fun a o e => h a o (r.frz a o e), r.fresh, r.f0, r.n, fun n c e => ?_, r.inj⟩
  have q := r.cells n c e
  cases c with
  | lst xs =>
    obtain ⟨h1, h2, vs, h3, h4⟩ := q
    exact ⟨h1, h2, vs, h _ _ h3, h4⟩
  | ins c fs =>
    obtain ⟨h1, h2, dx, vs, h3, h4⟩ := q
    exact ⟨h1, h2, dx, vs, h _ _ h3, h4⟩
  | frz d => exact q
/-- a value, looked at: a live list cell, a live instance, or data -/
theorem R.look (r : R fx g S H) {v : V} {d : D} (h : RelD fx.K fx.ca g v d) :
    (∃ n xs, d = .ptr n ∧ v = .ref (g.am n) ∧ S[n]? = some (.lst xs) ∧ MX.look S d = .lst xs) ∨ (∃ n c fs, d = .ptr n ∧ v = .ref (g.am n) ∧ S[n]? = some (.ins c fs) ∧ MX.look S d = .ins c fs) ∨
    RelD fx.K fx.ca g v (MX.look S d) := by
  cases d with
  | ptr n =>
    obtain ⟨rfl, hn⟩ := h.iPtr
    rw [r.n] at hn
    have hc : S[n]? = some S[n] := List.getElem?_eq_getElem hn
    have q := r.cells n _ hc
    cases hd : S[n] with
    | lst xs =>
      rw [hd] at hc
      refine .inl ⟨n, xs, rfl, rfl, hc, ?_⟩
      unfold MX.look
      simp only [hc]
    | ins c fs =>
      rw [hd] at hc
      refine .inr (.inl ⟨n, c, fs, rfl, rfl, hc, ?_⟩)
      unfold MX.look
      simp only [hc]
    | frz d =>
      rw [hd] at hc q
      refine .inr (.inr ?_)
      unfold MX.look
      simp only [hc]
      exact q.2
  | _ => exact .inr (.inr h)
/-- a list to be read -/
theorem R.lst (r : R fx g S H) {v : V} {d : D} {xs : List D} (h : RelD fx.K fx.ca g v d) (e : MX.look S d = .lst xs) : ∃ a vs, v = .ref a ∧ H a = some (.lst vs) ∧ RelL fx.K fx.ca g vs xs := by
  rcases r.look h with ⟨n, ys, rfl, rfl, hc, e'⟩ | ⟨n, c, fs, rfl, rfl, hc, e'⟩ | k
  · rw [e] at e'
    cases e'
    obtain ⟨_, _, vs, h3, h4⟩ := r.cells n _ hc
    exact ⟨_, vs, rfl, h3, h4⟩
  · rw [e] at e'
    cases e'
  · rw [e] at k
    obtain ⟨a, vs, rfl, h1, h2⟩ := k.iLst
    exact ⟨a, vs, rfl, r.frz _ _ h1, h2⟩
/-- what is no list and no instance is data -/
theorem R.dat (r : R fx g S H) {v : V} {d e : D} (h : RelD fx.K fx.ca g v d) (q : MX.look S d = e) (n1 : ∀ xs, e ≠ .lst xs) (n2 : ∀ c fs, e ≠ .ins c fs) : RelD fx.K fx.ca g v e := by
  rcases r.look h with ⟨n, ys, rfl, rfl, hc, e'⟩ | ⟨n, c, fs, rfl, rfl, hc, e'⟩ | k
  · exact absurd (q.symm.trans e') (n1 _)
  · exact absurd (q.symm.trans e') (n2 _ _)
  · rw [q] at k
    exact k
theorem R.tup (r : R fx g S H) {v : V} {d : D} {xs : List D} (h : RelD fx.K fx.ca g v d) (e : MX.look S d = .tup xs) : ∃ a vs, v = .ref a ∧ H a = some (.tup vs) ∧ RelL fx.K fx.ca g vs xs := by
  obtain ⟨a, vs, rfl, h1, h2⟩ := (r.dat h e (fun _ z => by cases z) (fun _ _ z => by cases z)).iTup
  exact ⟨a, vs, rfl, r.frz _ _ h1, h2⟩
theorem R.scr (r : R fx g S H) {v : V} {d : D} {ns : List Int} (h : RelD fx.K fx.ca g v d) (e : MX.look S d = .scr ns) : ∃ a, v = .ref a ∧ SqL fx.K H a (ns.map V.int) := by
  obtain ⟨a, rfl, h1⟩ := (r.dat h e (fun _ z => by cases z) (fun _ _ z => by cases z)).iScr
  exact ⟨a, rfl, (show Same g.F H from r.frz).seq h1⟩
theorem R.int (r : R fx g S H) {v : V} {d : D} {i : Int} (h : RelD fx.K fx.ca g v d) (e : MX.look S d = .int i) : v = .int i := (r.dat h e (fun _ z => by cases z) (fun _ _ z => by cases z)).iInt
theorem R.bl (r : R fx g S H) {v : V} {d : D} {i : Bool} (h : RelD fx.K fx.ca g v d) (e : MX.look S d = .bl i) : v = .bl i := (r.dat h e (fun _ z => by cases z) (fun _ _ z => by cases z)).iBl
theorem R.str (r : R fx g S H) {v : V} {d : D} {i : Str} (h : RelD fx.K fx.ca g v d) (e : MX.look S d = .str i) : v = .str i := (r.dat h e (fun _ z => by cases z) (fun _ _ z => by cases z)).iStr
theorem R.non (r : R fx g S H) {v : V} {d : D} (h : RelD fx.K fx.ca g v d) (e : MX.look S d = .non) : v = .non := (r.dat h e (fun _ z => by cases z) (fun _ _ z => by cases z)).iNon
/-- a live list cell is written -/
theorem R.put (r : R fx g S H) {n : Nat} {ys xs : List D} {vs : List V} (hc : S[n]? = some (.lst ys)) (h : RelL fx.K fx.ca g vs xs) : R fx g (S.set n (.lst xs)) (upd H (g.am n) (.lst vs)) := by
  obtain ⟨nF, nB, ws, hw, _⟩ := r.cells n _ hc
  have hn : n < S.length := (List.getElem?_eq_some_iff.mp hc).1
  refine ⟨fun a o e => ?_, fun a o e => ?_, r.fresh, r.f0, by rw [List.length_set]; exact r.n, fun m c e => ?_, fun m k c d hm hk lc ld e => ?_⟩
  · rw [upd_ne (ne_of_none e nB)]
    exact r.frame a o e
  · rw [upd_ne (ne_of_none e nF)]
    exact r.frz a o e
  · by_cases hm : n = m
    · subst hm
      rw [List.getElem?_set_self hn] at e
      cases e
      exact ⟨nF, nB, vs, upd_same, h⟩
    · rw [List.getElem?_set_ne hm] at e
      have q := r.cells m c e
      cases c with
      | lst zs =>
        obtain ⟨h1, h2, us, h3, h4⟩ := q
        have ne : g.am m ≠ g.am n := fun z => hm (r.inj n m _ _ hc e rfl rfl z.symm)
        exact ⟨h1, h2, us, by rw [upd_ne ne]; exact h3, h4⟩
      | ins c fs =>
        obtain ⟨h1, h2, dx, us, h3, h4⟩ := q
        have ne : g.am m ≠ g.am n := fun z => hm (r.inj n m _ _ hc e rfl rfl z.symm)
        exact ⟨h1, h2, dx, us, by rw [upd_ne ne]; exact h3, h4⟩
      | frz d => exact q
  · have key : ∀ j c, (S.set n (.lst xs))[j]? = some c → live c = true → ∃ c', S[j]? = some c' ∧ live c' = true := fun j c hj lj => by
      by_cases hm : n = j
      · subst hm
        exact ⟨_, hc, rfl⟩
      · rw [List.getElem?_set_ne hm] at hj
        exact ⟨c, hj, lj⟩
    obtain ⟨c', h1, l1⟩ := key m c hm lc
    obtain ⟨d', h2, l2⟩ := key k d hk ld
    exact r.inj m k c' d' h1 h2 l1 l2 e
/-- a new cell -/
theorem R.cell (r : R fx g S H) {p : Addr} {xs : List D} {vs : List V} (hp : H p = none) (h : RelL fx.K fx.ca g vs xs) :
    ∃ g' : Gh, g.le g' ∧ g'.am S.length = p ∧ g'.n = S.length + 1 ∧ R fx g' (S ++ [.lst xs]) (upd H p (.lst vs)) := by
  have nF : g.F p = none := by
    cases q : g.F p with
    | none => rfl
    | some u => rw [r.frz p u q] at hp; cases hp
  have nB : fx.B p = none := by
    cases q : fx.B p with
    | none => rfl
    | some u => rw [r.frame p u q] at hp; cases hp
  let g' : Gh := { F := g.F, am := fun n => if n = S.length then p else g.am n, n := S.length + 1 }
  have le : g.le g' := ⟨fun _ _ e => e, fun n hn => by
    show (if n = S.length then p else g.am n) = g.am n
    rw [if_neg (by rw [r.n] at hn; omega)], by rw [r.n]; exact Nat.le_succ _⟩
  have amo : ∀ n c, S[n]? = some c → g'.am n = g.am n := fun n c e => le.am n (by rw [r.n]; exact (List.getElem?_eq_some_iff.mp e).1)
  have amn : g'.am S.length = p := if_pos rfl
  have old : ∀ n c, (S ++ [Cell.lst xs])[n]? = some c → (S[n]? = some c) ∨ (n = S.length ∧ c = .lst xs) := fun n c e => by
    by_cases hn : n < S.length
    · rw [List.getElem?_append_left hn] at e
      exact .inl e
    · rw [List.getElem?_append_right (by omega)] at e
      have h2 := (List.getElem?_eq_some_iff.mp e).1
      have h3 : n - S.length = 0 := by
        rw [List.length_singleton] at h2
        omega
      rw [h3] at e
      cases e
      exact .inr ⟨by omega, rfl⟩
  have nep : ∀ n c, S[n]? = some c → live c = true → g.am n ≠ p := fun n c e l => by
    have q := r.cells n c e
    cases c with
    | lst ys =>
      obtain ⟨_, _, us, h3, _⟩ := q
      exact ne_of_none h3 hp
    | ins c fs =>
      obtain ⟨_, _, dx, us, h3, _⟩ := q
      exact ne_of_none h3 hp
    | frz d => cases l
  refine ⟨g', le, amn, rfl, ⟨fun a o e => ?_, fun a o e => ?_, r.fresh, r.f0, by rw [List.length_append]; rfl, fun n c e => ?_, fun m k c d hm hk lc ld e => ?_⟩⟩
  · rw [upd_ne (ne_of_none e nB)]
    exact r.frame a o e
  · rw [upd_ne (ne_of_none (show g.F a = some o from e) nF)]
    exact r.frz a o e
  · rcases old n c e with e1 | ⟨rfl, rfl⟩
    · have q := r.cells n c e1
      rw [amo n c e1]
      cases c with
      | lst ys =>
        obtain ⟨h1, h2, us, h3, h4⟩ := q
        exact ⟨h1, h2, us, by rw [upd_ne (nep n _ e1 rfl)]; exact h3, h4.mono le⟩
      | ins c fs =>
        obtain ⟨h1, h2, dx, us, h3, h4⟩ := q
        exact ⟨h1, h2, dx, us, by rw [upd_ne (nep n _ e1 rfl)]; exact h3, h4.mono le⟩
      | frz d => exact ⟨q.1, q.2.mono le⟩
    · rw [amn]
      exact ⟨nF, nB, vs, upd_same, h.mono le⟩
  · rcases old m c hm with hm | ⟨rfl, rfl⟩
    · rcases old k d hk with hk | ⟨rfl, rfl⟩
      · rw [amo m c hm, amo k d hk] at e
        exact r.inj m k c d hm hk lc ld e
      · rw [amo m c hm, amn] at e
        exact absurd e (nep m c hm lc)
    · rcases old k d hk with hk | ⟨rfl, rfl⟩
      · rw [amo k d hk, amn] at e
        exact absurd e.symm (nep k d hk ld)
      · rfl
end
end MX
end

section
set_option maxRecDepth 100000
set_option maxHeartbeats 1000000
namespace MX
open PySem PySem.Spec PyProof.Rows L2

/-- an exception as the layer has it -/
def RelX (fx : Fix) (g : Gh) (H : Hp) (cls : Value) (dx : Option Addr) (x : Exn) : Prop :=
  cls = .ref (fx.ca x.cls) ∧ ∀ f e, x.fs.lookup f = some e → ∃ d vs v, dx = some d ∧ H d = some (.xd vs) ∧ vs.lookup (Str.ofString f) = some v ∧ RelD fx.K fx.ca g v e

/-- what is wanted of an outcome -/
def ePost {α : Type} (fx : Fix) (W : WX) (g : Gh) (σ : L2.St) (T : Gh → α → Store → Hp → Prop) : Res α → Prop
  | .ok d S => ∀ g' H', g.le g' → R fx g' S H' → T g' d S H'
  | .ex x S => ∀ cls dx g' H', g.le g' → R fx g' S H' → RelX fx g' H' cls dx x → W cls dx σ H'
  | .bad => False
def tOf (fx : Fix) (Q : VK) : Gh → D → Store → Hp → Prop := fun g d _ H => ∀ v, RelD fx.K fx.ca g v d → Q v H
def tOfA (fx : Fix) (Q : List V → Hp → Prop) : Gh → D → Store → Hp → Prop := fun g d _ H => ∀ vs, RelL fx.K fx.ca g vs (unT d) → Q vs H
def tOfT (Q : Bool → Hp → Prop) : Gh → D → Store → Hp → Prop := fun _ d S H => ∃ b, truD (look S d) = some b ∧ Q b H

/-- the reading of an expression with the evaluation f -/
def tE (fx : Fix) (W : WX) (f : DSt → Store → Res D) : TE := fun σ H Q => ∃ g dσ S, R fx g S H ∧ Sl fx g dσ σ ∧ ePost fx W g σ (tOf fx Q) (f dσ S)
def tA (fx : Fix) (W : WX) (f : DSt → Store → Res D) : TA := fun σ H Q => ∃ g dσ S, R fx g S H ∧ Sl fx g dσ σ ∧ ePost fx W g σ (tOfA fx Q) (f dσ S)
def tT (fx : Fix) (W : WX) (f : DSt → Store → Res D) : TT := fun σ H Q => ∃ g dσ S, R fx g S H ∧ Sl fx g dσ σ ∧ ePost fx W g σ (tOfT Q) (f dσ S)

section
variable {α β : Type} {fx : Fix} {W : WX} {g : Gh} {σ : L2.St} {H : Hp} {dσ : DSt} {S : Store} {T : Gh → β → Store → Hp → Prop}
theorem ePost.up {g1 : Gh} {r : Res β} (h : ePost fx W g σ T r) (l : g.le g1) : ePost fx W g1 σ T r := by
  cases r with
  | ok d S => exact fun g' H' l' => h g' H' (l.trans l')
  | ex x S => exact fun cls dx g' H' l' => h cls dx g' H' (l.trans l')
  | bad => exact h
/-- the first of two steps -/
theorem tE.bind {f : DSt → Store → Res D} {k : D → Store → Res β} (h : ePost fx W g σ T ((f dσ S).bind k)) (r : R fx g S H) (sl : Sl fx g dσ σ) {Q' : VK}
    (hq : ∀ x S' v g' H', f dσ S = .ok x S' → g.le g' → R fx g' S' H' → RelD fx.K fx.ca g' v x → ePost fx W g' σ T (k x S') → Q' v H') : tE fx W f σ H Q' := by
  refine ⟨g, dσ, S, r, sl, ?_⟩
  cases e : f dσ S with
  | ok x S' =>
    rw [e] at h
    intro g' H' l r' v rv
    exact hq x S' v g' H' e l r' rv (ePost.up h l)
  | ex x S' =>
    rw [e] at h
    exact h
  | bad =>
    rw [e] at h
    exact h
theorem tA.bind {f : DSt → Store → Res D} {k : D → Store → Res β} (h : ePost fx W g σ T ((f dσ S).bind k)) (r : R fx g S H) (sl : Sl fx g dσ σ) {Q' : List V → Hp → Prop}
    (hq : ∀ x S' vs g' H', f dσ S = .ok x S' → g.le g' → R fx g' S' H' → RelL fx.K fx.ca g' vs (unT x) → ePost fx W g' σ T (k x S') → Q' vs H') : tA fx W f σ H Q' := by
  refine ⟨g, dσ, S, r, sl, ?_⟩
  cases e : f dσ S with
  | ok x S' =>
    rw [e] at h
    intro g' H' l r' v rv
    exact hq x S' v g' H' e l r' rv (ePost.up h l)
  | ex x S' =>
    rw [e] at h
    exact h
  | bad =>
    rw [e] at h
    exact h
theorem tT.bind {f : DSt → Store → Res D} {k : D → Store → Res β} (h : ePost fx W g σ T ((f dσ S).bind k)) (r : R fx g S H) (sl : Sl fx g dσ σ) {Q' : Bool → Hp → Prop}
    (hq : ∀ x S' g' H', f dσ S = .ok x S' → g.le g' → R fx g' S' H' → ePost fx W g' σ T (k x S') → ∃ b, truD (look S' x) = some b ∧ Q' b H') : tT fx W f σ H Q' := by
  refine ⟨g, dσ, S, r, sl, ?_⟩
  cases e : f dσ S with
  | ok x S' =>
    rw [e] at h
    intro g' H' l r'
    exact hq x S' g' H' e l r' (ePost.up h l)
  | ex x S' =>
    rw [e] at h
    exact h
  | bad =>
    rw [e] at h
    exact h
end
/-- the last step: a value -/
theorem ePost.ret {fx : Fix} {W : WX} {g : Gh} {σ : L2.St} {H : Hp} {S : Store} {Q : VK} {d : D} {v : V} (h : ePost fx W g σ (tOf fx Q) (.ok d S)) (r : R fx g S H) (rv : RelD fx.K fx.ca g v d) : Q v H := h g H (Gh.le.refl g) r v rv
/-- a new object, frozen -/
theorem ePost.new {fx : Fix} {W : WX} {g : Gh} {σ : L2.St} {H : Hp} {S : Store} {Q : VK} {d : D} (h : ePost fx W g σ (tOf fx Q) (.ok d S)) (r : R fx g S H) {o : HO} {p : Addr} (hp : H p = none)
    (rv : ∀ g' : Gh, g.le g' → g'.F p = some o → RelD fx.K fx.ca g' (.ref p) d) : Q (.ref p) (upd H p o) := by
  obtain ⟨r', l⟩ := r.laid (o := o) hp
  exact h _ _ l r' _ (rv _ l (show upd g.F p o p = some o from upd_same))

theorem pe_imp {X : Cx} {e : Expr} {t t' : TE} (h : PE X e t) (i : ∀ σ H Q, t' σ H Q → t σ H Q) : PE X e t' := ⟨fun pins s σ H Q I q => h.run pins s σ H Q I (i σ H Q q)⟩
theorem pa_imp {X : Cx} {e : List Expr} {t t' : TA} (h : PA X e t) (i : ∀ σ H Q, t' σ H Q → t σ H Q) : PA X e t' := ⟨fun pos pins s σ H Q I q => h.run pos pins s σ H Q I (i σ H Q q)⟩
theorem pt_imp {X : Cx} {e : Expr} {t t' : TT} (h : PT X e t) (i : ∀ σ H Q, t' σ H Q → t σ H Q) : PT X e t' := ⟨fun pins s σ H Q I q => h.run pins s σ H Q I (i σ H Q q)⟩
theorem pw_imp {X : Cx} {e : Expr} {t t' : TT} (h : PW X e t) (i : ∀ σ H Q, t' σ H Q → t σ H Q) : PW X e t' := ⟨fun whole pins s σ H Q I q => h.run whole pins s σ H Q I (i σ H Q q)⟩
theorem ps_imp {X : Cx} {e : Stmt} {t t' : TS} (h : PS X e t) (i : ∀ D σ H, t' D σ H → t D σ H) : PS X e t' := ⟨fun pins s σ H Q I q => h.run pins s σ H Q I (i Q σ H q)⟩
theorem pss_imp {X : Cx} {e : List Stmt} {t t' : TS} (h : PSs X e t) (i : ∀ D σ H, t' D σ H → t D σ H) : PSs X e t' := ⟨fun pins s σ H Q I q => h.run pins s σ H Q I (i Q σ H q)⟩
/-- by cases on what is known -/
theorem pe_any {X : Cx} {e : Expr} {t : TE} (h : ∀ σ H Q, t σ H Q → ∃ t', PE X e t' ∧ t' σ H Q) : PE X e t := ⟨fun pins s σ H Q I q => by
  obtain ⟨t', p, q'⟩ := h σ H Q q
  exact p.run pins s σ H Q I q'⟩

/-! ### operators by values -/
/-- an operator's reading -/
def rD (fx : Fix) (W : WX) (f : Store → D → D → Res D) (σ : L2.St) : R2 := fun v w H Q => ∃ g S x y, R fx g S H ∧ RelD fx.K fx.ca g v x ∧ RelD fx.K fx.ca g w y ∧ ePost fx W g σ (tOf fx Q) (f S x y)
def OpD (X : Cx) (fx : Fix) (W : WX) (op : Value → Value → Sem Value) (f : Store → D → D → Res D) : Prop :=
  ∀ (pins : List (Addr × Obj)) (s : Shared) (σ : L2.St) (H : Hp) (x y : V) (v u : Value) (Q : VK), Inv X pins σ H s → RelV x v → RelV y u → rD fx W f σ x y H Q →
    wpAny (model X.prog X.w) X.A (op v u) (EP X pins σ Q) X.xe s
def Bop.op : Bop → Operator
  | .add => .Add
  | .sub => .Sub
  | .mul => .Mult
  | .fdiv => .FloorDiv
  | .mod => .Mod
  | .pow => .Pow
theorem binI_run {X : Cx} {op : Bop} {i j k : Int} (e : binI op i j = some k) : ∀ (pins : List (Addr × Obj)) (s : Shared) (σ : L2.St) (H : Hp) (v u : Value) (Q : VK), Inv X pins σ H s → RelV (.int i) v → RelV (.int j) u → Q (.int k) H →
    wpAny (model X.prog X.w) X.A (binaryOp op.op v u) (EP X pins σ Q) X.xe s := by
  intro pins s σ H v u Q I rx ry q
  cases op with
  | add => cases e; exact op_add pins s σ H _ _ v u Q I rx ry ⟨i, j, rfl, rfl, q⟩
  | sub => cases e; exact op_sub pins s σ H _ _ v u Q I rx ry ⟨i, j, rfl, rfl, q⟩
  | mul =>
    have e : (if (-(2 ^ 64) < i ∧ i < 2 ^ 64) ∨ (-(2 ^ 64) < j ∧ j < 2 ^ 64) then some (i * j) else none) = some k := e
    by_cases h : (-(2 ^ 64) < i ∧ i < 2 ^ 64) ∨ (-(2 ^ 64) < j ∧ j < 2 ^ 64)
    · rw [if_pos h] at e
      cases e
      exact op_mul pins s σ H _ _ v u Q I rx ry ⟨i, j, rfl, rfl, h, q⟩
    · rw [if_neg h] at e
      cases e
  | fdiv =>
    have e : (if 0 < j ∧ j < 1073741824 then some (i / j) else none) = some k := e
    by_cases h : 0 < j ∧ j < 1073741824
    · rw [if_pos h] at e
      cases e
      exact op_fdiv pins s σ H _ _ v u Q I rx ry ⟨i, j, rfl, rfl, h, q⟩
    · rw [if_neg h] at e
      cases e
  | mod =>
    have e : (if 0 < j then some (i % j) else none) = some k := e
    by_cases h : 0 < j
    · rw [if_pos h] at e
      cases e
      exact op_mod pins s σ H _ _ v u Q I rx ry ⟨i, j, rfl, rfl, h, q⟩
    · rw [if_neg h] at e
      cases e
  | pow =>
    have e : (if 0 ≤ j ∧ j ≤ 1000000 ∧ i.natAbs < 2 ^ 64 then some (i ^ j.toNat) else none) = some k := e
    by_cases h : 0 ≤ j ∧ j ≤ 1000000 ∧ i.natAbs < 2 ^ 64
    · rw [if_pos h] at e
      cases e
      exact op_pow pins s σ H _ _ v u Q I rx ry ⟨i, j, rfl, rfl, h, q⟩
    · rw [if_neg h] at e
      cases e
theorem opD_bin {X : Cx} {fx : Fix} {W : WX} (op : Bop) (hK : fx.K = X.K) : OpD X fx W (binaryOp op.op) (binD op) := by
  intro pins s σ H x y v u Q I rx ry h
  obtain ⟨g, S, d, e, r, rd, re, h⟩ := h
  unfold binD at h
  split at h
  · rename_i i j e1 e2
    have h1 := r.int rd e1
    have h2 := r.int re e2
    subst h1 h2
    cases q : binI op i j with
    | none => rw [q] at h; exact h.elim
    | some k =>
      rw [q] at h
      exact binI_run q pins s σ H v u Q I rx ry (h.ret r (.int k))
  · rename_i a b e1 e2
    have h1 := r.str rd e1
    have h2 := r.str re e2
    subst h1 h2
    cases op with
    | add =>
      have h : ePost fx W g σ (tOf fx Q) (if a.length + b.length ≤ sizeLine then .ok (.str (a ++ b)) S else .bad) := h
      by_cases hz : a.length + b.length ≤ sizeLine
      · rw [if_pos hz] at h
        exact op_add_str pins s σ H _ _ v u Q I rx ry ⟨a, b, rfl, rfl, hz, h.ret r (.str _)⟩
      · rw [if_neg hz] at h
        exact h.elim
    | _ => exact h.elim
  · rename_i xs ys e1 e2
    obtain ⟨a, vs, rfl, ha, ra⟩ := r.lst rd e1
    obtain ⟨b, ws, rfl, hb, rb⟩ := r.lst re e2
    cases op with
    | add =>
      have h : ePost fx W g σ (tOf fx Q) (if xs.length + ys.length ≤ sizeLine then .ok (.lst (xs ++ ys)) S else .bad) := h
      by_cases hz : xs.length + ys.length ≤ sizeLine
      · rw [if_pos hz] at h
        exact op_cat pins s σ H _ _ v u Q I rx ry ⟨a, b, vs, ws, rfl, rfl, ha, hb, by rw [ra.length, rb.length]; exact hz, fun p hp => h.new r hp fun g' l e => .lst e ((ra.append rb).mono l)⟩
      · rw [if_neg hz] at h
        exact h.elim
    | _ => exact h.elim
  · rename_i xs ys e1 e2
    obtain ⟨a, vs, rfl, ha, ra⟩ := r.tup rd e1
    obtain ⟨b, ws, rfl, hb, rb⟩ := r.tup re e2
    cases op with
    | add =>
      have h : ePost fx W g σ (tOf fx Q) (if xs ≠ [] ∧ ys ≠ [] ∧ xs.length + ys.length ≤ sizeLine then .ok (.tup (xs ++ ys)) S else .bad) := h
      by_cases hz : xs ≠ [] ∧ ys ≠ [] ∧ xs.length + ys.length ≤ sizeLine
      · rw [if_pos hz] at h
        have nv : vs ≠ [] := fun z => hz.1 (by
          have := ra.length
          rw [z] at this
          exact List.eq_nil_of_length_eq_zero this.symm)
        have nw : ws ≠ [] := fun z => hz.2.1 (by
          have := rb.length
          rw [z] at this
          exact List.eq_nil_of_length_eq_zero this.symm)
        exact op_catT pins s σ H _ _ v u Q I rx ry ⟨a, b, vs, ws, rfl, rfl, SqT.of ha, SqT.of hb, nv, by rw [ra.length, rb.length]; exact hz.2.2, fun z => absurd z nw, fun _ p hp => h.new r hp fun g' l e => .tup e ((ra.append rb).mono l)⟩
      · rw [if_neg hz] at h
        exact h.elim
    | _ => exact h.elim
  · rename_i xs k e1 e2
    obtain ⟨a, vs, rfl, ha, ra⟩ := r.lst rd e1
    have h2 := r.int re e2
    subst h2
    cases op with
    | mul =>
      have h : ePost fx W g σ (tOf fx Q) (if -(2 ^ 63) ≤ k ∧ k < 2 ^ 63 ∧ xs.length * k.toNat ≤ sizeLine then .ok (.lst (List.replicate k.toNat xs).flatten) S else .bad) := h
      by_cases hz : -(2 ^ 63) ≤ k ∧ k < 2 ^ 63 ∧ xs.length * k.toNat ≤ sizeLine
      · rw [if_pos hz] at h
        exact op_rep pins s σ H _ _ v u Q I rx ry ⟨a, k, vs, rfl, rfl, ha, hz.1, hz.2.1, by rw [ra.length]; exact hz.2.2, fun p hp => h.new r hp fun g' l e => .lst e ((ra.rep k.toNat).mono l)⟩
      · rw [if_neg hz] at h
        exact h.elim
    | _ => exact h.elim
  · exact h.elim
/-! ### == -/
mutual
def toP : D → PyData
  | .bl b => .bool b
  | .int i => .int i
  | .str s => .str s
  | .lst xs => .list (toPL xs)
  | .tup xs => .tuple (toPL xs)
  | _ => .none
def toPL : List D → List PyData
  | [] => []
  | d :: r => toP d :: toPL r
end
theorem dpD_flat {n : Nat} {d : D} (h : flatS d = true) : dpD n d = true := by
  cases n with
  | zero => exact h
  | succ n =>
    cases d with
    | lst xs => cases h
    | tup xs => cases h
    | _ => exact h
section
variable {K : PySem.W.Frag} {ca : String → Addr} {g : Gh} {H : Hp}
mutual
theorem rel_dp (frz : ∀ a o, g.F a = some o → H a = some o) : ∀ (n : Nat) {v : V} {d : D}, RelD K ca g v d → dpD n d = true → Dp K H v (toP d)
  | n, _, _, .non, _ => by unfold toP; exact .non
  | n, _, _, .bl b, _ => by unfold toP; exact .bl b
  | n, _, _, .int i, _ => by unfold toP; exact .int i
  | n, _, _, .str s, _ => by unfold toP; exact .str s
  | 0, _, _, .lst e r, h => by cases h
  | n + 1, _, _, .lst e r, h => by
    unfold toP
    exact .lst (SqL.of (frz _ _ e)) (rel_dpL frz n r (List.all_eq_true.mp h))
  | 0, _, _, .tup e r, h => by cases h
  | n + 1, _, _, .tup e r, h => by
    unfold toP
    exact .tup (SqT.of (frz _ _ e)) (rel_dpL frz n r (List.all_eq_true.mp h))
  | 0, _, _, .ins e r, h => by cases h
  | _ + 1, _, _, .ins e r, h => by cases h
  | 0, _, _, .ptr e, h => by cases h
  | _ + 1, _, _, .ptr e, h => by cases h
  | 0, _, _, .scr e, h => by cases h
  | _ + 1, _, _, .scr e, h => by cases h
theorem rel_dpL (frz : ∀ a o, g.F a = some o → H a = some o) : ∀ (n : Nat) {vs : List V} {ds : List D}, RelL K ca g vs ds → (∀ d ∈ ds, dpD n d = true) → DpAll K H vs (toPL ds)
  | n, _, _, .nil, _ => by unfold toPL; exact .nil
  | n, _, _, .cons a b, h => by
    unfold toPL
    exact .cons (rel_dp frz n a (h _ List.mem_cons_self)) (rel_dpL frz n b fun d hd => h d (List.mem_cons_of_mem _ hd))
end
end
mutual
theorem dp_lay : ∀ (n : Nat) (d : D), dpD n d = true → (toP d).canLay0 = true ∧ (toP d).depth ≤ n
  | n, .non, _ => by unfold toP; exact ⟨rfl, by simp [PyData.depth]⟩
  | n, .bl b, _ => by unfold toP; exact ⟨rfl, by simp [PyData.depth]⟩
  | n, .int i, _ => by unfold toP; exact ⟨rfl, by simp [PyData.depth]⟩
  | 0, .str s, h => by unfold toP; exact ⟨h, by simp [PyData.depth]⟩
  | n + 1, .str s, h => by unfold toP; exact ⟨h, by simp [PyData.depth]⟩
  | 0, .lst xs, h => by cases h
  | n + 1, .lst xs, h => by
    obtain ⟨h1, h2⟩ := dp_layL n xs (List.all_eq_true.mp h)
    unfold toP
    refine ⟨by unfold PyData.canLay0; exact h1, ?_⟩
    simp only [PyData.depth]
    omega
  | 0, .tup xs, h => by cases h
  | n + 1, .tup xs, h => by
    obtain ⟨h1, h2⟩ := dp_layL n xs (List.all_eq_true.mp h)
    unfold toP
    refine ⟨by unfold PyData.canLay0; exact h1, ?_⟩
    simp only [PyData.depth]
    omega
  | 0, .ins c fs, h => by cases h
  | _ + 1, .ins c fs, h => by cases h
  | 0, .ptr c, h => by cases h
  | _ + 1, .ptr c, h => by cases h
  | 0, .scr c, h => by cases h
  | _ + 1, .scr c, h => by cases h
theorem dp_layL : ∀ (n : Nat) (ds : List D), (∀ d ∈ ds, dpD n d = true) → PyData.canLayAll0 (toPL ds) = true ∧ PyData.depthAll (toPL ds) ≤ n
  | n, [], _ => by unfold toPL; exact ⟨rfl, by simp [PyData.depthAll]⟩
  | n, d :: r, h => by
    obtain ⟨h1, h2⟩ := dp_lay n d (h d List.mem_cons_self)
    obtain ⟨h3, h4⟩ := dp_layL n r fun e he => h e (List.mem_cons_of_mem _ he)
    unfold toPL
    refine ⟨by unfold PyData.canLayAll0; rw [h1, h3]; rfl, ?_⟩
    simp only [PyData.depthAll]
    omega
end
end MX
end

section
set_option maxRecDepth 100000
set_option maxHeartbeats 1000000
namespace MX
open PySem PySem.Spec PyProof.Rows L2

mutual
theorem eqB_eqv : ∀ (n m : Nat) (a b : D), dpD n a = true → dpD m b = true → PyData.eqv (toP a) (toP b) = eqB a b
  | n, m, .non, b, _, h => by cases b <;> first | (cases m <;> cases h; done) | (simp [toP, PyData.eqv, eqB])
  | n, m, .bl _, b, _, h => by cases b <;> first | (cases m <;> cases h; done) | (simp [toP, PyData.eqv, eqB])
  | n, m, .int _, b, _, h => by cases b <;> first | (cases m <;> cases h; done) | (simp [toP, PyData.eqv, eqB])
  | n, m, .str _, b, _, h => by cases b <;> first | (cases m <;> cases h; done) | (simp [toP, PyData.eqv, eqB])
  | 0, m, .lst xs, b, h, _ => by cases h
  | 0, m, .tup xs, b, h, _ => by cases h
  | n + 1, m, .lst xs, b, h1, h2 => by
    cases b with
    | lst ys =>
      cases m with
      | zero => cases h2
      | succ m =>
        have := eqB_eqvL n m xs ys (List.all_eq_true.mp h1) (List.all_eq_true.mp h2)
        simp only [toP, PyData.eqv, eqB]
        exact this
    | ins c fs => cases m <;> cases h2
    | ptr c => cases m <;> cases h2
    | scr c => cases m <;> cases h2
    | _ => simp [toP, PyData.eqv, eqB]
  | n + 1, m, .tup xs, b, h1, h2 => by
    cases b with
    | tup ys =>
      cases m with
      | zero => cases h2
      | succ m =>
        have := eqB_eqvL n m xs ys (List.all_eq_true.mp h1) (List.all_eq_true.mp h2)
        simp only [toP, PyData.eqv, eqB]
        exact this
    | ins c fs => cases m <;> cases h2
    | ptr c => cases m <;> cases h2
    | scr c => cases m <;> cases h2
    | _ => simp [toP, PyData.eqv, eqB]
  | 0, m, .ins c fs, b, h, _ => by cases h
  | _ + 1, m, .ins c fs, b, h, _ => by cases h
  | 0, m, .ptr c, b, h, _ => by cases h
  | _ + 1, m, .ptr c, b, h, _ => by cases h
  | 0, m, .scr c, b, h, _ => by cases h
  | _ + 1, m, .scr c, b, h, _ => by cases h
theorem eqB_eqvL : ∀ (n m : Nat) (xs ys : List D), (∀ d ∈ xs, dpD n d = true) → (∀ d ∈ ys, dpD m d = true) → PyData.eqvAll (toPL xs) (toPL ys) = eqBL xs ys
  | n, m, [], [], _, _ => by simp [toPL, PyData.eqvAll, eqBL]
  | n, m, [], _ :: _, _, _ => by simp [toPL, PyData.eqvAll, eqBL]
  | n, m, _ :: _, [], _, _ => by simp [toPL, PyData.eqvAll, eqBL]
  | n, m, x :: xs, y :: ys, h1, h2 => by
    have e1 := eqB_eqv n m x y (h1 x List.mem_cons_self) (h2 y List.mem_cons_self)
    have e2 := eqB_eqvL n m xs ys (fun d hd => h1 d (List.mem_cons_of_mem _ hd)) fun d hd => h2 d (List.mem_cons_of_mem _ hd)
    simp only [toPL, PyData.eqvAll, eqBL, e1, e2]
end

section
variable {fx : Fix} {g : Gh} {S : Store} {H : Hp}
theorem R.dp (r : R fx g S H) {v : V} {d : D} {n : Nat} (h : RelD fx.K fx.ca g v d) (q : dpD n (MX.look S d) = true) : Dp fx.K H v (toP (MX.look S d)) := by
  rcases r.look h with ⟨k, ys, rfl, rfl, hc, e'⟩ | ⟨k, c, fs, rfl, rfl, hc, e'⟩ | k
  · rw [e'] at q ⊢
    obtain ⟨_, _, vs, h3, h4⟩ := r.cells k _ hc
    cases n with
    | zero => cases q
    | succ n =>
      unfold toP
      exact .lst (SqL.of h3) (rel_dpL r.frz n h4 (List.all_eq_true.mp q))
  · rw [e'] at q
    cases n <;> cases q
  · exact rel_dp r.frz n k q
theorem shaped_of {d : D} (h : dpD 8 d = true) : SeqAt.shaped (toP d) = true := by
  obtain ⟨h1, h2⟩ := dp_lay 8 d h
  unfold SeqAt.shaped
  rw [h1, decide_eq_true (show (toP d).depth ≤ 64 by omega)]
  rfl
theorem rel_flatV {K : PySem.W.Frag} {ca : String → Addr} {g : Gh} {v : V} {d : D} (h : RelD K ca g v d) (f : flatD d = true) : flatV v = true := by
  cases h <;> first | rfl | cases f
theorem rel_eqV {K : PySem.W.Frag} {ca : String → Addr} {g : Gh} {v w : V} {d e : D} (h : RelD K ca g v d) (k : RelD K ca g w e) (f : flatD d = true) (f' : flatD e = true) : eqV v w = eqB d e := by
  cases h <;> first | (cases f; done) | (cases k <;> first | (cases f'; done) | (simp [eqV, eqB]))
theorem rel_inV {K : PySem.W.Frag} {ca : String → Addr} {g : Gh} {v : V} {d : D} (h : RelD K ca g v d) (f : flatD d = true) : ∀ {ws : List V} {es : List D}, RelL K ca g ws es → es.all flatD = true → ws.all flatV = true ∧ inV v ws = es.any fun y => eqB y d
  | _, _, .nil, _ => ⟨rfl, rfl⟩
  | _, _, .cons a b, q => by
    rw [List.all_cons, Bool.and_eq_true] at q
    obtain ⟨h1, h2⟩ := rel_inV h f b q.2
    refine ⟨by rw [List.all_cons, rel_flatV a q.1, h1]; rfl, ?_⟩
    unfold inV at h2 ⊢
    rw [List.any_cons, List.any_cons, rel_eqV a h q.1 f, h2]
end
def Cop.op : Cop → CmpOp
  | .eq => .Eq
  | .ne => .NotEq
  | .lt => .Lt
  | .le => .LtE
  | .gt => .Gt
  | .ge => .GtE
  | .is_ => .Is
  | .isn => .IsNot
  | .in_ => .In
  | .nin => .NotIn
theorem eqO_some {x y : D} {b : Bool} (h : eqO x y = some b) : dpD 8 x = true ∧ dpD 8 y = true ∧ b = eqB x y := by
  unfold eqO at h
  split at h
  · rename_i q
    rw [Bool.and_eq_true] at q
    exact ⟨q.1, q.2, (Option.some.inj h).symm⟩
  · cases h
theorem inO_some {x : D} {ys : List D} {b : Bool} (h : inO x ys = some b) : flatD x = true ∧ ys.all flatD = true ∧ b = ys.any fun y => eqB y x := by
  unfold inO at h
  split at h
  · rename_i q
    rw [Bool.and_eq_true] at q
    exact ⟨q.1, q.2, (Option.some.inj h).symm⟩
  · cases h
theorem notO_some {o : Option Bool} {b : Bool} (h : notO o = some b) : ∃ c, o = some c ∧ b = !c := by
  cases o with
  | none => cases h
  | some c => exact ⟨c, rfl, (Option.some.inj h).symm⟩
/-- comparisons -/
theorem opD_cmp {X : Cx} {fx : Fix} {W : WX} (op : Cop) (hK : fx.K = X.K) (hu : X.A.units + 64 < cLine) : OpD X fx W (compareOp op.op) (fun S x y => ofB S (cmpB op S x y)) := by
  intro pins s σ H x y v u Q I rx ry h
  obtain ⟨g, S, d, e, r, rd, re, h⟩ := h
  have h : ePost fx W g σ (tOf fx Q) (ofB S (cmpB op S d e)) := h
  cases q : cmpB op S d e with
  | none => rw [q] at h; exact h.elim
  | some b =>
    rw [q] at h
    have hq : Q (.bl b) H := h.ret (d := .bl b) r (.bl b)

    have hints : ∀ {f : Int → Int → Bool}, (match MX.look S d, MX.look S e with
      | .int i, .int j => some (f i j)
      | _, _ => none) = some b → ∃ i j, x = .int i ∧ y = .int j ∧ b = f i j := fun {f} z => by
      split at z
      · rename_i i j e1 e2
        exact ⟨i, j, r.int rd e1, r.int re e2, (Option.some.inj z).symm⟩
      · cases z
    cases op with
    | eq =>
      obtain ⟨h1, h2, rfl⟩ := eqO_some q
      refine op_eqD hu pins s σ H x y v u Q I rx ry ⟨_, _, by rw [← hK]; exact r.dp rd h1, by rw [← hK]; exact r.dp re h2, shaped_of h1, shaped_of h2, ?_⟩
      rw [eqB_eqv 8 8 _ _ h1 h2]
      exact hq
    | ne =>
      obtain ⟨c, q1, rfl⟩ := notO_some q
      obtain ⟨h1, h2, rfl⟩ := eqO_some q1
      refine op_neD hu pins s σ H x y v u Q I rx ry ⟨_, _, by rw [← hK]; exact r.dp rd h1, by rw [← hK]; exact r.dp re h2, shaped_of h1, shaped_of h2, ?_⟩
      rw [eqB_eqv 8 8 _ _ h1 h2]
      exact hq
    | lt =>
      obtain ⟨i, j, rfl, rfl, rfl⟩ := hints q
      exact op_lt pins s σ H _ _ v u Q I rx ry ⟨i, j, rfl, rfl, hq⟩
    | le =>
      obtain ⟨i, j, rfl, rfl, rfl⟩ := hints q
      exact op_le pins s σ H _ _ v u Q I rx ry ⟨i, j, rfl, rfl, hq⟩
    | gt =>
      obtain ⟨i, j, rfl, rfl, rfl⟩ := hints q
      exact op_gt pins s σ H _ _ v u Q I rx ry ⟨i, j, rfl, rfl, hq⟩
    | ge =>
      obtain ⟨i, j, rfl, rfl, rfl⟩ := hints q
      exact op_ge pins s σ H _ _ v u Q I rx ry ⟨i, j, rfl, rfl, hq⟩
    | is_ =>
      cases e with
      | non =>
        have hy := re.iNon
        subst hy
        refine op_isN pins s σ H _ _ v u Q I rx ry ⟨rfl, ?_⟩
        have : decide (x = V.non) = b := by
          cases d with
          | non =>
            cases q
            rw [rd.iNon]
            exact decide_eq_true rfl
          | _ =>
            cases q
            refine decide_eq_false fun z => ?_
            subst z
            cases rd
        rw [this]
        exact hq
      | _ => cases q
    | isn =>
      cases e with
      | non =>
        have hy := re.iNon
        subst hy
        refine op_notN pins s σ H _ _ v u Q I rx ry ⟨rfl, ?_⟩
        have : (!decide (x = V.non)) = b := by
          cases d with
          | non =>
            cases q
            rw [rd.iNon, decide_eq_true rfl]
            rfl
          | _ =>
            cases q
            rw [decide_eq_false (fun z => by subst z; cases rd)]
            rfl
        rw [this]
        exact hq
      | _ => cases q
    | in_ =>
      have q : (match MX.look S e with
        | .lst ys => inO d ys
        | .tup ys => inO d ys
        | _ => none) = some b := q
      split at q
      · rename_i ys e1
        obtain ⟨h1, h2, rfl⟩ := inO_some q
        obtain ⟨a, ws, rfl, ha, ra⟩ := r.lst re e1
        obtain ⟨f1, f2⟩ := rel_inV rd h1 ra h2
        refine op_in_seq pins s σ H _ _ v u Q I rx ry ⟨a, ws, rfl, .inl (SqL.of ha), rel_flatV rd h1, f1, ?_⟩
        rw [if_neg (by decide), f2]
        exact hq
      · rename_i ys e1
        obtain ⟨h1, h2, rfl⟩ := inO_some q
        obtain ⟨a, ws, rfl, ha, ra⟩ := r.tup re e1
        obtain ⟨f1, f2⟩ := rel_inV rd h1 ra h2
        refine op_in_seq pins s σ H _ _ v u Q I rx ry ⟨a, ws, rfl, .inr (SqT.of ha), rel_flatV rd h1, f1, ?_⟩
        rw [if_neg (by decide), f2]
        exact hq
      · cases q
    | nin =>
      have q : (match MX.look S e with
        | .lst ys => notO (inO d ys)
        | .tup ys => notO (inO d ys)
        | _ => none) = some b := q
      split at q
      · rename_i ys e1
        obtain ⟨c, q2, rfl⟩ := notO_some q
        obtain ⟨h1, h2, rfl⟩ := inO_some q2
        obtain ⟨a, ws, rfl, ha, ra⟩ := r.lst re e1
        obtain ⟨f1, f2⟩ := rel_inV rd h1 ra h2
        refine op_notIn_seq pins s σ H _ _ v u Q I rx ry ⟨a, ws, rfl, .inl (SqL.of ha), rel_flatV rd h1, f1, ?_⟩
        rw [if_pos rfl, f2]
        exact hq
      · rename_i ys e1
        obtain ⟨c, q2, rfl⟩ := notO_some q
        obtain ⟨h1, h2, rfl⟩ := inO_some q2
        obtain ⟨a, ws, rfl, ha, ra⟩ := r.tup re e1
        obtain ⟨f1, f2⟩ := rel_inV rd h1 ra h2
        refine op_notIn_seq pins s σ H _ _ v u Q I rx ry ⟨a, ws, rfl, .inr (SqT.of ha), rel_flatV rd h1, f1, ?_⟩
        rw [if_pos rfl, f2]
        exact hq
      · cases q
/-- truth -/
theorem R.tru {fx : Fix} {g : Gh} {S : Store} {H : Hp} (r : R fx g S H) {v : V} {d : D} {b : Bool} (h : RelD fx.K fx.ca g v d) (e : truD (MX.look S d) = some b) : TruV fx.K v H b := by
  cases q : MX.look S d with
  | non => rw [q] at e; cases e; rw [r.non h q]; exact rfl
  | bl c => rw [q] at e; cases e; rw [r.bl h q]; exact rfl
  | int i => rw [q] at e; cases e; rw [r.int h q]; exact rfl
  | str z =>
    rw [q] at e
    have e : (if z.length ≤ sizeLine then some ((z.length : Int) != 0) else none) = some b := e
    by_cases hz : z.length ≤ sizeLine
    · rw [if_pos hz] at e
      cases e
      rw [r.str h q]
      exact ⟨hz, rfl⟩
    · rw [if_neg hz] at e
      cases e
  | lst xs =>
    rw [q] at e
    cases e
    obtain ⟨a, vs, rfl, ha, ra⟩ := r.lst h q
    refine .inl ⟨vs, SqL.of ha, ?_⟩
    cases ra <;> rfl
  | tup xs =>
    rw [q] at e
    cases e
    obtain ⟨a, vs, rfl, ha, ra⟩ := r.tup h q
    refine .inr (.inl ⟨vs, SqT.of ha, ?_⟩)
    cases ra <;> rfl
  | ins c fs => rw [q] at e; cases e
  | ptr c => rw [q] at e; cases e
  | scr c => rw [q] at e; cases e
end MX
end

section
set_option maxRecDepth 100000
set_option maxHeartbeats 1000000
namespace MX
open PySem PySem.Spec PyProof.Rows L2

section
variable {K : PySem.W.Frag} {ca : String → Addr} {g g' : Gh}
mutual
/-- data leans on the frozen part alone -/
theorem RelD.pfF (l : ∀ a o, g.F a = some o → g'.F a = some o) : ∀ {v : V} {d : D}, RelD K ca g v d → d.pf = true → RelD K ca g' v d
  | _, _, .non, _ => .non
  | _, _, .bl b, _ => .bl b
  | _, _, .int i, _ => .int i
  | _, _, .str s, _ => .str s
  | _, _, .lst e r, h => .lst (l _ _ e) (RelL.pfF l r (by unfold D.pf at h; exact h))
  | _, _, .tup e r, h => .tup (l _ _ e) (RelL.pfF l r (by unfold D.pf at h; exact h))
  | _, _, .ins e r, h => .ins (l _ _ e) (RelF.pfF l r (by unfold D.pf at h; exact h))
  | _, _, .ptr e, h => by unfold D.pf at h; cases h
  | _, _, .scr h, _ => .scr ((show Same g.F g'.F from l).seq h)
theorem RelL.pfF (l : ∀ a o, g.F a = some o → g'.F a = some o) : ∀ {vs : List V} {ds : List D}, RelL K ca g vs ds → pfL ds = true → RelL K ca g' vs ds
  | _, _, .nil, _ => .nil
  | _, _, .cons a b, h => by
    unfold pfL at h
    rw [Bool.and_eq_true] at h
    exact .cons (RelD.pfF l a h.1) (RelL.pfF l b h.2)
theorem RelF.pfF (l : ∀ a o, g.F a = some o → g'.F a = some o) : ∀ {vs : List (Str × V)} {ds : List (String × D)}, RelF K ca g vs ds → MX.pfF ds = true → RelF K ca g' vs ds
  | _, _, .nil, _ => .nil
  | _, _, .cons a b, h => by
    unfold MX.pfF at h
    rw [Bool.and_eq_true] at h
    exact .cons (RelD.pfF l a h.1) (RelF.pfF l b h.2)
end
end
section
variable {fx : Fix} {g : Gh} {S : Store} {H : Hp}
/-- a live cell becomes data: the heap stands -/
theorem R.freeze (r : R fx g S H) {n : Nat} {c : Cell} {o : HO} {d : D} (hc : S[n]? = some c) (lc : live c = true) (ho : H (g.am n) = some o) (pd : d.pf = true)
    (hd : ∀ g' : Gh, g.le g' → g'.F (g.am n) = some o → RelD fx.K fx.ca g' (.ref (g.am n)) d) : ∃ g', g.le g' ∧ g'.am = g.am ∧ g'.n = g.n ∧ R fx g' (S.set n (.frz d)) H ∧ RelD fx.K fx.ca g' (.ref (g.am n)) d := by
  have q := r.cells n c hc
  have nF : g.F (g.am n) = none := by cases c <;> first | exact q.1 | cases lc
  have nB : fx.B (g.am n) = none := by cases c <;> first | exact q.2.1 | cases lc
  have hn : n < S.length := (List.getElem?_eq_some_iff.mp hc).1
  let g' : Gh := { g with F := upd g.F (g.am n) o }
  have le : g.le g' := ⟨fun a u e => by
    show upd g.F (g.am n) o a = some u
    rw [upd_ne (ne_of_none e nF)]
    exact e, fun _ _ => rfl, Nat.le_refl _⟩
  have rel := hd g' le (show upd g.F (g.am n) o (g.am n) = some o from upd_same)
  refine ⟨g', le, rfl, rfl, ⟨r.frame, fun a u e => ?_, fun a u e => ?_, fun a u e => le.F a u (r.f0 a u e), by rw [List.length_set]; exact r.n, fun m c' e => ?_, fun m k c1 d1 hm hk l1 l2 e => ?_⟩, rel⟩
  · have e : upd g.F (g.am n) o a = some u := e
    by_cases ha : a = g.am n
    · subst ha
      rw [upd_same] at e
      cases e
      exact ho
    · rw [upd_ne ha] at e
      exact r.frz a u e
  · have e : upd g.F (g.am n) o a = some u := e
    by_cases ha : a = g.am n
    · subst ha
      exact .inr nB
    · rw [upd_ne ha] at e
      exact r.fresh a u e
  · by_cases hm : n = m
    · subst hm
      rw [List.getElem?_set_self hn] at e
      cases e
      exact ⟨pd, rel⟩
    · rw [List.getElem?_set_ne hm] at e
      have z := r.cells m c' e
      have ne : live c' = true → g.am m ≠ g.am n := fun l z => hm (r.inj n m _ _ hc e lc l z.symm)
      cases c' with
      | lst xs =>
        obtain ⟨h1, h2, vs, h3, h4⟩ := z
        exact ⟨by show upd g.F (g.am n) o (g.am m) = none; rw [upd_ne (ne rfl)]; exact h1, h2, vs, h3, h4.mono le⟩
      | ins c fs =>
        obtain ⟨h1, h2, dx, vs, h3, h4⟩ := z
        exact ⟨by show upd g.F (g.am n) o (g.am m) = none; rw [upd_ne (ne rfl)]; exact h1, h2, dx, vs, h3, h4.mono le⟩
      | frz d => exact ⟨z.1, z.2.mono le⟩
  · have key : ∀ j c, (S.set n (.frz d))[j]? = some c → live c = true → S[j]? = some c := fun j c hj lj => by
      by_cases hm : n = j
      · subst hm
        rw [List.getElem?_set_self hn] at hj
        cases hj
        cases lj
      · rw [List.getElem?_set_ne hm] at hj
        exact hj
    exact r.inj m k c1 d1 (key m c1 hm l1) (key k d1 hk l2) l1 l2 e
end

/-- what freezing a value does -/
def FrzOk (f : Store → D → Option (D × Store)) : Prop := ∀ (fx : Fix) (g : Gh) (S : Store) (H : Hp) (v : V) (d d' : D) (S' : Store), f S d = some (d', S') → R fx g S H → RelD fx.K fx.ca g v d →
  ∃ g', g.le g' ∧ g'.n = g.n ∧ R fx g' S' H ∧ RelD fx.K fx.ca g' v d' ∧ d'.pf = true
theorem frzL_ok {f : Store → D → Option (D × Store)} (hf : FrzOk f) : ∀ {fx : Fix} {g : Gh} {S : Store} {H : Hp} {vs : List V} {ds : List D} {ds' : List D} {S' : Store}, frzL f S ds = some (ds', S') → R fx g S H → RelL fx.K fx.ca g vs ds →
    ∃ g', g.le g' ∧ g'.n = g.n ∧ R fx g' S' H ∧ RelL fx.K fx.ca g' vs ds' ∧ pfL ds' = true
  | fx, g, S, H, [], [], ds', S', e, r, .nil => by
    cases e
    exact ⟨g, Gh.le.refl g, rfl, r, .nil, by unfold pfL; rfl⟩
  | fx, g, S, H, v :: vs, d :: ds, ds', S', e, r, .cons a b => by
    unfold frzL at e
    cases q : f S d with
    | none => rw [q] at e; cases e
    | some p =>
      obtain ⟨e1, S1⟩ := p
      rw [q] at e
      have e : (match frzL f S1 ds with
        | some (q, S2) => some (e1 :: q, S2)
        | none => none) = some (ds', S') := e
      cases q2 : frzL f S1 ds with
      | none => rw [q2] at e; cases e
      | some p2 =>
        obtain ⟨e2, S2⟩ := p2
        rw [q2] at e
        cases e
        obtain ⟨g1, l1, n1, r1, a1, p1⟩ := hf fx g S H _ d e1 S1 q r a
        obtain ⟨g2, l2, n2, r2, b2, p2⟩ := frzL_ok hf q2 r1 (b.mono l1)
        exact ⟨g2, l1.trans l2, n2.trans n1, r2, .cons (a1.mono l2) b2, by unfold pfL; rw [p1, p2]; rfl⟩
theorem frzF_ok {f : Store → D → Option (D × Store)} (hf : FrzOk f) : ∀ {fx : Fix} {g : Gh} {S : Store} {H : Hp} {vs : List (Str × V)} {ds ds' : List (String × D)} {S' : Store}, frzF f S ds = some (ds', S') → R fx g S H → RelF fx.K fx.ca g vs ds →
    ∃ g', g.le g' ∧ g'.n = g.n ∧ R fx g' S' H ∧ RelF fx.K fx.ca g' vs ds' ∧ pfF ds' = true
  | fx, g, S, H, [], [], ds', S', e, r, .nil => by
    cases e
    exact ⟨g, Gh.le.refl g, rfl, r, .nil, by unfold pfF; rfl⟩
  | fx, g, S, H, _ :: vs, (x, d) :: ds, ds', S', e, r, .cons a b => by
    unfold frzF at e
    cases q : f S d with
    | none => rw [q] at e; cases e
    | some p =>
      obtain ⟨e1, S1⟩ := p
      rw [q] at e
      have e : (match frzF f S1 ds with
        | some (q, S2) => some ((x, e1) :: q, S2)
        | none => none) = some (ds', S') := e
      cases q2 : frzF f S1 ds with
      | none => rw [q2] at e; cases e
      | some p2 =>
        obtain ⟨e2, S2⟩ := p2
        rw [q2] at e
        cases e
        obtain ⟨g1, l1, n1, r1, a1, p1⟩ := hf fx g S H _ d e1 S1 q r a
        obtain ⟨g2, l2, n2, r2, b2, p2⟩ := frzF_ok hf q2 r1 (b.mono l1)
        exact ⟨g2, l1.trans l2, n2.trans n1, r2, .cons (a1.mono l2) b2, by unfold pfF; rw [p1, p2]; rfl⟩
theorem frzD_ok : ∀ k : Nat, FrzOk (frzD k)
  | 0 => fun fx g S H v d d' S' e r rd => by
    unfold frzD at e
    split at e
    · rename_i h
      cases e
      exact ⟨g, Gh.le.refl g, rfl, r, rd, h⟩
    · cases e
  | k + 1 => fun fx g S H v d d' S' e r rd => by
    unfold frzD at e
    split at e
    · rename_i h
      cases e
      exact ⟨g, Gh.le.refl g, rfl, r, rd, h⟩
    · rename_i hpf
      cases d with
      | ptr n =>
        obtain ⟨rfl, hn⟩ := rd.iPtr
        have e : (match S[n]? with
          | some (.frz e) => some (e, S)
          | some (.lst xs) => match frzL (frzD k) S xs with
            | some (ys, S1) => match S1[n]? with
              | some (.lst _) => some (.lst ys, S1.set n (.frz (.lst ys)))
              | _ => none
            | none => none
          | some (.ins c fs) => match frzF (frzD k) S fs with
            | some (gs, S1) => match S1[n]? with
              | some (.ins _ _) => some (.ins c gs, S1.set n (.frz (.ins c gs)))
              | _ => none
            | none => none
          | none => none) = some (d', S') := e
        cases hc : S[n]? with
        | none => rw [hc] at e; cases e
        | some c =>
          rw [hc] at e
          have q := r.cells n c hc
          cases c with
          | frz y =>
            cases e
            exact ⟨g, Gh.le.refl g, rfl, r, q.2, q.1⟩
          | lst xs =>
            obtain ⟨_, _, vs, h3, h4⟩ := q
            have e : (match frzL (frzD k) S xs with
              | some (ys, S1) => match S1[n]? with
                | some (.lst _) => some (.lst ys, S1.set n (.frz (.lst ys)))
                | _ => none
              | none => none) = some (d', S') := e
            cases q2 : frzL (frzD k) S xs with
            | none => rw [q2] at e; cases e
            | some p =>
              obtain ⟨ys, S1⟩ := p
              rw [q2] at e
              obtain ⟨g1, l1, n1, r1, a1, p1⟩ := frzL_ok (frzD_ok k) q2 r h4
              have e : (match S1[n]? with
                | some (.lst _) => some (.lst ys, S1.set n (.frz (.lst ys)))
                | _ => none) = some (d', S') := e
              cases hc1 : S1[n]? with
              | none => rw [hc1] at e; cases e
              | some c1 =>
                rw [hc1] at e
                cases c1 with
                | lst zs =>
                  cases e
                  have am1 : g1.am n = g.am n := l1.am n hn
                  obtain ⟨g2, l2, _, n2, r2, d2⟩ := r1.freeze (o := .lst vs) (d := .lst ys) hc1 rfl (by rw [am1]; exact h3) (by unfold D.pf; exact p1) fun g' l e => .lst e (a1.mono l)
                  rw [am1] at d2
                  exact ⟨g2, l1.trans l2, n2.trans n1, r2, d2, by unfold D.pf; exact p1⟩
                | ins c fs => cases e
                | frz z => cases e
          | ins cc fs =>
            obtain ⟨_, _, dx, vs, h3, h4⟩ := q
            have e : (match frzF (frzD k) S fs with
              | some (ys, S1) => match S1[n]? with
                | some (.ins _ _) => some (.ins cc ys, S1.set n (.frz (.ins cc ys)))
                | _ => none
              | none => none) = some (d', S') := e
            cases q2 : frzF (frzD k) S fs with
            | none => rw [q2] at e; cases e
            | some p =>
              obtain ⟨ys, S1⟩ := p
              rw [q2] at e
              obtain ⟨g1, l1, n1, r1, a1, p1⟩ := frzF_ok (frzD_ok k) q2 r h4
              have e : (match S1[n]? with
                | some (.ins _ _) => some (.ins cc ys, S1.set n (.frz (.ins cc ys)))
                | _ => none) = some (d', S') := e
              cases hc1 : S1[n]? with
              | none => rw [hc1] at e; cases e
              | some c1 =>
                rw [hc1] at e
                cases c1 with
                | ins c2 zs =>
                  cases e
                  have am1 : g1.am n = g.am n := l1.am n hn
                  obtain ⟨g2, l2, _, n2, r2, d2⟩ := r1.freeze (o := .ins (fx.ca cc) dx vs) (d := .ins cc ys) hc1 rfl (by rw [am1]; exact h3) (by unfold D.pf; exact p1) fun g' l e => .ins e (a1.mono l)
                  rw [am1] at d2
                  exact ⟨g2, l1.trans l2, n2.trans n1, r2, d2, by unfold D.pf; exact p1⟩
                | lst c => cases e
                | frz z => cases e
      | lst xs =>
        obtain ⟨a, vs, rfl, h1, h2⟩ := rd.iLst
        have e : (match frzL (frzD k) S xs with
          | some (ys, S1) => some (D.lst ys, S1)
          | none => none) = some (d', S') := e
        cases q2 : frzL (frzD k) S xs with
        | none => rw [q2] at e; cases e
        | some p =>
          obtain ⟨ys, S1⟩ := p
          rw [q2] at e
          cases e
          obtain ⟨g1, l1, n1, r1, a1, p1⟩ := frzL_ok (frzD_ok k) q2 r h2
          exact ⟨g1, l1, n1, r1, .lst (l1.F _ _ h1) a1, by unfold D.pf; exact p1⟩
      | tup xs =>
        obtain ⟨a, vs, rfl, h1, h2⟩ := rd.iTup
        have e : (match frzL (frzD k) S xs with
          | some (ys, S1) => some (D.tup ys, S1)
          | none => none) = some (d', S') := e
        cases q2 : frzL (frzD k) S xs with
        | none => rw [q2] at e; cases e
        | some p =>
          obtain ⟨ys, S1⟩ := p
          rw [q2] at e
          cases e
          obtain ⟨g1, l1, n1, r1, a1, p1⟩ := frzL_ok (frzD_ok k) q2 r h2
          exact ⟨g1, l1, n1, r1, .tup (l1.F _ _ h1) a1, by unfold D.pf; exact p1⟩
      | ins c xs =>
        obtain ⟨a, dx, vs, rfl, h1, h2⟩ := rd.iIns
        have e : (match frzF (frzD k) S xs with
          | some (ys, S1) => some (D.ins c ys, S1)
          | none => none) = some (d', S') := e
        cases q2 : frzF (frzD k) S xs with
        | none => rw [q2] at e; cases e
        | some p =>
          obtain ⟨ys, S1⟩ := p
          rw [q2] at e
          cases e
          obtain ⟨g1, l1, n1, r1, a1, p1⟩ := frzF_ok (frzD_ok k) q2 r h2
          exact ⟨g1, l1, n1, r1, .ins (l1.F _ _ h1) a1, by unfold D.pf; exact p1⟩
      | _ => cases e

/-- a def's promise by its run -/
def spI (P : Prog) (n : Nat) (K : PySem.W.Frag) (ca : String → Addr) (f : String) : Sp := fun vs H Q E =>
  (∃ F, P.fn f = some F ∧ vs.length = F.np) ∧ ∃ (fx : Fix) (g : Gh) (ds : List D) (S : Store), fx.K = K ∧ fx.ca = ca ∧ R fx g S H ∧ RelL K ca g vs ds ∧ ePost fx (fun c d _ H => E c d H) g [] (tOf fx Q) (run P n f ds S)

/-- a call with the store -/
theorem call_st {P : Prog} {n : Nat} {fx : Fix} {W : WX} {g : Gh} {σ : L2.St} {f : String} {ds : List D} {vs : List V} {S : Store} {H : Hp} {Q : VK} (hf : ∃ F, P.fn f = some F ∧ vs.length = F.np) (h : ePost fx W g σ (tOf fx Q) (run P n f ds S)) (r : R fx g S H) (rv : RelL fx.K fx.ca g vs ds) :
    spI P n fx.K fx.ca f vs H Q (fun c d H => W c d σ H) := by
  refine ⟨hf, fx, g, ds, S, rfl, rfl, r, rv, ?_⟩
  cases e : run P n f ds S with
  | ok d S' => rw [e] at h; exact h
  | ex x S' => rw [e] at h; exact h
  | bad => rw [e] at h; exact h
/-- a call that sees data only -/
theorem call_pure {P : Prog} {n : Nat} {fx : Fix} {W : WX} {g : Gh} {σ : L2.St} {f : String} {ds : List D} {vs : List V} {S : Store} {H : Hp} {Q : VK} (hf : ∃ F, P.fn f = some F ∧ vs.length = F.np) (h : ePost fx W g σ (tOf fx Q) (callP (run P n) f ds S)) (r : R fx g S H) (rv : RelL fx.K fx.ca g vs ds) :
    spI P n fx.K fx.ca f vs H Q (fun c d H => W c d σ H) := by
  unfold callP at h
  cases q : frzL (frzD frzK) S ds with
  | none => rw [q] at h; exact h.elim
  | some p =>
    obtain ⟨es, S1⟩ := p
    rw [q] at h
    obtain ⟨g1, l1, _, r1, a1, p1⟩ := frzL_ok (frzD_ok frzK) q r rv
    let fx' : Fix := { fx with B := H, F0 := g1.F }
    let g0 : Gh := { F := g1.F, am := g1.am, n := 0 }
    have r0 : R fx' g0 [] H := ⟨fun _ _ e => e, r1.frz, fun _ _ e => .inl e, fun _ _ e => e, rfl, fun _ _ e => by simp at e, fun _ _ _ _ e => by simp at e⟩
    -- back to the caller
    have back : ∀ (g3 : Gh) (S3 : Store) (H2 : Hp), R fx' g3 S3 H2 → ∃ g' : Gh, g1.le g' ∧ g'.F = g3.F ∧ R fx g' S1 H2 := fun g3 S3 H2 r3 => by
      have same : Same H H2 := r3.frame
      let g' : Gh := { F := g3.F, am := g1.am, n := g1.n }
      have le : g1.le g' := ⟨fun a o e => r3.f0 a o e, fun _ _ => rfl, Nat.le_refl _⟩
      have nf : ∀ a u, g1.F a = none → H a = some u → g3.F a = none := fun a u h1 h2 => by
        cases z : g3.F a with
        | none => rfl
        | some o =>
          rcases r3.fresh a o z with y | y
          · rw [show g1.F a = some o from y] at h1
            cases h1
          · rw [show H a = none from y] at h2
            cases h2
      refine ⟨g', le, rfl, ⟨fun a o e => same _ _ (r1.frame a o e), r3.frz, fun a o e => ?_, fun a o e => le.F _ _ (r1.f0 a o e), r1.n, fun m c e => ?_, r1.inj⟩⟩
      · rcases r3.fresh a o e with y | y
        · exact r1.fresh a o y
        · refine .inr ?_
          cases z : fx.B a with
          | none => rfl
          | some u =>
            have k := r1.frame a u z
            rw [show H a = none from y] at k
            cases k
      · have w := r1.cells m c e
        cases c with
        | lst xs =>
          obtain ⟨h1, h2, us, h3, h4⟩ := w
          exact ⟨nf _ _ h1 h3, h2, us, same _ _ h3, h4.mono le⟩
        | ins c fs =>
          obtain ⟨h1, h2, dx, us, h3, h4⟩ := w
          exact ⟨nf _ _ h1 h3, h2, dx, us, same _ _ h3, h4.mono le⟩
        | frz d => exact ⟨w.1, w.2.mono le⟩
    refine ⟨hf, fx', g0, es, [], rfl, rfl, r0, RelL.pfF (g := g1) (g' := g0) (fun _ _ e => e) a1 p1, ?_⟩
    have h : ePost fx W g σ (tOf fx Q) (match run P n f es [] with
      | .ok d S2 => match frzD frzK S2 d with
        | some (d', _) => .ok d' S1
        | none => .bad
      | .ex x _ => if pfF x.fs then .ex x S1 else .bad
      | .bad => .bad) := h
    cases e : run P n f es [] with
    | bad => rw [e] at h; exact h
    | ok d S2 =>
      rw [e] at h
      have h : ePost fx W g σ (tOf fx Q) (match frzD frzK S2 d with
        | some (d', _) => .ok d' S1
        | none => .bad) := h
      intro g2 H2 l2 r2 v rv2
      cases q2 : frzD frzK S2 d with
      | none => rw [q2] at h; exact h.elim
      | some p2 =>
        obtain ⟨d', S3⟩ := p2
        rw [q2] at h
        obtain ⟨g3, l3, _, r3, d3, p3⟩ := frzD_ok frzK fx' g2 S2 H2 v d d' S3 q2 r2 rv2
        obtain ⟨g', le, eF, r'⟩ := back g3 S3 H2 r3
        exact h g' H2 (l1.trans le) r' v (RelD.pfF (fun a o z => by rw [eF]; exact z) d3 p3)
    | ex x S2 =>
      rw [e] at h
      have h : ePost fx W g σ (tOf fx Q) (if pfF x.fs then .ex x S1 else .bad) := h
      by_cases hp : pfF x.fs = true
      · rw [if_pos hp] at h
        intro cls dx g2 H2 l2 r2 rx
        obtain ⟨g', le, eF, r'⟩ := back g2 S2 H2 r2
        refine h cls dx g' H2 (l1.trans le) r' ⟨rx.1, fun y z hz => ?_⟩
        obtain ⟨d, us, v, h1, h2, h3, h4⟩ := rx.2 y z hz
        have pz : ∀ (l : List (String × D)), pfF l = true → l.lookup y = some z → z.pf = true := fun l => by
          induction l with
          | nil => exact fun _ k => by cases k
          | cons a t ih =>
            obtain ⟨a1, a2⟩ := a
            intro hp k
            unfold pfF at hp
            rw [Bool.and_eq_true] at hp
            rw [List.lookup_cons] at k
            cases hb : y == a1 with
            | true =>
              rw [hb] at k
              cases k
              exact hp.1
            | false =>
              rw [hb] at k
              exact ih hp.2 k
        exact ⟨d, us, v, h1, h2, h3, RelD.pfF (fun a o q => by rw [eF]; exact q) h4 (pz _ hp hz)⟩
      · rw [if_neg hp] at h
        exact h.elim
end MX
end

section
set_option maxRecDepth 100000
set_option maxHeartbeats 1000000
namespace MX
open PySem PySem.Spec PyProof.Rows L2

section
variable {X : Cx} {fx : Fix} {W : WX} {f h k : DSt → Store → Res D} {a b c : Expr} {pos : Pos}

theorem s_const {v : V} {d : D} {e : Expr} (p : PE X e (tC v)) (hr : ∀ g, RelD fx.K fx.ca g v d) : PE X e (tE fx W fun _ S => .ok d S) :=
  pe_imp p fun σ H Q ⟨g, dσ, S, r, sl, q⟩ => q.ret r (hr g)
theorem s_var {i : Nat} (p : PE X a (tVar i)) : PE X a (tE fx W fun σ S => match σ[i]? with
    | some (some d) => .ok d S
    | _ => .bad) := by
  refine pe_imp p fun σ H Q ⟨g, dσ, S, r, sl, q⟩ => ?_
  cases e : dσ[i]? with
  | none => simp only [e] at q; exact q.elim
  | some o =>
    cases o with
    | none => simp only [e] at q; exact q.elim
    | some d =>
      simp only [e] at q
      obtain ⟨v, h1, h2⟩ := sl.at_ i d e
      exact ⟨v, h1, q.ret r h2⟩

theorem s_two {op : Value → Value → Sem Value} {o : Store → D → D → Res D} (ha : PE X a (tE fx W f)) (hb : PE X b (tE fx W h)) (ho : OpD X fx W op o) {pins : List (Addr × Obj)} {s : Shared} {σ : L2.St} {H : Hp} {Q : VK} (I : Inv X pins σ H s)
    (q : tE fx W (fun σ S => (f σ S).bind fun x S1 => (h σ S1).bind fun y S2 => o S2 x y) σ H Q) :
    wpAny (model X.prog X.w) X.A (eval a X.env) (fun v s₁ => wpAny (model X.prog X.w) X.A (eval b X.env) (fun u s₂ => wpAny (model X.prog X.w) X.A (op v u) (EP X pins σ Q) X.xe s₂) X.xe s₁) X.xe s := by
  obtain ⟨g, dσ, S, r, sl, q⟩ := q
  refine binT (R := fun x y H2 => rD fx W o σ x y H2 Q) ha hb I (tE.bind q r sl fun x S1 v g1 H1 _ l1 r1 x1 q1 => tE.bind q1 r1 (sl.mono l1) fun y S2 w g2 H2 _ l2 r2 y2 q2 => ?_) fun v u s2 x y H2 I2 rx ry z => ho pins s2 σ H2 x y v u Q I2 rx ry z
  exact ⟨g2, S2, x, y, r2, x1.mono l2, y2, q2⟩
theorem s_bin {op : Operator} {o : Store → D → D → Res D} (ho : OpD X fx W (binaryOp op) o) (ha : PE X a (tE fx W f)) (hb : PE X b (tE fx W h)) :
    PE X (.BinOp a op b pos) (tE fx W fun σ S => (f σ S).bind fun x S1 => (h σ S1).bind fun y S2 => o S2 x y) :=
  ⟨fun pins s σ H Q I q => wpAny_BinOp (s_two ha hb ho I q)⟩
theorem s_cmp {op : CmpOp} {o : Store → D → D → Res D} (ho : OpD X fx W (compareOp op) o) (ha : PE X a (tE fx W f)) (hb : PE X b (tE fx W h)) (hm : behindInMarks op b = false) :
    PE X (.Compare a [op] [b] pos) (tE fx W fun σ S => (f σ S).bind fun x S1 => (h σ S1).bind fun y S2 => o S2 x y) :=
  ⟨fun pins s σ H Q I q => wpAny_Compare1 (s_two ha hb ho I q) hm⟩
/-- a value whose truth is asked, when the value is a bool -/
def tV (fx : Fix) (W : WX) (f : DSt → Store → Res D) : TT := fun σ H Q => tE fx W f σ H fun v H' => ∃ b, v = .bl b ∧ Q b H'
theorem ofB_ret {g : Gh} {σ : L2.St} {S : Store} {H : Hp} {o : Option Bool} {T : Gh → D → Store → Hp → Prop} (q : ePost fx W g σ T (ofB S o)) : ∃ b, o = some b ∧ ePost fx W g σ T (.ok (.bl b) S) := by
  cases o with
  | none => exact q.elim
  | some b => exact ⟨b, rfl, q⟩
theorem s_cmpT {op : CmpOp} {o : Store → D → D → Option Bool} (ho : OpD X fx W (compareOp op) (fun S x y => ofB S (o S x y))) (ha : PE X a (tE fx W f)) (hb : PE X b (tE fx W h)) (hm : behindInMarks op b = false) :
    PT X (.Compare a [op] [b] pos) (tT fx W fun σ S => (f σ S).bind fun x S1 => (h σ S1).bind fun y S2 => ofB S2 (o S2 x y)) := by
  refine ⟨fun pins s σ H Q I q => ?_⟩
  obtain ⟨g, dσ, S, r, sl, q⟩ := q
  have q1 : tE fx W f σ H (fun v H1 => tE fx W h σ H1 fun w H2 => rD fx W (fun S x y => ofB S (o S x y)) σ v w H2 fun z H3 => ∃ b, z = .bl b ∧ Q b H3) :=
    tE.bind q r sl fun x S1 v g1 H1 _ l1 r1 x1 q1 => tE.bind q1 r1 (sl.mono l1) fun y S2 w g2 H2 _ l2 r2 y2 q2 => by
      obtain ⟨b, e, q3⟩ := ofB_ret (H := H2) q2
      refine ⟨g2, S2, x, y, r2, x1.mono l2, y2, ?_⟩
      show ePost fx W g2 σ _ (ofB S2 (o S2 x y))
      rw [e]
      intro g3 H3 l3 r3 v3 rv3
      obtain ⟨b', e', q4⟩ := q3 g3 H3 l3 r3
      cases e'
      exact ⟨b, rv3.iBl, q4⟩
  refine wpAny_isTrue_Compare1 (thn (ha.run pins s σ H _ I q1) fun v s1 ⟨x, H1, I1, r1, q1⟩ => thn (hb.run pins s1 σ H1 _ I1 q1) fun u s2 ⟨y, H2, I2, r2, q2⟩ =>
    thn (ho pins s2 σ H2 x y v u _ I2 r1 r2 q2) fun c s3 ⟨z, H3, I3, r3, k, e, q3⟩ => ?_) hm
  subst e
  cases r3
  exact wpAny_truthy_bool ⟨H3, I3, q3⟩
theorem s_neg (ha : PE X a (tE fx W f)) : PE X (.UnaryOp .USub a pos) (tE fx W fun σ S => (f σ S).bind fun x S1 => match x with
    | .int i => .ok (.int (-i)) S1
    | _ => .bad) := by
  refine pe_imp (pe_un un_neg ha) fun σ H Q ⟨g, dσ, S, r, sl, q⟩ => tE.bind q r sl fun x S1 v g1 H1 _ l1 r1 x1 q1 => ?_
  cases x with
  | int i => exact ⟨i, x1.iInt, q1.ret r1 (.int _)⟩
  | _ => exact q1.elim
/-- the truth of a value -/
theorem tru_of {g : Gh} {σ : L2.St} {S : Store} {d : D} {T : Gh → D → Store → Hp → Prop} {kk : Bool → Res D} (q : ePost fx W g σ T (tru S d kk)) : ∃ b, truD (look S d) = some b ∧ ePost fx W g σ T (kk b) := by
  unfold tru at q
  cases e : truD (look S d) with
  | none => rw [e] at q; exact q.elim
  | some b => rw [e] at q; exact ⟨b, rfl, q⟩
theorem s_not (hK : fx.K = X.K) (ha : PE X a (tE fx W f)) : PE X (.UnaryOp .Not a pos) (tE fx W fun σ S => (f σ S).bind fun x S1 => tru S1 x fun b => .ok (.bl (!b)) S1) := by
  refine pe_imp (pe_notT ha) fun σ H Q ⟨g, dσ, S, r, sl, q⟩ => tE.bind q r sl fun x S1 v g1 H1 _ l1 r1 x1 q1 => ?_
  obtain ⟨b, e, q2⟩ := tru_of q1
  exact ⟨b, by rw [← hK]; exact r1.tru x1 e, q2.ret r1 (.bl _)⟩
theorem s_and {rest : List Expr} (hK : fx.K = X.K) (ha : PE X a (tE fx W f)) (hb : PE X (.BoolOp .And (b :: rest) pos) (tE fx W h)) :
    PE X (.BoolOp .And (a :: b :: rest) pos) (tE fx W fun σ S => (f σ S).bind fun x S1 => tru S1 x fun t => if t then h σ S1 else .ok x S1) := by
  refine pe_imp (pe_andT ha hb) fun σ H Q ⟨g, dσ, S, r, sl, q⟩ => tE.bind q r sl fun x S1 v g1 H1 _ l1 r1 x1 q1 => ?_
  obtain ⟨t, e, q2⟩ := tru_of q1
  refine ⟨t, by rw [← hK]; exact r1.tru x1 e, ?_⟩
  cases t with
  | true => exact iteT ⟨g1, dσ, S1, r1, sl.mono l1, q2⟩
  | false => exact iteF (ePost.ret q2 r1 x1)
theorem s_or {rest : List Expr} (hK : fx.K = X.K) (ha : PE X a (tE fx W f)) (hb : PE X (.BoolOp .Or (b :: rest) pos) (tE fx W h)) :
    PE X (.BoolOp .Or (a :: b :: rest) pos) (tE fx W fun σ S => (f σ S).bind fun x S1 => tru S1 x fun t => if t then .ok x S1 else h σ S1) := by
  refine pe_imp (pe_orT ha hb) fun σ H Q ⟨g, dσ, S, r, sl, q⟩ => tE.bind q r sl fun x S1 v g1 H1 _ l1 r1 x1 q1 => ?_
  obtain ⟨t, e, q2⟩ := tru_of q1
  refine ⟨t, by rw [← hK]; exact r1.tru x1 e, ?_⟩
  cases t with
  | false => exact iteF ⟨g1, dσ, S1, r1, sl.mono l1, q2⟩
  | true => exact iteT (ePost.ret q2 r1 x1)
theorem s_ife (hc : PT X c (tT fx W k)) (ha : PE X a (tE fx W f)) (hb : PE X b (tE fx W h)) :
    PE X (.IfExp c a b pos) (tE fx W fun σ S => (k σ S).bind fun x S1 => tru S1 x fun t => if t then f σ S1 else h σ S1) := by
  refine pe_imp (pe_ifExp hc ha hb) fun σ H Q ⟨g, dσ, S, r, sl, q⟩ => tT.bind q r sl fun x S1 g1 H1 _ l1 r1 q1 => ?_
  obtain ⟨t, e, q2⟩ := tru_of q1
  refine ⟨t, e, ?_⟩
  cases t with
  | true => exact iteT ⟨g1, dσ, S1, r1, sl.mono l1, q2⟩
  | false => exact iteF ⟨g1, dσ, S1, r1, sl.mono l1, q2⟩
/-! tests -/
theorem t_truth (hK : fx.K = X.K) (ha : PE X a (tE fx W f)) (he : ∀ whole, isTrue a X.env whole = (do let v ← whole; standAt a.pos; holding [v] (truthy v))) : PT X a (tT fx W f) := by
  refine pt_imp (pt_truth ha he) fun σ H Q ⟨g, dσ, S, r, sl, q⟩ => ⟨g, dσ, S, r, sl, ?_⟩
  cases e : f dσ S with
  | bad => rw [e] at q; exact q
  | ex x S1 => rw [e] at q; exact q
  | ok d S1 =>
    rw [e] at q
    intro g1 H1 l1 r1 v rv
    obtain ⟨b, hb, qb⟩ := q g1 H1 l1 r1
    exact ⟨b, by rw [← hK]; exact r1.tru rv hb, qb⟩
theorem t_not (ha : PT X a (tT fx W f)) : PT X (.UnaryOp .Not a pos) (tT fx W fun σ S => (f σ S).bind fun x S1 => tru S1 x fun b => .ok (.bl (!b)) S1) := by
  refine pt_imp (pt_not ha) fun σ H Q ⟨g, dσ, S, r, sl, q⟩ => tT.bind q r sl fun x S1 g1 H1 _ l1 r1 q1 => ?_
  obtain ⟨b, e, q2⟩ := tru_of q1
  obtain ⟨b', e', q3⟩ := q2 g1 H1 (Gh.le.refl g1) r1
  cases e'
  exact ⟨b, e, q3⟩
theorem w_and {rest : List Expr} (ha : PT X a (tT fx W f)) (hb : PW X (.BoolOp .And (b :: rest) pos) (tT fx W h)) :
    PW X (.BoolOp .And (a :: b :: rest) pos) (tT fx W fun σ S => (f σ S).bind fun x S1 => tru S1 x fun t => if t then h σ S1 else .ok x S1) := by
  refine pw_imp (pw_and ha hb) fun σ H Q ⟨g, dσ, S, r, sl, q⟩ => tT.bind q r sl fun x S1 g1 H1 _ l1 r1 q1 => ?_
  obtain ⟨t, e, q2⟩ := tru_of q1
  refine ⟨t, e, ?_⟩
  cases t with
  | true => exact iteT ⟨g1, dσ, S1, r1, sl.mono l1, q2⟩
  | false =>
    obtain ⟨b', e', q3⟩ := q2 g1 H1 (Gh.le.refl g1) r1
    have e2 : some b' = some false := e'.symm.trans e
    cases e2
    exact iteF q3
theorem w_or {rest : List Expr} (ha : PT X a (tT fx W f)) (hb : PW X (.BoolOp .Or (b :: rest) pos) (tT fx W h)) :
    PW X (.BoolOp .Or (a :: b :: rest) pos) (tT fx W fun σ S => (f σ S).bind fun x S1 => tru S1 x fun t => if t then .ok x S1 else h σ S1) := by
  refine pw_imp (pw_or ha hb) fun σ H Q ⟨g, dσ, S, r, sl, q⟩ => tT.bind q r sl fun x S1 g1 H1 _ l1 r1 q1 => ?_
  obtain ⟨t, e, q2⟩ := tru_of q1
  refine ⟨t, e, ?_⟩
  cases t with
  | false => exact iteF ⟨g1, dσ, S1, r1, sl.mono l1, q2⟩
  | true =>
    obtain ⟨b', e', q3⟩ := q2 g1 H1 (Gh.le.refl g1) r1
    have e2 : some b' = some true := e'.symm.trans e
    cases e2
    exact iteT q3
/-! arguments, displays -/
theorem s_anil : PA X [] (tA fx W fun _ S => .ok (.tup []) S) := pa_imp pa_nil fun σ H Q ⟨g, dσ, S, r, sl, q⟩ => q g H (Gh.le.refl g) r [] .nil
theorem s_acons {es : List Expr} (ha : PE X a (tE fx W f)) (hr : PA X es (tA fx W h)) (hs : starEach (a :: es) X.env = (false, eval a X.env) :: starEach es X.env) :
    PA X (a :: es) (tA fx W fun σ S => (f σ S).bind fun x S1 => (h σ S1).bind fun y S2 => .ok (.tup (x :: unT y)) S2) := by
  refine pa_imp (pa_cons ha hr hs) fun σ H Q ⟨g, dσ, S, r, sl, q⟩ => tE.bind q r sl fun x S1 v g1 H1 _ l1 r1 x1 q1 => tA.bind q1 r1 (sl.mono l1) fun y S2 vs g2 H2 _ l2 r2 y2 q2 => ?_
  exact q2 g2 H2 (Gh.le.refl g2) r2 (v :: vs) (.cons (x1.mono l2) y2)
theorem s_tup {es : List Expr} {x1} (ha : PA X es (tA fx W f)) : PE X (.Tuple es x1 pos) (tE fx W fun σ S => (f σ S).bind fun x S1 => if (unT x).length ≤ sizeLine then .ok (.tup (unT x)) S1 else .bad) := by
  refine pe_imp (pe_tup ha) fun σ H Q ⟨g, dσ, S, r, sl, q⟩ => tA.bind q r sl fun x S1 vs g1 H1 _ l1 r1 x1 q1 => ?_
  by_cases hz : (unT x).length ≤ sizeLine
  · rw [if_pos hz] at q1
    exact ⟨by rw [x1.length]; exact hz, fun p hp => q1.new r1 hp fun g' l e => .tup e (x1.mono l)⟩
  · rw [if_neg hz] at q1
    exact q1.elim
theorem s_lst {es : List Expr} (ha : PA X es (tA fx W f)) : PE X (.List es pos) (tE fx W fun σ S => (f σ S).bind fun x S1 => if (unT x).length ≤ sizeLine then .ok (.lst (unT x)) S1 else .bad) := by
  refine pe_imp (pe_lst ha) fun σ H Q ⟨g, dσ, S, r, sl, q⟩ => tA.bind q r sl fun x S1 vs g1 H1 _ l1 r1 x1 q1 => ?_
  by_cases hz : (unT x).length ≤ sizeLine
  · rw [if_pos hz] at q1
    exact ⟨by rw [x1.length]; exact hz, fun p hp => q1.new r1 hp fun g' l e => .lst e (x1.mono l)⟩
  · rw [if_neg hz] at q1
    exact q1.elim
theorem s_cell {es : List Expr} (ha : PA X es (tA fx W f)) : PE X (.List es pos) (tE fx W fun σ S => (f σ S).bind fun x S1 => if (unT x).length ≤ sizeLine then .ok (.ptr S1.length) (S1 ++ [.lst (unT x)]) else .bad) := by
  refine pe_imp (pe_lst ha) fun σ H Q ⟨g, dσ, S, r, sl, q⟩ => tA.bind q r sl fun x S1 vs g1 H1 _ l1 r1 x1 q1 => ?_
  by_cases hz : (unT x).length ≤ sizeLine
  · rw [if_pos hz] at q1
    refine ⟨by rw [x1.length]; exact hz, fun p hp => ?_⟩
    obtain ⟨g', l, am, n, r'⟩ := r1.cell hp x1
    refine q1 g' _ l r' (.ref p) ?_
    rw [← am]
    exact .ptr (by rw [n]; exact Nat.lt_succ_self _)
  · rw [if_neg hz] at q1
    exact q1.elim
/-- a value, frozen from here on -/
theorem s_frz (ha : PE X a (tE fx W f)) : PE X a (tE fx W fun σ S => (f σ S).bind fun x S1 => frzE S1 x) := by
  refine pe_imp ha fun σ H Q ⟨g, dσ, S, r, sl, q⟩ => tE.bind q r sl fun x S1 v g1 H1 _ l1 r1 x1 q1 => ?_
  unfold frzE at q1
  cases e : frzD frzK S1 x with
  | none => rw [e] at q1; exact q1.elim
  | some p =>
    obtain ⟨x', S2⟩ := p
    rw [e] at q1
    obtain ⟨g2, l2, _, r2, x2, _⟩ := frzD_ok frzK fx g1 S1 H1 v x x' S2 e r1 x1
    exact q1 g2 H1 l2 r2 v x2
theorem opD_cat {X : Cx} {fx : Fix} {W : WX} : OpD X fx W (binaryOp .Add) catD := by
  intro pins s σ H x y v u Q I rx ry h
  obtain ⟨g, S, d, e, r, rd, re, h⟩ := h
  unfold catD at h
  cases e1 : look S d with
  | lst xs =>
    cases e2 : look S e with
    | lst ys =>
      rw [e1, e2] at h
      obtain ⟨a, vs, rfl, ha, ra⟩ := r.lst rd e1
      obtain ⟨b, ws, rfl, hb, rb⟩ := r.lst re e2
      have h : ePost fx W g σ (tOf fx Q) (if xs.length + ys.length ≤ sizeLine then .ok (.ptr S.length) (S ++ [.lst (xs ++ ys)]) else .bad) := h
      by_cases hz : xs.length + ys.length ≤ sizeLine
      · rw [if_pos hz] at h
        refine op_cat pins s σ H _ _ v u Q I rx ry ⟨a, b, vs, ws, rfl, rfl, ha, hb, by rw [ra.length, rb.length]; exact hz, fun p hp => ?_⟩
        obtain ⟨g', l, am, n, r'⟩ := r.cell hp (ra.append rb)
        refine h g' _ l r' (.ref p) ?_
        rw [← am]
        exact .ptr (by rw [n]; exact Nat.lt_succ_self _)
      · rw [if_neg hz] at h
        exact h.elim
    | _ => rw [e1, e2] at h; exact h.elim
  | _ => rw [e1] at h; exact h.elim
/-! subscripts -/
theorem s_idx (hK : fx.K = X.K) (ha : PE X a (tE fx W f)) (hb : PE X b (tE fx W h)) (hs : PlainIx b) : PE X (.Subscript a b pos) (tE fx W fun σ S => (f σ S).bind fun x S1 => (h σ S1).bind fun y S2 => idxD S2 x y) := by
  refine pe_imp (pe_ix ix_seq ha hb hs) fun σ H Q ⟨g, dσ, S, r, sl, q⟩ => tE.bind q r sl fun x S1 v g1 H1 _ l1 r1 x1 q1 => tE.bind q1 r1 (sl.mono l1) fun y S2 w g2 H2 _ l2 r2 y2 q2 => ?_
  have x2 := x1.mono l2
  have key : ∃ i, y = .int i := by
    cases y with
    | int i => exact ⟨i, rfl⟩
    | _ =>
      unfold idxD at q2
      cases z : look S2 x <;> rw [z] at q2 <;> exact q2.elim
  obtain ⟨i, rfl⟩ := key
  have hw := y2.iInt
  subst hw
  unfold idxD at q2
  cases e1 : look S2 x with
  | lst xs =>
    rw [e1] at q2
    obtain ⟨p, vs, rfl, hp, rp⟩ := r2.lst x2 e1
    have q2 : ePost fx W g2 σ (tOf fx Q) (match atD xs i with
      | some d => .ok d S2
      | none => .bad) := q2
    cases e : atD xs i with
    | none => rw [e] at q2; exact q2.elim
    | some d =>
      rw [e] at q2
      obtain ⟨u, hu, ru⟩ := rp.at e
      exact .inl ⟨p, vs, i, u, rfl, rfl, SqL.of hp, hu, ePost.ret q2 r2 ru⟩
  | tup xs =>
    rw [e1] at q2
    obtain ⟨p, vs, rfl, hp, rp⟩ := r2.tup x2 e1
    have q2 : ePost fx W g2 σ (tOf fx Q) (match atD xs i with
      | some d => .ok d S2
      | none => .bad) := q2
    cases e : atD xs i with
    | none => rw [e] at q2; exact q2.elim
    | some d =>
      rw [e] at q2
      obtain ⟨u, hu, ru⟩ := rp.at e
      exact .inr (.inl ⟨p, vs, i, u, rfl, rfl, SqT.of hp, hu, ePost.ret q2 r2 ru⟩)
  | _ => rw [e1] at q2; exact q2.elim
/-- a slice's part -/
def tO (fx : Fix) (W : WX) (f : DSt → Store → Res D) : TO := fun σ H Q => ∃ g dσ S, R fx g S H ∧ Sl fx g dσ σ ∧ ePost fx W g σ (fun _ d _ H' => ∃ o, partD d = some o ∧ Q o H') (f dσ S)
theorem po_imp {X : Cx} {e : Option Expr} {t t' : TO} (h : PO X e t) (i : ∀ σ H Q, t' σ H Q → t σ H Q) : PO X e t' := ⟨fun pins s σ H Q I q => h.run pins s σ H Q I (i σ H Q q)⟩
theorem o_none : PO X none (tO fx W fun _ S => .ok .non S) := po_imp po_none fun σ H Q ⟨g, dσ, S, r, sl, q⟩ => by
  obtain ⟨o, e, q1⟩ := q g H (Gh.le.refl g) r
  cases e
  exact q1
theorem o_some (ha : PE X a (tE fx W f)) : PO X (some a) (tO fx W fun σ S => (f σ S).bind fun x S1 => match x with
    | .int i => .ok (.int i) S1
    | _ => .bad) := po_imp (po_some ha) fun σ H Q ⟨g, dσ, S, r, sl, q⟩ => tE.bind q r sl fun x S1 v g1 H1 _ l1 r1 x1 q1 => by
  cases x with
  | int i =>
    obtain ⟨o, e, q2⟩ := q1 g1 H1 (Gh.le.refl g1) r1
    cases e
    exact ⟨i, x1.iInt, q2⟩
  | _ => exact q1.elim
theorem tO.bind {α : Type} {g : Gh} {σ : L2.St} {H : Hp} {dσ : DSt} {S : Store} {T : Gh → α → Store → Hp → Prop} {f : DSt → Store → Res D} {k : D → Store → Res α} (h : ePost fx W g σ T ((f dσ S).bind k)) (r : R fx g S H) (sl : Sl fx g dσ σ) {Q' : Option Int → Hp → Prop}
    (hq : ∀ x S' g' H', f dσ S = .ok x S' → g.le g' → R fx g' S' H' → ePost fx W g' σ T (k x S') → ∃ o, partD x = some o ∧ Q' o H') : tO fx W f σ H Q' := by
  refine ⟨g, dσ, S, r, sl, ?_⟩
  cases e : f dσ S with
  | ok x S' =>
    rw [e] at h
    intro g' H' l r'
    exact hq x S' g' H' e l r' (ePost.up h l)
  | ex x S' =>
    rw [e] at h
    exact h
  | bad =>
    rw [e] at h
    exact h
theorem part_of {α : Type} {g : Gh} {σ : L2.St} {d : D} {T : Gh → α → Store → Hp → Prop} {kk : Option Int → Res α} (q : ePost fx W g σ T (withPart d kk)) : ∃ o, partD d = some o ∧ ePost fx W g σ T (kk o) := by
  unfold withPart at q
  cases e : partD d with
  | none => rw [e] at q; exact q.elim
  | some o => rw [e] at q; exact ⟨o, rfl, q⟩
theorem s_cut {lo hi : Option Expr} {p2 : Pos} {fl fh : DSt → Store → Res D} (hK : fx.K = X.K) (ha : PE X a (tE fx W f)) (hl : PO X lo (tO fx W fl)) (hh : PO X hi (tO fx W fh)) :
    PE X (.Subscript a (.Slice lo hi none p2) pos) (tE fx W fun σ S => (f σ S).bind fun x S1 => (fl σ S1).bind fun y S2 => withPart y fun l => (fh σ S2).bind fun z S3 => withPart z fun h => cutD S3 x l h) := by
  refine pe_imp (pe_slice (SlR.or sl_list sl_tup) ha hl hh) fun σ H Q ⟨g, dσ, S, r, sl, q⟩ => tE.bind q r sl fun x S1 v g1 H1 _ l1 r1 x1 q1 => tO.bind q1 r1 (sl.mono l1) fun y S2 g2 H2 _ l2 r2 q2 => ?_
  obtain ⟨l, ey, q2⟩ := part_of q2
  refine ⟨l, ey, tO.bind q2 r2 ((sl.mono l1).mono l2) fun z S3 g3 H3 _ l3 r3 q3 => ?_⟩
  obtain ⟨u, ez, q3⟩ := part_of q3
  refine ⟨u, ez, ?_⟩
  have x3 := (x1.mono l2).mono l3
  unfold cutD at q3
  cases e1 : look S3 x with
  | lst xs =>
    rw [e1] at q3
    obtain ⟨p, vs, rfl, hp, rp⟩ := r3.lst x3 e1
    exact .inl ⟨p, vs, rfl, SqL.of hp, fun t ht => ePost.new q3 r3 ht fun g' l e => .lst e ((rp.cut _ _).mono l)⟩
  | tup xs =>
    rw [e1] at q3
    obtain ⟨p, vs, rfl, hp, rp⟩ := r3.tup x3 e1
    have q3 : ePost fx W g3 σ (tOf fx Q) (if HT.sIx xs.length 0 l = 0 ∧ HT.sIx xs.length xs.length u = xs.length then .bad else .ok (.tup (cutL xs l u)) S3) := q3
    by_cases hz : HT.sIx xs.length 0 l = 0 ∧ HT.sIx xs.length xs.length u = xs.length
    · rw [if_pos hz] at q3
      exact q3.elim
    · rw [if_neg hz] at q3
      exact .inr ⟨p, vs, rfl, SqT.of hp, by rw [rp.length]; exact hz, fun t ht => ePost.new q3 r3 ht fun g' l e => .tup e ((rp.cut _ _).mono l)⟩
  | _ => rw [e1] at q3; exact q3.elim
/-! calls of built-ins -/
def CallD (X : Cx) (fx : Fix) (W : WX) (fv : Value) (o : Store → List D → Res D) : Prop :=
  ∀ (pins : List (Addr × Obj)) (s : Shared) (σ : L2.St) (H : Hp) (g : Gh) (S : Store) (vs : List V) (ds : List D) (us : List Value) (Q : VK), Inv X pins σ H s → Vals vs us → R fx g S H → RelL fx.K fx.ca g vs ds → ePost fx W g σ (tOf fx Q) (o S ds) →
    wpAny (model X.prog X.w) X.A (call fv us) (EP X pins σ Q) X.xe s
/-- such a call's arguments, then the call -/
theorem s_args {es : List Expr} {fv : Value} {o : Store → List D → Res D} (hc : CallD X fx W fv o) (ha : PA X es (tA fx W f)) {pins : List (Addr × Obj)} {s : Shared} {σ : L2.St} {H : Hp} {Q : VK} (I : Inv X pins σ H s)
    (q : tE fx W (fun σ S => (f σ S).bind fun x S1 => o S1 (unT x)) σ H Q) (pos : Pos) : wpAny (model X.prog X.w) X.A (spliced (backTo pos (starEach es X.env))) (fun us s1 => wpAny (model X.prog X.w) X.A (call fv us) (EP X pins σ Q) X.xe s1) X.xe s := by
  obtain ⟨g, dσ, S, r, sl, q⟩ := q
  have q1 : tA fx W f σ H (fun vs H1 => ∃ g1 S1 ds, R fx g1 S1 H1 ∧ RelL fx.K fx.ca g1 vs ds ∧ ePost fx W g1 σ (tOf fx Q) (o S1 ds)) :=
    tA.bind q r sl fun x S1 vs g1 H1 _ l1 r1 x1 q1 => ⟨g1, S1, unT x, r1, x1, q1⟩
  refine thn (ha.run pos pins s σ H _ I q1) fun us s1 ⟨vs, H1, I1, rv, g1, S1, ds, r1, rd, q2⟩ => hc pins s1 σ H1 g1 S1 vs ds us Q I1 rv r1 rd q2
theorem s_callB {x : Str} {id : String} {e : Expr} {es : List Expr} {p : Pos} {o : Store → List D → Res D} (hc : CallD X fx W (.builtin id) o) (hg : Gl X x) (hm : X.mg x = none) (hv : bootBuiltins x = some (.builtin id)) (hn : x ≠ "__name__") (hdb : (x == ("__debug__" : Str)) = false) (ha : PA X (e :: es) (tA fx W f))
    (he : starEach (e :: es) X.env = (false, eval e X.env) :: starEach es X.env) (hpl : (backTo pos (starEach es X.env)).any (·.1) = false) : PE X (.Call (.Name x p) (e :: es) [] pos) (tE fx W fun σ S => (f σ S).bind fun x S1 => o S1 (unT x)) := by
  refine ⟨fun pins s σ H Q I h => ?_⟩
  refine wpAny_Call_Name_kw (ld_blt I hg hm hv ?_ hn hdb)
  exact PyProof.Rows.callWith_builtin1 (s_args hc ha I h pos) he hpl
end
end MX
end

section
set_option maxRecDepth 100000
set_option maxHeartbeats 1000000
namespace MX
open PySem PySem.Spec PyProof.Rows L2

/-- the built-in's value -/
def Bi.val : Bi → Value
  | .abs => .builtin "abs"
  | .int => .type "int"
  | .bool => .type "bool"
  | .len => .builtin "len"
  | .sum => .builtin "sum"
  | .list => .type "list"
  | .tuple => .type "tuple"
  | .max2 => .builtin "max"
  | .min2 => .builtin "min"
  | .any => .builtin "any"
  | .all => .builtin "all"
def Bi.nm : Bi → String
  | .abs => "abs"
  | .int => "int"
  | .bool => "bool"
  | .len => "len"
  | .sum => "sum"
  | .list => "list"
  | .tuple => "tuple"
  | .max2 => "max"
  | .min2 => "min"
  | .any => "any"
  | .all => "all"
section
variable {X : Cx} {fx : Fix} {W : WX}
theorem relL1 {K : PySem.W.Frag} {ca : String → Addr} {g : Gh} {vs : List V} {d : D} (h : RelL K ca g vs [d]) : ∃ v, vs = [v] ∧ RelD K ca g v d := by
  cases h with
  | cons a b =>
    cases b
    exact ⟨_, rfl, a⟩
theorem relL2 {K : PySem.W.Frag} {ca : String → Addr} {g : Gh} {vs : List V} {d e : D} (h : RelL K ca g vs [d, e]) : ∃ v w, vs = [v, w] ∧ RelD K ca g v d ∧ RelD K ca g w e := by
  cases h with
  | cons a b =>
    obtain ⟨w, rfl, r⟩ := relL1 b
    exact ⟨_, w, rfl, a, r⟩
theorem callD_bi (b : Bi) (hK : fx.K = X.K) (hc : X.calm = true) : CallD X fx W b.val (biD b) := by
  intro pins s σ H g S vs ds us Q I rv r rd q
  unfold biD at q
  split at q
  · obtain ⟨v, rfl, r1⟩ := relL1 rd
    have := r1.iInt
    subst this
    exact call_abs pins s σ H _ us Q I rv ⟨_, rfl, ePost.ret q r (.int _)⟩
  · obtain ⟨v, rfl, r1⟩ := relL1 rd
    have := r1.iInt
    subst this
    exact call_int1 pins s σ H _ us Q I rv (.inl ⟨_, rfl, ePost.ret q r (.int _)⟩)
  · obtain ⟨v, rfl, r1⟩ := relL1 rd
    have := r1.iBl
    subst this
    exact call_int1 pins s σ H _ us Q I rv (.inr ⟨_, rfl, ePost.ret q r (.int _)⟩)
  · obtain ⟨v, rfl, r1⟩ := relL1 rd
    have := r1.iInt
    subst this
    exact call_bool1 pins s σ H _ us Q I rv (.inl ⟨_, rfl, ePost.ret q r (.bl _)⟩)
  · obtain ⟨v, rfl, r1⟩ := relL1 rd
    have := r1.iBl
    subst this
    exact call_bool1 pins s σ H _ us Q I rv (.inr ⟨_, rfl, ePost.ret q r (.bl _)⟩)
  · obtain ⟨v, rfl, r1⟩ := relL1 rd
    rename_i d
    cases e : lenD S d with
    | none => rw [e] at q; exact q.elim
    | some n =>
      rw [e] at q
      refine call_len pins s σ H _ us Q I rv ⟨v, n, rfl, ?_, ePost.ret q r (.int _)⟩
      unfold lenD at e
      cases e1 : look S d with
      | lst xs =>
        rw [e1] at e
        cases e
        obtain ⟨a, ws, rfl, h1, h2⟩ := r.lst r1 e1
        exact .inl ⟨ws, SqL.of h1, h2.length.symm⟩
      | tup xs =>
        rw [e1] at e
        cases e
        obtain ⟨a, ws, rfl, h1, h2⟩ := r.tup r1 e1
        exact .inr ⟨ws, SqT.of h1, h2.length.symm⟩
      | str z =>
        rw [e1] at e
        have e : (if z.length ≤ sizeLine then some z.length else none) = some n := e
        by_cases hz : z.length ≤ sizeLine
        · rw [if_pos hz] at e
          cases e
          have := r.str r1 e1
          subst this
          exact ⟨hz, rfl⟩
        · rw [if_neg hz] at e
          cases e
      | scr ns =>
        rw [e1] at e
        cases e
        obtain ⟨a, rfl, h1⟩ := r.scr r1 e1
        rw [hK] at h1
        exact .inl ⟨_, h1, by rw [List.length_map]⟩
      | _ => rw [e1] at e; cases e
  · obtain ⟨v, w, rfl, r1, r2⟩ := relL2 rd
    have h1 := r1.iInt
    have h2 := r2.iInt
    subst h1 h2
    exact call_max2 hc pins s σ H _ us Q I rv ⟨_, _, rfl, ePost.ret q r (.int _)⟩
  · obtain ⟨v, w, rfl, r1, r2⟩ := relL2 rd
    have h1 := r1.iInt
    have h2 := r2.iInt
    subst h1 h2
    exact call_min2 hc pins s σ H _ us Q I rv ⟨_, _, rfl, ePost.ret q r (.int _)⟩
  · obtain ⟨v, rfl, r1⟩ := relL1 rd
    rename_i d
    cases e1 : look S d with
    | lst xs =>
      rw [e1] at q
      have q : ePost fx W g σ (tOf fx Q) (match intsD xs with
        | some ns => .ok (.int ns.sum) S
        | none => .bad) := q
      cases e2 : intsD xs with
      | none => rw [e2] at q; exact q.elim
      | some ns =>
        rw [e2] at q
        obtain ⟨a, ws, rfl, h1, h2⟩ := r.lst r1 e1
        have := h2.ints e2
        subst this
        exact cr_sum hc pins s σ H _ us Q I rv ⟨a, ns, rfl, SqL.of h1, ePost.ret q r (.int _)⟩
    | _ => rw [e1] at q; exact q.elim
  · obtain ⟨v, rfl, r1⟩ := relL1 rd
    rename_i d
    cases e1 : look S d with
    | lst xs =>
      rw [e1] at q
      have q : ePost fx W g σ (tOf fx Q) (match blsD xs with
        | some ns => .ok (.bl (ns.any id)) S
        | none => .bad) := q
      cases e2 : blsD xs with
      | none => rw [e2] at q; exact q.elim
      | some ns =>
        rw [e2] at q
        obtain ⟨a, ws, rfl, h1, h2⟩ := r.lst r1 e1
        have := h2.bls e2
        subst this
        exact cr_any hc pins s σ H _ us Q I rv ⟨a, ns, rfl, SqL.of h1, ePost.ret q r (.bl _)⟩
    | _ => rw [e1] at q; exact q.elim
  · obtain ⟨v, rfl, r1⟩ := relL1 rd
    rename_i d
    cases e1 : look S d with
    | lst xs =>
      rw [e1] at q
      have q : ePost fx W g σ (tOf fx Q) (match blsD xs with
        | some ns => .ok (.bl (ns.all id)) S
        | none => .bad) := q
      cases e2 : blsD xs with
      | none => rw [e2] at q; exact q.elim
      | some ns =>
        rw [e2] at q
        obtain ⟨a, ws, rfl, h1, h2⟩ := r.lst r1 e1
        have := h2.bls e2
        subst this
        exact cr_all hc pins s σ H _ us Q I rv ⟨a, ns, rfl, SqL.of h1, ePost.ret q r (.bl _)⟩
    | _ => rw [e1] at q; exact q.elim
  · obtain ⟨v, rfl, r1⟩ := relL1 rd
    rename_i d
    cases e1 : look S d with
    | lst xs =>
      rw [e1] at q
      obtain ⟨a, ws, rfl, h1, h2⟩ := r.lst r1 e1
      exact call_list_of pins s σ H _ us Q I rv ⟨a, ws, rfl, .inl (SqL.of h1), fun l hl => ePost.new q r hl fun g' le e => .lst e (h2.mono le)⟩
    | tup xs =>
      rw [e1] at q
      obtain ⟨a, ws, rfl, h1, h2⟩ := r.tup r1 e1
      exact call_list_of pins s σ H _ us Q I rv ⟨a, ws, rfl, .inr (SqT.of h1), fun l hl => ePost.new q r hl fun g' le e => .lst e (h2.mono le)⟩
    | _ => rw [e1] at q; exact q.elim
  · obtain ⟨v, rfl, r1⟩ := relL1 rd
    rename_i d
    cases e1 : look S d with
    | lst xs =>
      rw [e1] at q
      obtain ⟨a, ws, rfl, h1, h2⟩ := r.lst r1 e1
      exact call_tuple_of pins s σ H _ us Q I rv ⟨a, ws, rfl, .inl ⟨SqL.of h1, fun l hl => ePost.new q r hl fun g' le e => .tup e (h2.mono le)⟩⟩
    | tup xs =>
      rw [e1] at q
      obtain ⟨a, ws, rfl, h1, h2⟩ := r.tup r1 e1
      refine call_tuple_of pins s σ H _ us Q I rv ⟨a, ws, rfl, .inr ⟨SqT.of h1, ?_⟩⟩
      have hd : RelD fx.K fx.ca g (.ref a) (.tup xs) := r.dat r1 e1 (fun _ z => by cases z) (fun _ _ z => by cases z)
      exact ePost.ret q r hd
    | _ => rw [e1] at q; exact q.elim
  · exact q.elim
/-- a call by name: built-in function or type -/
theorem s_bi {b : Bi} {x : Str} {e : Expr} {es : List Expr} {p pos : Pos} {f : DSt → Store → Res D} (hK : fx.K = X.K) (hc : X.calm = true) (hx : x = Str.ofString b.nm) (hg : Gl X x) (hm : X.mg x = none) (ha : PA X (e :: es) (tA fx W f))
    (he : starEach (e :: es) X.env = (false, eval e X.env) :: starEach es X.env) (hpl : (backTo pos (starEach es X.env)).any (·.1) = false) : PE X (.Call (.Name x p) (e :: es) [] pos) (tE fx W fun σ S => (f σ S).bind fun x S1 => biD b S1 (unT x)) := by
  have hd : CallD X fx W b.val (biD b) := callD_bi b hK hc
  refine ⟨fun pins s σ H Q I h => ?_⟩
  have hdb : (x == ("__debug__" : Str)) = false := by subst hx; cases b <;> decide +kernel
  have hn : x ≠ ("__name__" : Str) := by subst hx; cases b <;> decide +kernel
  have hv : bootBuiltins x = some b.val := by subst hx; cases b <;> decide +kernel
  refine wpAny_Call_Name_kw (ld_blt I hg hm hv ?_ hn hdb)
  have q := s_args hd ha I h pos
  cases b with
  | abs => exact PyProof.Rows.callWith_builtin1 q he hpl
  | len => exact PyProof.Rows.callWith_builtin1 q he hpl
  | sum => exact PyProof.Rows.callWith_builtin1 q he hpl
  | max2 => exact PyProof.Rows.callWith_builtin1 q he hpl
  | min2 => exact PyProof.Rows.callWith_builtin1 q he hpl
  | any => exact PyProof.Rows.callWith_builtin1 q he hpl
  | all => exact PyProof.Rows.callWith_builtin1 q he hpl
  | int => exact PyProof.Rows.callWith_type1 q he hpl
  | bool => exact PyProof.Rows.callWith_type1 q he hpl
  | list => exact PyProof.Rows.callWith_type1 q he hpl
  | tuple => exact PyProof.Rows.callWith_type1 q he hpl
/-! isinstance -/
def Ty.nm : Ty → String
  | .int => "int"
  | .bool => "bool"
  | .str => "str"
  | .list => "list"
  | .tuple => "tuple"
  | .cls c => c
def Ty.blt : Ty → Bool
  | .cls _ => false
  | _ => true
/-- the built-in type of plain data -/
def dTy : D → Option String
  | .non => some "NoneType"
  | .bl _ => some "bool"
  | .int _ => some "int"
  | .str _ => some "str"
  | .lst _ => some "list"
  | .tup _ => some "tuple"
  | _ => none
theorem R.ty {g : Gh} {S : Store} {H : Hp} (r : R fx g S H) {v : V} {d : D} (h : RelD fx.K fx.ca g v d) {t : String} (e : dTy (MX.look S d) = some t) : TyX X.K H v (.type t) := by
  cases q : MX.look S d with
  | non => rw [q] at e; cases e; rw [r.non h q]; exact .base .non
  | bl b => rw [q] at e; cases e; rw [r.bl h q]; exact .base (.bl _)
  | int b => rw [q] at e; cases e; rw [r.int h q]; exact .base (.int _)
  | str b => rw [q] at e; cases e; rw [r.str h q]; exact .base (.str _)
  | lst xs =>
    rw [q] at e
    cases e
    obtain ⟨a, vs, rfl, h1, _⟩ := r.lst h q
    exact .base (.lst h1)
  | tup xs =>
    rw [q] at e
    cases e
    obtain ⟨a, vs, rfl, h1, _⟩ := r.tup h q
    exact .base (.tup h1)
  | ins c fs => rw [q] at e; cases e
  | ptr n => rw [q] at e; cases e
  | scr n => rw [q] at e; cases e
theorem isi_kit {K : PySem.W.Frag} {S : Store} {d : D} {t : Ty} {b : Bool} (e : isiD S d t = some b) (ht : t.blt = true) : ∃ n, dTy (look S d) = some n ∧ PySem.W.kitOne K (.type n) (.type t.nm) = some b := by
  unfold isiD at e
  cases q : look S d <;> rw [q] at e <;> first
    | (cases e; done)
    | (refine ⟨_, rfl, kit_ty ?_⟩; cases t <;> first | (cases ht; done) | (cases e; decide +kernel))
theorem isi_any {K : PySem.W.Frag} {S : Store} {d : D} : ∀ {ts : List Ty} {b : Bool}, isiAny S d ts = some b → ts.all Ty.blt = true → ts ≠ [] → ∃ n, dTy (look S d) = some n ∧ PySem.W.kitAny K (.type n) (ts.map fun t => .type t.nm) = some b
  | [], _, _, _, h => absurd rfl h
  | t :: r, b, e, ht, _ => by
    rw [List.all_cons, Bool.and_eq_true] at ht
    have e : (match isiD S d t with
      | some true => some true
      | some false => isiAny S d r
      | none => none) = some b := e
    cases q : isiD S d t with
    | none => rw [q] at e; cases e
    | some c =>
      rw [q] at e
      obtain ⟨n, h1, h2⟩ := isi_kit (K := K) q ht.1
      refine ⟨n, h1, ?_⟩
      rw [List.map_cons]
      cases c with
      | true =>
        cases e
        exact kitAny_cons h2 (fun z => by cases z) fun _ => rfl
      | false =>
        have e : isiAny S d r = some b := e
        refine kitAny_cons h2 (fun _ => ?_) fun z => by cases z
        cases r with
        | nil =>
          cases e
          exact kitAny_nil
        | cons t2 r2 =>
          obtain ⟨m, h3, h4⟩ := isi_any (K := K) e ht.2 (by simp)
          rw [h1] at h3
          cases h3
          exact h4
end
end MX
end

section
set_option maxRecDepth 100000
set_option maxHeartbeats 1000000
namespace MX
open PySem PySem.Spec PyProof.Rows L2

section
variable {X : Cx} {fx : Fix} {W : WX} {f h : DSt → Store → Res D} {a b : Expr} {pos : Pos}
/-! isinstance -/
theorem ty_boot {t : Ty} (ht : t.blt = true) : bootBuiltins (Str.ofString t.nm) = some (.type t.nm) ∧ Str.ofString t.nm ≠ ("__name__" : Str) ∧ (Str.ofString t.nm == ("__debug__" : Str)) = false := by
  cases t <;> first | (cases ht; done) | exact ⟨by decide +kernel, by decide +kernel, by decide +kernel⟩
theorem s_isi {t : Ty} {y : Str} {p p2 : Pos} (hK : fx.K = X.K) (ht : t.blt = true) (hg : Gl X "isinstance") (hm : X.mg "isinstance" = none) (hy : y = Str.ofString t.nm) (hgy : Gl X y) (hmy : X.mg y = none) (ha : PE X a (tE fx W f))
    (he : starEach [a, .Name y p2] X.env = (false, eval a X.env) :: starEach [.Name y p2] X.env) : PE X (.Call (.Name "isinstance" p) [a, .Name y p2] [] pos) (tE fx W fun σ S => (f σ S).bind fun x S1 => ofB S1 (isiAny S1 x [t])) := by
  obtain ⟨h1, h2, h3⟩ := ty_boot ht
  subst hy
  have pn : PE X (.Name (Str.ofString t.nm) p2) (tC (.ty t.nm)) := pe_bltn hgy hmy h1 rfl h2 h3
  refine pe_imp (pe_callB call_isi hg hm PyProof.Rows.boot_isinstance (pa_cons ha (pa_cons pn pa_nil) he) (by decide) (by decide) he (by rfl)) fun σ H Q ⟨g, dσ, S, r, sl, q⟩ => tE.bind q r sl fun x S1 v g1 H1 _ l1 r1 x1 q1 => ?_
  obtain ⟨b, e, q2⟩ := ofB_ret (H := H1) q1
  obtain ⟨n, e1, e2⟩ := isi_any (K := X.K) e (by rw [List.all_cons, ht]; rfl) (by simp)
  have hty : TyX X.K H1 v (.type n) := r1.ty (X := X) x1 e1
  refine ⟨v, .ty t.nm, .type n, .type t.nm, b, rfl, .ty _, hty, ?_, ePost.ret q2 r1 (.bl _)⟩
  have e3 : PySem.W.kitAny X.K (.type n) [.type t.nm] = some b := e2
  unfold PySem.W.kitAny at e3
  cases q3 : PySem.W.kitOne X.K (.type n) (.type t.nm) with
  | none => rw [q3] at e3; cases e3
  | some c =>
    rw [q3] at e3
    cases c with
    | true => cases e3; rfl
    | false => cases e3; rfl
/-- the names of built-in types, as arguments -/
def tyNames : List Ty → List Expr → Bool
  | [], [] => true
  | t :: ts, .Name y _ :: es => t.blt && (decide (y = Str.ofString t.nm) && tyNames ts es)
  | _, _ => false
theorem pa_tys : ∀ {ts : List Ty} {es : List Expr}, tyNames ts es = true → (∀ t ∈ ts, Gl X (Str.ofString t.nm) ∧ X.mg (Str.ofString t.nm) = none) → PA X es (fun _ H Q => Q (ts.map fun t => .ty t.nm) H)
  | [], [], _, _ => pa_nil
  | t :: ts, .Name y p :: es, h, k => by
    unfold tyNames at h
    rw [Bool.and_eq_true, Bool.and_eq_true] at h
    obtain ⟨h1, h2, h3⟩ := ty_boot h.1
    have hy := of_decide_eq_true h.2.1
    subst hy
    obtain ⟨k1, k2⟩ := k t List.mem_cons_self
    have pn : PE X (.Name (Str.ofString t.nm) p) (tC (.ty t.nm)) := pe_bltn k1 k2 h1 rfl h2 h3
    have ih := pa_tys h.2.2 fun u hu => k u (List.mem_cons_of_mem _ hu)
    exact pa_imp (pa_cons pn ih) fun σ H Q q => q
  | [], _ :: _, h, _ => by cases h
  | _ :: _, [], h, _ => by cases h
  | _ :: _, .BoolOp _ _ _ :: _, h, _ => by cases h
  | _ :: _, .NamedExpr _ _ _ :: _, h, _ => by cases h
  | _ :: _, .BinOp _ _ _ _ :: _, h, _ => by cases h
  | _ :: _, .UnaryOp _ _ _ :: _, h, _ => by cases h
  | _ :: _, .Lambda _ _ _ _ :: _, h, _ => by cases h
  | _ :: _, .IfExp _ _ _ _ :: _, h, _ => by cases h
  | _ :: _, .Dict _ _ _ :: _, h, _ => by cases h
  | _ :: _, .Set _ _ _ :: _, h, _ => by cases h
  | _ :: _, .ListComp _ _ _ _ :: _, h, _ => by cases h
  | _ :: _, .SetComp _ _ _ _ :: _, h, _ => by cases h
  | _ :: _, .DictComp _ _ _ _ _ :: _, h, _ => by cases h
  | _ :: _, .GeneratorExp _ _ _ _ :: _, h, _ => by cases h
  | _ :: _, .Await _ _ :: _, h, _ => by cases h
  | _ :: _, .Yield _ _ :: _, h, _ => by cases h
  | _ :: _, .YieldFrom _ _ :: _, h, _ => by cases h
  | _ :: _, .Compare _ _ _ _ :: _, h, _ => by cases h
  | _ :: _, .Call _ _ _ _ :: _, h, _ => by cases h
  | _ :: _, .FormattedValue _ _ _ _ :: _, h, _ => by cases h
  | _ :: _, .JoinedStr _ _ :: _, h, _ => by cases h
  | _ :: _, .Constant _ _ _ :: _, h, _ => by cases h
  | _ :: _, .Attribute _ _ _ :: _, h, _ => by cases h
  | _ :: _, .Subscript _ _ _ :: _, h, _ => by cases h
  | _ :: _, .Starred _ _ :: _, h, _ => by cases h
  | _ :: _, .List _ _ :: _, h, _ => by cases h
  | _ :: _, .Tuple _ _ _ :: _, h, _ => by cases h
  | _ :: _, .Slice _ _ _ _ :: _, h, _ => by cases h
theorem clsAll : ∀ ts : List Ty, Paired ClsV (ts.map fun t => V.ty t.nm) (ts.map fun t => Value.type t.nm)
  | [] => .nil
  | t :: r => .cons (.ty _) (clsAll r)
theorem s_isiT {ts : List Ty} {es : List Expr} {x1} {p p2 : Pos} (hK : fx.K = X.K) (hn : ts ≠ []) (hl : ts.length ≤ sizeLine) (ht : tyNames ts es = true) (hts : ts.all Ty.blt = true) (hg : Gl X "isinstance") (hm : X.mg "isinstance" = none) (hk : ∀ t ∈ ts, Gl X (Str.ofString t.nm) ∧ X.mg (Str.ofString t.nm) = none) (ha : PE X a (tE fx W f))
    (he : starEach [a, .Tuple es x1 p2] X.env = (false, eval a X.env) :: starEach [.Tuple es x1 p2] X.env) : PE X (.Call (.Name "isinstance" p) [a, .Tuple es x1 p2] [] pos) (tE fx W fun σ S => (f σ S).bind fun x S1 => ofB S1 (isiAny S1 x ts)) := by
  have pt : PE X (.Tuple es x1 p2) (tTup (fun _ H Q => Q (ts.map fun t => .ty t.nm) H)) := pe_tup (pa_tys ht hk)
  refine pe_imp (pe_callB call_isiT hg hm PyProof.Rows.boot_isinstance (pa_cons ha (pa_cons pt pa_nil) he) (by decide) (by decide) he (by rfl)) fun σ H Q ⟨g, dσ, S, r, sl, q⟩ => tE.bind q r sl fun x S1 v g1 H1 _ l1 r1 x1 q1 => ?_
  refine ⟨by rw [List.length_map]; exact hl, fun p hp => ?_⟩
  obtain ⟨b, e, q2⟩ := ofB_ret (H := H1) q1
  obtain ⟨n, e1, e2⟩ := isi_any (K := X.K) e hts hn
  obtain ⟨r2, l2⟩ := r1.laid (o := .tup (ts.map fun t => V.ty t.nm)) hp
  have hty := r2.ty (X := X) (x1.mono l2) e1
  exact ⟨v, p, _, .type n, _, b, rfl, upd_same, clsAll ts, hty, e2, ePost.ret (ePost.up q2 l2) r2 (.bl _)⟩
/-! append -/
theorem s_app {apos : Pos} (hK : fx.K = X.K) (ha : PE X a (tE fx W f)) (hb : PE X b (tE fx W h)) (hbase : attributeBase a "append" X.env (eval a X.env) = eval a X.env) (hline : (apos.endLine == pos.line) = true)
    (hs : starEach [b] X.env = (false, eval b X.env) :: starEach [] X.env) :
    PE X (.Call (.Attribute a "append" apos) [b] [] pos) (tE fx W fun σ S => (f σ S).bind fun x S1 => match x with
    | .ptr n => match S1[n]? with
      | some (.lst _) => (h σ S1).bind fun y S2 => match S2[n]? with
        | some (.lst xs) => if xs.length < sizeLine then .ok .non (S2.set n (.lst (xs ++ [y]))) else .bad
        | _ => .bad
      | _ => .bad
    | _ => .bad) := by
  refine pe_imp (pe_bm PySem.F.plainAttrs_list PySem.F.slot_list_append PySem.F.type_list_append mt_append ha (pa_cons hb pa_nil hs) hbase (by rw [hs]; rfl) hline hs rfl) fun σ H Q ⟨g, dσ, S, r, sl, q⟩ => tE.bind q r sl fun x S1 v g1 H1 _ l1 r1 x1 q1 => ?_
  cases x with
  | ptr n =>
    obtain ⟨rfl, hn⟩ := x1.iPtr
    have q1 : ePost fx W g1 σ (tOf fx Q) (match S1[n]? with
      | some (.lst _) => (h dσ S1).bind fun y S2 => match S2[n]? with
        | some (.lst xs) => if xs.length < sizeLine then .ok .non (S2.set n (.lst (xs ++ [y]))) else .bad
        | _ => .bad
      | _ => .bad) := q1
    cases hc : S1[n]? with
    | none => rw [hc] at q1; exact q1.elim
    | some c =>
      rw [hc] at q1
      cases c with
      | lst zs =>
        obtain ⟨_, _, vs0, hv0, _⟩ := r1.cells n _ hc
        refine ⟨.inl ⟨rfl, _, SqL.of hv0⟩, tE.bind q1 r1 (sl.mono l1) fun y S2 w g2 H2 _ l2 r2 y2 q2 => ?_⟩
        cases hc2 : S2[n]? with
        | none => simp only [hc2] at q2; exact q2.elim
        | some c2 =>
          simp only [hc2] at q2
          cases c2 with
          | lst xs =>
            have q2 : ePost fx W g2 σ (tOf fx Q) (if xs.length < sizeLine then .ok .non (S2.set n (.lst (xs ++ [y]))) else .bad) := q2
            have am : g2.am n = g1.am n := l2.am n hn
            obtain ⟨_, _, vs, hv, rv⟩ := r2.cells n _ hc2
            by_cases hz : xs.length < sizeLine
            · rw [if_pos hz] at q2
              have r3 := r2.put hc2 (rv.append (RelL.one y2))
              rw [am] at hv r3
              exact ⟨_, vs, w, rfl, rfl, hv, by rw [rv.length]; exact hz, ePost.ret q2 r3 .non⟩
            · rw [if_neg hz] at q2
              exact q2.elim
          | ins c fs => exact q2.elim
          | frz d => exact q2.elim
      | ins c fs => exact q1.elim
      | frz d => exact q1.elim
  | _ => exact q1.elim
/-! own defs -/
/-- a def that may be called: its promise is its run -/
structure CallOk (P : Prog) (n : Nat) (K : PySem.W.Frag) (ca : String → Addr) (X : Cx) (x : Str) (f : String) : Prop where
  ex : ∃ (k : Nat) (a : Addr) (fd : FuncData) (ps : List Str), X.mg x = some (.ref a) ∧ PySem.W.keepIn X.K (.ref a) = true ∧ Room k X.A ∧ Binds X.K fd ps [] ∧ FnOk X.prog X.w X.K X.mg X.base (L2.CX X.prog X.w) k a fd ps (spI P n K ca f)
theorem run_np {P : Prog} {n : Nat} {f : String} {ds : List D} {S : Store} (h : run P n f ds S ≠ .bad) : ∃ F, P.fn f = some F ∧ ds.length = F.np := by
  cases n with
  | zero => exact absurd rfl h
  | succ n =>
    unfold run at h
    cases q : P.fn f with
    | none => simp only [q] at h; exact absurd rfl h
    | some F =>
      simp only [q] at h
      by_cases hz : ds.length = F.np
      · exact ⟨F, rfl, hz⟩
      · rw [if_neg hz] at h
        exact absurd rfl h
theorem frzL_len {f : Store → D → Option (D × Store)} : ∀ {ds : List D} {S : Store} {es : List D} {S' : Store}, frzL f S ds = some (es, S') → es.length = ds.length
  | [], S, es, S', e => by cases e; rfl
  | d :: r, S, es, S', e => by
    unfold frzL at e
    cases q : f S d with
    | none => rw [q] at e; cases e
    | some p =>
      obtain ⟨e1, S1⟩ := p
      rw [q] at e
      have e : (match frzL f S1 r with
        | some (q, S2) => some (e1 :: q, S2)
        | none => none) = some (es, S') := e
      cases q2 : frzL f S1 r with
      | none => rw [q2] at e; cases e
      | some p2 =>
        obtain ⟨e2, S2⟩ := p2
        rw [q2] at e
        cases e
        rw [List.length_cons, List.length_cons, frzL_len q2]
theorem callP_np {P : Prog} {n : Nat} {f : String} {ds : List D} {S : Store} (h : callP (run P n) f ds S ≠ .bad) : ∃ F, P.fn f = some F ∧ ds.length = F.np := by
  unfold callP at h
  cases q : frzL (frzD frzK) S ds with
  | none => rw [q] at h; exact absurd rfl h
  | some p =>
    obtain ⟨es, S1⟩ := p
    rw [q] at h
    have hr : run P n f es [] ≠ .bad := fun e => by
      simp only [e] at h
      exact h rfl
    obtain ⟨F, h1, h2⟩ := run_np hr
    exact ⟨F, h1, by rw [← h2, frzL_len q]⟩
theorem post_ne {α : Type} {g : Gh} {σ : L2.St} {T : Gh → α → Store → Hp → Prop} {r : Res α} (h : ePost fx W g σ T r) : r ≠ .bad := fun e => by
  rw [e] at h
  exact h
theorem s_call {P : Prog} {n : Nat} {m : Mode} {fn : String} {x : Str} {e : Expr} {es : List Expr} {p : Pos} (hK : fx.K = X.K) (tk : Takes X W) (hg : Gl X x) (hc : CallOk P n fx.K fx.ca X x fn) (ha : PA X (e :: es) (tA fx W f)) (hdb : (x == ("__debug__" : Str)) = false)
    (he : starEach (e :: es) X.env = (false, eval e X.env) :: starEach es X.env) (hpl : (backTo pos (starEach es X.env)).any (·.1) = false) : PE X (.Call (.Name x p) (e :: es) [] pos) (tE fx W fun σ S => (f σ S).bind fun x S1 => callM (run P n) m fn (unT x) S1) := by
  obtain ⟨k, a, fd, ps, hm, hk, hr, hb, F⟩ := hc.ex
  refine pe_imp (pe_callS F hr hg hm hk hb (fun σ => passAt tk σ) ha hdb he hpl) fun σ H Q ⟨g, dσ, S, r, sl, q⟩ => tA.bind q r sl fun y S1 vs g1 H1 _ l1 r1 y1 q1 => ?_
  cases m with
  | st =>
    have q1 : ePost fx W g1 σ (tOf fx Q) (run P n fn (unT y) S1) := q1
    obtain ⟨G, h1, h2⟩ := run_np (post_ne q1)
    exact call_st ⟨G, h1, by rw [y1.length]; exact h2⟩ q1 r1 y1
  | pure =>
    have q1 : ePost fx W g1 σ (tOf fx Q) (callP (run P n) fn (unT y) S1) := q1
    obtain ⟨G, h1, h2⟩ := callP_np (post_ne q1)
    exact call_pure ⟨G, h1, by rw [y1.length]; exact h2⟩ q1 r1 y1
end
end MX
end

section
set_option maxRecDepth 100000
set_option maxHeartbeats 1000000
namespace MX
open PySem PySem.Spec PyProof.Rows L2

/-- an iterator that gives these items -/
def GoodIt (fx0 : Fix) (g0 : Gh) (J : It) (xs : List D) : Prop := ∀ (fx : Fix) (i : Nat) (g : Gh) (S : Store) (H : Hp), fx.K = fx0.K → fx.ca = fx0.ca → g0.le g → R fx g S H →
  (i < xs.length → J.go i H ∧ ∀ x H', J.yld i H x H' → ∃ g' d, g.le g' ∧ R fx g' S H' ∧ xs[i]? = some d ∧ RelD fx.K fx.ca g' x d) ∧ (xs.length ≤ i → J.stop i H)
/-- what is walked -/
def srcPost (fx : Fix) (Q : It → Hp → Prop) : Gh → D → Store → Hp → Prop := fun g d S H => still S d = true ∧ ∃ xs, itemsD S d = some xs ∧ ∀ J, GoodIt fx g J xs → Q J H
def tI (fx : Fix) (W : WX) (f : DSt → Store → Res D) : TI := fun σ H Q => ∃ g dσ S, R fx g S H ∧ Sl fx g dσ σ ∧ ePost fx W g σ (srcPost fx Q) (f dσ S)
theorem tI.bind {fx : Fix} {W : WX} {g : Gh} {α : Type} {σ : L2.St} {H : Hp} {dσ : DSt} {S : Store} {T : Gh → α → Store → Hp → Prop} {f : DSt → Store → Res D} {k : D → Store → Res α} (h : ePost fx W g σ T ((f dσ S).bind k)) (r : R fx g S H) (sl : Sl fx g dσ σ) {Q' : It → Hp → Prop}
    (hq : ∀ x S' g' H', f dσ S = .ok x S' → g.le g' → R fx g' S' H' → ePost fx W g' σ T (k x S') → srcPost fx Q' g' x S' H') : tI fx W f σ H Q' := by
  refine ⟨g, dσ, S, r, sl, ?_⟩
  cases e : f dσ S with
  | ok x S' =>
    rw [e] at h
    intro g' H' l r'
    exact hq x S' g' H' e l r' (ePost.up h l)
  | ex x S' =>
    rw [e] at h
    exact h
  | bad =>
    rw [e] at h
    exact h

section
variable {fx : Fix} {g : Gh} {S : Store} {H : Hp}
/-- a frozen source is data -/
theorem R.still (r : R fx g S H) {v : V} {d : D} (h : RelD fx.K fx.ca g v d) (st : still S d = true) : RelD fx.K fx.ca g v (MX.look S d) := by
  rcases r.look h with ⟨n, ys, rfl, rfl, hc, e'⟩ | ⟨n, c, fs, rfl, rfl, hc, e'⟩ | k
  · unfold MX.still at st
    simp only [hc] at st
    cases st
  · unfold MX.still at st
    simp only [hc] at st
    cases st
  · exact k
theorem good_list {K : PySem.W.Frag} {a : Addr} {vs : List V} {xs : List D} (hv : g.F a = some (.lst vs)) (rv : RelL fx.K fx.ca g vs xs) : GoodIt fx g (Itl K a) xs := by
  intro fx2 i g1 S1 H1 k1 k2 l1 r1
  have h1 : H1 a = some (.lst vs) := r1.frz _ _ (l1.F _ _ hv)
  refine ⟨fun hi => ?_, fun hi => ⟨vs, SqL.of h1, by rw [rv.length]; exact hi⟩⟩
  obtain ⟨v, e1, e2⟩ := rv.get (List.getElem?_eq_getElem hi)
  refine ⟨⟨vs, v, SqL.of h1, e1⟩, fun x H' ⟨eh, hx⟩ => ?_⟩
  subst eh
  have hxv := hx vs (SqL.of h1)
  rw [e1] at hxv
  cases hxv
  exact ⟨g1, _, Gh.le.refl g1, r1, List.getElem?_eq_getElem hi, by rw [k1, k2]; exact e2.mono l1⟩
theorem good_tup {K : PySem.W.Frag} {a : Addr} {vs : List V} {xs : List D} (hv : g.F a = some (.tup vs)) (rv : RelL fx.K fx.ca g vs xs) : GoodIt fx g (Itt K a) xs := by
  intro fx2 i g1 S1 H1 k1 k2 l1 r1
  have h1 : H1 a = some (.tup vs) := r1.frz _ _ (l1.F _ _ hv)
  refine ⟨fun hi => ?_, fun hi => ⟨vs, SqT.of h1, by rw [rv.length]; exact hi⟩⟩
  obtain ⟨v, e1, e2⟩ := rv.get (List.getElem?_eq_getElem hi)
  refine ⟨⟨vs, v, SqT.of h1, e1⟩, fun x H' ⟨eh, hx⟩ => ?_⟩
  subst eh
  have hxv := hx vs (SqT.of h1)
  rw [e1] at hxv
  cases hxv
  exact ⟨g1, _, Gh.le.refl g1, r1, List.getElem?_eq_getElem hi, by rw [k1, k2]; exact e2.mono l1⟩
theorem good_scr {K : PySem.W.Frag} {a : Addr} {ns : List Int} (hK : fx.K = K) (hv : SqL fx.K g.F a (ns.map V.int)) : GoodIt fx g (Itl K a) (ns.map D.int) := by
  subst hK
  intro fx2 i g1 S1 H1 k1 k2 l1 r1
  have h1 : SqL fx.K H1 a (ns.map V.int) := (show Same g.F H1 from fun a o e => r1.frz _ _ (l1.F _ _ e)).seq hv
  refine ⟨fun hi => ?_, fun hi => ⟨_, h1, by rw [List.length_map] at hi ⊢; exact hi⟩⟩
  rw [List.length_map] at hi
  have e1 : (ns.map V.int)[i]? = some (.int ns[i]) := by rw [List.getElem?_map, List.getElem?_eq_getElem hi]; rfl
  refine ⟨⟨_, _, h1, e1⟩, fun x H' ⟨eh, hx⟩ => ?_⟩
  subst eh
  have hxv := hx _ h1
  rw [e1] at hxv
  cases hxv
  exact ⟨g1, .int ns[i], Gh.le.refl g1, r1, by rw [List.getElem?_map, List.getElem?_eq_getElem hi]; rfl, .int _⟩
theorem good_rng {lo : Int} {n : Nat} : GoodIt fx g (Itr lo n) ((List.range n).map fun (k : Nat) => D.int (lo + (k : Int))) := by
  intro fx2 i g1 S1 H1 k1 k2 l1 r1
  refine ⟨fun hi => ?_, fun hi => ?_⟩
  · rw [List.length_map, List.length_range] at hi
    refine ⟨hi, fun x H' ⟨eh, hx⟩ => ?_⟩
    subst eh
    subst hx
    exact ⟨g1, .int (lo + (i : Int)), Gh.le.refl g1, r1, by rw [List.getElem?_map, List.getElem?_range hi]; rfl, .int _⟩
  · rw [List.length_map, List.length_range] at hi
    exact hi
end

section
variable {X : Cx} {fx : Fix} {W : WX} {f h : DSt → Store → Res D} {a b tg : Expr} {pos : Pos}
theorem pi_or {wi wj : TI} (h1 : PI X tg a wi) (h2 : PI X tg a wj) : PI X tg a (fun σ H Q => wi σ H Q ∨ wj σ H Q) := ⟨fun pins s σ H Q I q => by
  rcases q with q | q
  · exact h1.run pins s σ H Q I q
  · exact h2.run pins s σ H Q I q⟩
theorem pi_imp {wi wj : TI} (h1 : PI X tg a wi) (i : ∀ σ H Q, wj σ H Q → wi σ H Q) : PI X tg a wj := ⟨fun pins s σ H Q I q => h1.run pins s σ H Q I (i σ H Q q)⟩
/-- a value that is walked -/
theorem i_seq (hK : fx.K = X.K) (ha : PE X a (tE fx W f)) : PI X tg a (tI fx W f) := by
  refine pi_imp (pi_or (pi_list ha) (pi_tup ha)) fun σ H Q ⟨g, dσ, S, r, sl, q⟩ => ?_
  cases e : f dσ S with
  | bad => rw [e] at q; exact q.elim
  | ex x S1 =>
    rw [e] at q
    exact .inl ⟨g, dσ, S, r, sl, by rw [e]; exact q⟩
  | ok d S1 =>
    rw [e] at q
    have key : (∃ xs, MX.look S1 d = .tup xs) ∨ ∀ xs, MX.look S1 d ≠ .tup xs := by
      cases MX.look S1 d <;> first | exact .inl ⟨_, rfl⟩ | exact .inr fun _ z => by cases z
    rcases key with ⟨xs, ex⟩ | nt
    · refine .inr ⟨g, dσ, S, r, sl, ?_⟩
      rw [e]
      intro g1 H1 l1 r1 v rv
      obtain ⟨st, ys, hy, hJ⟩ := q g1 H1 l1 r1
      have k := r1.still rv st
      rw [ex] at k
      obtain ⟨p, vs, rfl, h1, h2⟩ := k.iTup
      have ey : ys = xs := by
        unfold itemsD at hy
        rw [ex] at hy
        cases hy
        rfl
      subst ey
      exact ⟨p, rfl, ⟨vs, SqT.of (r1.frz _ _ h1)⟩, hJ _ (good_tup h1 h2)⟩
    · refine .inl ⟨g, dσ, S, r, sl, ?_⟩
      rw [e]
      intro g1 H1 l1 r1 v rv
      obtain ⟨st, ys, hy, hJ⟩ := q g1 H1 l1 r1
      have k := r1.still rv st
      cases ex : MX.look S1 d with
      | lst xs =>
        rw [ex] at k
        obtain ⟨p, vs, rfl, h1, h2⟩ := k.iLst
        have ey : ys = xs := by
          unfold itemsD at hy
          rw [ex] at hy
          cases hy
          rfl
        subst ey
        exact ⟨p, rfl, ⟨vs, SqL.of (r1.frz _ _ h1)⟩, hJ _ (good_list h1 h2)⟩
      | scr ns =>
        rw [ex] at k
        obtain ⟨p, rfl, h1⟩ := k.iScr
        have ey : ys = ns.map D.int := by
          unfold itemsD at hy
          rw [ex] at hy
          cases hy
          rfl
        subst ey
        have h2 : SqL X.K H1 p (ns.map V.int) := by
          rw [← hK]
          exact (show Same g1.F H1 from r1.frz).seq h1
        exact ⟨p, rfl, ⟨_, h2⟩, hJ _ (good_scr hK h1)⟩
      | tup xs => exact absurd ex (nt xs)
      | _ => unfold itemsD at hy; rw [ex] at hy; cases hy
/-- a range -/
theorem rng_ret {g : Gh} {σ : L2.St} {S : Store} {o : Option (List D)} {T : Gh → D → Store → Hp → Prop} (q : ePost fx W g σ T (match o with
    | some xs => .ok (.lst xs) S
    | none => .bad)) : ∃ xs, o = some xs ∧ ePost fx W g σ T (.ok (.lst xs) S) := by
  cases o with
  | none => exact q.elim
  | some xs => exact ⟨xs, rfl, q⟩
theorem i_rng1 {p : Pos} (hg : Gl X "range") (hm : X.mg "range" = none) (ha : PE X a (tE fx W f)) (hs : starEach [a] X.env = [(false, eval a X.env)]) : PI X tg (.Call (.Name "range" p) [a] [] pos) (tI fx W fun σ S => (f σ S).bind fun x S1 => match rngD [x] with
    | some xs => .ok (.lst xs) S1
    | none => .bad) := by
  refine pi_imp (pi_range1 hg hm (pa_cons ha pa_nil hs) hs) fun σ H Q ⟨g, dσ, S, r, sl, q⟩ => tE.bind q r sl fun x S1 v g1 H1 _ l1 r1 x1 q1 => ?_
  obtain ⟨xs, e, q2⟩ := rng_ret q1
  cases x with
  | int n =>
    have := x1.iInt
    subst this
    have e : (if -(2 ^ 62) ≤ n ∧ n < 2 ^ 62 then some ((List.range n.toNat).map fun (k : Nat) => D.int (0 + (k : Int))) else none) = some xs := e
    by_cases hz : -(2 ^ 62) ≤ n ∧ n < 2 ^ 62
    · rw [if_pos hz] at e
      cases e
      obtain ⟨_, ys, hy, hJ⟩ := q2 g1 H1 (Gh.le.refl g1) r1
      cases hy
      exact ⟨n, rfl, hz.1, hz.2, hJ _ good_rng⟩
    · rw [if_neg hz] at e
      cases e
  | _ => cases e
theorem i_rng2 {p : Pos} (hg : Gl X "range") (hm : X.mg "range" = none) (ha : PE X a (tE fx W f)) (hb : PE X b (tE fx W h)) (hs : starEach [a, b] X.env = [(false, eval a X.env), (false, eval b X.env)]) (hs2 : starEach [b] X.env = [(false, eval b X.env)]) :
    PI X tg (.Call (.Name "range" p) [a, b] [] pos) (tI fx W fun σ S => (f σ S).bind fun x S1 => (h σ S1).bind fun y S2 => match rngD [x, y] with
    | some xs => .ok (.lst xs) S2
    | none => .bad) := by
  refine pi_imp (pi_range2 hg hm (pa_cons ha (pa_cons hb pa_nil hs2) (by rw [hs, hs2])) hs hs2) fun σ H Q ⟨g, dσ, S, r, sl, q⟩ => tE.bind q r sl fun x S1 v g1 H1 _ l1 r1 x1 q1 => tE.bind q1 r1 (sl.mono l1) fun y S2 w g2 H2 _ l2 r2 y2 q2 => ?_
  obtain ⟨xs, e, q3⟩ := rng_ret q2
  cases x with
  | int n =>
    cases y with
    | int m =>
      have h1 := x1.iInt
      have h2 := y2.iInt
      subst h1 h2
      have e : (if -(2 ^ 62) ≤ n ∧ n < 2 ^ 62 ∧ -(2 ^ 62) ≤ m ∧ m < 2 ^ 62 then some ((List.range (m - n).toNat).map fun (k : Nat) => D.int (n + (k : Int))) else none) = some xs := e
      by_cases hz : -(2 ^ 62) ≤ n ∧ n < 2 ^ 62 ∧ -(2 ^ 62) ≤ m ∧ m < 2 ^ 62
      · rw [if_pos hz] at e
        cases e
        obtain ⟨_, ys, hy, hJ⟩ := q3 g2 H2 (Gh.le.refl g2) r2
        cases hy
        exact ⟨n, m, rfl, hz, hJ _ good_rng⟩
      · rw [if_neg hz] at e
        cases e
    | _ => cases e
  | _ => cases y <;> cases e
/-! ### comprehensions -/
def W0 : WX := fun _ _ _ _ => False
theorem nox_of {α : Type} {g : Gh} {σ : L2.St} {T : Gh → α → Store → Hp → Prop} {r : Res α} (q : ePost fx W g σ T (noEx r)) : ePost fx W0 g σ T r := by
  cases r with
  | ok a S => exact q
  | ex x S => exact q.elim
  | bad => exact q
/-- the turn of a comprehension -/
def turnC (t : Nat) (own : List Nat) (dσ : DSt) (fc fe : DSt → Store → Res D) : D → Store → Res (Option D) := fun x S => noEx ((fc ((wipeD dσ own).set t (some x)) S).bind fun y S2 => match truD (look S2 y) with
  | some true => (fe ((wipeD dσ own).set t (some x)) S2).bind fun z S3 => .ok (some z) S3
  | some false => .ok none S2
  | none => .bad)
theorem wipe_set {σ : L2.St} {t : Nat} {v : Option V} : ∀ {own : List Nat}, t ∈ own → L2.wipe ((L2.wipe σ own).set t v) own = L2.wipe σ own := by
  have key : ∀ (own : List Nat) (ρ τ : L2.St), ρ.length = τ.length → (∀ i, i ∉ own → ρ[i]? = τ[i]?) → L2.wipe ρ own = L2.wipe τ own := fun own => by
    induction own with
    | nil => exact fun ρ τ hl h => List.ext_getElem? fun i => h i (by simp)
    | cons v r ih =>
      intro ρ τ hl h
      show (L2.wipe ρ r).set v none = (L2.wipe τ r).set v none
      refine List.ext_getElem? fun i => ?_
      by_cases hv : v = i
      · subst hv
        rw [List.getElem?_set, List.getElem?_set, if_pos rfl, if_pos rfl, L2.wipe_length, L2.wipe_length, hl]
      · rw [List.getElem?_set_ne hv, List.getElem?_set_ne hv]
        by_cases hr : i ∈ r
        · have w1 : ∀ (κ : L2.St) (l : List Nat), i ∈ l → (L2.wipe κ l)[i]? = if i < κ.length then some none else none := fun κ l => by
            induction l with
            | nil => exact fun z => by cases z
            | cons u s ih2 =>
              intro z
              show ((L2.wipe κ s).set u none)[i]? = _
              rw [List.getElem?_set, L2.wipe_length]
              by_cases hu : u = i
              · rw [if_pos hu, hu]
              · rw [if_neg hu]
                exact ih2 (by rcases List.mem_cons.mp z with e | e; exact absurd e.symm hu; exact e)
          rw [w1 _ _ hr, w1 _ _ hr, hl]
        · rw [L2.wipe_out hr, L2.wipe_out hr]
          exact h i fun z => by rcases List.mem_cons.mp z with e | e; exact hv e.symm; exact hr e
  intro own ht
  have e1 : L2.wipe (L2.wipe σ own) own = L2.wipe σ own := by
    refine key own _ _ (L2.wipe_length _ _) fun i hi => L2.wipe_out hi
  rw [← e1]
  refine key own _ _ (by rw [List.length_set, L2.wipe_length, L2.wipe_length]) fun i hi => ?_
  rw [e1, List.getElem?_set_ne (fun z => hi (by rw [← z]; exact ht))]
/-- an object kept beside the state -/
theorem R.withB {fx : Fix} {g : Gh} {S : Store} {H : Hp} {p : Addr} {o : HO} (r : R fx g S H) (hp : H p = none) : R { fx with B := upd fx.B p o } g S (upd H p o) := by
  have nF : ∀ a u, g.F a = some u → a ≠ p := fun a u e => ne_of_none (r.frz a u e) hp
  refine ⟨fun a u e => ?_, fun a u e => ?_, fun a u e => ?_, r.f0, r.n, fun n c e => ?_, r.inj⟩
  · have e : upd fx.B p o a = some u := e
    by_cases ha : a = p
    · subst ha
      rw [upd_same] at e ⊢
      exact e
    · rw [upd_ne ha] at e ⊢
      exact r.frame a u e
  · rw [upd_ne (nF a u e)]
    exact r.frz a u e
  · rcases r.fresh a u e with h | h
    · exact .inl h
    · refine .inr ?_
      show upd fx.B p o a = none
      rw [upd_ne (nF a u e)]
      exact h
  · have q := r.cells n c e
    cases c with
    | lst xs =>
      obtain ⟨h1, h2, vs, h3, h4⟩ := q
      have ne := ne_of_none h3 hp
      exact ⟨h1, by show upd fx.B p o (g.am n) = none; rw [upd_ne ne]; exact h2, vs, by rw [upd_ne ne]; exact h3, h4⟩
    | ins c fs =>
      obtain ⟨h1, h2, dx, vs, h3, h4⟩ := q
      have ne := ne_of_none h3 hp
      exact ⟨h1, by show upd fx.B p o (g.am n) = none; rw [upd_ne ne]; exact h2, dx, vs, by rw [upd_ne ne]; exact h3, h4⟩
    | frz d => exact q
def hid (H : Hp) (p : Addr) : Hp := fun b => if b = p then none else H b
theorem hid_ne {H : Hp} {p a : Addr} (h : a ≠ p) : hid H p a = H a := if_neg h
theorem hid_same {H : Hp} {p : Addr} : hid H p p = none := if_pos rfl
theorem upd_hid {H : Hp} {p : Addr} {o : HO} : upd (hid H p) p o = upd H p o := by
  funext b
  unfold upd hid
  split <;> rfl
theorem R.dropB {fx : Fix} {g : Gh} {S : Store} {H : Hp} {p : Addr} {o : HO} (r : R { fx with B := upd fx.B p o } g S H) (hB : fx.B p = none) (h0 : fx.F0 p = none) : R fx g S (hid H p) ∧ H p = some o := by
  have hp : H p = some o := r.frame p o (show upd fx.B p o p = some o from upd_same)
  have nF : ∀ a u, g.F a = some u → a ≠ p := fun a u e z => by
    subst z
    rcases r.fresh a u e with h | h
    · rw [show fx.F0 a = some u from h] at h0
      cases h0
    · have h : upd fx.B a o a = none := h
      rw [upd_same] at h
      cases h
  refine ⟨⟨fun a u e => ?_, fun a u e => ?_, fun a u e => ?_, r.f0, r.n, fun n c e => ?_, r.inj⟩, hp⟩
  · have ne := ne_of_none e hB
    rw [hid_ne ne]
    exact r.frame a u (by show upd fx.B p o a = some u; rw [upd_ne ne]; exact e)
  · rw [hid_ne (nF a u e)]
    exact r.frz a u e
  · rcases r.fresh a u e with h | h
    · exact .inl h
    · refine .inr ?_
      have h : upd fx.B p o a = none := h
      rw [upd_ne (nF a u e)] at h
      exact h
  · have q := r.cells n c e
    have key : ∀ n, upd fx.B p o (g.am n) = none → g.am n ≠ p ∧ fx.B (g.am n) = none := fun n z => by
      have ne : g.am n ≠ p := fun y => by
        rw [y, upd_same] at z
        cases z
      rw [upd_ne ne] at z
      exact ⟨ne, z⟩
    cases c with
    | lst xs =>
      obtain ⟨h1, h2, vs, h3, h4⟩ := q
      obtain ⟨k1, k2⟩ := key n h2
      exact ⟨h1, k2, vs, by rw [hid_ne k1]; exact h3, h4⟩
    | ins c fs =>
      obtain ⟨h1, h2, dx, vs, h3, h4⟩ := q
      obtain ⟨k1, k2⟩ := key n h2
      exact ⟨h1, k2, dx, vs, by rw [hid_ne k1]; exact h3, h4⟩
    | frz d => exact q
/-- readings over any ground -/
def tE' (fx : Fix) (W : WX) (f : DSt → Store → Res D) : TE := fun σ H Q => ∃ fx' : Fix, fx'.K = fx.K ∧ fx'.ca = fx.ca ∧ tE fx' W f σ H Q
def tT' (fx : Fix) (W : WX) (f : DSt → Store → Res D) : TT := fun σ H Q => ∃ fx' : Fix, fx'.K = fx.K ∧ fx'.ca = fx.ca ∧ tT fx' W f σ H Q
theorem pe_all {X : Cx} {e : Expr} {fx : Fix} {W : WX} {f : DSt → Store → Res D} (h : ∀ fx' : Fix, fx'.K = fx.K → fx'.ca = fx.ca → PE X e (tE fx' W f)) : PE X e (tE' fx W f) :=
  ⟨fun pins s σ H Q I ⟨fx', k1, k2, q⟩ => (h fx' k1 k2).run pins s σ H Q I q⟩
theorem pt_all {X : Cx} {e : Expr} {fx : Fix} {W : WX} {f : DSt → Store → Res D} (h : ∀ fx' : Fix, fx'.K = fx.K → fx'.ca = fx.ca → PT X e (tT fx' W f)) : PT X e (tT' fx W f) :=
  ⟨fun pins s σ H Q I ⟨fx', k1, k2, q⟩ => (h fx' k1 k2).run pins s σ H Q I q⟩
theorem compL_ok {g : Gh} {σ : L2.St} {T : Gh → D → Store → Hp → Prop} {f : D → Store → Res (Option D)} (hf : ∀ x S y S1, f x S ≠ .ex y S1) {k : List D → Store → Res D} : ∀ {xs : List D} {S : Store}, ePost fx W g σ T ((compL f xs S).bind k) → ∃ ys S1, compL f xs S = .ok ys S1 := by
  intro xs S q
  have nex : ∀ (xs : List D) (S : Store) y S1, compL f xs S ≠ .ex y S1 := fun xs => by
    induction xs with
    | nil => exact fun _ _ _ e => by cases e
    | cons x r ih =>
      intro S y S1 e
      unfold compL at e
      cases q1 : f x S with
      | bad => rw [q1] at e; cases e
      | ex z S2 => exact hf _ _ _ _ q1
      | ok o S2 =>
        rw [q1] at e
        have e : ((compL f r S2).bind fun ys S2 => .ok (o.toList ++ ys) S2) = .ex y S1 := e
        cases q2 : compL f r S2 with
        | bad => rw [q2] at e; cases e
        | ex z S3 => exact ih _ _ _ q2
        | ok o S3 => rw [q2] at e; cases e
  cases e : compL f xs S with
  | ok ys S1 => exact ⟨ys, S1, rfl⟩
  | ex y S1 => exact absurd e (nex _ _ _ _)
  | bad => rw [e] at q; exact q.elim
theorem turn_nex {t : Nat} {own : List Nat} {dσ : DSt} {fc fe : DSt → Store → Res D} : ∀ x S y S1, turnC t own dσ fc fe x S ≠ .ex y S1 := fun x S y S1 e => by
  unfold turnC noEx at e
  split at e
  · cases e
  · rename_i h
    exact h _ _ e
/-- the reading of a comprehension -/
theorem lc_read {fi : DSt → Store → Res D} {fc fe : DSt → Store → Res D} {t : Nat} {own : List Nat} {tt : TT} (ht : t ∈ own) (htt : tt = tT' fx W0 fc ∨ (tt = tYes ∧ fc = fun _ S => .ok (.bl true) S)) : ∀ (σ : L2.St) (H : Hp) (Q : VK), tE fx W (fun σ S => (fi σ S).bind fun d S1 => match still S1 d, itemsD S1 d with
    | true, some xs => (compL (turnC t own σ fc fe) xs S1).bind fun ys S2 => if ys.length ≤ sizeLine then .ok (.lst ys) S2 else .bad
    | _, _ => .bad) σ H Q → tLc (tI fx W fi) (gName t) tt (tE' fx W0 fe) own σ H Q := by
  intro σ H Q ⟨g, dσ, S, r, sl, q⟩
  show tI fx W fi σ H _
  refine tI.bind q r sl fun d S1 g1 H1 _ l1 r1 q1 => ?_
  cases st : still S1 d with
  | false => rw [st] at q1; exact q1.elim
  | true =>
    rw [st] at q1
    cases hx : itemsD S1 d with
    | none => rw [hx] at q1; exact q1.elim
    | some xs =>
      rw [hx] at q1
      refine ⟨st, xs, hx, fun J hJ D0 hD => ?_⟩
      have q1 : ePost fx W g1 σ (tOf fx Q) ((compL (turnC t own dσ fc fe) xs S1).bind fun ys S2 => if ys.length ≤ sizeLine then .ok (.lst ys) S2 else .bad) := q1
      have nB : fx.B D0 = none := by
        cases z : fx.B D0 with
        | none => rfl
        | some u => rw [r1.frame _ _ z] at hD; cases hD
      have n0 : fx.F0 D0 = none := by
        cases z : fx.F0 D0 with
        | none => rfl
        | some u => rw [r1.frz _ _ (r1.f0 _ _ z)] at hD; cases hD
      -- the invariant: what is made so far, the rest to come
      refine ⟨fun i m H' => m + i = xs.length ∧ ∃ (g' : Gh) (S' : Store) (acc : List V) (dacc : List D) (H0 : Hp), g1.le g' ∧ R fx g' S' H0 ∧ H0 D0 = none ∧ H' = upd H0 D0 (.lst acc) ∧ RelL fx.K fx.ca g' acc dacc ∧
        ePost fx W g' σ (tOf fx Q) ((compL (turnC t own dσ fc fe) (xs.drop i) S').bind fun ys S2 => if (dacc ++ ys).length ≤ sizeLine then .ok (.lst (dacc ++ ys)) S2 else .bad), ?_, ?_⟩
      · refine ⟨xs.length, rfl, g1, S1, [], [], H1, Gh.le.refl g1, r1, hD, rfl, .nil, ?_⟩
        rw [List.drop_zero]
        exact q1
      · intro i m H' ⟨hm, g', S', acc, dacc, H0, le, r', hD0, hH', ra, q'⟩
        subst hH'
        have hr : R { fx with B := upd fx.B D0 (.lst acc) } g' S' (upd H0 D0 (.lst acc)) := r'.withB hD0
        rcases Nat.lt_or_ge i xs.length with hi | hi
        · right
          obtain ⟨hgo, hyl⟩ := (hJ { fx with B := upd fx.B D0 (.lst acc) } i g' S' _ rfl rfl le hr).1 hi
          refine ⟨hgo, fun H2 => m - 1 + (i + 1) = xs.length ∧ ∃ (g' : Gh) (S' : Store) (acc : List V) (dacc : List D) (H0 : Hp), g1.le g' ∧ R fx g' S' H0 ∧ H0 D0 = none ∧ H2 = upd H0 D0 (.lst acc) ∧ RelL fx.K fx.ca g' acc dacc ∧
            ePost fx W g' σ (tOf fx Q) ((compL (turnC t own dσ fc fe) (xs.drop (i + 1)) S').bind fun ys S2 => if (dacc ++ ys).length ≤ sizeLine then .ok (.lst (dacc ++ ys)) S2 else .bad), fun H2 h2 => ⟨m - 1, by omega, h2⟩, fun x H2 hy => ?_⟩
          obtain ⟨g2, dx, l2, r2, ex, rx⟩ := hyl x H2 hy
          have hd : xs.drop i = dx :: xs.drop (i + 1) := by
            rw [List.drop_eq_getElem_cons hi]
            rw [List.getElem?_eq_getElem hi] at ex
            rw [Option.some.inj ex]
          rw [hd] at q'
          have sl2 : Sl { fx with B := upd fx.B D0 (.lst acc) } g2 ((wipeD dσ own).set t (some dx)) ((L2.wipe σ own).set t (some x)) := by
            have s0 : Sl { fx with B := upd fx.B D0 (.lst acc) } g2 dσ σ := ⟨((sl.mono l1).mono le).len, fun i d e => by
              obtain ⟨v, h1, h2⟩ := sl.at_ i d e
              exact ⟨v, h1, ((h2.mono l1).mono le).mono l2⟩⟩
            exact (s0.wipe own).set t rx
          refine ⟨wipe_set ht, ?_⟩
          -- a turn that is kept, a turn that is not
          have yes : ∀ (S2 : Store) (g3 : Gh) (H3 : Hp), g2.le g3 → R { fx with B := upd fx.B D0 (.lst acc) } g3 S2 H3 → ePost fx W g3 σ (tOf fx Q) (((noEx ((fe ((wipeD dσ own).set t (some dx)) S2).bind fun z S3 => .ok (some z) S3)).bind fun o S3 => (compL (turnC t own dσ fc fe) (xs.drop (i + 1)) S3).bind fun ys S4 => .ok (o.toList ++ ys) S4).bind fun ys S2 => if (dacc ++ ys).length ≤ sizeLine then .ok (.lst (dacc ++ ys)) S2 else .bad) →
              tE' fx W0 fe ((L2.wipe σ own).set t (some x)) H3 fun y H4 => ∃ acc', H4 D0 = some (.lst acc') ∧ acc'.length < sizeLine ∧ (m - 1 + (i + 1) = xs.length ∧ ∃ (g' : Gh) (S' : Store) (acc : List V) (dacc : List D) (H0 : Hp), g1.le g' ∧ R fx g' S' H0 ∧ H0 D0 = none ∧ upd H4 D0 (.lst (acc' ++ [y])) = upd H0 D0 (.lst acc) ∧ RelL fx.K fx.ca g' acc dacc ∧
            ePost fx W g' σ (tOf fx Q) ((compL (turnC t own dσ fc fe) (xs.drop (i + 1)) S').bind fun ys S2 => if (dacc ++ ys).length ≤ sizeLine then .ok (.lst (dacc ++ ys)) S2 else .bad)) := by
            intro S2 g3 H3 l3 r3 q3
            refine ⟨{ fx with B := upd fx.B D0 (.lst acc) }, rfl, rfl, g3, _, S2, r3, sl2.mono l3, ?_⟩
            cases e4 : fe ((wipeD dσ own).set t (some dx)) S2 with
            | bad => rw [e4] at q3; exact q3.elim
            | ex z S3 => rw [e4] at q3; exact q3.elim
            | ok z S3 =>
              rw [e4] at q3
              intro g4 H4 l4 r4 y ry
              obtain ⟨r5, h5⟩ := R.dropB r4 nB n0
              have q3 : ePost fx W g3 σ (tOf fx Q) (((compL (turnC t own dσ fc fe) (xs.drop (i + 1)) S3).bind fun ys S4 => .ok (z :: ys) S4).bind fun ys S2 => if (dacc ++ ys).length ≤ sizeLine then .ok (.lst (dacc ++ ys)) S2 else .bad) := q3
              have ra4 : RelL fx.K fx.ca g4 acc dacc := ((ra.mono l2).mono l3).mono l4
              have q4 : ePost fx W g4 σ (tOf fx Q) ((compL (turnC t own dσ fc fe) (xs.drop (i + 1)) S3).bind fun ys S2 => if ((dacc ++ [z]) ++ ys).length ≤ sizeLine then .ok (.lst ((dacc ++ [z]) ++ ys)) S2 else .bad) := by
                refine ePost.up ?_ l4
                cases e5 : compL (turnC t own dσ fc fe) (xs.drop (i + 1)) S3 with
                | bad => rw [e5] at q3; exact q3.elim
                | ex w S4 => rw [e5] at q3; exact q3
                | ok w S4 =>
                  rw [e5] at q3
                  show ePost fx W g3 σ (tOf fx Q) (if ((dacc ++ [z]) ++ w).length ≤ sizeLine then .ok (.lst ((dacc ++ [z]) ++ w)) S4 else .bad)
                  rw [List.append_assoc]
                  exact q3
              have hlen : dacc.length < sizeLine := by
                obtain ⟨ys, S5, e5⟩ := compL_ok turn_nex q4
                rw [e5] at q4
                have q4 : ePost fx W g4 σ (tOf fx Q) (if ((dacc ++ [z]) ++ ys).length ≤ sizeLine then .ok (.lst ((dacc ++ [z]) ++ ys)) S5 else .bad) := q4
                by_cases hz : ((dacc ++ [z]) ++ ys).length ≤ sizeLine
                · simp only [List.length_append, List.length_cons, List.length_nil] at hz
                  omega
                · rw [if_neg hz] at q4
                  exact q4.elim
              exact ⟨acc, h5, by rw [ra4.length]; exact hlen, by omega, g4, S3, acc ++ [y], dacc ++ [z], hid H4 D0, ((le.trans l2).trans l3).trans l4, r5, hid_same, upd_hid.symm, ra4.append (RelL.one ry), q4⟩
          have q' : ePost fx W g' σ (tOf fx Q) (((turnC t own dσ fc fe dx S').bind fun o S3 => (compL (turnC t own dσ fc fe) (xs.drop (i + 1)) S3).bind fun ys S4 => .ok (o.toList ++ ys) S4).bind fun ys S2 => if (dacc ++ ys).length ≤ sizeLine then .ok (.lst (dacc ++ ys)) S2 else .bad) := q'
          rcases htt with htt | ⟨htt, hfc⟩
          · subst htt
            refine ⟨{ fx with B := upd fx.B D0 (.lst acc) }, rfl, rfl, g2, _, S', r2, sl2, ?_⟩
            unfold turnC at q'
            cases e3 : fc ((wipeD dσ own).set t (some dx)) S' with
            | bad => rw [e3] at q'; exact q'.elim
            | ex z S3 => rw [e3] at q'; exact q'.elim
            | ok z S3 =>
              rw [e3] at q'
              have q' : ePost fx W g' σ (tOf fx Q) (((noEx (match truD (look S3 z) with
                | some true => (fe ((wipeD dσ own).set t (some dx)) S3).bind fun z S3 => .ok (some z) S3
                | some false => .ok none S3
                | none => .bad)).bind fun o S3 => (compL (turnC t own dσ fc fe) (xs.drop (i + 1)) S3).bind fun ys S4 => .ok (o.toList ++ ys) S4).bind fun ys S2 => if (dacc ++ ys).length ≤ sizeLine then .ok (.lst (dacc ++ ys)) S2 else .bad) := q'
              intro g3 H3 l3 r3
              cases e4 : truD (look S3 z) with
              | none => rw [e4] at q'; exact q'.elim
              | some b =>
                rw [e4] at q'
                refine ⟨b, e4, ?_⟩
                cases b with
                | true => exact iteT (yes S3 g3 H3 l3 r3 (ePost.up q' (l2.trans l3)))
                | false =>
                  refine iteF ?_
                  obtain ⟨r5, h5⟩ := R.dropB r3 nB n0
                  have q5 : ePost fx W g' σ (tOf fx Q) ((compL (turnC t own dσ fc fe) (xs.drop (i + 1)) S3).bind fun ys S2 => if (dacc ++ ys).length ≤ sizeLine then .ok (.lst (dacc ++ ys)) S2 else .bad) := by
                    cases e5 : compL (turnC t own dσ fc fe) (xs.drop (i + 1)) S3 with
                    | bad =>
                      have q' : ePost fx W g' σ (tOf fx Q) (((compL (turnC t own dσ fc fe) (xs.drop (i + 1)) S3).bind fun ys S4 => .ok ([] ++ ys) S4).bind fun ys S2 => if (dacc ++ ys).length ≤ sizeLine then .ok (.lst (dacc ++ ys)) S2 else .bad) := q'
                      rw [e5] at q'
                      exact q'.elim
                    | ex w S4 =>
                      have q' : ePost fx W g' σ (tOf fx Q) (((compL (turnC t own dσ fc fe) (xs.drop (i + 1)) S3).bind fun ys S4 => .ok ([] ++ ys) S4).bind fun ys S2 => if (dacc ++ ys).length ≤ sizeLine then .ok (.lst (dacc ++ ys)) S2 else .bad) := q'
                      rw [e5] at q'
                      exact q'
                    | ok w S4 =>
                      have q' : ePost fx W g' σ (tOf fx Q) (((compL (turnC t own dσ fc fe) (xs.drop (i + 1)) S3).bind fun ys S4 => .ok ([] ++ ys) S4).bind fun ys S2 => if (dacc ++ ys).length ≤ sizeLine then .ok (.lst (dacc ++ ys)) S2 else .bad) := q'
                      rw [e5] at q'
                      exact q'
                  refine ⟨by omega, g3, S3, acc, dacc, hid H3 D0, (le.trans l2).trans l3, r5, hid_same, ?_, ((ra.mono l2).mono l3), ePost.up q5 (l2.trans l3)⟩
                  rw [upd_hid]
                  funext b
                  unfold upd
                  split
                  · rename_i hb
                    rw [hb, h5]
                  · rfl
          · subst htt hfc
            have z := yes S' g2 H2 (Gh.le.refl g2) r2 (ePost.up q' l2)
            simp only [tYes, ↓reduceIte]
            exact z
        · left
          have hr0 : R fx g' S' (upd H0 D0 (.lst acc)) := r'.same fun b o e => by rw [upd_ne (ne_of_none e hD0)]; exact e
          refine ⟨(hJ _ i g' S' _ rfl rfl le hr0).2 hi, ?_⟩
          rw [List.drop_eq_nil_of_le hi] at q'
          have q' : ePost fx W g' σ (tOf fx Q) (if (dacc ++ []).length ≤ sizeLine then .ok (.lst (dacc ++ [])) S' else .bad) := q'
          rw [List.append_nil] at q'
          by_cases hz : dacc.length ≤ sizeLine
          · rw [if_pos hz] at q'
            exact ePost.new q' r' hD0 fun g2 l2 e2 => .lst e2 (ra.mono l2)
          · rw [if_neg hz] at q'
            exact q'.elim
end
end MX
end

section
set_option maxRecDepth 100000
set_option maxHeartbeats 1000000
namespace MX
open PySem PySem.Spec PyProof.Rows L2

def sPost (fx : Fix) (W : WX) (g : Gh) (D : Ends) : SR → Prop
  | .nx dσ S => ∀ g' H' σ', g.le g' → R fx g' S H' → Sl fx g' dσ σ' → D.nx σ' H'
  | .bk dσ S => ∀ g' H' σ', g.le g' → R fx g' S H' → Sl fx g' dσ σ' → D.bk σ' H'
  | .ct dσ S => ∀ g' H' σ', g.le g' → R fx g' S H' → Sl fx g' dσ σ' → D.ct σ' H'
  | .rt d S => ∀ g' H' v, g.le g' → R fx g' S H' → RelD fx.K fx.ca g' v d → D.rt v H'
  | .ex x dσ S => ∀ cls dx g' H' σ', g.le g' → R fx g' S H' → Sl fx g' dσ σ' → RelX fx g' H' cls dx x → W cls dx σ' H'
  | .bad => False
def tS (fx : Fix) (W : WX) (f : DSt → Store → SR) : TS := fun D σ H => ∃ g dσ S, R fx g S H ∧ Sl fx g dσ σ ∧ sPost fx W g D (f dσ S)
theorem sPost.up {fx : Fix} {W : WX} {g g1 : Gh} {D : Ends} {r : SR} (h : sPost fx W g D r) (l : g.le g1) : sPost fx W g1 D r := by
  cases r with
  | nx d S => exact fun g' H' σ' l' => h g' H' σ' (l.trans l')
  | bk d S => exact fun g' H' σ' l' => h g' H' σ' (l.trans l')
  | ct d S => exact fun g' H' σ' l' => h g' H' σ' (l.trans l')
  | rt d S => exact fun g' H' v l' => h g' H' v (l.trans l')
  | ex x d S => exact fun c d g' H' σ' l' => h c d g' H' σ' (l.trans l')
  | bad => exact h
section
variable {fx : Fix} {W : WX} {g : Gh} {D : Ends} {σ : L2.St} {H : Hp} {dσ : DSt} {S : Store}
/-- an expression, then the rest -/
theorem tE.sr {f : DSt → Store → Res MX.D} {k : MX.D → Store → SR} (h : sPost fx W g D ((f dσ S).sr dσ k)) (r : R fx g S H) (sl : Sl fx g dσ σ) {Q' : VK}
    (hq : ∀ x S' v g' H', f dσ S = .ok x S' → g.le g' → R fx g' S' H' → RelD fx.K fx.ca g' v x → sPost fx W g' D (k x S') → Q' v H') : tE fx W f σ H Q' := by
  refine ⟨g, dσ, S, r, sl, ?_⟩
  cases e : f dσ S with
  | ok x S' =>
    rw [e] at h
    intro g' H' l r' v rv
    exact hq x S' v g' H' e l r' rv (sPost.up h l)
  | ex x S' =>
    rw [e] at h
    intro c d g' H' l r' rx
    exact h c d g' H' σ l r' (sl.mono l) rx
  | bad =>
    rw [e] at h
    exact h
theorem tT.sr {f : DSt → Store → Res MX.D} {k : MX.D → Store → SR} (h : sPost fx W g D ((f dσ S).sr dσ k)) (r : R fx g S H) (sl : Sl fx g dσ σ) {Q' : Bool → Hp → Prop}
    (hq : ∀ x S' g' H', f dσ S = .ok x S' → g.le g' → R fx g' S' H' → sPost fx W g' D (k x S') → ∃ b, truD (look S' x) = some b ∧ Q' b H') : tT fx W f σ H Q' := by
  refine ⟨g, dσ, S, r, sl, ?_⟩
  cases e : f dσ S with
  | ok x S' =>
    rw [e] at h
    intro g' H' l r'
    exact hq x S' g' H' e l r' (sPost.up h l)
  | ex x S' =>
    rw [e] at h
    intro c d g' H' l r' rx
    exact h c d g' H' σ l r' (sl.mono l) rx
  | bad =>
    rw [e] at h
    exact h
theorem tI.sr {f : DSt → Store → Res MX.D} {k : MX.D → Store → SR} (h : sPost fx W g D ((f dσ S).sr dσ k)) (r : R fx g S H) (sl : Sl fx g dσ σ) {Q' : It → Hp → Prop}
    (hq : ∀ x S' g' H', f dσ S = .ok x S' → g.le g' → R fx g' S' H' → sPost fx W g' D (k x S') → srcPost fx Q' g' x S' H') : tI fx W f σ H Q' := by
  refine ⟨g, dσ, S, r, sl, ?_⟩
  cases e : f dσ S with
  | ok x S' =>
    rw [e] at h
    intro g' H' l r'
    exact hq x S' g' H' e l r' (sPost.up h l)
  | ex x S' =>
    rw [e] at h
    intro c d g' H' l r' rx
    exact h c d g' H' σ l r' (sl.mono l) rx
  | bad =>
    rw [e] at h
    exact h
end
section
variable {X : Cx} {fx : Fix} {W : WX} {f h : DSt → Store → SR} {e : Expr} {fe : DSt → Store → Res D} {pos : Pos} {st : Stmt} {rest sb sc : List Stmt}
theorem ss_next {f : TS} : PSs X [] (tS fx W fun σ S => .nx σ S) := pss_imp pss_nil fun D σ H ⟨g, dσ, S, r, sl, q⟩ => q g H σ (Gh.le.refl g) r sl
theorem ss_pass : PS X (.Pass pos) (tS fx W fun σ S => .nx σ S) := ps_imp ps_pass fun D σ H ⟨g, dσ, S, r, sl, q⟩ => q g H σ (Gh.le.refl g) r sl
theorem ss_brk : PS X (.Break pos) (tS fx W fun σ S => .bk σ S) := ps_imp ps_break fun D σ H ⟨g, dσ, S, r, sl, q⟩ => q g H σ (Gh.le.refl g) r sl
theorem ss_cont : PS X (.Continue pos) (tS fx W fun σ S => .ct σ S) := ps_imp ps_continue fun D σ H ⟨g, dσ, S, r, sl, q⟩ => q g H σ (Gh.le.refl g) r sl
theorem ss_doc {x j p p'} : PS X (.Expr (.Constant (.str x) j p) p') (tS fx W fun σ S => .nx σ S) := ps_imp ps_doc fun D σ H ⟨g, dσ, S, r, sl, q⟩ => q g H σ (Gh.le.refl g) r sl
def seqS (f h : DSt → Store → SR) : DSt → Store → SR := fun σ S => match f σ S with
  | .nx σ1 S1 => h σ1 S1
  | r => r
theorem ss_seq (h1 : PS X st (tS fx W f)) (h2 : PSs X rest (tS fx W h)) : PSs X (st :: rest) (tS fx W (seqS f h)) := by
  refine pss_imp (pss_cons h1 h2) fun D σ H ⟨g, dσ, S, r, sl, q⟩ => ⟨g, dσ, S, r, sl, ?_⟩
  unfold seqS at q
  cases e : f dσ S with
  | nx d1 S1 =>
    rw [e] at q
    exact fun g' H' σ' l r' s' => ⟨g', d1, S1, r', s', sPost.up q l⟩
  | bk d1 S1 => rw [e] at q; exact q
  | ct d1 S1 => rw [e] at q; exact q
  | rt d1 S1 => rw [e] at q; exact q
  | ex x d1 S1 => rw [e] at q; exact q
  | bad => rw [e] at q; exact q
theorem ss_one (h1 : PS X st (tS fx W f)) : PSs X [st] (tS fx W f) := pss_one h1
theorem ss_asg {i : Nat} {x : Str} {p : Pos} (hN : X.N.Nodup) (hi : X.N[i]? = some x) (hx : Loc X.env.scope x) (he : PE X e (tE fx W fe)) (hs : swapsWith e (some (.Name x p)) pos.line X.env = pure false) (hf : X.fn x = true ∨ X.env.scope.names.lookup x = some .local) :
    PS X (.Assign [.Name x p] e pos) (tS fx W fun σ S => (fe σ S).sr σ fun d S1 => .nx (σ.set i (some d)) S1) := by
  refine ps_imp (ps_set hN hi hx he hs hf) fun D σ H ⟨g, dσ, S, r, sl, q⟩ => tE.sr q r sl fun d S1 v g1 H1 _ l1 r1 rv q1 => ?_
  exact q1 g1 H1 _ (Gh.le.refl g1) r1 ((sl.mono l1).set i rv)
theorem ss_ex (he : PE X e (tE fx W fe)) (hs : swapsWith e none pos.line X.env = pure false) : PS X (.Expr e pos) (tS fx W fun σ S => (fe σ S).sr σ fun _ S1 => .nx σ S1) := by
  refine ps_imp (ps_expr he hs) fun D σ H ⟨g, dσ, S, r, sl, q⟩ => tE.sr q r sl fun d S1 v g1 H1 _ l1 r1 rv q1 => ?_
  exact q1 g1 H1 σ (Gh.le.refl g1) r1 (sl.mono l1)
theorem ss_ret (he : PE X e (tE fx W fe)) : PS X (.Return (some e) pos) (tS fx W fun σ S => (fe σ S).sr σ fun d S1 => .rt d S1) := by
  refine ps_imp (ps_ret he) fun D σ H ⟨g, dσ, S, r, sl, q⟩ => tE.sr q r sl fun d S1 v g1 H1 _ l1 r1 rv q1 => ?_
  exact q1 g1 H1 v (Gh.le.refl g1) r1 rv
theorem ss_retN : PS X (.Return none pos) (tS fx W fun _ S => .rt .non S) := ps_imp ps_retN fun D σ H ⟨g, dσ, S, r, sl, q⟩ => q g H .non (Gh.le.refl g) r .non
theorem ss_if {fb fc : DSt → Store → SR} (he : PT X e (tT fx W fe)) (hb : PSs X sb (tS fx W fb)) (hc : PSs X sc (tS fx W fc)) : PS X (.If e sb sc pos) (tS fx W fun σ S => (fe σ S).sr σ fun x S1 => match truD (look S1 x) with
    | some true => fb σ S1
    | some false => fc σ S1
    | none => .bad) := by
  refine ps_imp (ps_if he hb hc) fun D σ H ⟨g, dσ, S, r, sl, q⟩ => tT.sr q r sl fun x S1 g1 H1 _ l1 r1 q1 => ?_
  cases e : truD (look S1 x) with
  | none => simp only [e] at q1; exact q1.elim
  | some b =>
    simp only [e] at q1
    refine ⟨b, rfl, ?_⟩
    cases b with
    | true => exact iteT ⟨g1, dσ, S1, r1, sl.mono l1, q1⟩
    | false => exact iteF ⟨g1, dσ, S1, r1, sl.mono l1, q1⟩
/-! ### while -/
theorem ss_whl {n : Nat} {fb : DSt → Store → SR} (hp : PassesOwn (model X.prog X.w) X.A X.env X.xe) (he : PT X e (tT fx W fe)) (hb : PSs X sb (tS fx W fb)) : PS X (.While e sb [] pos) (tS fx W fun σ S => whlL fe fb n σ S) := by
  refine ps_imp (ps_while hp he hb) fun D σ H ⟨g, dσ, S, r, sl, q⟩ => ?_
  refine ⟨fun m σ' H' => ∃ g' dσ' S', R fx g' S' H' ∧ Sl fx g' dσ' σ' ∧ sPost fx W g' D (whlL fe fb m dσ' S'), ⟨n, g, dσ, S, r, sl, q⟩, fun m σ' H' ⟨g', dσ', S', r', sl', q'⟩ => ?_⟩
  cases m with
  | zero => exact q'.elim
  | succ m =>
    have q' : sPost fx W g' D ((fe dσ' S').sr dσ' fun x S1 => match truD (look S1 x) with
      | some true => match fb dσ' S1 with
        | .nx σ1 S2 => whlL fe fb m σ1 S2
        | .ct σ1 S2 => whlL fe fb m σ1 S2
        | .bk σ1 S2 => .nx σ1 S2
        | .rt d S2 => .rt d S2
        | .ex x σ1 S2 => .ex x σ1 S2
        | .bad => .bad
      | some false => .nx dσ' S1
      | none => .bad) := q'
    refine tT.sr q' r' sl' fun x S1 g1 H1 _ l1 r1 q1 => ?_
    cases e : truD (look S1 x) with
    | none => simp only [e] at q1; exact q1.elim
    | some b =>
      simp only [e] at q1
      refine ⟨b, rfl, ?_⟩
      cases b with
      | false => exact iteF (q1 g1 H1 σ' (Gh.le.refl g1) r1 (sl'.mono l1))
      | true =>
        refine iteT ⟨fun σ2 H2 => ∃ g' dσ' S', R fx g' S' H2 ∧ Sl fx g' dσ' σ2 ∧ sPost fx W g' D (whlL fe fb m dσ' S'), fun σ2 H2 h2 => ⟨m, Nat.lt_succ_self m, h2⟩, g1, dσ', S1, r1, sl'.mono l1, ?_⟩
        have q1 : sPost fx W g1 D (match fb dσ' S1 with
          | .nx σ1 S2 => whlL fe fb m σ1 S2
          | .ct σ1 S2 => whlL fe fb m σ1 S2
          | .bk σ1 S2 => .nx σ1 S2
          | .rt d S2 => .rt d S2
          | .ex x σ1 S2 => .ex x σ1 S2
          | .bad => .bad) := q1
        cases e2 : fb dσ' S1 with
        | nx d1 S2 => rw [e2] at q1; exact fun g2 H2 σ2 l2 r2 s2 => ⟨g2, d1, S2, r2, s2, sPost.up q1 l2⟩
        | ct d1 S2 => rw [e2] at q1; exact fun g2 H2 σ2 l2 r2 s2 => ⟨g2, d1, S2, r2, s2, sPost.up q1 l2⟩
        | bk d1 S2 => rw [e2] at q1; exact q1
        | rt d1 S2 => rw [e2] at q1; exact q1
        | ex x d1 S2 => rw [e2] at q1; exact q1
        | bad => rw [e2] at q1; exact q1
/-! ### for -/
theorem ss_for {t : Nat} {tg : Expr} {fb : DSt → Store → SR} (hp : PassesOwn (model X.prog X.w) X.A X.env X.xe) (hc : X.calm = true) (hi : PI X tg e (tI fx W fe)) (hg : PG X tg (gName t)) (hb : PSs X sb (tS fx W fb)) (hs : ∀ x, foldedSetIterable e X.env x = pure x) :
    PS X (.For tg e sb [] pos) (tS fx W fun σ S => (fe σ S).sr σ fun d S1 => match still S1 d, itemsD S1 d with
      | true, some xs => forL (fun x σ S => fb (σ.set t (some x)) S) xs σ S1
      | _, _ => .bad) := by
  refine ps_imp (ps_for hp hc hi hg hb hs) fun D σ H ⟨g, dσ, S, r, sl, q⟩ => ?_
  show tI fx W fe σ H _
  refine tI.sr q r sl fun d S1 g1 H1 _ l1 r1 q1 => ?_
  cases st : still S1 d with
  | false => rw [st] at q1; exact q1.elim
  | true =>
    rw [st] at q1
    cases hx : itemsD S1 d with
    | none => rw [hx] at q1; exact q1.elim
    | some xs =>
      rw [hx] at q1
      refine ⟨st, xs, hx, fun J hJ => ?_⟩
      refine ⟨fun i m σ' H' => m + i = xs.length ∧ ∃ g' dσ' S', g1.le g' ∧ R fx g' S' H' ∧ Sl fx g' dσ' σ' ∧ sPost fx W g' D (forL (fun x σ S => fb (σ.set t (some x)) S) (xs.drop i) dσ' S'), ⟨xs.length, rfl, g1, dσ, S1, Gh.le.refl g1, r1, sl.mono l1, by rw [List.drop_zero]; exact q1⟩, ?_⟩
      intro i m σ' H' ⟨hm, g', dσ', S', le, r', sl', q'⟩
      rcases Nat.lt_or_ge i xs.length with hi | hi
      · right
        obtain ⟨hgo, hyl⟩ := (hJ fx i g' S' _ rfl rfl le r').1 hi
        refine ⟨hgo, fun σ2 H2 => m - 1 + (i + 1) = xs.length ∧ ∃ g' dσ' S', g1.le g' ∧ R fx g' S' H2 ∧ Sl fx g' dσ' σ2 ∧ sPost fx W g' D (forL (fun x σ S => fb (σ.set t (some x)) S) (xs.drop (i + 1)) dσ' S'), fun σ2 H2 h2 => ⟨m - 1, by omega, h2⟩, fun x H2 hy => ?_⟩
        obtain ⟨g2, dx, l2, r2, ex, rx⟩ := hyl x H2 hy
        have hd : xs.drop i = dx :: xs.drop (i + 1) := by
          rw [List.drop_eq_getElem_cons hi]
          rw [List.getElem?_eq_getElem hi] at ex
          rw [Option.some.inj ex]
        rw [hd] at q'
        refine ⟨g2, dσ'.set t (some dx), S', r2, (sl'.mono l2).set t rx, ?_⟩
        have q' : sPost fx W g' D (match fb (dσ'.set t (some dx)) S' with
          | .nx σ1 S1 => forL (fun x σ S => fb (σ.set t (some x)) S) (xs.drop (i + 1)) σ1 S1
          | .ct σ1 S1 => forL (fun x σ S => fb (σ.set t (some x)) S) (xs.drop (i + 1)) σ1 S1
          | .bk σ1 S1 => .nx σ1 S1
          | .rt d S1 => .rt d S1
          | .ex x σ1 S1 => .ex x σ1 S1
          | .bad => .bad) := q'
        cases e2 : fb (dσ'.set t (some dx)) S' with
        | nx d1 S2 =>
          rw [e2] at q'
          exact fun g3 H3 σ3 l3 r3 s3 => ⟨by omega, g3, d1, S2, (le.trans l2).trans l3, r3, s3, sPost.up q' (l2.trans l3)⟩
        | ct d1 S2 =>
          rw [e2] at q'
          exact fun g3 H3 σ3 l3 r3 s3 => ⟨by omega, g3, d1, S2, (le.trans l2).trans l3, r3, s3, sPost.up q' (l2.trans l3)⟩
        | bk d1 S2 =>
          rw [e2] at q'
          exact fun g3 H3 σ3 l3 r3 s3 => q' g3 H3 σ3 (l2.trans l3) r3 s3
        | rt d1 S2 =>
          rw [e2] at q'
          exact fun g3 H3 σ3 l3 r3 s3 => q' g3 H3 σ3 (l2.trans l3) r3 s3
        | ex x d1 S2 =>
          rw [e2] at q'
          exact fun c dd g3 H3 σ3 l3 r3 s3 => q' c dd g3 H3 σ3 (l2.trans l3) r3 s3
        | bad => rw [e2] at q'; exact q'
      · left
        refine ⟨(hJ fx i g' S' _ rfl rfl le r').2 hi, ?_⟩
        rw [List.drop_eq_nil_of_le hi] at q'
        exact q' g' H' σ' (Gh.le.refl g') r' sl'
/-! ### x op= e -/
theorem aug_op {op : Bop} {x y : D} {k : Int} (h : augI op x y = some k) : ∃ i j, x = .int i ∧ y = .int j ∧ ((op = .add ∧ k = i + j) ∨ (op = .sub ∧ k = i - j)) := by
  unfold augI at h
  split at h
  · cases h; exact ⟨_, _, rfl, rfl, .inl ⟨rfl, rfl⟩⟩
  · cases h; exact ⟨_, _, rfl, rfl, .inr ⟨rfl, rfl⟩⟩
  · cases h
theorem ss_aug {op : Bop} {i : Nat} {x : Str} {p : Pos} (hN : X.N.Nodup) (hi : X.N[i]? = some x) (hx : Loc X.env.scope x) (he : PE X e (tE fx W fe)) (hop : op = .add ∨ op = .sub) (hf : X.fn x = true ∨ X.env.scope.names.lookup x = some .local) :
    PS X (.AugAssign (.Name x p) op.op e pos) (tS fx W fun σ S => match σ[i]? with
    | some (some x) => (fe σ S).sr σ fun y S1 => match augI op x y with
      | some k => .nx (σ.set i (some (.int k))) S1
      | none => .bad
    | _ => .bad) := by
  have key : ∀ (ti : TIp), PIp X op.op ti → (∀ i j H Q, Q (.int (if op = .add then i + j else i - j)) H → ti (.int i) (.int j) H Q) → PS X (.AugAssign (.Name x p) op.op e pos) (tS fx W fun σ S => match σ[i]? with
    | some (some x) => (fe σ S).sr σ fun y S1 => match augI op x y with
      | some k => .nx (σ.set i (some (.int k))) S1
      | none => .bad
    | _ => .bad) := fun ti hti hq => by
    refine ps_imp (ps_aug hN hi hx he hti hf) fun D σ H ⟨g, dσ, S, r, sl, q⟩ => ?_
    cases e1 : dσ[i]? with
    | none => simp only [e1] at q; exact q.elim
    | some o =>
      cases o with
      | none => simp only [e1] at q; exact q.elim
      | some d =>
        simp only [e1] at q
        obtain ⟨v, h1, h2⟩ := sl.at_ i d e1
        refine ⟨v, h1, tE.sr q r sl fun y S1 w g1 H1 _ l1 r1 y1 q1 => ?_⟩
        cases e2 : augI op d y with
        | none => simp only [e2] at q1; exact q1.elim
        | some k =>
          simp only [e2] at q1
          obtain ⟨a, b, rfl, rfl, hk⟩ := aug_op e2
          have h3 := h2.iInt
          have h4 := y1.iInt
          subst h3 h4
          refine hq a b H1 _ ?_
          have ek : (if op = Bop.add then a + b else a - b) = k := by
            rcases hk with ⟨h5, h6⟩ | ⟨h5, h6⟩
            · rw [if_pos h5, h6]
            · rw [if_neg (by rw [h5]; decide), h6]
          rw [ek]
          exact q1 g1 H1 _ (Gh.le.refl g1) r1 ((sl.mono l1).set i (.int k))
  rcases hop with rfl | rfl
  · exact key _ ip_add fun a b H Q q => ⟨a, b, rfl, rfl, q⟩
  · exact key _ ip_sub fun a b H Q q => ⟨a, b, rfl, rfl, q⟩
end
end MX
end

section
set_option maxRecDepth 100000
set_option maxHeartbeats 1000000
namespace MX
open PySem PySem.Spec PyProof.Rows L2

/-- what a module's name is -/
inductive GK where | blt | int (i : Int) | fn (f : String)
  deriving DecidableEq
/-- what is known of a place in the text: the names by slot, the scope, the module's names -/
structure Gam where
  N : List Str
  sc : Scope
  gl : List (Str × GK)
def okName (x : Str) : Bool := !(x == ("__debug__" : Str)) && !(x == ("__classdict__" : Str))
def Gam.vis (Γ : Gam) (i : Nat) (x : Str) : Bool := decide (Γ.N[i]? = some x) && (decide (Γ.sc.names.lookup x = some .local) || (decide (Γ.sc.names.lookup x = some .cell) || decide (Γ.sc.names.lookup x = some .free)))
def Gam.loc (Γ : Gam) (i : Nat) (x : Str) : Bool := decide (Γ.N[i]? = some x) && (decide (Γ.sc.names.lookup x = some .local) || decide (Γ.sc.names.lookup x = some .cell))
def Gam.glo (Γ : Gam) (x : Str) (k : GK) : Bool := decide (Γ.sc.names.lookup x = some .globalImplicit) && decide (Γ.gl.lookup x = some k)
def notStar : Expr → Bool
  | .Starred _ _ => false
  | _ => true
def notSet : Expr → Bool
  | .Set _ _ _ => false
  | _ => true
def notIf : Expr → Bool
  | .IfExp _ _ _ _ => false
  | _ => true
def notSlice : Expr → Bool
  | .Slice _ _ _ _ => false
  | _ => true
def notComp : Expr → Bool
  | .ListComp _ _ _ _ => false
  | .SetComp _ _ _ _ => false
  | .DictComp _ _ _ _ _ => false
  | _ => true
/-- no call, at the head: super() is one -/
def notCall : Expr → Bool
  | .Call _ _ _ _ => false
  | _ => true
def isBool : Expr → Bool
  | .BoolOp _ _ _ => true
  | _ => false
def relS' (scope sc : Scope) : Scope :=
  { scope with names := scope.names.map fun (n, k) => if (k == .free && sc.kind == .function && sc.names.lookup n == some .cell) then (n, .cell) else (n, k) }
def Gam.blk (Γ : Gam) (scope : Scope) : Gam := { Γ with sc := relS' scope Γ.sc }
def ownN (Γ : Gam) (own : List Nat) : List (Str × Nat) := own.map fun i => (Γ.N.getD i Str.empty, i)
def nameArgs (Γ : Gam) : List Ty → Bool
  | [] => true
  | t :: r => Γ.glo (Str.ofString t.nm) .blt && nameArgs Γ r

def plainT : Expr → Bool
  | .UnaryOp .Not _ _ => false
  | .BoolOp _ _ _ => false
  | .IfExp _ _ _ _ => false
  | .Compare _ _ _ _ => false
  | _ => true
/-- a comprehension's one clause over a name -/
def genOk : List Comprehension → Bool
  | [⟨.Name _ _, _, _, a⟩] => decide (a = 0)
  | _ => false
def genT : List Comprehension → Str
  | ⟨.Name x _, _, _, _⟩ :: _ => x
  | _ => Str.empty
def genI : List Comprehension → Expr
  | ⟨_, i, _, _⟩ :: _ => i
  | [] => default
def genF : List Comprehension → List Expr
  | ⟨_, _, f, _⟩ :: _ => f
  | [] => []
theorem gen_of {gens : List Comprehension} (h : genOk gens = true) : ∃ p, gens = [⟨.Name (genT gens) p, genI gens, genF gens, 0⟩] := by
  match gens, h with
  | [⟨tg, i, f, a⟩], h =>
    cases tg with
    | Name x p =>
      have h : decide (a = 0) = true := h
      have := of_decide_eq_true h
      subst this
      exact ⟨p, rfl⟩
    | _ => cases h
  | [], h => cases h
  | ⟨tg, _, _, _⟩ :: _ :: _, h => cases tg <;> cases h
def tailB (op : BoolOp) (y : Expr) (rest : List Expr) (p : Pos) : Expr :=
  match rest with
  | [] => y
  | _ :: _ => .BoolOp op (y :: rest) p
def chkTy (cs : List Ty) : Expr → Bool
  | .Name y _ => decide (cs.map (fun t => Str.ofString t.nm) = [y])
  | .Tuple es _ _ => tyNames cs es
  | _ => false
mutual
def chkE (Γ : Gam) (m : Bool) : E → Expr → Bool
  | .var i, .Name x _ => Γ.vis i x && okName x
  | .int i, .Constant (.int j) _ _ => decide (i = j)
  | .bl b, .Constant (.bool c) _ _ => b == c
  | .non, .Constant .none _ _ => true
  | .str s, .Constant (.str x) _ _ => decide (x = Str.ofString s)
  | .gint x i, .Name y _ => decide (y = Str.ofString x) && (Γ.glo y (.int i) && okName y)
  | .bin op a b, .BinOp l o r _ => decide (o = op.op) && (chkE Γ false a l && chkE Γ false b r)
  | .neg a, .UnaryOp .USub x _ => chkE Γ false a x
  | .not a, .UnaryOp .Not x _ => notIf x && chkE Γ false a x
  | .cmp op a b, .Compare l [o] [r] _ => decide (o = op.op) && (notSet r && (chkE Γ false a l && chkE Γ false b r))
  | .and a b, .BoolOp .And (x :: y :: rest) p => notIf x && (chkE Γ false a x && chkE Γ false b (tailB .And y rest p) && notIf (tailB .And y rest p))
  | .or a b, .BoolOp .Or (x :: y :: rest) p => notIf x && (chkE Γ false a x && chkE Γ false b (tailB .Or y rest p) && notIf (tailB .Or y rest p))
  | .ife c a b, .IfExp t x y _ => notIf t && (chkE Γ false c t && (chkE Γ false a x && chkE Γ false b y))
  | .tup as, .Tuple es _ _ => chkA Γ as es
  | .lst as, .List es _ => chkA Γ as es
  | .cell as, .List es _ => chkA Γ as es
  | .frz a, e => plainT e && (notComp e && chkE Γ false a e)
  | .catc a b, .BinOp l .Add r _ => chkE Γ false a l && chkE Γ false b r
  | .idx a i, .Subscript x s _ => notSlice s && (chkE Γ false a x && chkE Γ false i s)
  | .cut a lo hi, .Subscript x (.Slice l h none _) _ => chkE Γ false a x && (chkO Γ lo l && chkO Γ hi h)
  | .call _ f as, .Call (.Name x _) es [] _ => !es.isEmpty && (Γ.glo x (.fn f) && (okName x && chkA Γ as es))
  | .bi b as, .Call (.Name x _) es [] _ => !es.isEmpty && (decide (x = Str.ofString b.nm) && (Γ.glo x .blt && chkA Γ as es))
  | .isi e cs, .Call (.Name x _) [v, t] [] _ => decide (x = ("isinstance" : Str)) && (Γ.glo x .blt && (notStar v && (chkE Γ false e v && (cs.all Ty.blt && (!cs.isEmpty && (decide (cs.length ≤ sizeLine) && (nameArgs Γ cs && chkTy cs t)))))))
  | .app o e, .Call (.Attribute x m ap) [v] [] cp => decide (m = ("append" : Str)) && ((ap.endLine == cp.line) && (notStar v && (notCall x && (chkE Γ false o x && chkE Γ false e v))))
  | .comp own t it c elt, .ListComp el gens scope _ =>
    genOk gens && (own.contains t && (decide (Γ.N[t]? = some (genT gens)) && (blkC Γ.N Γ.sc scope (ownN Γ own) && (((Γ.blk scope).loc t (genT gens) && (decide ((Γ.blk scope).sc.names.lookup (genT gens) = some .local) || decide (scope.names.lookup (genT gens) = some .cell))) && (notSet (genI gens) &&
    (chkE Γ true it (genI gens) &&
    (chkC (Γ.blk scope) c (genF gens) && chkE (Γ.blk scope) false elt el)))))))
  | .irng1 a, .Call (.Name r _) [x] [] _ => m && (decide (r = ("range" : Str)) && (Γ.glo r .blt && (notStar x && chkE Γ false a x)))
  | .irng2 a b, .Call (.Name r _) [x, y] [] _ => m && (decide (r = ("range" : Str)) && (Γ.glo r .blt && (notStar x && (notStar y && (chkE Γ false a x && chkE Γ false b y)))))
  | _, _ => false
def chkO (Γ : Gam) : E → Option Expr → Bool
  | .nopart, none => true
  | .part e, some z => chkE Γ false e z
  | _, _ => false
def chkC (Γ : Gam) : E → List Expr → Bool
  | .bl true, [] => true
  | .cnd c, [i] => notIf i && chkE Γ false c i
  | _, _ => false
def chkA (Γ : Gam) : E → List Expr → Bool
  | .anil, [] => true
  | .acons e r, x :: xs => notStar x && (chkE Γ false e x && chkA Γ r xs)
  | _, _ => false
end
end MX
end

section
set_option maxRecDepth 100000
set_option maxHeartbeats 4000000
namespace MX
open PySem PySem.Spec PyProof.Rows L2

def GOk (P : Prog) (n : Nat) (fx : Fix) (X : Cx) (x : Str) : GK → Prop
  | .blt => X.mg x = none
  | .int i => ∃ t, X.mg x = some (.int i t)
  | .fn f => CallOk P n fx.K fx.ca X x f
structure XOk (P : Prog) (n : Nat) (Γ : Gam) (fx : Fix) (W : WX) (X : Cx) : Prop where
  hK : fx.K = X.K
  nd : X.N.Nodup
  N : X.N = Γ.N
  sc : X.env.scope = Γ.sc
  calm : X.calm = true
  tk : Takes X W
  un : X.A.units + 64 < cLine
  gl : ∀ x k, Γ.gl.lookup x = some k → GOk P n fx X x k
theorem isTrue_of {e : Expr} {env : Env} (h : plainT e = true) (whole : Sem Value) : isTrue e env whole = (do let v ← whole; standAt e.pos; holding [v] (truthy v)) := by
  cases e with
  | UnaryOp op x p => cases op <;> first | rfl | cases h
  | _ => first | rfl | cases h
theorem star_of {e : Expr} {es : List Expr} {env : Env} (h : notStar e = true) : starEach (e :: es) env = (false, eval e env) :: starEach es env := by
  cases e <;> first | rfl | cases h
theorem fold_of {e : Expr} {env : Env} (h : notSet e = true) (x : Value) : foldedSetIterable e env x = pure x := by
  cases e <;> first | rfl | cases h
theorem mark_of {e : Expr} (op : CmpOp) (h : notSet e = true) : behindInMarks op e = false := by
  cases e <;> first | rfl | cases h
theorem base_of {e : Expr} {attr : Str} {env : Env} (h : notCall e = true) : attributeBase e attr env (eval e env) = eval e env := by
  cases e <;> first | rfl | cases h
theorem plainIx_of {e : Expr} (h : notSlice e = true) : PlainIx e := fun o i => by
  cases e <;> first | rfl | cases h
section
variable {P : Prog} {n : Nat} {Γ : Gam} {fx : Fix} {W : WX} {X : Cx}
theorem XOk.glo (h : XOk P n Γ fx W X) {x : Str} {k : GK} (g : Γ.glo x k = true) : Gl X x ∧ GOk P n fx X x k := by
  unfold Gam.glo at g
  rw [Bool.and_eq_true] at g
  refine ⟨?_, h.gl x k (of_decide_eq_true g.2)⟩
  show X.env.scope.names.lookup x = _
  rw [h.sc]
  exact of_decide_eq_true g.1
theorem XOk.vis (h : XOk P n Γ fx W X) {x : Str} {i : Nat} (g : Γ.vis i x = true) : X.N[i]? = some x ∧ Vis X.env.scope x := by
  unfold Gam.vis at g
  rw [Bool.and_eq_true, Bool.or_eq_true, Bool.or_eq_true] at g
  refine ⟨by rw [h.N]; exact of_decide_eq_true g.1, ?_⟩
  unfold Vis
  rw [h.sc]
  rcases g.2 with e | e | e
  · exact .inl (of_decide_eq_true e)
  · exact .inr (.inl (of_decide_eq_true e))
  · exact .inr (.inr (of_decide_eq_true e))
theorem XOk.loc (h : XOk P n Γ fx W X) {x : Str} {i : Nat} (g : Γ.loc i x = true) : X.N[i]? = some x ∧ L2.Loc X.env.scope x := by
  unfold Gam.loc at g
  rw [Bool.and_eq_true, Bool.or_eq_true] at g
  refine ⟨by rw [h.N]; exact of_decide_eq_true g.1, ?_⟩
  unfold L2.Loc
  rw [h.sc]
  rcases g.2 with e | e
  · exact .inl (of_decide_eq_true e)
  · exact .inr (of_decide_eq_true e)
theorem takesF {X : Cx} : Takes X W0 := fun _ _ x => by
  obtain ⟨_, _, _, _, _, _, _, _, _, _, _, _, _, _, _, _, z⟩ := x
  exact z.elim
theorem okName_of {x : Str} (h : okName x = true) : (x == ("__debug__" : Str)) = false ∧ (x == ("__classdict__" : Str)) = false := by
  unfold okName at h
  rw [Bool.and_eq_true, Bool.not_eq_true', Bool.not_eq_true'] at h
  exact h
/-- a comprehension's block is such a place -/
theorem XOk.blk (h : XOk P n Γ fx W X) (s : Shared) (H : Hp) (scope : Scope) (C : Addr) (cl : List (Str × Addr)) (fp : List Addr) (fx' : Fix) (k1 : fx'.K = fx.K) (k2 : fx'.ca = fx.ca) : XOk P n (Γ.blk scope) fx' W0 (X.blk s H scope (compEnvC scope cl C X.env) fp) := by
  refine ⟨k1.trans h.hK, h.nd, h.N, ?_, h.calm, takesF, h.un, fun x k e => ?_⟩
  · show relabel scope X.env = relS' scope Γ.sc
    rw [← h.sc]
    rfl
  · have z := h.gl x k e
    cases k with
    | blt => exact z
    | int i => exact z
    | fn f =>
      have z : CallOk P n fx.K fx.ca X x f := z
      show CallOk P n fx'.K fx'.ca _ x f
      rw [k1, k2]
      exact ⟨z.ex⟩
end
/-- what is shown of a code -/
structure Snd (P : Prog) (n : Nat) (c : E) (Γ : Gam) (fx : Fix) (W : WX) (X : Cx) : Prop where
  e : ∀ e, chkE Γ false c e = true → PE X e (tE fx W (evE (run P n) c))
  t : ∀ e, chkE Γ false c e = true → notIf e = true → PT X e (tT fx W (evE (run P n) c))
  w : ∀ e, chkE Γ false c e = true → isBool e = true → PW X e (tT fx W (evE (run P n) c))
  i : ∀ tg e, chkE Γ true c e = true → PI X tg e (tI fx W (evE (run P n) c))
  a : ∀ es, chkA Γ c es = true → PA X es (tA fx W (evE (run P n) c))
section
variable {P : Prog} {n : Nat} {c : E} {Γ : Gam} {fx : Fix} {W : WX} {X : Cx}
/-- a code whose expressions are plain tests -/
theorem Snd.plain (h : XOk P n Γ fx W X) (he : ∀ e, chkE Γ false c e = true → PE X e (tE fx W (evE (run P n) c)) ∧ plainT e = true) (hm : ∀ e, chkE Γ true c e = true → chkE Γ false c e = true) (ha : ∀ es, chkA Γ c es = false) : Snd P n c Γ fx W X where
  e := fun e k => (he e k).1
  t := fun e k _ => t_truth h.hK (he e k).1 (isTrue_of (he e k).2)
  w := fun e k b => by
    have := (he e k).2
    cases e <;> first | (cases b; done) | (cases this; done)
  i := fun tg e k => i_seq h.hK (he e (hm e k)).1
  a := fun es k => by rw [ha es] at k; cases k
theorem snd_var {i : Nat} (h : XOk P n Γ fx W X) : Snd P n (.var i) Γ fx W X := by
  refine Snd.plain h (fun e k => ?_) (fun e k => ?_) (fun es => ?_)
  · cases e with
    | Name x p =>
      have k : (Γ.vis i x && okName x) = true := k
      rw [Bool.and_eq_true] at k
      obtain ⟨h1, h2⟩ := h.vis k.1
      obtain ⟨h3, h4⟩ := okName_of k.2
      exact ⟨s_var (pe_var h1 h2 h3 h4), rfl⟩
    | _ => cases k
  · cases e <;> first | (cases k; done) | exact k | (rename_i v _ _; cases v <;> first | (cases k; done) | exact k)
  · cases es <;> rfl
theorem snd_int {i : Int} (h : XOk P n Γ fx W X) : Snd P n (.int i) Γ fx W X := by
  refine Snd.plain h (fun e k => ?_) (fun e k => ?_) (fun es => ?_)
  · cases e with
    | Constant v j p =>
      cases v with
      | int j =>
        have k : decide (i = j) = true := k
        have := of_decide_eq_true k
        subst this
        exact ⟨s_const pe_int fun g => .int _, rfl⟩
      | _ => cases k
    | _ => cases k
  · cases e <;> first | (cases k; done) | exact k | (rename_i v _ _; cases v <;> first | (cases k; done) | exact k)
  · cases es <;> rfl
theorem snd_bl {i : Bool} (h : XOk P n Γ fx W X) : Snd P n (.bl i) Γ fx W X := by
  refine Snd.plain h (fun e k => ?_) (fun e k => ?_) (fun es => ?_)
  · cases e with
    | Constant v j p =>
      cases v with
      | bool j =>
        have k : (i == j) = true := k
        have := eq_of_beq k
        subst this
        exact ⟨s_const pe_bl fun g => .bl _, rfl⟩
      | _ => cases k
    | _ => cases k
  · cases e <;> first | (cases k; done) | exact k | (rename_i v _ _; cases v <;> first | (cases k; done) | exact k)
  · cases es <;> rfl
theorem snd_non (h : XOk P n Γ fx W X) : Snd P n .non Γ fx W X := by
  refine Snd.plain h (fun e k => ?_) (fun e k => ?_) (fun es => ?_)
  · cases e with
    | Constant v j p =>
      cases v with
      | none => exact ⟨s_const pe_non fun g => .non, rfl⟩
      | _ => cases k
    | _ => cases k
  · cases e <;> first | (cases k; done) | exact k | (rename_i v _ _; cases v <;> first | (cases k; done) | exact k)
  · cases es <;> rfl
theorem snd_str {s : String} (h : XOk P n Γ fx W X) : Snd P n (.str s) Γ fx W X := by
  refine Snd.plain h (fun e k => ?_) (fun e k => ?_) (fun es => ?_)
  · cases e with
    | Constant v j p =>
      cases v with
      | str j =>
        have k : decide (j = Str.ofString s) = true := k
        have := of_decide_eq_true k
        subst this
        exact ⟨s_const pe_str fun g => .str _, rfl⟩
      | _ => cases k
    | _ => cases k
  · cases e <;> first | (cases k; done) | exact k | (rename_i v _ _; cases v <;> first | (cases k; done) | exact k)
  · cases es <;> rfl
theorem snd_gint {x : String} {i : Int} (h : XOk P n Γ fx W X) : Snd P n (.gint x i) Γ fx W X := by
  refine Snd.plain h (fun e k => ?_) (fun e k => ?_) (fun es => ?_)
  · cases e with
    | Name y p =>
      have k : (decide (y = Str.ofString x) && (Γ.glo y (.int i) && okName y)) = true := k
      simp only [Bool.and_eq_true] at k
      obtain ⟨k1, k2, k3⟩ := k
      obtain ⟨h1, t, h2⟩ := h.glo k2
      exact ⟨s_const (v := .int i) (pe_glob h1 h2 ⟨t, rfl⟩ (okName_of k3).1) fun g => .int _, rfl⟩
    | _ => cases k
  · cases e <;> first | (cases k; done) | exact k | (rename_i v _ _; cases v <;> first | (cases k; done) | exact k)
  · cases es <;> rfl
theorem snd_bin {op : Bop} {a b : E} (h : XOk P n Γ fx W X) (sa : Snd P n a Γ fx W X) (sb : Snd P n b Γ fx W X) : Snd P n (.bin op a b) Γ fx W X := by
  refine Snd.plain h (fun e k => ?_) (fun e k => ?_) (fun es => ?_)
  · cases e with
    | BinOp l o r p =>
      have k : (decide (o = op.op) && (chkE Γ false a l && chkE Γ false b r)) = true := k
      simp only [Bool.and_eq_true] at k
      obtain ⟨k1, k2, k3⟩ := k
      have := of_decide_eq_true k1
      subst this
      exact ⟨s_bin (opD_bin op h.hK) (sa.e l k2) (sb.e r k3), rfl⟩
    | _ => cases k
  · cases e <;> first | (cases k; done) | exact k | (rename_i v _ _; cases v <;> first | (cases k; done) | exact k)
  · cases es <;> rfl
theorem snd_frz {a : E} (h : XOk P n Γ fx W X) (sa : Snd P n a Γ fx W X) : Snd P n (.frz a) Γ fx W X := by
  refine Snd.plain h (fun e k => ?_) (fun e k => k) (fun es => by cases es <;> rfl)
  have k : (plainT e && (notComp e && chkE Γ false a e)) = true := k
  simp only [Bool.and_eq_true] at k
  exact ⟨s_frz (sa.e e k.2.2), k.1⟩
theorem snd_catc {a b : E} (h : XOk P n Γ fx W X) (sa : Snd P n a Γ fx W X) (sb : Snd P n b Γ fx W X) : Snd P n (.catc a b) Γ fx W X := by
  refine Snd.plain h (fun e k => ?_) (fun e k => ?_) (fun es => ?_)
  · cases e with
    | BinOp l o r p =>
      cases o with
      | Add =>
        have k : (chkE Γ false a l && chkE Γ false b r) = true := k
        simp only [Bool.and_eq_true] at k
        exact ⟨s_bin opD_cat (sa.e l k.1) (sb.e r k.2), rfl⟩
      | _ => cases k
    | _ => cases k
  · cases e <;> first | (cases k; done) | exact k | (rename_i o _ _; cases o <;> first | (cases k; done) | exact k)
  · cases es <;> rfl
theorem snd_neg {a : E} (h : XOk P n Γ fx W X) (sa : Snd P n a Γ fx W X) : Snd P n (.neg a) Γ fx W X := by
  refine Snd.plain h (fun e k => ?_) (fun e k => ?_) (fun es => ?_)
  · cases e with
    | UnaryOp o x p =>
      cases o with
      | USub => exact ⟨s_neg (sa.e x k), rfl⟩
      | _ => cases k
    | _ => cases k
  · cases e with
    | UnaryOp o x p => cases o <;> first | (cases k; done) | exact k
    | _ => cases k
  · cases es <;> rfl
theorem snd_tup {a : E} (h : XOk P n Γ fx W X) (sa : Snd P n a Γ fx W X) : Snd P n (.tup a) Γ fx W X := by
  refine Snd.plain h (fun e k => ?_) (fun e k => ?_) (fun es => ?_)
  · cases e with
    | Tuple es x p => exact ⟨s_tup (sa.a es k), rfl⟩
    | _ => cases k
  · cases e <;> first | (cases k; done) | exact k | (rename_i v _ _; cases v <;> first | (cases k; done) | exact k)
  · cases es <;> rfl
theorem snd_lst {a : E} (h : XOk P n Γ fx W X) (sa : Snd P n a Γ fx W X) : Snd P n (.lst a) Γ fx W X := by
  refine Snd.plain h (fun e k => ?_) (fun e k => ?_) (fun es => ?_)
  · cases e with
    | List es p => exact ⟨s_lst (sa.a es k), rfl⟩
    | _ => cases k
  · cases e <;> first | (cases k; done) | exact k | (rename_i v _ _; cases v <;> first | (cases k; done) | exact k)
  · cases es <;> rfl
theorem snd_cell {a : E} (h : XOk P n Γ fx W X) (sa : Snd P n a Γ fx W X) : Snd P n (.cell a) Γ fx W X := by
  refine Snd.plain h (fun e k => ?_) (fun e k => ?_) (fun es => ?_)
  · cases e with
    | List es p => exact ⟨s_cell (sa.a es k), rfl⟩
    | _ => cases k
  · cases e <;> first | (cases k; done) | exact k | (rename_i v _ _; cases v <;> first | (cases k; done) | exact k)
  · cases es <;> rfl
theorem snd_idx {a b : E} (h : XOk P n Γ fx W X) (sa : Snd P n a Γ fx W X) (sb : Snd P n b Γ fx W X) : Snd P n (.idx a b) Γ fx W X := by
  refine Snd.plain h (fun e k => ?_) (fun e k => ?_) (fun es => ?_)
  · cases e with
    | Subscript x s p =>
      have k : (notSlice s && (chkE Γ false a x && chkE Γ false b s)) = true := k
      simp only [Bool.and_eq_true] at k
      obtain ⟨k1, k2, k3⟩ := k
      exact ⟨s_idx h.hK (sa.e x k2) (sb.e s k3) (plainIx_of k1), rfl⟩
    | _ => cases k
  · cases e <;> first | (cases k; done) | exact k | (rename_i v _ _; cases v <;> first | (cases k; done) | exact k)
  · cases es <;> rfl
theorem snd_cut {a lo hi : E} (h : XOk P n Γ fx W X) (sa : Snd P n a Γ fx W X) (sl : ∀ e, lo = .part e → Snd P n e Γ fx W X) (sh : ∀ e, hi = .part e → Snd P n e Γ fx W X) : Snd P n (.cut a lo hi) Γ fx W X := by
  refine Snd.plain h (fun e k => ?_) (fun e k => ?_) (fun es => ?_)
  · cases e with
    | Subscript x s p =>
      cases s with
      | Slice l u st p2 =>
        cases st with
        | some st => cases k
        | none =>
          have k : (chkE Γ false a x && (chkO Γ lo l && chkO Γ hi u)) = true := k
          simp only [Bool.and_eq_true] at k
          obtain ⟨k1, k2, k3⟩ := k
          have part : ∀ (c : E) (o : Option Expr), (∀ e, c = .part e → Snd P n e Γ fx W X) → chkO Γ c o = true → PO X o (tO fx W (evE (run P n) c)) := fun c o sc kc => by
            cases c <;> cases o <;> first | (cases kc; done) | skip
            · exact o_none
            · exact o_some ((sc _ rfl).e _ kc)
          exact ⟨s_cut h.hK (sa.e x k1) (part lo l sl k2) (part hi u sh k3), rfl⟩
      | _ => cases k
    | _ => cases k
  · cases e with
    | Subscript x s p =>
      cases s with
      | Slice l u st p2 => cases st <;> first | (cases k; done) | exact k
      | _ => cases k
    | _ => cases k
  · cases es <;> rfl
theorem star_none {es : List Expr} {pos : Pos} {env : Env} : ∀ {c : E}, chkA Γ c es = true → (backTo pos (starEach es env)).any (·.1) = false := by
  induction es with
  | nil => exact fun _ => rfl
  | cons x r ih =>
    intro c k
    cases c with
    | acons e q =>
      have k : (notStar x && (chkE Γ false e x && chkA Γ q r)) = true := k
      simp only [Bool.and_eq_true] at k
      rw [star_of k.1]
      exact ih k.2.2
    | _ => cases k
theorem args_of {e : Expr} {es : List Expr} {pos : Pos} {env : Env} {c : E} (k : chkA Γ c (e :: es) = true) : starEach (e :: es) env = (false, eval e env) :: starEach es env ∧ (backTo pos (starEach es env)).any (·.1) = false := by
  cases c with
  | acons u q =>
    have k : (notStar e && (chkE Γ false u e && chkA Γ q es)) = true := k
    simp only [Bool.and_eq_true] at k
    exact ⟨star_of k.1, star_none k.2.2⟩
  | _ => cases k
theorem snd_call {m : Mode} {f : String} {a : E} (h : XOk P n Γ fx W X) (sa : Snd P n a Γ fx W X) : Snd P n (.call m f a) Γ fx W X := by
  refine Snd.plain h (fun e k => ?_) (fun e k => ?_) (fun es => ?_)
  · cases e with
    | Call fn es kw p =>
      cases fn with
      | Name x p2 =>
        cases kw with
        | cons z zs => cases k
        | nil =>
          have k : (!es.isEmpty && (Γ.glo x (.fn f) && (okName x && chkA Γ a es))) = true := k
          simp only [Bool.and_eq_true] at k
          obtain ⟨k1, k2, k3, k4⟩ := k
          cases es with
          | nil => cases k1
          | cons e es =>
            obtain ⟨h1, h2⟩ := h.glo k2
            obtain ⟨h3, h4⟩ := args_of (pos := p) (env := X.env) k4
            exact ⟨s_call h.hK h.tk h1 h2 (sa.a _ k4) (okName_of k3).1 h3 h4, rfl⟩
      | _ => cases k
    | _ => cases k
  · cases e with
    | Call fn es kw p => cases fn <;> first | (cases k; done) | (cases kw <;> first | (cases k; done) | exact k)
    | _ => cases k
  · cases es <;> rfl
theorem snd_bi {b : Bi} {a : E} (h : XOk P n Γ fx W X) (sa : Snd P n a Γ fx W X) : Snd P n (.bi b a) Γ fx W X := by
  refine Snd.plain h (fun e k => ?_) (fun e k => ?_) (fun es => ?_)
  · cases e with
    | Call fn es kw p =>
      cases fn with
      | Name x p2 =>
        cases kw with
        | cons z zs => cases k
        | nil =>
          have k : (!es.isEmpty && (decide (x = Str.ofString b.nm) && (Γ.glo x .blt && chkA Γ a es))) = true := k
          simp only [Bool.and_eq_true] at k
          obtain ⟨k1, k2, k3, k4⟩ := k
          cases es with
          | nil => cases k1
          | cons e es =>
            obtain ⟨h1, h2⟩ := h.glo k3
            obtain ⟨h3, h4⟩ := args_of (pos := p) (env := X.env) k4
            exact ⟨s_bi h.hK h.calm (of_decide_eq_true k2) h1 h2 (sa.a _ k4) h3 h4, rfl⟩
      | _ => cases k
    | _ => cases k
  · cases e with
    | Call fn es kw p => cases fn <;> first | (cases k; done) | (cases kw <;> first | (cases k; done) | exact k)
    | _ => cases k
  · cases es <;> rfl
theorem names_of (h : XOk P n Γ fx W X) : ∀ {ts : List Ty}, nameArgs Γ ts = true → ∀ t ∈ ts, Gl X (Str.ofString t.nm) ∧ X.mg (Str.ofString t.nm) = none
  | t :: r, k, u, hu => by
    unfold nameArgs at k
    rw [Bool.and_eq_true] at k
    rcases List.mem_cons.mp hu with e | e
    · subst e
      exact h.glo k.1
    · exact names_of h k.2 u e
theorem snd_isi {a : E} {cs : List Ty} (h : XOk P n Γ fx W X) (sa : Snd P n a Γ fx W X) : Snd P n (.isi a cs) Γ fx W X := by
  refine Snd.plain h (fun e k => ?_) (fun e k => ?_) (fun es => ?_)
  · cases e with
    | Call fn es kw p =>
      cases fn with
      | Name x p2 =>
        match es, kw, k with
        | [v, t], [], k =>
          have k : (decide (x = ("isinstance" : Str)) && (Γ.glo x .blt && (notStar v && (chkE Γ false a v && (cs.all Ty.blt && (!cs.isEmpty && (decide (cs.length ≤ sizeLine) && (nameArgs Γ cs && chkTy cs t)))))))) = true := k
          simp only [Bool.and_eq_true] at k
          obtain ⟨k1, k2, k3, k4, k5, k6, k7, k8, k9⟩ := k
          have := of_decide_eq_true k1
          subst this
          obtain ⟨h1, h2⟩ := h.glo k2
          have hn := names_of h k8
          have hst : starEach [v, t] X.env = (false, eval v X.env) :: starEach [t] X.env := star_of k3
          refine ⟨?_, rfl⟩
          cases t with
          | Name y p3 =>
            have k9 := of_decide_eq_true k9
            match cs, k9 with
            | [t0], k9 =>
              have ey : y = Str.ofString t0.nm := by
                have := List.cons.inj k9
                exact this.1.symm
              obtain ⟨h3, h4⟩ := hn t0 List.mem_cons_self
              rw [List.all_cons, Bool.and_eq_true] at k5
              subst ey
              exact s_isi h.hK k5.1 h1 h2 rfl h3 h4 (sa.e v k4) hst
          | Tuple es x1 p3 =>
            refine s_isiT h.hK (fun z => ?_) (of_decide_eq_true k7) k9 k5 h1 h2 hn (sa.e v k4) hst
            subst z
            cases k6
          | _ => cases k9
        | [], [], k => cases k
        | [_], [], k => cases k
        | _ :: _ :: _ :: _, [], k => cases k
        | [], _ :: _, k => cases k
        | [_], _ :: _, k => cases k
        | [_, _], _ :: _, k => cases k
        | _ :: _ :: _ :: _, _ :: _, k => cases k
      | _ => cases k
    | _ => cases k
  · cases e with
    | Call fn es kw p =>
      cases fn with
      | Name x p2 =>
        match es, kw, k with
        | [v, t], [], k => exact k
        | [], [], k => cases k
        | [_], [], k => cases k
        | _ :: _ :: _ :: _, [], k => cases k
        | [], _ :: _, k => cases k
        | [_], _ :: _, k => cases k
        | [_, _], _ :: _, k => cases k
        | _ :: _ :: _ :: _, _ :: _, k => cases k
      | _ => cases k
    | _ => cases k
  · cases es <;> rfl
theorem snd_not {a : E} (h : XOk P n Γ fx W X) (sa : Snd P n a Γ fx W X) : Snd P n (.not a) Γ fx W X where
  e := fun e k => by
    cases e with
    | UnaryOp o x p =>
      cases o with
      | Not =>
        have k : (notIf x && chkE Γ false a x) = true := k
        rw [Bool.and_eq_true] at k
        exact s_not h.hK (sa.e x k.2)
      | _ => cases k
    | _ => cases k
  t := fun e k _ => by
    cases e with
    | UnaryOp o x p =>
      cases o with
      | Not =>
        have k : (notIf x && chkE Γ false a x) = true := k
        rw [Bool.and_eq_true] at k
        exact t_not (sa.t x k.2 k.1)
      | _ => cases k
    | _ => cases k
  w := fun e k b => by
    cases e <;> first | (cases b; done) | (cases k; done)
  i := fun tg e k => by
    cases e with
    | UnaryOp o x p =>
      cases o with
      | Not =>
        have k : (notIf x && chkE Γ false a x) = true := k
        rw [Bool.and_eq_true] at k
        exact i_seq h.hK (s_not h.hK (sa.e x k.2))
      | _ => cases k
    | _ => cases k
  a := fun es k => by cases es <;> cases k
theorem snd_cmp {op : Cop} {a b : E} (h : XOk P n Γ fx W X) (sa : Snd P n a Γ fx W X) (sb : Snd P n b Γ fx W X) : Snd P n (.cmp op a b) Γ fx W X := by
  have key : ∀ m e, chkE Γ m (.cmp op a b) e = true → ∃ l r p, e = .Compare l [op.op] [r] p ∧ notSet r = true ∧ chkE Γ false a l = true ∧ chkE Γ false b r = true := fun m e k => by
    cases e with
    | Compare l ops rs p =>
      match ops, rs, k with
      | [o], [r], k =>
        have k : (decide (o = op.op) && (notSet r && (chkE Γ false a l && chkE Γ false b r))) = true := k
        simp only [Bool.and_eq_true] at k
        obtain ⟨k1, k2, k3, k4⟩ := k
        have := of_decide_eq_true k1
        subst this
        exact ⟨l, r, p, rfl, k2, k3, k4⟩
      | [], [], k => cases k
      | [], [_], k => cases k
      | [], _ :: _ :: _, k => cases k
      | [_], [], k => cases k
      | [_], _ :: _ :: _, k => cases k
      | _ :: _ :: _, [], k => cases k
      | _ :: _ :: _, [_], k => cases k
      | _ :: _ :: _, _ :: _ :: _, k => cases k
    | _ => cases k
  have he : ∀ m e, chkE Γ m (.cmp op a b) e = true → PE X e (tE fx W (evE (run P n) (.cmp op a b))) := fun m e k => by
    obtain ⟨l, r, p, rfl, h1, h2, h3⟩ := key m e k
    exact s_cmp (opD_cmp op h.hK h.un) (sa.e l h2) (sb.e r h3) (mark_of _ h1)
  exact ⟨fun e k => he _ e k, fun e k _ => (by
    obtain ⟨l, r, p, rfl, h1, h2, h3⟩ := key _ e k
    exact s_cmpT (opD_cmp op h.hK h.un) (sa.e l h2) (sb.e r h3) (mark_of _ h1)), fun e k b => (by
    obtain ⟨l, r, p, rfl, _⟩ := key _ e k
    cases b), fun tg e k => i_seq h.hK (he _ e k), fun es k => (by cases es <;> cases k)⟩
theorem snd_and {a b : E} (h : XOk P n Γ fx W X) (sa : Snd P n a Γ fx W X) (sb : Snd P n b Γ fx W X) : Snd P n (.and a b) Γ fx W X := by
  have key : ∀ m e, chkE Γ m (.and a b) e = true → ∃ x y rest p, e = .BoolOp .And (x :: y :: rest) p ∧ notIf x = true ∧ chkE Γ false a x = true ∧ chkE Γ false b (tailB .And y rest p) = true ∧ notIf (tailB .And y rest p) = true := fun m e k => by
    cases e with
    | BoolOp o vs p =>
      cases o with
      | Or => cases k
      | And =>
        match vs, k with
        | x :: y :: rest, k =>
          have k : (notIf x && (chkE Γ false a x && chkE Γ false b (tailB .And y rest p) && notIf (tailB .And y rest p))) = true := k
          simp only [Bool.and_eq_true] at k
          obtain ⟨k1, ⟨k2, k3⟩, k4⟩ := k
          exact ⟨x, y, rest, p, rfl, k1, k2, k3, k4⟩
        | [], k => cases k
        | [_], k => cases k
    | _ => cases k
  have he : ∀ m e, chkE Γ m (.and a b) e = true → PE X e (tE fx W (evE (run P n) (.and a b))) := fun m e k => by
    obtain ⟨x, y, rest, p, rfl, h1, h2, h3, h4⟩ := key m e k
    refine s_and h.hK (sa.e x h2) ?_
    cases rest with
    | nil => exact pe_one (sb.e y h3)
    | cons z zs => exact sb.e _ h3
  have hw : ∀ e, chkE Γ false (.and a b) e = true → PW X e (tT fx W (evE (run P n) (.and a b))) := fun e k => by
    obtain ⟨x, y, rest, p, rfl, h1, h2, h3, h4⟩ := key _ e k
    refine w_and (sa.t x h2 h1) ?_
    cases rest with
    | nil => exact pw_and1 (sb.t y h3 h4)
    | cons z zs => exact sb.w _ h3 rfl
  exact ⟨fun e k => he _ e k, fun e k _ => (hw e k).pt, fun e k _ => hw e k, fun tg e k => i_seq h.hK (he _ e k), fun es k => by cases es <;> cases k⟩
theorem snd_or {a b : E} (h : XOk P n Γ fx W X) (sa : Snd P n a Γ fx W X) (sb : Snd P n b Γ fx W X) : Snd P n (.or a b) Γ fx W X := by
  have key : ∀ m e, chkE Γ m (.or a b) e = true → ∃ x y rest p, e = .BoolOp .Or (x :: y :: rest) p ∧ notIf x = true ∧ chkE Γ false a x = true ∧ chkE Γ false b (tailB .Or y rest p) = true ∧ notIf (tailB .Or y rest p) = true := fun m e k => by
    cases e with
    | BoolOp o vs p =>
      cases o with
      | And => cases k
      | Or =>
        match vs, k with
        | x :: y :: rest, k =>
          have k : (notIf x && (chkE Γ false a x && chkE Γ false b (tailB .Or y rest p) && notIf (tailB .Or y rest p))) = true := k
          simp only [Bool.and_eq_true] at k
          obtain ⟨k1, ⟨k2, k3⟩, k4⟩ := k
          exact ⟨x, y, rest, p, rfl, k1, k2, k3, k4⟩
        | [], k => cases k
        | [_], k => cases k
    | _ => cases k
  have he : ∀ m e, chkE Γ m (.or a b) e = true → PE X e (tE fx W (evE (run P n) (.or a b))) := fun m e k => by
    obtain ⟨x, y, rest, p, rfl, h1, h2, h3, h4⟩ := key m e k
    refine s_or h.hK (sa.e x h2) ?_
    cases rest with
    | nil => exact pe_one (sb.e y h3)
    | cons z zs => exact sb.e _ h3
  have hw : ∀ e, chkE Γ false (.or a b) e = true → PW X e (tT fx W (evE (run P n) (.or a b))) := fun e k => by
    obtain ⟨x, y, rest, p, rfl, h1, h2, h3, h4⟩ := key _ e k
    refine w_or (sa.t x h2 h1) ?_
    cases rest with
    | nil => exact pw_or1 (sb.t y h3 h4)
    | cons z zs => exact sb.w _ h3 rfl
  exact ⟨fun e k => he _ e k, fun e k _ => (hw e k).pt, fun e k _ => hw e k, fun tg e k => i_seq h.hK (he _ e k), fun es k => by cases es <;> cases k⟩
theorem snd_ife {c a b : E} (h : XOk P n Γ fx W X) (sc : Snd P n c Γ fx W X) (sa : Snd P n a Γ fx W X) (sb : Snd P n b Γ fx W X) : Snd P n (.ife c a b) Γ fx W X := by
  have key : ∀ m e, chkE Γ m (.ife c a b) e = true → ∃ t x y p, e = .IfExp t x y p ∧ notIf t = true ∧ chkE Γ false c t = true ∧ chkE Γ false a x = true ∧ chkE Γ false b y = true := fun m e k => by
    cases e with
    | IfExp t x y p =>
      have k : (notIf t && (chkE Γ false c t && (chkE Γ false a x && chkE Γ false b y))) = true := k
      simp only [Bool.and_eq_true] at k
      obtain ⟨k1, k2, k3, k4⟩ := k
      exact ⟨t, x, y, p, rfl, k1, k2, k3, k4⟩
    | _ => cases k
  have he : ∀ m e, chkE Γ m (.ife c a b) e = true → PE X e (tE fx W (evE (run P n) (.ife c a b))) := fun m e k => by
    obtain ⟨t, x, y, p, rfl, h1, h2, h3, h4⟩ := key m e k
    exact s_ife (sc.t t h2 h1) (sa.e x h3) (sb.e y h4)
  exact ⟨fun e k => he _ e k, fun e k z => (by
    obtain ⟨t, x, y, p, rfl, _⟩ := key _ e k
    cases z), fun e k z => (by
    obtain ⟨t, x, y, p, rfl, _⟩ := key _ e k
    cases z), fun tg e k => i_seq h.hK (he _ e k), fun es k => by cases es <;> cases k⟩
theorem snd_app {a b : E} (h : XOk P n Γ fx W X) (sa : Snd P n a Γ fx W X) (sb : Snd P n b Γ fx W X) : Snd P n (.app a b) Γ fx W X := by
  have key : ∀ m e, chkE Γ m (.app a b) e = true → ∃ x ap v cp, e = .Call (.Attribute x "append" ap) [v] [] cp ∧ (ap.endLine == cp.line) = true ∧ notStar v = true ∧ notCall x = true ∧ chkE Γ false a x = true ∧ chkE Γ false b v = true := fun m e k => by
    cases e with
    | Call fn es kw cp =>
      cases fn with
      | Attribute x mt ap =>
        match es, kw, k with
        | [v], [], k =>
          have k : (decide (mt = ("append" : Str)) && ((ap.endLine == cp.line) && (notStar v && (notCall x && (chkE Γ false a x && chkE Γ false b v))))) = true := k
          simp only [Bool.and_eq_true] at k
          obtain ⟨k1, k2, k3, k4, k5, k6⟩ := k
          have := of_decide_eq_true k1
          subst this
          exact ⟨x, ap, v, cp, rfl, k2, k3, k4, k5, k6⟩
        | [], [], k => cases k
        | _ :: _ :: _, [], k => cases k
        | [], _ :: _, k => cases k
        | [_], _ :: _, k => cases k
        | _ :: _ :: _, _ :: _, k => cases k
      | _ => cases k
    | _ => cases k
  refine Snd.plain h (fun e k => ?_) (fun e k => ?_) (fun es => by cases es <;> rfl)
  · obtain ⟨x, ap, v, cp, rfl, h1, h2, h3, h4, h5⟩ := key _ e k
    exact ⟨s_app h.hK (sa.e x h4) (sb.e v h5) (base_of h3) h1 (star_of h2), rfl⟩
  · obtain ⟨x, ap, v, cp, rfl, h1, h2, h3, h4, h5⟩ := key _ e k
    exact k
theorem snd_rng1 {a : E} (h : XOk P n Γ fx W X) (sa : Snd P n a Γ fx W X) : Snd P n (.irng1 a) Γ fx W X := by
  have key : ∀ m e, chkE Γ m (.irng1 a) e = true → m = true ∧ ∃ p x cp, e = .Call (.Name "range" p) [x] [] cp ∧ Γ.glo "range" .blt = true ∧ notStar x = true ∧ chkE Γ false a x = true := fun m e k => by
    cases e with
    | Call fn es kw cp =>
      cases fn with
      | Name r p =>
        match es, kw, k with
        | [x], [], k =>
          have k : (m && (decide (r = ("range" : Str)) && (Γ.glo r .blt && (notStar x && chkE Γ false a x)))) = true := k
          simp only [Bool.and_eq_true] at k
          obtain ⟨k0, k1, k2, k3, k4⟩ := k
          have := of_decide_eq_true k1
          subst this
          exact ⟨k0, p, x, cp, rfl, k2, k3, k4⟩
        | [], [], k => cases k
        | _ :: _ :: _, [], k => cases k
        | [], _ :: _, k => cases k
        | [_], _ :: _, k => cases k
        | _ :: _ :: _, _ :: _, k => cases k
      | _ => cases k
    | _ => cases k
  exact ⟨fun e k => (by cases (key _ e k).1), fun e k _ => (by cases (key _ e k).1), fun e k _ => (by cases (key _ e k).1), fun tg e k => (by
    obtain ⟨_, p, x, cp, rfl, h1, h2, h3⟩ := key _ e k
    obtain ⟨h4, h5⟩ := h.glo h1
    exact i_rng1 h4 h5 (sa.e x h3) (star_of h2)), fun es k => (by cases es <;> cases k)⟩
theorem snd_rng2 {a b : E} (h : XOk P n Γ fx W X) (sa : Snd P n a Γ fx W X) (sb : Snd P n b Γ fx W X) : Snd P n (.irng2 a b) Γ fx W X := by
  have key : ∀ m e, chkE Γ m (.irng2 a b) e = true → m = true ∧ ∃ p x y cp, e = .Call (.Name "range" p) [x, y] [] cp ∧ Γ.glo "range" .blt = true ∧ notStar x = true ∧ notStar y = true ∧ chkE Γ false a x = true ∧ chkE Γ false b y = true := fun m e k => by
    cases e with
    | Call fn es kw cp =>
      cases fn with
      | Name r p =>
        match es, kw, k with
        | [x, y], [], k =>
          have k : (m && (decide (r = ("range" : Str)) && (Γ.glo r .blt && (notStar x && (notStar y && (chkE Γ false a x && chkE Γ false b y)))))) = true := k
          simp only [Bool.and_eq_true] at k
          obtain ⟨k0, k1, k2, k3, k4, k5, k6⟩ := k
          have := of_decide_eq_true k1
          subst this
          exact ⟨k0, p, x, y, cp, rfl, k2, k3, k4, k5, k6⟩
        | [], [], k => cases k
        | [_], [], k => cases k
        | _ :: _ :: _ :: _, [], k => cases k
        | [], _ :: _, k => cases k
        | [_], _ :: _, k => cases k
        | [_, _], _ :: _, k => cases k
        | _ :: _ :: _ :: _, _ :: _, k => cases k
      | _ => cases k
    | _ => cases k
  exact ⟨fun e k => (by cases (key _ e k).1), fun e k _ => (by cases (key _ e k).1), fun e k _ => (by cases (key _ e k).1), fun tg e k => (by
    obtain ⟨_, p, x, y, cp, rfl, h1, h2, h3, h4, h5⟩ := key _ e k
    obtain ⟨h6, h7⟩ := h.glo h1
    exact i_rng2 h6 h7 (sa.e x h4) (sb.e y h5) (by rw [star_of h2, star_of h3]; rfl) (star_of h3)), fun es k => (by cases es <;> cases k)⟩
/-- what a comprehension's block needs -/
structure LcOk (P : Prog) (n : Nat) (Γ : Gam) (fx : Fix) (W : WX) (X : Cx) (own : List Nat) (t : Nat) (it c elt : E) (el tg iter : Expr) (ifs : List Expr) (scope : Scope) : Prop where
  ok : BlkOk X.N X.env.scope scope (ownN Γ own)
  ht : t ∈ own
  hi : PI X tg iter (tI fx W (evE (run P n) it))
  hg : ∀ (s : Shared) (H : Hp) (C : Addr) (cl : List (Str × Addr)) (fp : List Addr), PG (X.blk s H scope (compEnvC scope cl C X.env) fp) tg (gName t)
  hs : ∀ x, foldedSetIterable iter X.env x = pure x
  he : ∀ (s : Shared) (H : Hp) (C : Addr) (cl : List (Str × Addr)) (fp : List Addr), PE (X.blk s H scope (compEnvC scope cl C X.env) fp) el (tE' fx W0 (evE (run P n) elt))
  ht' : ∃ tt, (tt = tT' fx W0 (evE (run P n) c) ∨ (tt = tYes ∧ evE (run P n) c = fun _ S => .ok (.bl true) S)) ∧ ∀ (s : Shared) (H : Hp) (C : Addr) (cl : List (Str × Addr)) (fp : List Addr), PTs (X.blk s H scope (compEnvC scope cl C X.env) fp) ifs tt
theorem ownN_snd {own : List Nat} : (ownN Γ own).map (·.2) = own := by
  unfold ownN
  rw [List.map_map]
  exact (List.map_congr_left fun x _ => rfl).trans (List.map_id own)
theorem lc_key {own : List Nat} {t : Nat} {it c elt : E} (h : XOk P n Γ fx W X) (si : Snd P n it Γ fx W X) (sc : ∀ {X Γ fx W}, XOk P n Γ fx W X → ∀ e, c = .cnd e → Snd P n e Γ fx W X) (se : ∀ {X Γ fx W}, XOk P n Γ fx W X → Snd P n elt Γ fx W X) :
    ∀ m e, chkE Γ m (.comp own t it c elt) e = true → ∃ el tg iter ifs scope p, e = .ListComp el [⟨tg, iter, ifs, 0⟩] scope p ∧ LcOk P n Γ fx W X own t it c elt el tg iter ifs scope := fun m e k => by
  cases e with
  | ListComp el gens scope p =>
    have k : (genOk gens && (own.contains t && (decide (Γ.N[t]? = some (genT gens)) && (blkC Γ.N Γ.sc scope (ownN Γ own) && (((Γ.blk scope).loc t (genT gens) && (decide ((Γ.blk scope).sc.names.lookup (genT gens) = some .local) || decide (scope.names.lookup (genT gens) = some .cell))) && (notSet (genI gens) &&
      (chkE Γ true it (genI gens) &&
      (chkC (Γ.blk scope) c (genF gens) && chkE (Γ.blk scope) false elt el)))))))) = true := k
    simp only [Bool.and_eq_true] at k
    obtain ⟨k0, k1, k2, k3, ⟨k4, k5⟩, k6, k7, k8, k9⟩ := k
    obtain ⟨tp, eg⟩ := gen_of k0
    generalize genT gens = tx at *
    generalize genI gens = iter at *
    generalize genF gens = ifs at *
    subst eg
    refine ⟨el, _, iter, ifs, scope, p, rfl, ⟨?_, ?_, si.i _ iter k7, fun s H C cl fp => ?_, fold_of k6, fun s H C cl fp => pe_all fun fx' e1 e2 => (se (h.blk s H scope C cl fp fx' e1 e2)).e el k9, ?_⟩⟩
    · rw [h.N, h.sc]
      exact blkOk_by k3
    · exact List.contains_iff_mem.mp k1
    · have hb := h.blk s H scope C cl fp fx rfl rfl
      obtain ⟨h1, h2⟩ := hb.loc k4
      refine pg_name h.nd h1 h2 ?_
      rw [Bool.or_eq_true] at k5
      rcases k5 with k5 | k5
      · refine .inr ?_
        have e3 := of_decide_eq_true k5
        rw [hb.sc]
        exact e3
      · refine .inl ?_
        have e3 := of_decide_eq_true k5
        show (scope.names.lookup tx == some .cell) = true
        rw [e3]
        rfl
    · cases c with
      | bl b =>
        cases b with
        | true =>
          cases ifs with
          | nil => exact ⟨tYes, .inr ⟨rfl, rfl⟩, fun s H C cl fp => pts_nil⟩
          | cons z zs => cases zs <;> cases k8
        | false => cases ifs with
          | nil => cases k8
          | cons z zs => cases zs <;> cases k8
      | cnd e =>
        match ifs, k8 with
        | [i], k8 =>
          have k8 : (notIf i && chkE (Γ.blk scope) false e i) = true := k8
          rw [Bool.and_eq_true] at k8
          exact ⟨_, .inl rfl, fun s H C cl fp => pts_one (pt_all fun fx' e1 e2 => (sc (h.blk s H scope C cl fp fx' e1 e2) e rfl).t i k8.2 k8.1)⟩
        | [], k8 => cases k8
        | _ :: _ :: _, k8 => cases k8
      | _ =>
        cases ifs with
        | nil => cases k8
        | cons z zs => cases zs <;> cases k8
  | _ => cases k
theorem snd_comp {own : List Nat} {t : Nat} {it c elt : E} (h : XOk P n Γ fx W X) (si : Snd P n it Γ fx W X) (sc : ∀ {X Γ fx W}, XOk P n Γ fx W X → ∀ e, c = .cnd e → Snd P n e Γ fx W X) (se : ∀ {X Γ fx W}, XOk P n Γ fx W X → Snd P n elt Γ fx W X) : Snd P n (.comp own t it c elt) Γ fx W X := by
  have key := lc_key (own := own) (t := t) h si sc se
  refine Snd.plain h (fun e k => ?_) (fun e k => ?_) (fun es => by cases es <;> rfl)
  · obtain ⟨el, tg, iter, ifs, scope, p, rfl, L⟩ := key _ e k
    obtain ⟨tt, h1, h2⟩ := L.ht'
    have z := pe_lc (own := ownN Γ own) h.calm h.nd L.hi L.ok L.hg h2 L.he L.hs (pos := p)
    rw [ownN_snd] at z
    exact ⟨pe_imp z (lc_read L.ht h1), rfl⟩
  · cases e <;> first | (cases k; done) | exact k
end
/-- THE CODE IS SOUND -/
theorem snd {P : Prog} {n : Nat} : ∀ (c : E) {Γ : Gam} {fx : Fix} {W : WX} {X : Cx}, XOk P n Γ fx W X → Snd P n c Γ fx W X ∧ (∀ e, c = .part e → Snd P n e Γ fx W X) ∧ (∀ e, c = .cnd e → Snd P n e Γ fx W X) := by
  have none : ∀ (c : E) {Γ : Gam} {fx : Fix} {W : WX} {X : Cx}, XOk P n Γ fx W X → (∀ m e, chkE Γ m c e = false) → (∀ es, chkA Γ c es = false) → Snd P n c Γ fx W X := fun c Γ fx W X h h1 h2 =>
    ⟨fun e k => (by rw [h1] at k; cases k), fun e k => (by rw [h1] at k; cases k), fun e k => (by rw [h1] at k; cases k), fun tg e k => (by rw [h1] at k; cases k), fun es k => (by rw [h2] at k; cases k)⟩
  intro c
  induction c with
  | var i => exact fun h => ⟨snd_var h, fun _ z => (by cases z), fun _ z => (by cases z)⟩
  | int i => exact fun h => ⟨snd_int h, fun _ z => (by cases z), fun _ z => (by cases z)⟩
  | bl i => exact fun h => ⟨snd_bl h, fun _ z => (by cases z), fun _ z => (by cases z)⟩
  | non => exact fun h => ⟨snd_non h, fun _ z => (by cases z), fun _ z => (by cases z)⟩
  | str i => exact fun h => ⟨snd_str h, fun _ z => (by cases z), fun _ z => (by cases z)⟩
  | gint x i => exact fun h => ⟨snd_gint h, fun _ z => (by cases z), fun _ z => (by cases z)⟩
  | bin op a b iha ihb => exact fun h => ⟨snd_bin h (iha h).1 (ihb h).1, fun _ z => (by cases z), fun _ z => (by cases z)⟩
  | frz a iha => exact fun h => ⟨snd_frz h (iha h).1, fun _ z => (by cases z), fun _ z => (by cases z)⟩
  | catc a b iha ihb => exact fun h => ⟨snd_catc h (iha h).1 (ihb h).1, fun _ z => (by cases z), fun _ z => (by cases z)⟩
  | neg a iha => exact fun h => ⟨snd_neg h (iha h).1, fun _ z => (by cases z), fun _ z => (by cases z)⟩
  | not a iha => exact fun h => ⟨snd_not h (iha h).1, fun _ z => (by cases z), fun _ z => (by cases z)⟩
  | cmp op a b iha ihb => exact fun h => ⟨snd_cmp h (iha h).1 (ihb h).1, fun _ z => (by cases z), fun _ z => (by cases z)⟩
  | chain o1 o2 a b c iha ihb ihc => exact fun h => ⟨none _ h (fun m e => by cases e <;> rfl) (fun es => by cases es <;> rfl), fun _ z => (by cases z), fun _ z => (by cases z)⟩
  | and a b iha ihb => exact fun h => ⟨snd_and h (iha h).1 (ihb h).1, fun _ z => (by cases z), fun _ z => (by cases z)⟩
  | or a b iha ihb => exact fun h => ⟨snd_or h (iha h).1 (ihb h).1, fun _ z => (by cases z), fun _ z => (by cases z)⟩
  | ife c a b ihc iha ihb => exact fun h => ⟨snd_ife h (ihc h).1 (iha h).1 (ihb h).1, fun _ z => (by cases z), fun _ z => (by cases z)⟩
  | tup a iha => exact fun h => ⟨snd_tup h (iha h).1, fun _ z => (by cases z), fun _ z => (by cases z)⟩
  | lst a iha => exact fun h => ⟨snd_lst h (iha h).1, fun _ z => (by cases z), fun _ z => (by cases z)⟩
  | cell a iha => exact fun h => ⟨snd_cell h (iha h).1, fun _ z => (by cases z), fun _ z => (by cases z)⟩
  | anil => exact fun h => ⟨⟨fun e k => (by cases e <;> cases k), fun e k => (by cases e <;> cases k), fun e k => (by cases e <;> cases k), fun tg e k => (by cases e <;> cases k), fun es k => by
      cases es with
      | nil => exact s_anil
      | cons x xs => cases k⟩, fun _ z => (by cases z), fun _ z => (by cases z)⟩
  | acons a b iha ihb => exact fun h => ⟨⟨fun e k => (by cases e <;> cases k), fun e k => (by cases e <;> cases k), fun e k => (by cases e <;> cases k), fun tg e k => (by cases e <;> cases k), fun es k => by
      cases es with
      | nil => cases k
      | cons x xs =>
        have k : (notStar x && (chkE _ false a x && chkA _ b xs)) = true := k
        simp only [Bool.and_eq_true] at k
        exact s_acons ((iha h).1.e x k.2.1) ((ihb h).1.a xs k.2.2) (star_of k.1)⟩, fun _ z => (by cases z), fun _ z => (by cases z)⟩
  | idx a b iha ihb => exact fun h => ⟨snd_idx h (iha h).1 (ihb h).1, fun _ z => (by cases z), fun _ z => (by cases z)⟩
  | cut a lo hi iha ihl ihh => exact fun h => ⟨snd_cut h (iha h).1 (ihl h).2.1 (ihh h).2.1, fun _ z => (by cases z), fun _ z => (by cases z)⟩
  | nopart => exact fun h => ⟨none _ h (fun m e => by cases e <;> rfl) (fun es => by cases es <;> rfl), fun _ z => (by cases z), fun _ z => (by cases z)⟩
  | part e ihe => exact fun h => ⟨none _ h (fun m e => by cases e <;> rfl) (fun es => by cases es <;> rfl), fun _ z => (by cases z; exact (ihe h).1), fun _ z => (by cases z)⟩
  | call m f a iha => exact fun h => ⟨snd_call h (iha h).1, fun _ z => (by cases z), fun _ z => (by cases z)⟩
  | bi b a iha => exact fun h => ⟨snd_bi h (iha h).1, fun _ z => (by cases z), fun _ z => (by cases z)⟩
  | isi a cs iha => exact fun h => ⟨snd_isi h (iha h).1, fun _ z => (by cases z), fun _ z => (by cases z)⟩
  | app a b iha ihb => exact fun h => ⟨snd_app h (iha h).1 (ihb h).1, fun _ z => (by cases z), fun _ z => (by cases z)⟩
  | comp own t it c elt ihi ihc ihe => exact fun h => ⟨snd_comp h (ihi h).1 (fun h2 => (ihc h2).2.2) (fun h2 => (ihe h2).1), fun _ z => (by cases z), fun _ z => (by cases z)⟩
  | irng1 a iha => exact fun h => ⟨snd_rng1 h (iha h).1, fun _ z => (by cases z), fun _ z => (by cases z)⟩
  | irng2 a b iha ihb => exact fun h => ⟨snd_rng2 h (iha h).1 (ihb h).1, fun _ z => (by cases z), fun _ z => (by cases z)⟩
  | cnd e ihe => exact fun h => ⟨none _ h (fun m e => by cases e <;> rfl) (fun es => by cases es <;> rfl), fun _ z => (by cases z), fun _ z => (by cases z; exact (ihe h).1)⟩
end MX
end

section
set_option maxRecDepth 100000
set_option maxHeartbeats 4000000
namespace MX
open PySem PySem.Spec PyProof.Rows L2

/-- name = [..] that is stored within the comprehension's frame -/
def swB (Γ : Gam) (y : Str) (py : Pos) (scope : Scope) (pos : Pos) : Bool :=
  decide (Γ.sc.names.lookup y = some .local) && ((py.line == pos.line) && !(scope.names.any fun (n, k) => n == y && (k == .local || k == .cell)))
def augOk (op : Bop) : Bool := match op with
  | .add => true
  | .sub => true
  | _ => false
mutual
def chkS (Γ : Gam) : Sx → Stmt → Bool
  | .pass, .Pass _ => true
  | .pass, .Expr (.Constant (.str _) _ _) _ => true
  | .brk, .Break _ => true
  | .cont, .Continue _ => true
  | .asg i e, .Assign [.Name x _] v _ => Γ.loc i x && chkE Γ false e v
  | .aug op i e, .AugAssign (.Name x _) o v _ => augOk op && (decide (o = op.op) && (Γ.loc i x && chkE Γ false e v))
  | .ex e, .Expr v _ => notComp v && chkE Γ false e v
  | .ret e, .Return (some v) _ => chkE Γ false e v
  | .retN, .Return none _ => true
  | .ifs c a b, .If t x y _ => notIf t && (chkE Γ false c t && (chkSs Γ a x && chkSs Γ b y))
  | .whl _ c b, .While t x [] _ => notIf t && (chkE Γ false c t && chkSs Γ b x)
  | .for_ t it b, .For (.Name x _) iter body [] _ => Γ.loc t x && (notSet iter && (chkE Γ true it iter && chkSs Γ b body))
  | _, _ => false
def chkSs (Γ : Gam) : Sx → List Stmt → Bool
  | .nil, [] => true
  | .seq a b, s :: r => chkS Γ a s && chkSs Γ b r
  | _, _ => false
end
/-- a def's body: exceptions may leave it, names may be stored -/
structure SOk (P : Prog) (n : Nat) (Γ : Gam) (fx : Fix) (W : WX) (X : Cx) : Prop where
  x : XOk P n Γ fx W X
  fn : ∀ y, X.fn y = true
  po : PassesOwn (model X.prog X.w) X.A X.env X.xe
  kind : X.env.scope.kind = .function
section
variable {P : Prog} {n : Nat} {Γ : Gam} {fx : Fix} {W : WX} {X : Cx}
theorem swaps_no {e : Expr} {t : Option Expr} {l : Nat} {env : Env} (h : notComp e = true) : swapsWith e t l env = pure false := by
  cases e <;> first | rfl | cases h
theorem swaps_lc {el : Expr} {gs : List Comprehension} {scope : Scope} {pos py : Pos} {y : Str} {l : Nat} {env : Env} (hk : env.scope.kind = .function) {Γ : Gam} (hs : env.scope = Γ.sc) (h : swB Γ y py scope pos = false) : swapsWith (.ListComp el gs scope pos) (some (.Name y py)) l env = pure false := by
  have hb : env.blockKind = .function := by unfold Env.blockKind; rw [hk]; rfl
  have e : swapsWith (.ListComp el gs scope pos) (some (.Name y py)) l env = pure (env.blockKind == .function && env.kindOf y == some .local && py.line == pos.line && !(scope.names.any fun (n, k) => n == y && (k == .local || k == .cell))) := rfl
  rw [e, hb]
  unfold swB at h
  have ek : env.kindOf y = Γ.sc.names.lookup y := by unfold Env.kindOf; rw [hs]
  rw [ek]
  have : (Γ.sc.names.lookup y == some NameKind.local) = decide (Γ.sc.names.lookup y = some .local) := by
    cases hd : decide (Γ.sc.names.lookup y = some .local) with
    | true => exact beq_iff_eq.mpr (of_decide_eq_true hd)
    | false => exact beq_eq_false_iff_ne.mpr (of_decide_eq_false hd)
  rw [this]
  congr 1
  rw [show (ScopeKind.function == ScopeKind.function) = true from rfl, Bool.true_and, Bool.and_assoc]
  exact h
theorem isLC (e : Expr) : (∃ el gs sc p, e = .ListComp el gs sc p) ∨ notComp e = true ∨ (∃ a b c d, e = .SetComp a b c d) ∨ (∃ a b c d f, e = .DictComp a b c d f) := by
  cases e <;> first | exact .inr (.inl rfl) | exact .inl ⟨_, _, _, _, rfl⟩ | exact .inr (.inr (.inl ⟨_, _, _, _, rfl⟩)) | exact .inr (.inr (.inr ⟨_, _, _, _, _, rfl⟩))
theorem not_setc {c : E} {a b c' d} : chkE Γ false c (.SetComp a b c' d) = false := by cases c <;> rfl
theorem not_dictc {c : E} {a b c' d f} : chkE Γ false c (.DictComp a b c' d f) = false := by cases c <;> rfl
theorem lc_only {c : E} {el gs sc p} (k : chkE Γ false c (.ListComp el gs sc p) = true) : ∃ own t it cc elt, c = .comp own t it cc elt := by
  cases c <;> first | (cases k; done) | exact ⟨_, _, _, _, _, rfl⟩
/-- x = e -/
theorem asg_ok {i : Nat} {e : E} {x : Str} {p pos : Pos} {v : Expr} (h : SOk P n Γ fx W X) (hl : Γ.loc i x = true) (k : chkE Γ false e v = true) : PS X (.Assign [.Name x p] v pos) (tS fx W fun σ S => (evE (run P n) e σ S).sr σ fun d S1 => .nx (σ.set i (some d)) S1) := by
  obtain ⟨h1, h2⟩ := h.x.loc hl
  have he := (snd e h.x).1.e v k
  rcases isLC v with ⟨el, gs, sc, p3, rfl⟩ | hn | ⟨_, _, _, _, rfl⟩ | ⟨_, _, _, _, _, rfl⟩
  · cases hsw : swB Γ x p sc p3 with
    | false => exact ss_asg h.x.nd h1 h2 he (swaps_lc h.kind h.x.sc hsw) (.inl (h.fn _))
    | true =>
      obtain ⟨own, t, it, c, elt, rfl⟩ := lc_only k
      obtain ⟨el', tg, iter, ifs, sc', p', eq, L⟩ := lc_key h.x (snd it h.x).1 (fun h2 => (snd c h2).2.2) (fun h2 => (snd elt h2).1) _ _ k
      cases eq
      obtain ⟨tt, ht1, ht2⟩ := L.ht'
      unfold swB at hsw
      simp only [Bool.and_eq_true, Bool.not_eq_true'] at hsw
      obtain ⟨w1, w2, w3⟩ := hsw
      have hyl : X.env.scope.names.lookup x = some .local := by
        rw [h.x.sc]
        exact of_decide_eq_true w1
      have z := ps_setLc (own := ownN Γ own) (i := i) (py := p) (spos := pos) h.x.calm h.x.nd h1 hyl (sw_true h.kind hyl w2 w3) L.hi L.ok L.hg ht2 L.he L.hs
      rw [ownN_snd] at z
      refine ps_imp z fun D σ H ⟨g, dσ, S, r, sl, q⟩ => ?_
      refine lc_read (W := W) L.ht ht1 σ H _ ?_
      refine tE.sr q r sl fun d S1 v g1 H1 _ l1 r1 rv q1 => ?_
      exact q1 g1 H1 _ (Gh.le.refl g1) r1 ((sl.mono l1).set i rv)
  · exact ss_asg h.x.nd h1 h2 he (swaps_no hn) (.inl (h.fn _))
  · rw [not_setc] at k
    cases k
  · rw [not_dictc] at k
    cases k
structure SndS (P : Prog) (n : Nat) (c : Sx) (Γ : Gam) (fx : Fix) (W : WX) (X : Cx) : Prop where
  s : ∀ st, chkS Γ c st = true → PS X st (tS fx W (exS (run P n) c))
  ss : ∀ st, chkSs Γ c st = true → PSs X st (tS fx W (exS (run P n) c))
theorem one_only {c : Sx} (h1 : ∀ st, chkS Γ c st = true → PS X st (tS fx W (exS (run P n) c))) (h2 : ∀ st, chkSs Γ c st = false) : SndS P n c Γ fx W X := ⟨h1, fun st k => by rw [h2] at k; cases k⟩
end
/-- the statements are sound -/
theorem sndS {P : Prog} {n : Nat} : ∀ (c : Sx) {Γ : Gam} {fx : Fix} {W : WX} {X : Cx}, SOk P n Γ fx W X → SndS P n c Γ fx W X := by
  intro c
  induction c with
  | nil => exact fun {Γ fx W X} h => ⟨fun st k => (by cases st <;> cases k), fun st k => by
      cases st with
      | nil => exact ss_next (f := fun _ _ _ => False)
      | cons x xs => cases k⟩
  | pass => exact fun {Γ fx W X} h => one_only (fun st k => by
      cases st with
      | Pass p => exact ss_pass
      | Expr v p =>
        cases v with
        | Constant c j p2 =>
          cases c with
          | str x => exact ss_doc
          | _ => cases k
        | _ => cases k
      | _ => cases k) fun st => by cases st <;> rfl
  | brk => exact fun {Γ fx W X} h => one_only (fun st k => by
      cases st with
      | Break p => exact ss_brk
      | _ => cases k) fun st => by cases st <;> rfl
  | cont => exact fun {Γ fx W X} h => one_only (fun st k => by
      cases st with
      | Continue p => exact ss_cont
      | _ => cases k) fun st => by cases st <;> rfl
  | seq a b iha ihb => exact fun {Γ fx W X} h => ⟨fun st k => (by cases st <;> cases k), fun st k => by
      cases st with
      | nil => cases k
      | cons x xs =>
        have k : (chkS Γ a x && chkSs Γ b xs) = true := k
        rw [Bool.and_eq_true] at k
        exact ss_seq ((iha h).s x k.1) ((ihb h).ss xs k.2)⟩
  | asg i e => exact fun {Γ fx W X} h => one_only (fun st k => by
      cases st with
      | Assign ts v p =>
        cases ts with
        | nil => cases k
        | cons t ts =>
          cases ts with
          | cons _ _ => cases t <;> cases k
          | nil =>
            cases t with
            | Name x p2 =>
              have k : (Γ.loc i x && chkE Γ false e v) = true := k
              rw [Bool.and_eq_true] at k
              exact asg_ok h k.1 k.2
            | _ => cases k
      | _ => cases k) fun st => by cases st <;> rfl
  | aug op i e => exact fun {Γ fx W X} h => one_only (fun st k => by
      cases st with
      | AugAssign t o v p =>
        cases t with
        | Name x p2 =>
          have k : (augOk op && (decide (o = op.op) && (Γ.loc i x && chkE Γ false e v))) = true := k
          simp only [Bool.and_eq_true] at k
          obtain ⟨k1, k2, k3, k4⟩ := k
          have := of_decide_eq_true k2
          subst this
          obtain ⟨h1, h2⟩ := h.x.loc k3
          refine ss_aug h.x.nd h1 h2 ((snd e h.x).1.e v k4) ?_ (.inl (h.fn _))
          cases op <;> first | exact .inl rfl | exact .inr rfl | cases k1
        | _ => cases k
      | _ => cases k) fun st => by cases st <;> rfl
  | ex e => exact fun {Γ fx W X} h => one_only (fun st k => by
      cases st with
      | Expr v p =>
        have k : (notComp v && chkE Γ false e v) = true := by
          cases v <;> first | exact k | (rename_i c _ _; cases c <;> exact k)
        rw [Bool.and_eq_true] at k
        exact ss_ex ((snd e h.x).1.e v k.2) (swaps_no k.1)
      | _ => cases k) fun st => by cases st <;> rfl
  | ret e => exact fun {Γ fx W X} h => one_only (fun st k => by
      cases st with
      | Return v p =>
        cases v with
        | none => cases k
        | some v => exact ss_ret ((snd e h.x).1.e v k)
      | _ => cases k) fun st => by cases st <;> rfl
  | retN => exact fun {Γ fx W X} h => one_only (fun st k => by
      cases st with
      | Return v p =>
        cases v with
        | none => exact ss_retN
        | some v => cases k
      | _ => cases k) fun st => by cases st <;> rfl
  | ifs c a b iha ihb =>
    intro Γ fx W X h
    refine ⟨fun st k => ?_, fun st k => ?_⟩
    · cases st with
      | If t x y p =>
        have k : (notIf t && (chkE Γ false c t && (chkSs Γ a x && chkSs Γ b y))) = true := k
        simp only [Bool.and_eq_true] at k
        obtain ⟨k1, k2, k3, k4⟩ := k
        exact ss_if ((snd c h.x).1.t t k2 k1) ((iha h).ss x k3) ((ihb h).ss y k4)
      | _ => cases k
    · cases st <;> cases k
  | whl m c b ihb => exact fun {Γ fx W X} h => one_only (fun st k => by
      cases st with
      | While t x y p =>
        cases y with
        | cons _ _ => cases k
        | nil =>
          have k : (notIf t && (chkE Γ false c t && chkSs Γ b x)) = true := k
          simp only [Bool.and_eq_true] at k
          obtain ⟨k1, k2, k3⟩ := k
          exact ss_whl h.po ((snd c h.x).1.t t k2 k1) ((ihb h).ss x k3)
      | _ => cases k) fun st => by cases st <;> rfl
  | for_ t it b ihb =>
    intro Γ fx W X h
    refine ⟨fun st k => ?_, fun st k => ?_⟩
    · cases st with
      | For tg iter body oe p =>
        cases tg with
        | Name x p2 =>
          cases oe with
          | cons _ _ => cases k
          | nil =>
            have k : (Γ.loc t x && (notSet iter && (chkE Γ true it iter && chkSs Γ b body))) = true := k
            simp only [Bool.and_eq_true] at k
            obtain ⟨k1, k2, k3, k4⟩ := k
            obtain ⟨h1, h2⟩ := h.x.loc k1
            exact ss_for h.po h.x.calm ((snd it h.x).1.i _ iter k3) (pg_name h.x.nd h1 h2 (.inl (h.fn _))) ((ihb h).ss body k4) (fold_of k2)
        | _ => cases k
      | _ => cases k
    · cases st <;> cases k
end MX
end

section
set_option maxRecDepth 100000
set_option maxHeartbeats 4000000
namespace MX
open PySem PySem.Spec PyProof.Rows L2

theorem lookup_zip : ∀ {ps : List Str} {us : List Value}, us.length = ps.length → ps.Nodup → ∀ (i : Nat) (x : Str) (u : Value), ps[i]? = some x → us[i]? = some u → (ps.zip us).lookup x = some u
  | [], _, _, _, _, _, _, h, _ => by simp at h
  | _ :: _, [], h, _, _, _, _, _, _ => by simp at h
  | p :: ps, v :: us, hl, nd, 0, x, u, h1, h2 => by
    simp at h1 h2
    subst h1 h2
    show (match p == p with | true => some v | false => _) = some v
    rw [beq_self_eq_true]
  | p :: ps, v :: us, hl, nd, i + 1, x, u, h1, h2 => by
    have h1 : ps[i]? = some x := by simpa using h1
    have h2 : us[i]? = some u := by simpa using h2
    have ne : (x == p) = false := beq_eq_false_iff_ne.mpr fun e => (List.nodup_cons.mp nd).1 (by rw [← e]; exact List.mem_of_getElem? h1)
    show (match x == p with | true => some v | false => (ps.zip us).lookup x) = some u
    rw [ne]
    exact lookup_zip (by simpa using hl) (List.nodup_cons.mp nd).2 i x u h1 h2
theorem filterMap_zip {ps : List Str} {us : List Value} (hl : us.length = ps.length) (nd : ps.Nodup) : (ps.filterMap fun n => ((ps.zip us).lookup n).map fun v => (n, v)) = ps.zip us := by
  have key : ∀ (qs : List Str) (ws : List Value), ws.length = qs.length → (∀ (i : Nat) x u, qs[i]? = some x → ws[i]? = some u → (ps.zip us).lookup x = some u) → (qs.filterMap fun n => ((ps.zip us).lookup n).map fun v => (n, v)) = qs.zip ws := fun qs => by
    induction qs with
    | nil => exact fun ws _ _ => by cases ws <;> rfl
    | cons q qs ih =>
      intro ws hl h
      cases ws with
      | nil => simp at hl
      | cons w ws =>
        have h0 := h 0 q w rfl rfl
        rw [List.filterMap_cons, h0]
        show (q, w) :: _ = (q, w) :: qs.zip ws
        rw [ih ws (by simpa using hl) fun i x u h1 h2 => h (i + 1) x u (by simpa using h1) (by simpa using h2)]
  exact key ps us hl fun i x u h1 h2 => lookup_zip hl nd i x u h1 h2
theorem none_zip {ps : List Str} {us : List Value} (hl : us.length = ps.length) (nd : ps.Nodup) : (ps.filter fun n => ((ps.zip us).lookup n).isNone) = [] := by
  rw [List.filter_eq_nil_iff]
  intro n hn
  obtain ⟨i, hi, e⟩ := List.getElem_of_mem hn
  rw [lookup_zip hl nd i n us[i] (by rw [List.getElem?_eq_getElem hi, e]) (List.getElem?_eq_getElem (by omega))]
  simp
def plainPs : Arguments → Bool
  | ⟨[], _, none, [], _, none, _⟩ => true
  | _ => false
def namesPs : Arguments → List Str
  | ⟨_, as, _, _, _, _, _⟩ => as.map (·.arg)
theorem bind_plain {x qual : Str} {params : Arguments} {body : List Stmt} {scope : Scope} {kV doc pm cdv ct : Value} {an : Option Addr} {us : List Value} (hp : plainPs params = true) (nd : (namesPs params).Nodup) (hl : us.length = (namesPs params).length) :
    bindArgs (PySem.W.fnOf x qual params body scope .none kV doc pm an cdv ct) ⟨us, []⟩ = pure ((namesPs params).zip us) := by
  obtain ⟨po, as, va, ko, kd, ka, ds⟩ := params
  cases po <;> cases va <;> cases ko <;> cases ka <;> first | (cases hp; done) | skip
  have nd : (as.map (·.arg)).Nodup := nd
  have hl : us.length = (as.map (·.arg)).length := hl
  unfold bindArgs
  simp only [PySem.W.fnOf, List.map_nil, List.nil_append, List.append_nil]
  have hg : ¬ us.length > (as.map (·.arg)).length := by omega
  generalize hps : as.map (·.arg) = ps at *
  have e1 : seqItems? Value.none = pure none := rfl
  rw [e1]
  have z1 := none_zip hl nd
  have z2 := filterMap_zip hl nd
  simp only [List.forIn_nil, pure_bind, Option.getD_none, List.toList_toArray, Array.toList_empty, List.length_nil, List.drop_nil, Nat.sub_zero, List.take_length, z1, List.isEmpty_nil, Bool.not_true, Bool.false_eq_true, if_false, List.zip_nil_right, List.append_nil, hg, decide_false, Bool.false_and, gt_iff_lt, Nat.zero_sub]
  rw [z2]
  show pure (ps.zip us) = pure ((as.map (·.arg)).zip us)
  rw [hps]
/-! ### the table of the defs -/
structure Ent where
  id : String
  at_ : Str × Option Str
  name : Str
  qual : Str
  st : Stmt
  N : List Str
  fn : Fn
def Ent.ps (e : Ent) : List Str := namesPs (defArgs e.st)
/-- a def's scope, by Booleans -/
def scopeB (N P : List Str) (sc : Scope) : Bool :=
  decide (sc.kind = .function) && (!sc.isCoroutine && (!sc.isGenerator && (decide N.Nodup && (decide (N.take P.length = P) &&
    ((P.all fun x => decide (sc.names.lookup x = some .local) || decide (sc.names.lookup x = some .cell)) && sc.names.all fun y => !decide (y.2 = .free))))))
theorem scope_of {N P : List Str} {sc : Scope} (h : scopeB N P sc = true) : FnScope N P sc := by
  unfold scopeB at h
  simp only [Bool.and_eq_true, Bool.not_eq_true', decide_eq_true_eq, List.all_eq_true, Bool.or_eq_true, decide_eq_false_iff_not] at h
  obtain ⟨h1, h2, h3, h4, h5, h6, h7⟩ := h
  exact ⟨h1, h2, h3, h4, h5, h6, h7⟩
def Ent.ok (gl : List (Str × GK)) (e : Ent) : Bool :=
  plainPs (defArgs e.st) && (scopeB e.N e.ps (defScope e.st) && (decide (e.fn.np = e.ps.length) && (decide (e.fn.ns = e.N.length) && chkSs ⟨e.N, defScope e.st, gl⟩ e.fn.body (defBody e.st))))
def progOf (tbl : List Ent) : Prog := ⟨fun s => (tbl.find? fun e => e.id == s).map (·.fn)⟩
theorem prog_at {tbl : List Ent} (nd : (tbl.map (·.id)).Nodup) {e : Ent} (h : e ∈ tbl) : (progOf tbl).fn e.id = some e.fn := by
  have key : ∀ l : List Ent, (l.map (·.id)).Nodup → e ∈ l → l.find? (fun z => z.id == e.id) = some e := fun l => by
    induction l with
    | nil => exact fun _ h => by cases h
    | cons a r ih =>
      intro nd h
      rw [List.find?_cons]
      by_cases ha : a.id = e.id
      · rw [beq_iff_eq.mpr ha]
        rcases List.mem_cons.mp h with z | z
        · rw [z]
        · exact absurd (show a.id ∈ r.map (·.id) by rw [ha]; exact List.mem_map_of_mem z) (List.nodup_cons.mp nd).1
      · rw [beq_eq_false_iff_ne.mpr ha]
        rcases List.mem_cons.mp h with z | z
        · rw [z] at ha
          exact absurd rfl ha
        · exact ih (List.nodup_cons.mp nd).2 z
  show (tbl.find? fun z => z.id == e.id).map (·.fn) = _
  rw [key tbl nd h]
  rfl
/-- what the module's names are -/
def GlobOk (tbl : List Ent) (K : PySem.W.Frag) (mg : Str → Option Value) (x : Str) : GK → Prop
  | .blt => mg x = none
  | .int i => ∃ t, mg x = some (.int i t)
  | .fn f => ∃ e ∈ tbl, e.id = f ∧ mg x = some (.ref (He.fAd K e.at_))
section
variable {tbl : List Ent} {gl : List (Str × GK)} {Pr : Program} {w : World} {K : PySem.W.Frag} {mg : Str → Option Value} {base : Heap} {ca : String → Addr}
theorem start_sl {fx : Fix} {g : Gh} {N : List Str} {vs : List V} {ds : List D} {m : Nat} (hm : m = N.length) (hl : vs.length ≤ N.length) (r : RelL fx.K fx.ca g vs ds) : Sl fx g (startD m ds) (L2.start N vs) := by
  subst hm
  refine ⟨?_, fun i d e => ?_⟩
  · unfold startD L2.start
    rw [List.length_append, List.length_append, List.length_map, List.length_map, List.length_replicate, List.length_replicate, r.length]
  · unfold startD at e
    by_cases hi : i < ds.length
    · rw [List.getElem?_append_left (by rw [List.length_map]; exact hi), List.getElem?_map] at e
      cases q : ds[i]? with
      | none => rw [q] at e; cases e
      | some d' =>
        rw [q] at e
        cases e
        obtain ⟨v, h1, h2⟩ := r.get q
        refine ⟨v, ?_, h2⟩
        unfold L2.start
        rw [List.getElem?_append_left (by rw [List.length_map, r.length]; exact hi), List.getElem?_map, h1]
        rfl
    · rw [List.getElem?_append_right (by rw [List.length_map]; omega), List.getElem?_replicate] at e
      split at e <;> cases e
/-- THE DEFS ARE SOUND: each keeps its run as a promise -/
theorem fns_ok (nd : (tbl.map (·.id)).Nodup) (hok : tbl.all (Ent.ok gl) = true)
    (hF : ∀ e ∈ tbl, ∃ fd, FunD K e.name e.qual (defArgs e.st) (defBody e.st) (defScope e.st) [] [] (He.fAd K e.at_) fd) (hG : ∀ x k, gl.lookup x = some k → GlobOk tbl K mg x k) :
    ∀ (n : Nat) (e : Ent), e ∈ tbl → ∀ fd, FunD K e.name e.qual (defArgs e.st) (defBody e.st) (defScope e.st) [] [] (He.fAd K e.at_) fd →
      FnOk Pr w K mg base (L2.CX Pr w) (2 * n) (He.fAd K e.at_) fd e.ps (spI (progOf tbl) n K ca e.id) := by
  intro n
  induction n with
  | zero =>
    intro e he fd F
    have no : ∀ vs H Q E, ¬ spI (progOf tbl) 0 K ca e.id vs H Q E := fun vs H Q E h => by
      obtain ⟨_, fx, g, ds, S, _, _, _, _, q⟩ := h
      exact q
    exact ⟨fun vs H Q E h => (no _ _ _ _ h).elim, fun _ _ _ _ _ _ _ _ _ _ _ _ _ h => (no _ _ _ _ h).elim⟩
  | succ n ih =>
    intro e he fd F
    have ho := List.all_eq_true.mp hok e he
    unfold Ent.ok at ho
    simp only [Bool.and_eq_true, decide_eq_true_eq] at ho
    obtain ⟨o1, o2, o3, o4, o5⟩ := ho
    have S := scope_of o2
    have pe := prog_at nd he
    have len : ∀ vs H Q E, spI (progOf tbl) (n + 1) K ca e.id vs H Q E → vs.length = e.ps.length := fun vs H Q E h => by
      obtain ⟨⟨G, h1, h2⟩, _⟩ := h
      rw [pe] at h1
      cases h1
      rw [h2, o3]
    have main : FnOk Pr w K mg base (L2.CX Pr w) (2 * n + 1) (He.fAd K e.at_) fd e.ps (spI (progOf tbl) (n + 1) K ca e.id) := by
      refine F.ok S len fun cdv A outer s H vs Q E hr h => ?_
      have hl := len _ _ _ _ h
      obtain ⟨_, fx, g, ds, St, hk, hc, r, rv, q⟩ := h
      subst hk hc
      refine ⟨tS fx (fun cls d _ H => E cls d H) (exS (run (progOf tbl) n) e.fn.body), ?_, ?_⟩
      · have sok : SOk (progOf tbl) n ⟨e.N, defScope e.st, gl⟩ fx (fun cls d _ H => E cls d H) (cxOf (L2.CX Pr w) Pr w fx.K mg base e.N e.qual (defScope e.st) (He.fAd fx.K e.at_) cdv A outer s H E) := by
          refine ⟨⟨rfl, S.nd, rfl, rfl, rfl, takes_of rfl rfl rfl rfl, hr.units, fun x k z => ?_⟩, fun _ => rfl, passes_of (K := fun e' s'' => L2.CX Pr w outer H s E e' s'') (E₁ := fun e' s'' => L2.CX Pr w outer H s E e' s'') rfl, S.kind⟩
          have gk := hG x k z
          cases k with
          | blt => exact gk
          | int i => exact gk
          | fn f =>
            obtain ⟨e2, m2, id2, g2⟩ := gk
            obtain ⟨fd2, F2⟩ := hF e2 m2
            have ho2 := List.all_eq_true.mp hok e2 m2
            unfold Ent.ok at ho2
            simp only [Bool.and_eq_true, decide_eq_true_eq] at ho2
            obtain ⟨p1, p2, _⟩ := ho2
            have S2 := scope_of p2
            subst id2
            have ndp : (namesPs (defArgs e2.st)).Nodup := by
              have z := S2.pre
              have z2 : e2.ps = e2.N.take e2.ps.length := z.symm
              show e2.ps.Nodup
              rw [z2]
              exact S2.nd.sublist (List.take_sublist _ _)
            exact ⟨_, _, fd2, e2.ps, g2, F2.kp, hr, F2.bindsN fun kV doc pm an cdv ct us hus => bind_plain p1 ndp hus, ih e2 m2 fd2 F2⟩
        exact (sndS e.fn.body sok).ss _ o5
      · have hN : vs.length ≤ e.N.length := by
          have z := congrArg List.length S.pre
          rw [List.length_take] at z
          omega
        refine ⟨g, startD e.fn.ns ds, St, r, start_sl o4 hN rv, ?_⟩
        have q : ePost fx (fun c d _ H => E c d H) g [] (tOf fx Q) (match (progOf tbl).fn e.id with
          | some F => if ds.length = F.np then endR (exS (run (progOf tbl) n) F.body (startD F.ns ds) St) else .bad
          | none => .bad) := q
        rw [pe] at q
        have q : ePost fx (fun c d _ H => E c d H) g [] (tOf fx Q) (if ds.length = e.fn.np then endR (exS (run (progOf tbl) n) e.fn.body (startD e.fn.ns ds) St) else .bad) := q
        rw [if_pos (by rw [← rv.length, hl, o3])] at q
        cases z : exS (run (progOf tbl) n) e.fn.body (startD e.fn.ns ds) St with
        | nx dσ S1 =>
          rw [z] at q
          exact fun g' H' σ' l' r' s' => q g' H' l' r' .non .non
        | rt d S1 =>
          rw [z] at q
          exact fun g' H' v l' r' rv' => q g' H' l' r' v rv'
        | bk dσ S1 => rw [z] at q; exact q.elim
        | ct dσ S1 => rw [z] at q; exact q.elim
        | ex x dσ S1 =>
          rw [z] at q
          exact fun cls dx g' H' σ' l' r' s' rx => q cls dx g' H' l' r' rx
        | bad => rw [z] at q; exact q.elim
    exact main.mono (by omega)
end
end MX
end

section
set_option maxRecDepth 100000
set_option maxHeartbeats 4000000
namespace MX
open PySem PySem.Spec PyProof.Rows L2

def Ent.dd (e : Ent) : He.DefD := ⟨e.at_, e.name, e.qual, defArgs e.st, defBody e.st, defScope e.st, [], []⟩
def faOf : Str × GK → He.Fa
  | (x, .blt) => .free x
  | (x, .int i) => .int x i
  | (x, .fn _) => .glo x
/-- the names' kinds fit the table -/
def glB (tbl : List Ent) (gl : List (Str × GK)) : Bool := gl.all fun p => match p.2 with
  | .fn f => tbl.any fun e => (e.id == f) && decide (e.at_ = (p.1, none))
  | _ => true
section
variable {tbl : List Ent} {gl : List (Str × GK)} {more : List He.Fa} {K : PySem.W.Frag} {h : Heap} {mg : Str → Option Value}
theorem facts_defs (c : He.SaysD (gl.map faOf ++ more) (tbl.map Ent.dd) K) : ∀ e ∈ tbl, ∃ fd, FunD K e.name e.qual (defArgs e.st) (defBody e.st) (defScope e.st) [] [] (He.fAd K e.at_) fd := fun e he => by
  obtain ⟨i, hi, e1⟩ := List.getElem_of_mem he
  exact c.def_ i (d := e.dd) (by rw [List.getElem?_map, List.getElem?_eq_getElem hi, e1]; rfl)
theorem facts_glob (c : He.SaysD (gl.map faOf ++ more) (tbl.map Ent.dd) K) (X : K.In h) (G : h.Ns mainGlobals mg) (hg : glB tbl gl = true) : ∀ x k, gl.lookup x = some k → GlobOk tbl K mg x k := fun x k hx => by
  have hm : (x, k) ∈ gl := PySem.mem_of_lookup hx
  obtain ⟨i, hi, e1⟩ := List.getElem_of_mem hm
  have fact := c.fact i (f := faOf (x, k)) (by rw [List.getElem?_append_left (by rw [List.length_map]; exact hi), List.getElem?_map, List.getElem?_eq_getElem hi, e1]; rfl)
  cases k with
  | blt => exact He.free_ok X G fact
  | int j => exact He.int_ok X G fact
  | fn f =>
    have z := He.glo_ok X G fact
    have q := List.all_eq_true.mp hg (x, .fn f) hm
    have q : (tbl.any fun e => (e.id == f) && decide (e.at_ = (x, none))) = true := q
    obtain ⟨e, me, h2⟩ := List.any_eq_true.mp q
    rw [Bool.and_eq_true] at h2
    have ea := of_decide_eq_true h2.2
    refine ⟨e, me, beq_iff_eq.mp h2.1, ?_⟩
    rw [z, ea]
    rfl
end
/-- what a law's run says -/
def LawTrue (tbl : List Ent) (n : Nat) : Prop := ∀ ns : List Int, ns.length ≤ 63 → ∃ S, run (progOf tbl) n "law" [.scr ns] [] = .ok (.bl true) S
theorem law_sp {tbl : List Ent} {n : Nat} (ht : LawTrue tbl n) {K : PySem.W.Frag} {H : Hp} {a : Addr} {ns : List Int} (hl : ns.length ≤ 63) (hS : SqL K H a (ns.map V.int)) :
    spI (progOf tbl) n K (fun _ => 0) "law" [.ref a] H (fun v _ => v = .bl true) fun _ _ _ => False := by
  obtain ⟨S, e⟩ := ht ns hl
  have hn := run_np (P := progOf tbl) (n := n) (f := "law") (ds := [.scr ns]) (S := []) (by rw [e]; exact fun z => by cases z)
  obtain ⟨F, h1, h2⟩ := hn
  refine ⟨⟨F, h1, h2⟩, ⟨K, fun _ => 0, H, H⟩, ⟨H, fun _ => 0, 0⟩, [.scr ns], [], rfl, rfl, ⟨fun _ _ e => e, fun _ _ e => e, fun _ _ e => .inl e, fun _ _ e => e, rfl, fun _ _ e => by simp at e, fun _ _ _ _ e => by simp at e⟩, .cons (.scr hS) .nil, ?_⟩
  rw [e]
  exact fun g' H' l r v rv => rv.iBl
/-- the walk of a law's row -/
theorem walk_mx {l : PySem.W.OpenLaw} {tbl : List Ent} {gl : List (Str × GK)} {more : List He.Fa} {n : Nat} {m : Nat} {q : Program} {loose : List Str} {XP : (Str → Option Value) → Heap → Prop} {d : DefRec} {x : Str}
    (hn : l.most = some 63) (hdf : d.params.defaults = []) (hr : Room (2 * n) callerA) (hdn : d.name = ("law" : Str))
    (nd : (tbl.map (·.id)).Nodup) (hok : tbl.all (Ent.ok gl) = true) (hg : glB tbl gl = true) (hlaw : tbl.any (fun e => (e.id == "law") && (decide (e.at_ = (("law" : Str), none)) && decide (e.ps = [x]))) = true) (hgl : gl.lookup ("law" : Str) = some (.fn "law")) (ht : LawTrue tbl n) :
    PySem.W.WalkO q loose XP (fun w => (He.hookD m (gl.map faOf ++ more) (tbl.map Ent.dd)).says w) l.row.toRowW d [] (fun f vs => PySem.call f vs) := by
  refine Att.attach_call hn hdf fun w s₀ s₁ mg mb fa o pm cd doc a vs ns G Y ho hd hcd hmg hobj hints hlen hgens => ?_
  obtain ⟨K, KX, c⟩ := Y
  have hF := facts_defs c
  have hG := facts_glob c KX G.T.g hg
  rw [hdn] at hmg
  obtain ⟨e, me, h2⟩ := List.any_eq_true.mp hlaw
  simp only [Bool.and_eq_true, decide_eq_true_eq, beq_iff_eq] at h2
  obtain ⟨e1, e2, e3⟩ := h2
  have g := hG _ _ hgl
  obtain ⟨e', me', f1, f2⟩ := g
  obtain rfl : e' = e := by
    have a1 := prog_at nd me
    have key : ∀ l : List Ent, (l.map (·.id)).Nodup → e' ∈ l → e ∈ l → e' = e := fun l => by
      induction l with
      | nil => exact fun _ h => by cases h
      | cons z r ih =>
        intro nd h1 h2
        have nd := List.nodup_cons.mp nd
        rcases List.mem_cons.mp h1 with q1 | q1 <;> rcases List.mem_cons.mp h2 with q2 | q2
        · rw [q1, q2]
        · exact absurd (show z.id ∈ r.map (·.id) by rw [← q1, f1, ← e1]; exact List.mem_map_of_mem q2) nd.1
        · exact absurd (show z.id ∈ r.map (·.id) by rw [← q2, e1, ← f1]; exact List.mem_map_of_mem q1) nd.1
        · exact ih nd.2 q1 q2
    exact key tbl nd me' me
  have ea : fa = He.fAd K e'.at_ := by
    have z := hmg.symm.trans f2
    cases z
    rfl
  subst ea
  obtain ⟨fd, F⟩ := hF e' me
  have ho2 := List.all_eq_true.mp hok e' me
  unfold Ent.ok at ho2
  simp only [Bool.and_eq_true, decide_eq_true_eq] at ho2
  obtain ⟨p1, p2, _⟩ := ho2
  have S2 := scope_of p2
  have ndp : (namesPs (defArgs e'.st)).Nodup := by
    have z := S2.pre
    have z2 : e'.ps = e'.N.take e'.ps.length := z.symm
    show e'.ps.Nodup
    rw [z2]
    exact S2.nd.sublist (List.take_sublist _ _)
  have b := FunD.bindsA (ps := e'.ps) F fun kV doc pm an cdv ct us hus => bind_plain p1 ndp hus
  have fin := fun base (_ : K.In base) (_ : base.Ns mainGlobals mg) => fns_ok (Pr := l.prog) (w := w) (base := base) (ca := fun _ => 0) nd hok hF hG n e' me fd F
  rw [e1, e3] at fin
  rw [e3] at b
  exact law_call KX G.T.g G.T.b G.T.builtins G.T.nolimit hgens hobj hints (Nat.le_trans hlen (by decide)) hr fin (fun s u => b s [u] rfl) (fun H hO hS => law_sp ht hlen hS) fun H e' s' z => by
    obtain ⟨_, _, _, _, _, _, _, _, _, _, _, _, z⟩ := z
    exact z
end MX
end

section
set_option maxRecDepth 100000
set_option maxHeartbeats 1000000
namespace MX
open PySem
/-! ### laws of the evaluator, for simp -/
section
variable {α β : Type} {cb : Cb} {σ : DSt} {S : Store} {a b c e r as : E}
@[simp] theorem bind_ok (x : α) (f : α → Store → Res β) : (Res.ok x S).bind f = f x S := (rfl)
@[simp] theorem bind_ex (x : Exn) (f : α → Store → Res β) : (Res.ex x S).bind f = .ex x S := (rfl)
@[simp] theorem bind_bad (f : α → Store → Res β) : (Res.bad).bind f = .bad := (rfl)
@[simp] theorem sr_ok (x : α) (f : α → Store → SR) : (Res.ok x S).sr σ f = f x S := (rfl)
@[simp] theorem sr_ex (x : Exn) (f : α → Store → SR) : (Res.ex x S).sr σ f = .ex x σ S := (rfl)
@[simp] theorem sr_bad (f : α → Store → SR) : (Res.bad).sr σ f = .bad := (rfl)
theorem bind_ite {p : Prop} [Decidable p] (x y : Res α) (f : α → Store → Res β) : (if p then x else y).bind f = if p then x.bind f else y.bind f := by split <;> rfl
theorem sr_ite {p : Prop} [Decidable p] (x y : Res α) (f : α → Store → SR) : (if p then x else y).sr σ f = if p then x.sr σ f else y.sr σ f := by split <;> rfl
@[simp high] theorem get_zero (x : α) (l : List α) : (x :: l)[0]? = some x := (rfl)
def slot (S : Store) : Option (Option D) → Res D
  | some (some d) => .ok d S
  | _ => .bad
@[simp] theorem slot_some (d : D) : slot S (some (some d)) = .ok d S := (rfl)
@[simp] theorem ev_var (i : Nat) : evE cb (.var i) σ S = slot S σ[i]? := by
  show (match σ[i]? with | some (some d) => Res.ok d S | _ => .bad) = _
  unfold slot
  rfl
@[simp] theorem ev_int (i : Int) : evE cb (.int i) σ S = .ok (.int i) S := (rfl)
@[simp] theorem ev_bl (i : Bool) : evE cb (.bl i) σ S = .ok (.bl i) S := (rfl)
@[simp] theorem ev_non : evE cb .non σ S = .ok .non S := (rfl)
@[simp] theorem ev_nopart : evE cb .nopart σ S = .ok .non S := (rfl)
@[simp] theorem ev_str (s : String) : evE cb (.str s) σ S = .ok (.str (Str.ofString s)) S := (rfl)
@[simp] theorem ev_gint (x : String) (i : Int) : evE cb (.gint x i) σ S = .ok (.int i) S := (rfl)
@[simp] theorem ev_bin (op : Bop) : evE cb (.bin op a b) σ S = (evE cb a σ S).bind fun x S1 => (evE cb b σ S1).bind fun y S2 => binD op S2 x y := (rfl)
def negD (S : Store) : D → Res D
  | .int i => .ok (.int (-i)) S
  | _ => .bad
@[simp] theorem negD_int (i : Int) : negD S (.int i) = .ok (.int (-i)) S := (rfl)
@[simp] theorem ev_neg : evE cb (.neg a) σ S = (evE cb a σ S).bind fun x S1 => negD S1 x := (rfl)
def partI (S : Store) : D → Res D
  | .int i => .ok (.int i) S
  | _ => .bad
@[simp] theorem partI_int (i : Int) : partI S (.int i) = .ok (.int i) S := (rfl)
@[simp] theorem ev_part : evE cb (.part a) σ S = (evE cb a σ S).bind fun x S1 => partI S1 x := (rfl)
@[simp] theorem ev_not : evE cb (.not a) σ S = (evE cb a σ S).bind fun x S1 => tru S1 x fun b => .ok (.bl (!b)) S1 := (rfl)
@[simp] theorem ev_cmp (op : Cop) : evE cb (.cmp op a b) σ S = (evE cb a σ S).bind fun x S1 => (evE cb b σ S1).bind fun y S2 => ofB S2 (cmpB op S2 x y) := (rfl)
@[simp] theorem ev_and : evE cb (.and a b) σ S = (evE cb a σ S).bind fun x S1 => tru S1 x fun t => if t then evE cb b σ S1 else .ok x S1 := (rfl)
@[simp] theorem ev_or : evE cb (.or a b) σ S = (evE cb a σ S).bind fun x S1 => tru S1 x fun t => if t then .ok x S1 else evE cb b σ S1 := (rfl)
@[simp] theorem ev_ife : evE cb (.ife c a b) σ S = (evE cb c σ S).bind fun x S1 => tru S1 x fun t => if t then evE cb a σ S1 else evE cb b σ S1 := (rfl)
@[simp] theorem ev_tup : evE cb (.tup a) σ S = (evE cb a σ S).bind fun x S1 => if (unT x).length ≤ sizeLine then .ok (.tup (unT x)) S1 else .bad := (rfl)
@[simp] theorem ev_lst : evE cb (.lst a) σ S = (evE cb a σ S).bind fun x S1 => if (unT x).length ≤ sizeLine then .ok (.lst (unT x)) S1 else .bad := (rfl)
@[simp] theorem ev_cell : evE cb (.cell a) σ S = (evE cb a σ S).bind fun x S1 => if (unT x).length ≤ sizeLine then .ok (.ptr S1.length) (S1 ++ [.lst (unT x)]) else .bad := (rfl)
@[simp] theorem ev_anil : evE cb .anil σ S = .ok (.tup []) S := (rfl)
@[simp] theorem ev_acons : evE cb (.acons e r) σ S = (evE cb e σ S).bind fun x S1 => (evE cb r σ S1).bind fun y S2 => .ok (.tup (x :: unT y)) S2 := (rfl)
@[simp] theorem ev_idx : evE cb (.idx a b) σ S = (evE cb a σ S).bind fun x S1 => (evE cb b σ S1).bind fun y S2 => idxD S2 x y := (rfl)
@[simp] theorem ev_cut : evE cb (.cut a b c) σ S = (evE cb a σ S).bind fun x S1 => (evE cb b σ S1).bind fun y S2 => withPart y fun l => (evE cb c σ S2).bind fun z S3 => withPart z fun h => cutD S3 x l h := (rfl)
@[simp] theorem ev_callp (f : String) : evE cb (.call .pure f as) σ S = (evE cb as σ S).bind fun x S1 => callP cb f (unT x) S1 := (rfl)
@[simp] theorem ev_callst (f : String) : evE cb (.call .st f as) σ S = (evE cb as σ S).bind fun x S1 => cb f (unT x) S1 := (rfl)
@[simp] theorem ev_bi (b : Bi) : evE cb (.bi b as) σ S = (evE cb as σ S).bind fun x S1 => biD b S1 (unT x) := (rfl)
@[simp] theorem ev_isi (cs : List Ty) : evE cb (.isi a cs) σ S = (evE cb a σ S).bind fun x S1 => ofB S1 (isiAny S1 x cs) := (rfl)
@[simp] theorem ev_cnd : evE cb (.cnd a) σ S = evE cb a σ S := (rfl)
@[simp] theorem ev_frz : evE cb (.frz a) σ S = (evE cb a σ S).bind fun x S1 => frzE S1 x := (rfl)
@[simp] theorem ev_catc : evE cb (.catc a b) σ S = (evE cb a σ S).bind fun x S1 => (evE cb b σ S1).bind fun y S2 => catD S2 x y := (rfl)
def rngR (S : Store) : Option (List D) → Res D
  | some xs => .ok (.lst xs) S
  | none => .bad
@[simp] theorem rngR_some (xs : List D) : rngR S (some xs) = .ok (.lst xs) S := (rfl)
@[simp] theorem ev_irng1 : evE cb (.irng1 a) σ S = (evE cb a σ S).bind fun x S1 => rngR S1 (rngD [x]) := (rfl)
@[simp] theorem ev_irng2 : evE cb (.irng2 a b) σ S = (evE cb a σ S).bind fun x S1 => (evE cb b σ S1).bind fun y S2 => rngR S2 (rngD [x, y]) := (rfl)
/-- o.append(e) -/
def appR (S : Store) (n : Nat) (y : D) : Option Cell → Res D
  | some (.lst xs) => if xs.length < sizeLine then .ok .non (S.set n (.lst (xs ++ [y]))) else .bad
  | _ => .bad
@[simp] theorem appR_lst (n : Nat) (y : D) (xs : List D) : appR S n y (some (.lst xs)) = if xs.length < sizeLine then .ok .non (S.set n (.lst (xs ++ [y]))) else .bad := (rfl)
def appP (n : Nat) (k : Res D) : Option Cell → Res D
  | some (.lst _) => k
  | _ => .bad
@[simp] theorem appP_lst (n : Nat) (k : Res D) (xs : List D) : appP n k (some (.lst xs)) = k := (rfl)
def appO (S : Store) (k : Store → Res D) : D → Res D
  | .ptr n => appP n ((k S).bind fun y S2 => appR S2 n y S2[n]?) S[n]?
  | _ => .bad
@[simp] theorem appO_ptr (k : Store → Res D) (n : Nat) : appO S k (.ptr n) = appP n ((k S).bind fun y S2 => appR S2 n y S2[n]?) S[n]? := (rfl)
@[simp] theorem ev_app : evE cb (.app a e) σ S = (evE cb a σ S).bind fun x S1 => appO S1 (evE cb e σ) x := (rfl)
/-- a comprehension's turn -/
def compR (k : Res (Option D)) (n : Res (Option D)) : Option Bool → Res (Option D)
  | some true => k
  | some false => n
  | none => .bad
@[simp] theorem compR_some (k n : Res (Option D)) (b : Bool) : compR k n (some b) = if b then k else n := by cases b <;> rfl
def compF (cb : Cb) (own : List Nat) (t : Nat) (c e : E) (σ : DSt) (x : D) (S : Store) : Res (Option D) :=
  noEx ((evE cb c ((wipeD σ own).set t (some x)) S).bind fun y S2 => compR ((evE cb e ((wipeD σ own).set t (some x)) S2).bind fun z S3 => .ok (some z) S3) (.ok none S2) (truD (look S2 y)))
def compG (f : D → Store → Res (Option D)) (S : Store) : Bool → Option (List D) → Res D
  | true, some xs => (compL f xs S).bind fun ys S2 => if ys.length ≤ sizeLine then .ok (.lst ys) S2 else .bad
  | _, _ => .bad
@[simp] theorem compG_ok (f : D → Store → Res (Option D)) (xs : List D) : compG f S true (some xs) = (compL f xs S).bind fun ys S2 => if ys.length ≤ sizeLine then .ok (.lst ys) S2 else .bad := (rfl)
@[simp] theorem ev_comp (own : List Nat) (t : Nat) : evE cb (.comp own t a c e) σ S = (evE cb a σ S).bind fun d S1 => compG (compF cb own t c e σ) S1 (still S1 d) (itemsD S1 d) := (rfl)
@[simp] theorem noEx_ok (x : α) : noEx (Res.ok x S) = .ok x S := (rfl)
theorem compL_map {f : D → Store → Res (Option D)} {g : D → D} {S : Store} : ∀ {xs : List D}, (∀ x ∈ xs, f x S = .ok (some (g x)) S) → compL f xs S = .ok (xs.map g) S
  | [], _ => rfl
  | x :: r, h => by
    unfold compL
    rw [h x (List.mem_cons_self ..), bind_ok, compL_map fun y hy => h y (List.mem_cons_of_mem _ hy)]
    rfl
theorem compL_filt {f : D → Store → Res (Option D)} {g : D → Option D} {S : Store} : ∀ {xs : List D}, (∀ x ∈ xs, f x S = .ok (g x) S) → compL f xs S = .ok (xs.filterMap g) S
  | [], _ => rfl
  | x :: r, h => by
    unfold compL
    rw [h x (List.mem_cons_self ..), bind_ok, compL_filt fun y hy => h y (List.mem_cons_of_mem _ hy)]
    show Res.ok ((g x).toList ++ _) S = _
    cases q : g x with
    | none => rw [List.filterMap_cons_none q]; rfl
    | some y => rw [List.filterMap_cons_some q]; rfl
/-! statements -/
def sqS (r : SR) (k : DSt → Store → SR) : SR :=
  match r with
  | .nx σ S => k σ S
  | r => r
@[simp] theorem sqS_nx (k : DSt → Store → SR) : sqS (.nx σ S) k = k σ S := (rfl)
@[simp] theorem sqS_rt (k : DSt → Store → SR) (d : D) : sqS (.rt d S) k = .rt d S := (rfl)
@[simp] theorem sqS_bk (k : DSt → Store → SR) : sqS (.bk σ S) k = .bk σ S := (rfl)
@[simp] theorem sqS_ct (k : DSt → Store → SR) : sqS (.ct σ S) k = .ct σ S := (rfl)
@[simp] theorem sqS_ex (k : DSt → Store → SR) (x : Exn) : sqS (.ex x σ S) k = .ex x σ S := (rfl)
@[simp] theorem sqS_bad (k : DSt → Store → SR) : sqS .bad k = .bad := (rfl)
theorem sqS_ite {p : Prop} [Decidable p] (x y : SR) (k : DSt → Store → SR) : sqS (if p then x else y) k = if p then sqS x k else sqS y k := by split <;> rfl
def selS : Option Bool → SR → SR → SR
  | some b, x, y => if b then x else y
  | none, _, _ => .bad
@[simp] theorem selS_some (b : Bool) (x y : SR) : selS (some b) x y = if b then x else y := (rfl)
variable {s t : Sx}
@[simp] theorem ex_nil : exS cb .nil σ S = .nx σ S := (rfl)
@[simp] theorem ex_pass : exS cb .pass σ S = .nx σ S := (rfl)
@[simp] theorem ex_brk : exS cb .brk σ S = .bk σ S := (rfl)
@[simp] theorem ex_cont : exS cb .cont σ S = .ct σ S := (rfl)
@[simp] theorem ex_seq : exS cb (.seq s t) σ S = sqS (exS cb s σ S) fun σ S => exS cb t σ S := by
  show (match exS cb s σ S with
    | .nx σ1 S1 => exS cb t σ1 S1
    | r => r) = _
  cases exS cb s σ S <;> rfl
@[simp] theorem ex_asg (i : Nat) : exS cb (.asg i e) σ S = (evE cb e σ S).sr σ fun d S1 => .nx (σ.set i (some d)) S1 := (rfl)
@[simp] theorem ex_ex : exS cb (.ex e) σ S = (evE cb e σ S).sr σ fun _ S1 => .nx σ S1 := (rfl)
@[simp] theorem ex_ret : exS cb (.ret e) σ S = (evE cb e σ S).sr σ fun d S1 => .rt d S1 := (rfl)
@[simp] theorem ex_retN : exS cb .retN σ S = .rt .non S := (rfl)
@[simp] theorem ex_ifs : exS cb (.ifs c s t) σ S = (evE cb c σ S).sr σ fun x S1 => selS (truD (look S1 x)) (exS cb s σ S1) (exS cb t σ S1) := by
  show ((evE cb c σ S).sr σ fun x S1 => match truD (look S1 x) with
    | some true => exS cb s σ S1
    | some false => exS cb t σ S1
    | none => .bad) = _
  congr
  funext x S1
  cases truD (look S1 x) with
  | none => rfl
  | some b => cases b <;> rfl
def augR (σ : DSt) (i : Nat) (S : Store) : Option Int → SR
  | some k => .nx (σ.set i (some (.int k))) S
  | none => .bad
@[simp] theorem augR_some (i : Nat) (k : Int) : augR σ i S (some k) = .nx (σ.set i (some (.int k))) S := (rfl)
def augS (op : Bop) (σ : DSt) (i : Nat) (r : Res D) : Option (Option D) → SR
  | some (some x) => r.sr σ fun y S1 => augR σ i S1 (augI op x y)
  | _ => .bad
@[simp] theorem augS_some (op : Bop) (i : Nat) (r : Res D) (x : D) : augS op σ i r (some (some x)) = r.sr σ fun y S1 => augR σ i S1 (augI op x y) := (rfl)
@[simp] theorem ex_aug (op : Bop) (i : Nat) : exS cb (.aug op i e) σ S = augS op σ i (evE cb e σ S) σ[i]? := (rfl)
@[simp] theorem augI_add (i j : Int) : augI .add (.int i) (.int j) = some (i + j) := (rfl)
@[simp] theorem augI_sub (i j : Int) : augI .sub (.int i) (.int j) = some (i - j) := (rfl)
@[simp] theorem ex_whl (n : Nat) : exS cb (.whl n c s) σ S = whlL (evE cb c) (exS cb s) n σ S := (rfl)
def loopR (r : SR) (k : DSt → Store → SR) : SR :=
  match r with
  | .nx σ S => k σ S
  | .ct σ S => k σ S
  | .bk σ S => .nx σ S
  | r => r
@[simp] theorem loopR_nx (k : DSt → Store → SR) : loopR (.nx σ S) k = k σ S := (rfl)
@[simp] theorem loopR_ct (k : DSt → Store → SR) : loopR (.ct σ S) k = k σ S := (rfl)
@[simp] theorem loopR_bk (k : DSt → Store → SR) : loopR (.bk σ S) k = .nx σ S := (rfl)
@[simp] theorem loopR_rt (k : DSt → Store → SR) (d : D) : loopR (.rt d S) k = .rt d S := (rfl)
@[simp] theorem loopR_ex (k : DSt → Store → SR) (x : Exn) : loopR (.ex x σ S) k = .ex x σ S := (rfl)
@[simp] theorem loopR_bad (k : DSt → Store → SR) : loopR .bad k = .bad := (rfl)
theorem loopR_ite {p : Prop} [Decidable p] (x y : SR) (k : DSt → Store → SR) : loopR (if p then x else y) k = if p then loopR x k else loopR y k := by split <;> rfl
theorem whl_succ {c : DSt → Store → Res D} {f : DSt → Store → SR} {n : Nat} : whlL c f (n + 1) σ S = (c σ S).sr σ fun x S1 => selS (truD (look S1 x)) (loopR (f σ S1) fun σ S => whlL c f n σ S) (.nx σ S1) := by
  show ((c σ S).sr σ fun x S1 => match truD (look S1 x) with
    | some true => match f σ S1 with
      | .nx σ1 S2 => whlL c f n σ1 S2
      | .ct σ1 S2 => whlL c f n σ1 S2
      | .bk σ1 S2 => .nx σ1 S2
      | .rt d S2 => .rt d S2
      | .ex x σ1 S2 => .ex x σ1 S2
      | .bad => .bad
    | some false => .nx σ S1
    | none => .bad) = _
  congr
  funext x S1
  cases truD (look S1 x) with
  | none => rfl
  | some b =>
    cases b
    · rfl
    · cases q : f σ S1 <;> simp [q, loopR]
@[simp] theorem for_nil {f : D → DSt → Store → SR} : forL f [] σ S = .nx σ S := (rfl)
theorem for_cons {f : D → DSt → Store → SR} {x : D} {xs : List D} : forL f (x :: xs) σ S = loopR (f x σ S) fun σ S => forL f xs σ S := by
  show (match f x σ S with
    | .nx σ1 S1 => forL f xs σ1 S1
    | .ct σ1 S1 => forL f xs σ1 S1
    | .bk σ1 S1 => .nx σ1 S1
    | .rt d S1 => .rt d S1
    | .ex x σ1 S1 => .ex x σ1 S1
    | .bad => .bad) = _
  cases f x σ S <;> rfl
def forG (f : D → DSt → Store → SR) (σ : DSt) (S : Store) : Bool → Option (List D) → SR
  | true, some xs => forL f xs σ S
  | _, _ => .bad
@[simp] theorem forG_ok (f : D → DSt → Store → SR) (xs : List D) : forG f σ S true (some xs) = forL f xs σ S := (rfl)
@[simp] theorem ex_for (t : Nat) : exS cb (.for_ t e s) σ S = (evE cb e σ S).sr σ fun d S1 => forG (fun x σ S => exS cb s (σ.set t (some x)) S) σ S1 (still S1 d) (itemsD S1 d) := (rfl)
/-- a loop whose turns all go on -/
theorem for_inv {f : D → DSt → Store → SR} (Inv : Nat → DSt → Store → Prop) : ∀ {xs : List D} {i : Nat} {σ : DSt} {S : Store}, (∀ (j : Nat) x σ S, xs[j]? = some x → Inv (i + j) σ S → ∃ σ' S', (f x σ S = .nx σ' S' ∨ f x σ S = .ct σ' S') ∧ Inv (i + j + 1) σ' S') → Inv i σ S → ∃ σ' S', forL f xs σ S = .nx σ' S' ∧ Inv (i + xs.length) σ' S'
  | [], _, σ, S, _, h0 => ⟨σ, S, rfl, h0⟩
  | x :: xs, i, σ, S, h, h0 => by
    obtain ⟨σ1, S1, e, h1⟩ := h 0 x σ S rfl h0
    obtain ⟨σ2, S2, e2, h2⟩ := for_inv Inv (f := f) (xs := xs) (i := i + 1) (σ := σ1) (S := S1) (fun j y σ' S' hj hi => by
      have z := h (j + 1) y σ' S' (by simpa using hj) (by rw [show i + (j + 1) = i + 1 + j by omega]; exact hi)
      rw [show i + (j + 1) + 1 = i + 1 + j + 1 by omega] at z
      exact z) h1
    refine ⟨σ2, S2, ?_, by rw [List.length_cons, show i + (xs.length + 1) = i + 1 + xs.length by omega]; exact h2⟩
    rw [for_cons]
    rcases e with e | e <;> rw [e] <;> exact e2
/-! values -/
@[simp] theorem look_int (i : Int) : look S (.int i) = .int i := (rfl)
@[simp] theorem look_bl (i : Bool) : look S (.bl i) = .bl i := (rfl)
@[simp] theorem look_non : look S .non = .non := (rfl)
@[simp] theorem look_str (s : Str) : look S (.str s) = .str s := (rfl)
@[simp] theorem look_lst (xs : List D) : look S (.lst xs) = .lst xs := (rfl)
@[simp] theorem look_tup (xs : List D) : look S (.tup xs) = .tup xs := (rfl)
@[simp] theorem look_scr (xs : List Int) : look S (.scr xs) = .scr xs := (rfl)
theorem look_ptr_lst {n : Nat} {xs : List D} (h : S[n]? = some (.lst xs)) : look S (.ptr n) = .lst xs := by
  show (match S[n]? with
    | some (.lst xs) => D.lst xs
    | some (.ins c fs) => D.ins c fs
    | some (.frz d) => d
    | none => D.ptr n) = _
  rw [h]
theorem look_ptr_frz {n : Nat} {d : D} (h : S[n]? = some (.frz d)) : look S (.ptr n) = d := by
  show (match S[n]? with
    | some (.lst xs) => D.lst xs
    | some (.ins c fs) => D.ins c fs
    | some (.frz d) => d
    | none => D.ptr n) = _
  rw [h]
@[simp] theorem still_int (i : Int) : still S (.int i) = true := (rfl)
@[simp] theorem still_lst (xs : List D) : still S (.lst xs) = true := (rfl)
@[simp] theorem still_tup (xs : List D) : still S (.tup xs) = true := (rfl)
@[simp] theorem still_scr (xs : List Int) : still S (.scr xs) = true := (rfl)
@[simp] theorem items_lst (xs : List D) : itemsD S (.lst xs) = some xs := (rfl)
@[simp] theorem items_tup (xs : List D) : itemsD S (.tup xs) = some xs := (rfl)
@[simp] theorem items_scr (xs : List Int) : itemsD S (.scr xs) = some (xs.map .int) := (rfl)
@[simp] theorem tru_bl (b : Bool) (k : Bool → Res D) : tru S (.bl b) k = k b := (rfl)
@[simp] theorem tru_int (i : Int) (k : Bool → Res D) : tru S (.int i) k = k (i != 0) := (rfl)
@[simp] theorem truD_bl (b : Bool) : truD (.bl b) = some b := (rfl)
@[simp] theorem truD_int (i : Int) : truD (.int i) = some (i != 0) := (rfl)
@[simp] theorem truD_non : truD .non = some false := (rfl)
@[simp] theorem truD_lst (xs : List D) : truD (.lst xs) = some (!xs.isEmpty) := (rfl)
@[simp] theorem truD_tup (xs : List D) : truD (.tup xs) = some (!xs.isEmpty) := (rfl)
@[simp] theorem ofB_some (b : Bool) : ofB S (some b) = .ok (.bl b) S := (rfl)
@[simp] theorem unT_tup (xs : List D) : unT (.tup xs) = xs := (rfl)
@[simp] theorem part_non : partD .non = some none := (rfl)
@[simp] theorem part_int (i : Int) : partD (.int i) = some (some i) := (rfl)
@[simp] theorem withPart_non (k : Option Int → Res α) : withPart .non k = k none := (rfl)
@[simp] theorem withPart_int (i : Int) (k : Option Int → Res α) : withPart (.int i) k = k (some i) := (rfl)
@[simp] theorem bin_add (i j : Int) : binD .add S (.int i) (.int j) = .ok (.int (i + j)) S := (rfl)
@[simp] theorem bin_sub (i j : Int) : binD .sub S (.int i) (.int j) = .ok (.int (i - j)) S := (rfl)
theorem bin_mul {i j : Int} (h : (-(2 ^ 64) < i ∧ i < 2 ^ 64) ∨ (-(2 ^ 64) < j ∧ j < 2 ^ 64)) : binD .mul S (.int i) (.int j) = .ok (.int (i * j)) S := by
  show (match (if (-(2 ^ 64) < i ∧ i < 2 ^ 64) ∨ (-(2 ^ 64) < j ∧ j < 2 ^ 64) then some (i * j) else none) with | some k => Res.ok (D.int k) S | none => .bad) = _
  rw [if_pos h]
theorem bin_fdiv {i j : Int} (h : 0 < j ∧ j < 1073741824) : binD .fdiv S (.int i) (.int j) = .ok (.int (i / j)) S := by
  show (match (if 0 < j ∧ j < 1073741824 then some (i / j) else none) with | some k => Res.ok (D.int k) S | none => .bad) = _
  rw [if_pos h]
theorem bin_mod {i j : Int} (h : 0 < j) : binD .mod S (.int i) (.int j) = .ok (.int (i % j)) S := by
  show (match (if 0 < j then some (i % j) else none) with | some k => Res.ok (D.int k) S | none => .bad) = _
  rw [if_pos h]
theorem bin_pow {i j : Int} (h : 0 ≤ j ∧ j ≤ 1000000 ∧ i.natAbs < 2 ^ 64) : binD .pow S (.int i) (.int j) = .ok (.int (i ^ j.toNat)) S := by
  show (match (if 0 ≤ j ∧ j ≤ 1000000 ∧ i.natAbs < 2 ^ 64 then some (i ^ j.toNat) else none) with | some k => Res.ok (D.int k) S | none => .bad) = _
  rw [if_pos h]
theorem bin_cat {a b : D} {xs ys : List D} (h1 : look S a = .lst xs) (h2 : look S b = .lst ys) (h : xs.length + ys.length ≤ sizeLine) : binD .add S a b = .ok (.lst (xs ++ ys)) S := by
  unfold binD
  rw [h1, h2]
  exact if_pos h
theorem catD_ok {a b : D} {xs ys : List D} (h1 : look S a = .lst xs) (h2 : look S b = .lst ys) (h : xs.length + ys.length ≤ sizeLine) : catD S a b = .ok (.ptr S.length) (S ++ [.lst (xs ++ ys)]) := by
  unfold catD
  rw [h1, h2]
  exact if_pos h
@[simp] theorem dp_int (n : Nat) (i : Int) : dpD n (.int i) = true := by cases n <;> rfl
@[simp] theorem dp_bl (n : Nat) (i : Bool) : dpD n (.bl i) = true := by cases n <;> rfl
@[simp] theorem dp_non (n : Nat) : dpD n .non = true := by cases n <;> rfl
@[simp] theorem dp_lst (n : Nat) (xs : List D) : dpD (n + 1) (.lst xs) = xs.all (dpD n) := (rfl)
@[simp] theorem dp_tup (n : Nat) (xs : List D) : dpD (n + 1) (.tup xs) = xs.all (dpD n) := (rfl)
@[simp] theorem eqB_int (i j : Int) : eqB (.int i) (.int j) = (i == j) := by unfold eqB; rfl
@[simp] theorem eqB_bl (i j : Bool) : eqB (.bl i) (.bl j) = (i == j) := by unfold eqB; rfl
@[simp] theorem eqO_int (i j : Int) : eqO (.int i) (.int j) = some (i == j) := by unfold eqO; simp
@[simp] theorem eqO_bl (i j : Bool) : eqO (.bl i) (.bl j) = some (i == j) := by unfold eqO; simp
@[simp] theorem notO_some' (b : Bool) : notO (some b) = some (!b) := (rfl)
@[simp] theorem cmp_eq (a b : D) : cmpB .eq S a b = eqO (look S a) (look S b) := (rfl)
@[simp] theorem cmp_ne (a b : D) : cmpB .ne S a b = notO (eqO (look S a) (look S b)) := (rfl)
@[simp] theorem cmp_lt (i j : Int) : cmpB .lt S (.int i) (.int j) = some (decide (i < j)) := (rfl)
@[simp] theorem cmp_le (i j : Int) : cmpB .le S (.int i) (.int j) = some (decide (i ≤ j)) := (rfl)
@[simp] theorem cmp_gt (i j : Int) : cmpB .gt S (.int i) (.int j) = some (decide (j < i)) := (rfl)
@[simp] theorem cmp_ge (i j : Int) : cmpB .ge S (.int i) (.int j) = some (decide (j ≤ i)) := (rfl)
@[simp] theorem bi_abs (i : Int) : biD .abs S [.int i] = .ok (.int (if i < 0 then -i else i)) S := (rfl)
@[simp] theorem bi_int (i : Int) : biD .int S [.int i] = .ok (.int i) S := (rfl)
@[simp] theorem bi_max (i j : Int) : biD .max2 S [.int i, .int j] = .ok (.int (if j > i then j else i)) S := (rfl)
@[simp] theorem bi_min (i j : Int) : biD .min2 S [.int i, .int j] = .ok (.int (if j < i then j else i)) S := (rfl)
def lenR (S : Store) : Option Nat → Res D
  | some n => .ok (.int n) S
  | none => .bad
@[simp] theorem lenR_some (n : Nat) : lenR S (some n) = .ok (.int n) S := (rfl)
@[simp] theorem bi_len (d : D) : biD .len S [d] = lenR S (lenD S d) := by
  show (match lenD S d with
    | some n => Res.ok (D.int n) S
    | none => Res.bad) = _
  cases lenD S d <;> rfl
@[simp] theorem len_lst (xs : List D) : lenD S (.lst xs) = some xs.length := (rfl)
@[simp] theorem len_tup (xs : List D) : lenD S (.tup xs) = some xs.length := (rfl)
@[simp] theorem len_scr (xs : List Int) : lenD S (.scr xs) = some xs.length := (rfl)
theorem len_ptr {n : Nat} {xs : List D} (h : S[n]? = some (.lst xs)) : lenD S (.ptr n) = some xs.length := by unfold lenD; rw [look_ptr_lst h]
theorem ints_map : ∀ ns : List Int, intsD (ns.map .int) = some ns
  | [] => rfl
  | n :: ns => by
    show (intsD (ns.map .int)).map (n :: ·) = _
    rw [ints_map ns]
    rfl
@[simp] theorem bi_sum (ns : List Int) : biD .sum S [.lst (ns.map .int)] = .ok (.int ns.sum) S := by
  show (match intsD (ns.map .int) with
      | some ns => Res.ok (D.int ns.sum) S
      | none => Res.bad) = _
  rw [ints_map]
@[simp] theorem isi_nil (d : D) : isiAny S d [] = some false := (rfl)
@[simp] theorem isi_int_int (i : Int) : isiD S (.int i) .int = some true := (rfl)
@[simp] theorem isi_int_bool (i : Int) : isiD S (.int i) .bool = some false := (rfl)
@[simp] theorem isi_bl_bool (i : Bool) : isiD S (.bl i) .bool = some true := (rfl)
@[simp] theorem isi_bl_int (i : Bool) : isiD S (.bl i) .int = some true := (rfl)
def isiO (k : Option Bool) : Option Bool → Option Bool
  | some true => some true
  | some false => k
  | none => none
@[simp] theorem isiO_t (k : Option Bool) : isiO k (some true) = some true := (rfl)
@[simp] theorem isiO_f (k : Option Bool) : isiO k (some false) = k := (rfl)
@[simp] theorem isi_cons (d : D) (t : Ty) (r : List Ty) : isiAny S d (t :: r) = isiO (isiAny S d r) (isiD S d t) := by
  show (match isiD S d t with
    | some true => some true
    | some false => isiAny S d r
    | none => none) = _
  cases isiD S d t with
  | none => rfl
  | some b => cases b <;> rfl
theorem rng1_ok {n : Int} (h : -(2 ^ 62) ≤ n ∧ n < 2 ^ 62) : rngD [.int n] = some ((List.range n.toNat).map fun (k : Nat) => D.int (k : Int)) := by
  have z : rngD [.int n] = some ((List.range n.toNat).map fun (k : Nat) => D.int (0 + (k : Int))) := if_pos h
  rw [z]
  simp
theorem rng2_ok {a b : Int} (h : -(2 ^ 62) ≤ a ∧ a < 2 ^ 62 ∧ -(2 ^ 62) ≤ b ∧ b < 2 ^ 62) : rngD [.int a, .int b] = some ((List.range (b - a).toNat).map fun (k : Nat) => D.int (a + (k : Int))) := if_pos h
/-! ### calls -/
@[simp] theorem pf_int (i : Int) : (D.int i).pf = true := by unfold D.pf; rfl
@[simp] theorem pf_bl (i : Bool) : (D.bl i).pf = true := by unfold D.pf; rfl
@[simp] theorem pf_non : D.non.pf = true := by unfold D.pf; rfl
@[simp] theorem pf_str (s : Str) : (D.str s).pf = true := by unfold D.pf; rfl
@[simp] theorem pf_scr (s : List Int) : (D.scr s).pf = true := by unfold D.pf; rfl
@[simp] theorem pf_lst (xs : List D) : (D.lst xs).pf = pfL xs := by rw [D.pf]
@[simp] theorem pf_tup (xs : List D) : (D.tup xs).pf = pfL xs := by rw [D.pf]
@[simp] theorem pfL_nil : pfL [] = true := by unfold pfL; rfl
@[simp] theorem pfL_cons (d : D) (r : List D) : pfL (d :: r) = (d.pf && pfL r) := by rw [pfL]
theorem pfL_all : ∀ {xs : List D}, (∀ d ∈ xs, d.pf = true) → pfL xs = true
  | [], _ => pfL_nil
  | x :: r, h => by rw [pfL_cons, h x (List.mem_cons_self ..), pfL_all fun y hy => h y (List.mem_cons_of_mem _ hy)]; rfl
@[simp] theorem pfL_ints (ns : List Int) : pfL (ns.map .int) = true := pfL_all fun d hd => by
  obtain ⟨n, _, rfl⟩ := List.mem_map.mp hd
  exact pf_int n
theorem frzD_pf {k : Nat} {d : D} (h : d.pf = true) : frzD k S d = some (d, S) := by
  cases k <;> unfold frzD <;> rw [if_pos h]
theorem frzL_pf {k : Nat} : ∀ {ds : List D}, pfL ds = true → frzL (frzD k) S ds = some (ds, S)
  | [], _ => rfl
  | d :: r, h => by
    rw [pfL_cons, Bool.and_eq_true] at h
    unfold frzL
    rw [frzD_pf h.1]
    show (match frzL (frzD k) S r with
      | some (q, S2) => some (d :: q, S2)
      | none => none) = _
    rw [frzL_pf h.2]
theorem frzE_pf {d : D} (h : d.pf = true) : frzE S d = .ok d S := by
  unfold frzE
  rw [frzD_pf h]
theorem callP_ok {f : String} {ds : List D} {d : D} {S2 : Store} (h1 : pfL ds = true) (h2 : cb f ds [] = .ok d S2) (h3 : d.pf = true) : callP cb f ds S = .ok d S := by
  unfold callP
  rw [frzL_pf h1]
  show (match cb f ds [] with
    | .ok d S2 => match frzD frzK S2 d with
      | some (d', _) => Res.ok d' S
      | none => .bad
    | .ex x _ => if pfF x.fs then .ex x S else .bad
    | .bad => .bad) = _
  rw [h2]
  show (match frzD frzK S2 d with
      | some (d', _) => Res.ok d' S
      | none => .bad) = _
  rw [frzD_pf h3]
theorem run_fn {P : Prog} {n : Nat} {f : String} {F : Fn} {ds : List D} (h : P.fn f = some F) (hl : ds.length = F.np) : run P (n + 1) f ds S = endR (exS (run P n) F.body (startD F.ns ds) S) := by
  show (match P.fn f with
    | some F => if ds.length = F.np then endR (exS (run P n) F.body (startD F.ns ds) S) else .bad
    | none => .bad) = _
  rw [h]
  exact if_pos hl
@[simp] theorem endR_rt (d : D) : endR (.rt d S) = .ok d S := (rfl)
@[simp] theorem endR_nx : endR (.nx σ S) = .ok .non S := (rfl)
@[simp] theorem endR_ex (x : Exn) : endR (.ex x σ S) = .ex x S := (rfl)
theorem endR_ite {p : Prop} [Decidable p] (x y : SR) : endR (if p then x else y) = if p then endR x else endR y := by split <;> rfl
end
end MX
end

section
set_option maxRecDepth 100000
set_option maxHeartbeats 4000000
namespace MX
open PySem
def c__law_mixed : Fn := ⟨2, 3, (.seq (.asg 2 (.bin .mod (.bi .int (.acons (.bin .add (.bin .add (.bin .mul (.var 0) (.int 48271)) (.bin .mul (.var 1) (.int 69621))) (.int 12345)) .anil)) (.int 2147483647)))
  (.seq (.ret (.bin .mod (.bin .fdiv (.bin .mod (.bi .int (.acons (.bin .mul (.var 2) (.bin .add (.bin .add (.var 2) (.int 40692)) (.var 1))) .anil)) (.int 2147483629)) (.int 64)) (.int 5040)))
  .nil))⟩
def c__law_pool : Fn := ⟨2, 10, (.seq (.asg 2 (.cell .anil))
  (.seq (.for_ 3 (.var 0) (.seq (.asg 7 (.bi .abs (.acons (.bi .int (.acons (.var 3) .anil)) .anil)))
  (.seq (.ifs (.cmp .lt (.var 7) (.bin .pow (.int 10) (.int 18))) (.seq (.asg 8 (.bin .mul (.int 7919) (.bi .len (.acons (.var 2) .anil))))
  (.seq (.asg 2 (.catc (.var 2) (.comp [6] 6 (.irng1 (.int 4)) (.bl true) (.call .pure "_law_mixed" (.acons (.bin .add (.var 7) (.var 8)) (.acons (.var 6) .anil))))))
  (.seq (.asg 7 (.int 0))
  .nil))) .nil)
  (.seq (.for_ 6 (.irng1 (.int 60)) (.seq (.ifs (.cmp .gt (.var 7) (.int 0)) (.seq (.ex (.app (.var 2) (.bin .mod (.bi .int (.acons (.var 7) .anil)) (.int 5040))))
  (.seq (.asg 7 (.bin .fdiv (.var 7) (.int 5040)))
  .nil)) .nil)
  .nil))
  .nil))))
  (.seq (.asg 4 (.bin .add (.bin .mod (.bi .int (.acons (.bi .sum (.acons (.comp [9] 9 (.var 0) (.bl true) (.bi .int (.acons (.var 9) .anil))) .anil)) .anil)) (.int 1000003)) (.bi .len (.acons (.var 0) .anil))))
  (.seq (.asg 5 (.cell .anil))
  (.seq (.for_ 6 (.irng1 (.var 1)) (.seq (.ex (.app (.var 5) (.bin .mod (.bi .int (.acons (.bin .add (.bin .mul (.var 4) (.bin .add (.var 6) (.int 1))) (.bin .fdiv (.bin .add (.bin .sub (.bin .mul (.bin .mul (.int 17) (.var 6)) (.var 6)) (.bin .mul (.int 12) (.var 6))) (.int 8)) (.int 4))) .anil)) (.int 5040))))
  .nil))
  (.seq (.ret (.cut (.bin .add (.var 2) (.var 5)) .nopart (.part (.var 1))))
  .nil))))))⟩
def mixF (c k : Int) : Int := ((((c * 48271 + k * 69621 + 12345) % 2147483647) * (((c * 48271 + k * 69621 + 12345) % 2147483647) + 40692 + k)) % 2147483629) / 64 % 5040
theorem mix_run {P : Prog} (h : P.fn "_law_mixed" = some c__law_mixed) (n : Nat) (c k : Int) (S : Store) : run P (n + 1) "_law_mixed" [.int c, .int k] S = .ok (.int (mixF c k)) S := by
  rw [run_fn h rfl]
  simp (disch := omega) [List.getElem?_cons_zero, c__law_mixed, startD, bin_mul, bin_mod, bin_fdiv, mixF]
theorem mix_bd (c k : Int) : 0 ≤ mixF c k ∧ mixF c k < 5040 := by
  unfold mixF
  omega
def Small (xs : List Int) : Prop := ∀ x ∈ xs, 0 ≤ x ∧ x < 5040
theorem Small.append {xs ys : List Int} (h : Small xs) (k : Small ys) : Small (xs ++ ys) := fun x hx => by
  rcases List.mem_append.mp hx with z | z
  · exact h x z
  · exact k x z
theorem Small.one {x : Int} (h : 0 ≤ x ∧ x < 5040) : Small [x] := fun y hy => by
  rw [List.mem_singleton] at hy
  rw [hy]
  exact h
theorem call_int1 {cb : Cb} {S : Store} {f : String} {ds : List D} {d : D} {S2 : Store} (h1 : pfL ds = true) (h2 : cb f ds [] = .ok d S2) (h3 : d.pf = true) : callP cb f ds S = .ok d S := callP_ok h1 h2 h3
/-- the pool's comprehension -/
theorem pool_mix {P : Prog} (h : P.fn "_law_mixed" = some c__law_mixed) (n : Nat) (a b : Int) {o0 o1 o2 o3 o4 o5 o6 o9 : Option D} (S : Store) :
    evE (run P (n + 1)) (.comp [6] 6 (.irng1 (.int 4)) (.bl true) (.call .pure "_law_mixed" (.acons (.bin .add (.var 7) (.var 8)) (.acons (.var 6) .anil)))) [o0, o1, o2, o3, o4, o5, o6, some (.int a), some (.int b), o9] S
      = .ok (.lst [.int (mixF (a + b) 0), .int (mixF (a + b) 1), .int (mixF (a + b) 2), .int (mixF (a + b) 3)]) S := by
  have e : ∀ k : Int, compF (run P (n + 1)) [6] 6 (.bl true) (.call .pure "_law_mixed" (.acons (.bin .add (.var 7) (.var 8)) (.acons (.var 6) .anil))) [o0, o1, o2, o3, o4, o5, o6, some (.int a), some (.int b), o9] (.int k) S = .ok (some (.int (mixF (a + b) k))) S := fun k => by
    unfold compF
    have c := callP_ok (cb := run P (n + 1)) (S := S) (f := "_law_mixed") (ds := [.int (a + b), .int k]) (by simp) (mix_run h n (a + b) k []) (by simp)
    simp [wipeD, c]
  have r : rngD [.int 4] = some [.int 0, .int 1, .int 2, .int 3] := by
    rw [rng1_ok (by omega)]
    rfl
  simp [r, compL, e, sizeLine]
/-- the pool's long draws -/
def poolIn (cb : Cb) (x : D) (σ : DSt) (S : Store) : SR := exS cb (.seq (.ifs (.cmp .gt (.var 7) (.int 0)) (.seq (.ex (.app (.var 2) (.bin .mod (.bi .int (.acons (.var 7) .anil)) (.int 5040)))) (.seq (.asg 7 (.bin .fdiv (.var 7) (.int 5040))) .nil)) .nil) .nil) (σ.set 6 (some x)) S
theorem lt_of_get {S : Store} {p : Nat} {c : Cell} (h : S[p]? = some c) : p < S.length := (List.getElem?_eq_some_iff.mp h).1
section
variable {cb : Cb} {o0 o1 o3 o4 o5 o8 o9 : Option D} {p : Nat}
theorem poolIn_pos {o6 : Option D} {S : Store} {l : Int} {ys : List Int} (k : Int) (hl : 0 < l) (h : S[p]? = some (.lst (ys.map .int))) (hz : ys.length < sizeLine) :
    poolIn cb (.int k) [o0, o1, some (.ptr p), o3, o4, o5, o6, some (.int l), o8, o9] S = .nx [o0, o1, some (.ptr p), o3, o4, o5, some (.int k), some (.int (l / 5040)), o8, o9] (S.set p (.lst ((ys ++ [l % 5040]).map .int))) := by
  unfold poolIn
  simp [hl, h, bin_mod, bin_fdiv, hz]
theorem poolIn_neg {o6 : Option D} {S : Store} {l : Int} (k : Int) (hl : ¬ 0 < l) :
    poolIn cb (.int k) [o0, o1, some (.ptr p), o3, o4, o5, o6, some (.int l), o8, o9] S = .nx [o0, o1, some (.ptr p), o3, o4, o5, some (.int k), some (.int l), o8, o9] S := by
  unfold poolIn
  simp [hl]
theorem pool_in : ∀ (xs : List D) {o6 : Option D} {S : Store} {l : Int} {ys : List Int}, (∀ x ∈ xs, ∃ k : Int, x = .int k) → 0 ≤ l → S[p]? = some (.lst (ys.map .int)) → Small ys → ys.length + xs.length ≤ sizeLine →
    ∃ (o6' : Option D) (S' : Store) (l' : Int) (zs : List Int), forL (poolIn cb) xs [o0, o1, some (.ptr p), o3, o4, o5, o6, some (.int l), o8, o9] S = .nx [o0, o1, some (.ptr p), o3, o4, o5, o6', some (.int l'), o8, o9] S' ∧ S'[p]? = some (.lst (zs.map .int)) ∧ Small zs ∧ zs.length ≤ ys.length + xs.length
  | [], o6, S, l, ys, _, _, h, hs, _ => ⟨o6, S, l, ys, rfl, h, hs, by simp⟩
  | x :: xs, o6, S, l, ys, h2, h3, h, hs, h5 => by
    obtain ⟨k, rfl⟩ := h2 x (List.mem_cons_self ..)
    have h2 := fun y hy => h2 y (List.mem_cons_of_mem _ hy)
    rw [List.length_cons] at h5
    rw [for_cons]
    by_cases hl : 0 < l
    · obtain ⟨o6', S', l', zs, e, a, b, c⟩ := pool_in xs (o6 := some (.int k)) (S := S.set p (.lst ((ys ++ [l % 5040]).map .int))) (l := l / 5040) (ys := ys ++ [l % 5040]) h2 (by omega) (by rw [List.getElem?_set_self (lt_of_get h)]) (hs.append (.one (by omega))) (by simp; omega)
      refine ⟨o6', S', l', zs, ?_, a, b, by simp at c; simp; omega⟩
      rw [poolIn_pos k hl h (by omega), loopR_nx, e]
    · obtain ⟨o6', S', l', zs, e, a, b, c⟩ := pool_in xs (o6 := some (.int k)) (S := S) (l := l) (ys := ys) h2 h3 h hs (by omega)
      refine ⟨o6', S', l', zs, ?_, a, b, by simp; omega⟩
      rw [poolIn_neg k hl, loopR_nx, e]
end
/-- the pool's outer loop -/
def poolOut (cb : Cb) (x : D) (σ : DSt) (S : Store) : SR := exS cb (.seq (.asg 7 (.bi .abs (.acons (.bi .int (.acons (.var 3) .anil)) .anil)))
  (.seq (.ifs (.cmp .lt (.var 7) (.bin .pow (.int 10) (.int 18))) (.seq (.asg 8 (.bin .mul (.int 7919) (.bi .len (.acons (.var 2) .anil))))
  (.seq (.asg 2 (.catc (.var 2) (.comp [6] 6 (.irng1 (.int 4)) (.bl true) (.call .pure "_law_mixed" (.acons (.bin .add (.var 7) (.var 8)) (.acons (.var 6) .anil))))))
  (.seq (.asg 7 (.int 0))
  .nil))) .nil)
  (.seq (.for_ 6 (.irng1 (.int 60)) (.seq (.ifs (.cmp .gt (.var 7) (.int 0)) (.seq (.ex (.app (.var 2) (.bin .mod (.bi .int (.acons (.var 7) .anil)) (.int 5040))))
  (.seq (.asg 7 (.bin .fdiv (.var 7) (.int 5040)))
  .nil)) .nil)
  .nil))
  .nil))) (σ.set 3 (some x)) S
theorem rng60 : ∃ xs : List D, rngD [.int 60] = some xs ∧ xs.length = 60 ∧ ∀ x ∈ xs, ∃ k : Int, x = .int k := by
  refine ⟨_, rng1_ok (by omega), by simp, fun x hx => ?_⟩
  obtain ⟨k, _, rfl⟩ := List.mem_map.mp hx
  exact ⟨_, rfl⟩
theorem poolOut_a {P : Prog} (hP : P.fn "_law_mixed" = some c__law_mixed) (n : Nat) (c : Int) {o0 o1 o3 o4 o5 o6 o7 o8 o9 : Option D} {p : Nat} {S : Store} {ys : List Int} (h : S[p]? = some (.lst (ys.map .int))) (hz : ys.length + 64 ≤ sizeLine)
    (hc : (if c < 0 then -c else c) < 1000000000000000000) : ∃ zs : List Int, Small zs ∧ zs.length = 4 ∧ poolOut (run P (n + 1)) (.int c) [o0, o1, some (.ptr p), o3, o4, o5, o6, o7, o8, o9] S = sqS (exS (run P (n + 1)) (.for_ 6 (.irng1 (.int 60)) (.seq (.ifs (.cmp .gt (.var 7) (.int 0)) (.seq (.ex (.app (.var 2) (.bin .mod (.bi .int (.acons (.var 7) .anil)) (.int 5040)))) (.seq (.asg 7 (.bin .fdiv (.var 7) (.int 5040))) .nil)) .nil) .nil)) [o0, o1, some (.ptr S.length), some (.int c), o4, o5, o6, some (.int 0), some (.int (7919 * ys.length)), o9] (S ++ [.lst ((ys ++ zs).map .int)])) fun σ S => .nx σ S := by
  refine ⟨[mixF ((if c < 0 then -c else c) + 7919 * ys.length) 0, mixF ((if c < 0 then -c else c) + 7919 * ys.length) 1, mixF ((if c < 0 then -c else c) + 7919 * ys.length) 2, mixF ((if c < 0 then -c else c) + 7919 * ys.length) 3], ?_, rfl, ?_⟩
  · intro x hx
    simp only [List.mem_cons, List.not_mem_nil, or_false] at hx
    rcases hx with rfl | rfl | rfl | rfl <;> exact mix_bd _ _
  have pw : binD .pow S (.int 10) (.int 18) = .ok (.int 1000000000000000000) S := bin_pow (i := 10) (j := 18) (by decide)
  have m1 : binD .mul S (.int 7919) (.int ys.length) = .ok (.int (7919 * ys.length)) S := bin_mul (by omega)
  have cm := fun (a b : Int) => pool_mix hP n a b (o0 := o0) (o1 := o1) (o2 := some (.ptr p)) (o3 := some (.int c)) (o4 := o4) (o5 := o5) (o6 := o6) (o9 := o9) S
  have ct := fun (a b c d : Int) => catD_ok (S := S) (a := .ptr p) (b := .lst [.int a, .int b, .int c, .int d]) (xs := ys.map .int) (ys := [.int a, .int b, .int c, .int d]) (look_ptr_lst h) rfl (by simp; omega)
  unfold poolOut
  simp [pw, hc, len_ptr h, m1, ct, cm, -ev_comp, -ex_for]
theorem poolOut_b {P : Prog} (n : Nat) (c : Int) {o0 o1 o3 o4 o5 o6 o7 o8 o9 : Option D} {p : Nat} {S : Store}
    (hc : ¬ (if c < 0 then -c else c) < 1000000000000000000) : poolOut (run P (n + 1)) (.int c) [o0, o1, some (.ptr p), o3, o4, o5, o6, o7, o8, o9] S = sqS (exS (run P (n + 1)) (.for_ 6 (.irng1 (.int 60)) (.seq (.ifs (.cmp .gt (.var 7) (.int 0)) (.seq (.ex (.app (.var 2) (.bin .mod (.bi .int (.acons (.var 7) .anil)) (.int 5040)))) (.seq (.asg 7 (.bin .fdiv (.var 7) (.int 5040))) .nil)) .nil) .nil)) [o0, o1, some (.ptr p), some (.int c), o4, o5, o6, some (.int (if c < 0 then -c else c)), o8, o9] S) fun σ S => .nx σ S := by
  have pw : binD .pow S (.int 10) (.int 18) = .ok (.int 1000000000000000000) S := bin_pow (i := 10) (j := 18) (by decide)
  unfold poolOut
  simp [pw, hc, -ev_comp, -ex_for]
theorem pool_turn {P : Prog} (hP : P.fn "_law_mixed" = some c__law_mixed) (n : Nat) (c : Int) {o0 o1 o3 o4 o5 o6 o7 o8 o9 : Option D} {p : Nat} {S : Store} {ys : List Int} (h : S[p]? = some (.lst (ys.map .int))) (hs : Small ys) (hz : ys.length + 64 ≤ sizeLine) :
    ∃ (o6' o7' o8' : Option D) (p' : Nat) (S' : Store) (zs : List Int), poolOut (run P (n + 1)) (.int c) [o0, o1, some (.ptr p), o3, o4, o5, o6, o7, o8, o9] S = .nx [o0, o1, some (.ptr p'), some (.int c), o4, o5, o6', o7', o8', o9] S' ∧ S'[p']? = some (.lst (zs.map .int)) ∧ Small zs ∧ zs.length ≤ ys.length + 64 := by
  obtain ⟨r60, e60, l60, m60⟩ := rng60
  by_cases hc : (if c < 0 then -c else c) < 1000000000000000000
  · obtain ⟨zs, sz, lz, e⟩ := poolOut_a hP n c (o0 := o0) (o1 := o1) (o3 := o3) (o4 := o4) (o5 := o5) (o6 := o6) (o7 := o7) (o8 := o8) (o9 := o9) h hz hc
    obtain ⟨o6', S', l', us, e2, a, b, c⟩ := pool_in (cb := run P (n + 1)) (o0 := o0) (o1 := o1) (o3 := some (.int c)) (o4 := o4) (o5 := o5) (o8 := some (.int (7919 * ys.length))) (o9 := o9) (p := S.length) r60 (o6 := o6) (S := S ++ [.lst ((ys ++ zs).map .int)]) (l := 0) (ys := ys ++ zs) m60 (by omega) (by simp) (hs.append sz) (by simp; omega)
    refine ⟨o6', some (.int l'), some (.int (7919 * ys.length)), S.length, S', us, ?_, a, b, by simp at c; omega⟩
    rw [e]
    rw [ex_for, ev_irng1, ev_int, bind_ok, e60, rngR_some, sr_ok, still_lst, items_lst, forG_ok]
    exact congrArg (fun z => sqS z fun σ S => .nx σ S) e2
  · have e := poolOut_b (P := P) n c (o0 := o0) (o1 := o1) (o3 := o3) (o4 := o4) (o5 := o5) (o6 := o6) (o7 := o7) (o8 := o8) (o9 := o9) (p := p) (S := S) hc
    obtain ⟨o6', S', l', us, e2, a, b, c2⟩ := pool_in (cb := run P (n + 1)) (o0 := o0) (o1 := o1) (o3 := some (.int c)) (o4 := o4) (o5 := o5) (o8 := o8) (o9 := o9) (p := p) r60 (o6 := o6) (S := S) (l := if c < 0 then -c else c) (ys := ys) m60 (by omega) h hs (by omega)
    refine ⟨o6', some (.int l'), o8, p, S', us, ?_, a, b, by omega⟩
    rw [e]
    rw [ex_for, ev_irng1, ev_int, bind_ok, e60, rngR_some, sr_ok, still_lst, items_lst, forG_ok]
    exact congrArg (fun z => sqS z fun σ S => .nx σ S) e2
theorem pool_out {P : Prog} (hP : P.fn "_law_mixed" = some c__law_mixed) (n : Nat) {o0 o1 o4 o5 o9 : Option D} : ∀ (ns : List Int) {o3 o6 o7 o8 : Option D} {p : Nat} {S : Store} {ys : List Int}, S[p]? = some (.lst (ys.map .int)) → Small ys → ys.length + 64 * ns.length ≤ sizeLine →
    ∃ (o3' o6' o7' o8' : Option D) (p' : Nat) (S' : Store) (zs : List Int), forL (poolOut (run P (n + 1))) (ns.map .int) [o0, o1, some (.ptr p), o3, o4, o5, o6, o7, o8, o9] S = .nx [o0, o1, some (.ptr p'), o3', o4, o5, o6', o7', o8', o9] S' ∧ S'[p']? = some (.lst (zs.map .int)) ∧ Small zs ∧ zs.length ≤ ys.length + 64 * ns.length
  | [], o3, o6, o7, o8, p, S, ys, h, hs, _ => ⟨o3, o6, o7, o8, p, S, ys, rfl, h, hs, by simp⟩
  | c :: ns, o3, o6, o7, o8, p, S, ys, h, hs, hz => by
    rw [List.length_cons] at hz
    obtain ⟨b6, b7, b8, p1, S1, z1, e1, h1, s1, l1⟩ := pool_turn hP n c (o0 := o0) (o1 := o1) (o3 := o3) (o4 := o4) (o5 := o5) (o6 := o6) (o7 := o7) (o8 := o8) (o9 := o9) h hs (by omega)
    obtain ⟨c3, c6, c7, c8, p2, S2, z2, e2, h2, s2, l2⟩ := pool_out hP n ns (o3 := some (.int c)) (o6 := b6) (o7 := b7) (o8 := b8) h1 s1 (by omega)
    refine ⟨c3, c6, c7, c8, p2, S2, z2, ?_, h2, s2, by rw [List.length_cons]; omega⟩
    rw [List.map_cons, for_cons, e1, loopR_nx, e2]
theorem set_get {S : Store} {p : Nat} {c : Cell} (h : S[p]? = some c) : S.set p c = S := by
  apply List.ext_getElem?
  intro i
  by_cases e : p = i
  · subst e
    rw [List.getElem?_set_self (lt_of_get h), h]
  · rw [List.getElem?_set_ne e]
/-- the pool's tail -/
def poolTail (cb : Cb) (x : D) (σ : DSt) (S : Store) : SR := exS cb (.seq (.ex (.app (.var 5) (.bin .mod (.bi .int (.acons (.bin .add (.bin .mul (.var 4) (.bin .add (.var 6) (.int 1))) (.bin .fdiv (.bin .add (.bin .sub (.bin .mul (.bin .mul (.int 17) (.var 6)) (.var 6)) (.bin .mul (.int 12) (.var 6))) (.int 8)) (.int 4))) .anil)) (.int 5040))))
  .nil) (σ.set 6 (some x)) S
theorem tail_turn {cb : Cb} {o0 o1 o2 o3 o6 o7 o8 o9 : Option D} {p : Nat} {S : Store} {ys : List Int} {sd k : Int} (hk : 0 ≤ k ∧ k < 16777216) (hsd : 0 ≤ sd ∧ sd < 2000000) (h : S[p]? = some (.lst (ys.map .int))) (hz : ys.length < sizeLine) :
    ∃ y : Int, (0 ≤ y ∧ y < 5040) ∧ poolTail cb (.int k) [o0, o1, o2, o3, some (.int sd), some (.ptr p), o6, o7, o8, o9] S = .nx [o0, o1, o2, o3, some (.int sd), some (.ptr p), some (.int k), o7, o8, o9] (S.set p (.lst ((ys ++ [y]).map .int))) := by
  refine ⟨(sd * (k + 1) + (17 * k * k - 12 * k + 8) / 4) % 5040, by omega, ?_⟩
  have m1 := fun S => bin_mul (S := S) (i := sd) (j := k + 1) (by omega)
  have m2 := fun S => bin_mul (S := S) (i := 17) (j := k) (by omega)
  have m3 := fun S => bin_mul (S := S) (i := 17 * k) (j := k) (by omega)
  have m4 := fun S => bin_mul (S := S) (i := 12) (j := k) (by omega)
  unfold poolTail
  simp [h, hz, m1, m2, m3, m4, bin_mod, bin_fdiv]
theorem pool_tail {cb : Cb} {o0 o1 o2 o3 o7 o8 o9 : Option D} {p : Nat} {sd : Int} (hsd : 0 ≤ sd ∧ sd < 2000000) : ∀ (xs : List D) {o6 : Option D} {S : Store} {ys : List Int}, (∀ x ∈ xs, ∃ k : Int, x = .int k ∧ 0 ≤ k ∧ k < 16777216) → S[p]? = some (.lst (ys.map .int)) → Small ys → ys.length + xs.length ≤ sizeLine →
    ∃ (o6' : Option D) (zs : List Int), forL (poolTail cb) xs [o0, o1, o2, o3, some (.int sd), some (.ptr p), o6, o7, o8, o9] S = .nx [o0, o1, o2, o3, some (.int sd), some (.ptr p), o6', o7, o8, o9] (S.set p (.lst (zs.map .int))) ∧ Small zs ∧ zs.length = ys.length + xs.length
  | [], o6, S, ys, _, h, hs, _ => ⟨o6, ys, by rw [for_nil, set_get h], hs, by simp⟩
  | x :: xs, o6, S, ys, h2, h, hs, hz => by
    obtain ⟨k, rfl, hk⟩ := h2 x (List.mem_cons_self ..)
    rw [List.length_cons] at hz
    obtain ⟨y, hy, e1⟩ := tail_turn (cb := cb) (o0 := o0) (o1 := o1) (o2 := o2) (o3 := o3) (o6 := o6) (o7 := o7) (o8 := o8) (o9 := o9) hk hsd h (by omega)
    obtain ⟨c6, zs, e2, s2, l2⟩ := pool_tail (cb := cb) (o0 := o0) (o1 := o1) (o2 := o2) (o3 := o3) (o7 := o7) (o8 := o8) (o9 := o9) (p := p) hsd xs (o6 := some (.int k)) (S := S.set p (.lst ((ys ++ [y]).map .int))) (ys := ys ++ [y]) (fun z hz => h2 z (List.mem_cons_of_mem _ hz)) (by rw [List.getElem?_set_self (lt_of_get h)]) (hs.append (.one hy)) (by simp; omega)
    refine ⟨c6, zs, ?_, s2, by rw [l2]; simp; omega⟩
    rw [for_cons, e1, loopR_nx, e2, List.set_set]
theorem cutL_take {xs : List D} {m : Nat} (h : m ≤ xs.length) : cutL xs none (some (m : Int)) = xs.take m := by
  have z : HT.sIx xs.length 0 none = 0 := rfl
  have y : HT.sIx xs.length xs.length (some (m : Int)) = m := by
    rw [HT.sIx_nat]
    omega
  unfold cutL
  rw [z, y]
  rfl
/-- THE POOL: this many small numbers -/
theorem pool_run {P : Prog} (hM : P.fn "_law_mixed" = some c__law_mixed) (hP : P.fn "_law_pool" = some c__law_pool) (n : Nat) (ns : List Int) (hl : ns.length ≤ 63) (m : Nat) (hm : m ≤ 1000000) :
    ∃ (xs : List Int) (S' : Store), run P (n + 2) "_law_pool" [.scr ns, .int m] [] = .ok (.lst (xs.map .int)) S' ∧ xs.length = m ∧ Small xs := by
  have sz : sizeLine = 16777216 := rfl
  obtain ⟨o3, o6, o7, o8, p, S1, z1, e1, h1, s1, l1⟩ := pool_out hM n (o0 := some (.scr ns)) (o1 := some (.int m)) (o4 := none) (o5 := none) (o9 := none) ns (o3 := none) (o6 := none) (o7 := none) (o8 := none) (p := 0) (S := [.lst []]) (ys := []) rfl (fun x hx => by cases hx) (by simp; omega)
  have hsd : 0 ≤ ns.sum % 1000003 + (ns.length : Int) ∧ ns.sum % 1000003 + (ns.length : Int) < 2000000 := by omega
  have hp := lt_of_get h1
  obtain ⟨b6, z2, e2, s2, l2⟩ := pool_tail (cb := run P (n + 1)) (o0 := some (.scr ns)) (o1 := some (.int m)) (o2 := some (.ptr p)) (o3 := o3) (o7 := o7) (o8 := o8) (o9 := none) (p := S1.length) hsd ((List.range m).map fun (k : Nat) => D.int (k : Int)) (o6 := o6) (S := S1 ++ [.lst []]) (ys := []) (fun x hx => by
    obtain ⟨k, hk, rfl⟩ := List.mem_map.mp hx
    have := List.mem_range.mp hk
    exact ⟨k, rfl, by omega, by omega⟩) (by simp) (fun x hx => by cases hx) (by simp; omega)
  have e3 : evE (run P (n + 1)) (.comp [9] 9 (.var 0) (.bl true) (.bi .int (.acons (.var 9) .anil))) [some (.scr ns), some (.int m), some (.ptr p), o3, none, none, o6, o7, o8, none] S1 = .ok (.lst (ns.map .int)) S1 := by
    have c : ∀ x ∈ ns.map D.int, compF (run P (n + 1)) [9] 9 (.bl true) (.bi .int (.acons (.var 9) .anil)) [some (.scr ns), some (.int m), some (.ptr p), o3, none, none, o6, o7, o8, none] x S1 = .ok (some (id x)) S1 := fun x hx => by
      obtain ⟨k, _, rfl⟩ := List.mem_map.mp hx
      unfold compF
      simp [wipeD]
    have q := compL_map (f := compF (run P (n + 1)) [9] 9 (.bl true) (.bi .int (.acons (.var 9) .anil)) [some (.scr ns), some (.int m), some (.ptr p), o3, none, none, o6, o7, o8, none]) (S := S1) c
    rw [ev_comp, ev_var]
    simp [q]
    omega
  have er : rngD [.int m] = some ((List.range m).map fun (k : Nat) => D.int (k : Int)) := by
    rw [rng1_ok (by omega), Int.toNat_natCast]
  have len2 : z2.length = m := by simpa using l2
  have lS : (S1 ++ [Cell.lst []]).set S1.length (.lst (z2.map .int)) = S1 ++ [.lst (z2.map .int)] := by
    simp
  rw [lS] at e2
  refine ⟨(z1 ++ z2).take m, S1 ++ [.lst (z2.map .int)], ?_, by simp; omega, fun x hx => (s1.append s2) x (List.mem_of_mem_take hx)⟩
  rw [run_fn hP rfl]
  have st0 : startD 10 [D.scr ns, .int m] = [some (.scr ns), some (.int m), none, none, none, none, none, none, none, none] := rfl
  show endR (exS (run P (n + 1)) c__law_pool.body (startD 10 [D.scr ns, .int m]) []) = _
  rw [st0]
  unfold c__law_pool
  simp only [ex_seq]
  have a1 : exS (run P (n + 1)) (.asg 2 (.cell .anil)) [some (.scr ns), some (.int m), none, none, none, none, none, none, none, none] [] = .nx [some (.scr ns), some (.int m), some (.ptr 0), none, none, none, none, none, none, none] [.lst []] := by simp
  rw [a1, sqS_nx, ex_for, ev_var, get_zero, slot_some, sr_ok, still_scr, items_scr, forG_ok]
  have e1' : forL (fun x σ S => exS (run P (n + 1)) (.seq (.asg 7 (.bi .abs (.acons (.bi .int (.acons (.var 3) .anil)) .anil)))
  (.seq (.ifs (.cmp .lt (.var 7) (.bin .pow (.int 10) (.int 18))) (.seq (.asg 8 (.bin .mul (.int 7919) (.bi .len (.acons (.var 2) .anil))))
  (.seq (.asg 2 (.catc (.var 2) (.comp [6] 6 (.irng1 (.int 4)) (.bl true) (.call .pure "_law_mixed" (.acons (.bin .add (.var 7) (.var 8)) (.acons (.var 6) .anil))))))
  (.seq (.asg 7 (.int 0))
  .nil))) .nil)
  (.seq (.for_ 6 (.irng1 (.int 60)) (.seq (.ifs (.cmp .gt (.var 7) (.int 0)) (.seq (.ex (.app (.var 2) (.bin .mod (.bi .int (.acons (.var 7) .anil)) (.int 5040))))
  (.seq (.asg 7 (.bin .fdiv (.var 7) (.int 5040)))
  .nil)) .nil)
  .nil))
  .nil))) (σ.set 3 (some x)) S) (ns.map .int) [some (.scr ns), some (.int m), some (.ptr 0), none, none, none, none, none, none, none] [.lst []] = _ := e1
  rw [e1', sqS_nx]
  have e2' : forL (fun x σ S => exS (run P (n + 1)) (.seq (.ex (.app (.var 5) (.bin .mod (.bi .int (.acons (.bin .add (.bin .mul (.var 4) (.bin .add (.var 6) (.int 1))) (.bin .fdiv (.bin .add (.bin .sub (.bin .mul (.bin .mul (.int 17) (.var 6)) (.var 6)) (.bin .mul (.int 12) (.var 6))) (.int 8)) (.int 4))) .anil)) (.int 5040)))) .nil) (σ.set 6 (some x)) S) ((List.range m).map fun (k : Nat) => D.int (k : Int)) [some (.scr ns), some (.int m), some (.ptr p), o3, some (.int (ns.sum % 1000003 + (ns.length : Int))), some (.ptr S1.length), o6, o7, o8, none] (S1 ++ [.lst []]) = _ := e2
  have c1 : binD .mod S1 (.int ns.sum) (.int 1000003) = .ok (.int (ns.sum % 1000003)) S1 := bin_mod (by omega)
  have a2 : exS (run P (n + 1)) (.asg 4 (.bin .add (.bin .mod (.bi .int (.acons (.bi .sum (.acons (.comp [9] 9 (.var 0) (.bl true) (.bi .int (.acons (.var 9) .anil))) .anil)) .anil)) (.int 1000003)) (.bi .len (.acons (.var 0) .anil)))) [some (.scr ns), some (.int m), some (.ptr p), o3, none, none, o6, o7, o8, none] S1 = .nx [some (.scr ns), some (.int m), some (.ptr p), o3, some (.int (ns.sum % 1000003 + (ns.length : Int))), none, o6, o7, o8, none] S1 := by
    rw [ex_asg, ev_bin, ev_bin, ev_bi, ev_acons, ev_bi, ev_acons, e3]
    simp [c1]
  have a3 : exS (run P (n + 1)) (.asg 5 (.cell .anil)) [some (.scr ns), some (.int m), some (.ptr p), o3, some (.int (ns.sum % 1000003 + (ns.length : Int))), none, o6, o7, o8, none] S1 = .nx [some (.scr ns), some (.int m), some (.ptr p), o3, some (.int (ns.sum % 1000003 + (ns.length : Int))), some (.ptr S1.length), o6, o7, o8, none] (S1 ++ [.lst []]) := by
    simp
  rw [a2, sqS_nx, a3, sqS_nx, ex_for, ev_irng1, ev_var, List.getElem?_cons_succ, get_zero, slot_some, bind_ok, er, rngR_some, sr_ok, still_lst, items_lst, forG_ok, e2', sqS_nx]
  have hg1 : (S1 ++ [Cell.lst (z2.map .int)])[p]? = some (.lst (z1.map .int)) := by rw [List.getElem?_append_left hp]; exact h1
  have hg2 : (S1 ++ [Cell.lst (z2.map .int)])[S1.length]? = some (.lst (z2.map .int)) := by simp
  have cc := bin_cat (S := S1 ++ [Cell.lst (z2.map .int)]) (a := .ptr p) (b := .ptr S1.length) (look_ptr_lst hg1) (look_ptr_lst hg2) (by simp at l1; simp; omega)
  have ct : cutD (S1 ++ [Cell.lst (z2.map .int)]) (.lst (z1.map D.int ++ z2.map D.int)) none (some (m : Int)) = .ok (.lst ((z1.map D.int ++ z2.map D.int).take m)) (S1 ++ [Cell.lst (z2.map .int)]) := by
    show Res.ok (D.lst (cutL (z1.map D.int ++ z2.map D.int) none (some (m : Int)))) _ = _
    rw [cutL_take (by simp; omega)]
  simp only [ex_ret, ev_cut, ev_bin, ev_var, List.getElem?_cons_succ, get_zero, slot_some, bind_ok, cc, ev_nopart, withPart_non, ev_part, partI_int, withPart_int, ct, sr_ok, sqS_rt, endR_rt]
  rw [List.map_take, List.map_append]
end MX
end

section
set_option maxRecDepth 100000
set_option maxHeartbeats 4000000
namespace MX
open PySem
def c_is_prime : Fn := ⟨1, 2, (.seq (.ifs (.cmp .lt (.var 0) (.int 2)) (.seq (.ret (.bl false))
  .nil) .nil)
  (.seq (.asg 1 (.int 2))
  (.seq (.whl 1002 (.cmp .le (.bin .mul (.var 1) (.var 1)) (.var 0)) (.seq (.ifs (.cmp .eq (.bin .mod (.var 0) (.var 1)) (.int 0)) (.seq (.ret (.bl false))
  .nil) .nil)
  (.seq (.asg 1 (.bin .add (.var 1) (.int 1)))
  .nil)))
  (.seq (.ret (.bl true))
  .nil))))⟩
def c_first_prime : Fn := ⟨1, 2, (.seq (.asg 1 (.bi .max2 (.acons (.int 2) (.acons (.var 0) .anil))))
  (.seq (.whl 1000010 (.not (.call .pure "is_prime" (.acons (.var 1) .anil))) (.seq (.aug .add 1 (.int 1))
  .nil))
  (.seq (.ret (.var 1))
  .nil)))⟩
def c__law_prime : Fn := ⟨1, 2, (.seq (.ifs (.cmp .lt (.var 0) (.int 2)) (.seq (.ret (.bl false))
  .nil) .nil)
  (.seq (.for_ 1 (.irng2 (.int 2) (.int 1002)) (.seq (.ifs (.cmp .gt (.bin .mul (.var 1) (.var 1)) (.var 0)) (.seq (.ret (.bl true))
  .nil) .nil)
  (.seq (.ifs (.cmp .eq (.bin .mod (.bi .int (.acons (.var 0) .anil)) (.var 1)) (.int 0)) (.seq (.ret (.bl false))
  .nil) .nil)
  .nil)))
  (.seq (.ret (.bl true))
  .nil)))⟩
def c__law_number : Fn := ⟨3, 4, (.seq (.ifs (.cmp .eq (.var 0) (.int 0)) (.seq (.ret (.bin .sub (.bin .mod (.bi .int (.acons (.var 1) .anil)) (.int 81)) (.int 20)))
  .nil) .nil)
  (.seq (.ifs (.cmp .eq (.var 0) (.int 1)) (.seq (.ret (.bin .mod (.bi .int (.acons (.bin .add (.bin .mul (.var 1) (.int 5040)) (.var 2)) .anil)) (.int 10001)))
  .nil) .nil)
  (.seq (.ifs (.cmp .eq (.var 0) (.int 2)) (.seq (.ret (.bin .mod (.bi .int (.acons (.bin .add (.bin .mul (.var 1) (.int 5040)) (.var 2)) .anil)) (.int 1000001)))
  .nil) .nil)
  (.seq (.ifs (.cmp .eq (.var 0) (.int 3)) (.seq (.ret (.bin .sub (.int 1000000) (.bin .mod (.bi .int (.acons (.var 1) .anil)) (.int 60))))
  .nil) .nil)
  (.seq (.ifs (.cmp .eq (.var 0) (.int 4)) (.seq (.asg 3 (.lst (.acons (.int 2) (.acons (.int 3) (.acons (.int 7) (.acons (.int 31) (.acons (.int 97) (.acons (.int 101) (.acons (.int 499) (.acons (.int 997) .anil))))))))))
  (.seq (.ret (.bin .mul (.idx (.var 3) (.bin .mod (.bi .int (.acons (.var 1) .anil)) (.int 8))) (.idx (.var 3) (.bin .mod (.bi .int (.acons (.var 2) .anil)) (.int 8)))))
  .nil)) .nil)
  (.seq (.ifs (.cmp .eq (.var 0) (.int 5)) (.seq (.ret (.idx (.lst (.acons (.int 341) (.acons (.int 561) (.acons (.int 1105) (.acons (.int 1729) (.acons (.int 2465) (.acons (.int 6601) (.acons (.int 8911) (.acons (.bin .mul (.int 997) (.int 997)) (.acons (.int 994013) (.acons (.int 999983) .anil))))))))))) (.bin .mod (.bi .int (.acons (.var 1) .anil)) (.int 10))))
  .nil) .nil)
  (.seq (.ret (.bin .sub (.int 0) (.idx (.lst (.acons (.int 1) (.acons (.int 2) (.acons (.int 3) (.acons (.int 7) (.acons (.bin .pow (.int 10) (.int 6)) (.acons (.bin .pow (.int 10) (.int 29)) .anil))))))) (.bin .mod (.bi .int (.acons (.var 1) .anil)) (.int 6)))))
  .nil)))))))⟩
def c_law : Fn := ⟨1, 9, (.seq (.asg 1 (.call .pure "_law_pool" (.acons (.var 0) (.acons (.int 21) .anil))))
  (.seq (.for_ 2 (.irng1 (.int 7)) (.seq (.asg 3 (.bin .mod (.bi .int (.acons (.idx (.var 1) (.bin .mul (.int 3) (.var 2))) .anil)) (.int 7)))
  (.seq (.asg 4 (.call .pure "_law_number" (.acons (.var 3) (.acons (.idx (.var 1) (.bin .add (.bin .mul (.int 3) (.var 2)) (.int 1))) (.acons (.idx (.var 1) (.bin .add (.bin .mul (.int 3) (.var 2)) (.int 2))) .anil)))))
  (.seq (.asg 5 (.call .pure "is_prime" (.acons (.var 4) .anil)))
  (.seq (.ifs (.or (.not (.isi (.var 5) [.bool])) (.cmp .ne (.var 5) (.call .pure "_law_prime" (.acons (.var 4) .anil)))) (.seq (.ret (.bl false))
  .nil) .nil)
  (.seq (.asg 6 (.call .pure "first_prime" (.acons (.var 4) .anil)))
  (.seq (.ifs (.or (.not (.isi (.var 6) [.int])) (.isi (.var 6) [.bool])) (.seq (.ret (.bl false))
  .nil) .nil)
  (.seq (.ifs (.or (.cmp .lt (.var 6) (.var 4)) (.or (.cmp .lt (.var 6) (.int 2)) (.or (.cmp .gt (.var 6) (.int 1000003)) (.not (.call .pure "_law_prime" (.acons (.var 6) .anil)))))) (.seq (.ret (.bl false))
  .nil) .nil)
  (.seq (.asg 7 (.var 4))
  (.seq (.ifs (.cmp .lt (.var 7) (.int 2)) (.seq (.asg 7 (.int 2))
  .nil) .nil)
  (.seq (.for_ 8 (.irng2 (.var 7) (.var 6)) (.seq (.ifs (.call .pure "_law_prime" (.acons (.var 8) .anil)) (.seq (.ret (.bl false))
  .nil) .nil)
  .nil))
  .nil)))))))))))
  (.seq (.ret (.bl true))
  .nil)))⟩
/-! ### what the defs compute -/
/-- the run of ints from a, n of them -/
def rngL (a : Int) (n : Nat) : List D := (List.range n).map fun (k : Nat) => D.int (a + (k : Int))
theorem rngL_zero (a : Int) : rngL a 0 = [] := rfl
theorem rngL_succ (a : Int) (n : Nat) : rngL a (n + 1) = .int a :: rngL (a + 1) n := by
  unfold rngL
  rw [List.range_succ_eq_map, List.map_cons, List.map_map]
  congr 1
  · simp
  · apply List.map_congr_left
    intro k _
    show D.int (a + ((k + 1 : Nat) : Int)) = D.int (a + 1 + (k : Int))
    congr 1
    omega
theorem rng1_L {n : Int} (h : -(2 ^ 62) ≤ n ∧ n < 2 ^ 62) : rngD [.int n] = some (rngL 0 n.toNat) := if_pos h
theorem rng2_L {a b : Int} (h : -(2 ^ 62) ≤ a ∧ a < 2 ^ 62 ∧ -(2 ^ 62) ≤ b ∧ b < 2 ^ 62) : rngD [.int a, .int b] = some (rngL a (b - a).toNat) := if_pos h
/-- a prime -/
def Pm (n : Int) : Prop := 2 ≤ n ∧ ∀ k : Int, 2 ≤ k → k * k ≤ n → n % k ≠ 0
noncomputable def pmB (n : Int) : Bool := @decide (Pm n) (Classical.propDecidable _)
theorem pmB_t {n : Int} (h : Pm n) : pmB n = true := by
  unfold pmB
  exact @decide_eq_true _ (Classical.propDecidable _) h
theorem pmB_f {n : Int} (h : ¬ Pm n) : pmB n = false := by
  unfold pmB
  exact @decide_eq_false _ (Classical.propDecidable _) h
theorem pmB_iff {n : Int} : pmB n = true ↔ Pm n := by
  constructor
  · intro e
    by_cases h : Pm n
    · exact h
    · rw [pmB_f h] at e
      cases e
  · exact pmB_t
theorem sq_big {d n : Int} (h : 1001 ≤ d) (hn : n ≤ 1002000) : n < d * d := by
  have := Int.mul_le_mul h h (by omega) (by omega)
  omega
/-- no divisor below d, and d's square is past n -/
theorem pm_of {n d : Int} (h2 : 2 ≤ n) (hd : 0 ≤ d) (h : ∀ k : Int, 2 ≤ k → k < d → n % k ≠ 0) (hs : n < d * d) : Pm n := ⟨h2, fun k k2 kk e => by
  by_cases hk : k < d
  · exact h k k2 hk e
  · have := Int.mul_le_mul (show d ≤ k by omega) (show d ≤ k by omega) (by omega) (by omega)
    omega⟩
theorem not_pm {n d : Int} (hd : 2 ≤ d) (hs : d * d ≤ n) (h : n % d = 0) : ¬ Pm n := fun p => p.2 d hd hs h
def ipC : E := .cmp .le (.bin .mul (.var 1) (.var 1)) (.var 0)
def ipB : Sx := .seq (.ifs (.cmp .eq (.bin .mod (.var 0) (.var 1)) (.int 0)) (.seq (.ret (.bl false)) .nil) .nil) (.seq (.asg 1 (.bin .add (.var 1) (.int 1))) .nil)
theorem is_loop {cb : Cb} {S : Store} {n : Int} (h2 : 2 ≤ n) (hn : n ≤ 1002000) : ∀ (f : Nat) (d : Int), 2 ≤ d → d ≤ 1002 → 1003 ≤ f + d → (∀ k : Int, 2 ≤ k → k < d → n % k ≠ 0) →
    sqS (whlL (evE cb ipC) (exS cb ipB) f [some (.int n), some (.int d)] S) (fun _ S => .rt (.bl true) S) = .rt (.bl (pmB n)) S
  | 0, d, h, h', h3, _ => by omega
  | f + 1, d, h, h', h3, hd => by
    have m := bin_mul (S := S) (i := d) (j := d) (by omega)
    have m2 := bin_mod (S := S) (i := n) (j := d) (by omega)
    rw [whl_succ]
    have c : evE cb ipC [some (.int n), some (.int d)] S = .ok (.bl (decide (d * d ≤ n))) S := by
      unfold ipC
      simp [m]
    rw [c, sr_ok, look_bl, truD_bl, selS_some]
    by_cases hs : d * d ≤ n
    · rw [if_pos (decide_eq_true hs)]
      by_cases hm : n % d = 0
      · have b : exS cb ipB [some (.int n), some (.int d)] S = .rt (.bl false) S := by
          unfold ipB
          simp [m2, hm]
        rw [b, loopR_rt, sqS_rt, pmB_f (not_pm h hs hm)]
      · have b : exS cb ipB [some (.int n), some (.int d)] S = .nx [some (.int n), some (.int (d + 1))] S := by
          unfold ipB
          simp [m2, hm]
        have hd1 : d < 1001 := by
          by_cases q : d < 1001
          · exact q
          · have := sq_big (show 1001 ≤ d by omega) hn
            omega
        rw [b, loopR_nx]
        exact is_loop h2 hn f (d + 1) (by omega) (by omega) (by omega) fun k k2 kd => by
          by_cases e : k = d
          · rw [e]
            exact hm
          · exact hd k k2 (by omega)
    · rw [if_neg (by rw [decide_eq_true_iff]; exact hs), sqS_nx, pmB_t (pm_of h2 (by omega) hd (by omega))]
theorem is_run {P : Prog} (h : P.fn "is_prime" = some c_is_prime) (j : Nat) (n : Int) (hn : n ≤ 1002000) (S : Store) : run P (j + 1) "is_prime" [.int n] S = .ok (.bl (pmB n)) S := by
  rw [run_fn h rfl]
  show endR (exS (run P j) (.seq (.ifs (.cmp .lt (.var 0) (.int 2)) (.seq (.ret (.bl false)) .nil) .nil) (.seq (.asg 1 (.int 2)) (.seq (.whl 1002 ipC ipB) (.seq (.ret (.bl true)) .nil)))) [some (.int n), none] S) = _
  by_cases h2 : n < 2
  · have z : ¬ Pm n := fun p => by have := p.1; omega
    rw [pmB_f z]
    simp [h2]
  · have l := is_loop (cb := run P j) (S := S) (n := n) (by omega) hn 1002 2 (by omega) (by omega) (by omega) fun k k2 k3 => by omega
    rw [ex_seq]
    have a : exS (run P j) (.ifs (.cmp .lt (.var 0) (.int 2)) (.seq (.ret (.bl false)) .nil) .nil) [some (.int n), none] S = .nx [some (.int n), none] S := by simp [h2]
    rw [a, sqS_nx, ex_seq, ex_asg, ev_int, sr_ok, sqS_nx, ex_seq, ex_whl]
    have k : (fun σ S => exS (run P j) (.seq (.ret (.bl true)) .nil) σ S) = fun _ S => SR.rt (.bl true) S := by
      funext σ S
      simp
    rw [k]
    show endR (sqS (whlL (evE (run P j) ipC) (exS (run P j) ipB) 1002 [some (.int n), some (.int 2)] S) _) = _
    rw [l, endR_rt]
/-- the law's own test -/
def lpB : Sx := .seq (.ifs (.cmp .gt (.bin .mul (.var 1) (.var 1)) (.var 0)) (.seq (.ret (.bl true)) .nil) .nil) (.seq (.ifs (.cmp .eq (.bin .mod (.bi .int (.acons (.var 0) .anil)) (.var 1)) (.int 0)) (.seq (.ret (.bl false)) .nil) .nil) .nil)
theorem lp_loop {cb : Cb} {S : Store} {n : Int} (h2 : 2 ≤ n) (hn : n ≤ 1002000) : ∀ (m : Nat) (d : Int) (o : Option D), 2 ≤ d → d + m = 1002 → (∀ k : Int, 2 ≤ k → k < d → n % k ≠ 0) →
    sqS (forL (fun x σ S => exS cb lpB (σ.set 1 (some x)) S) (rngL d m) [some (.int n), o] S) (fun _ S => .rt (.bl true) S) = .rt (.bl (pmB n)) S
  | 0, d, o, h, h', hd => by
    rw [rngL_zero, for_nil, sqS_nx, pmB_t (pm_of h2 (by omega) hd (sq_big (by omega) hn))]
  | m + 1, d, o, h, h', hd => by
    rw [rngL_succ, for_cons]
    have m1 := bin_mul (S := S) (i := d) (j := d) (by omega)
    have m2 := bin_mod (S := S) (i := n) (j := d) (by omega)
    by_cases hs : n < d * d
    · have b : exS cb lpB ([some (.int n), o].set 1 (some (.int d))) S = .rt (.bl true) S := by
        unfold lpB
        simp [m1, hs]
      rw [b, loopR_rt, sqS_rt, pmB_t (pm_of h2 (by omega) hd hs)]
    · by_cases hm : n % d = 0
      · have b : exS cb lpB ([some (.int n), o].set 1 (some (.int d))) S = .rt (.bl false) S := by
          unfold lpB
          simp [m1, m2, hs, hm]
        rw [b, loopR_rt, sqS_rt, pmB_f (not_pm h (by omega) hm)]
      · have b : exS cb lpB ([some (.int n), o].set 1 (some (.int d))) S = .nx [some (.int n), some (.int d)] S := by
          unfold lpB
          simp [m1, m2, hs, hm]
        rw [b, loopR_nx]
        exact lp_loop h2 hn m (d + 1) _ (by omega) (by omega) fun k k2 kd => by
          by_cases e : k = d
          · rw [e]
            exact hm
          · exact hd k k2 (by omega)
theorem lp_run {P : Prog} (h : P.fn "_law_prime" = some c__law_prime) (j : Nat) (n : Int) (hn : n ≤ 1002000) (S : Store) : run P (j + 1) "_law_prime" [.int n] S = .ok (.bl (pmB n)) S := by
  rw [run_fn h rfl]
  show endR (exS (run P j) (.seq (.ifs (.cmp .lt (.var 0) (.int 2)) (.seq (.ret (.bl false)) .nil) .nil) (.seq (.for_ 1 (.irng2 (.int 2) (.int 1002)) lpB) (.seq (.ret (.bl true)) .nil))) [some (.int n), none] S) = _
  by_cases h2 : n < 2
  · have z : ¬ Pm n := fun p => by have := p.1; omega
    rw [pmB_f z]
    simp [h2]
  · have l := lp_loop (cb := run P j) (S := S) (n := n) (by omega) hn 1000 2 none (by omega) (by omega) fun k k2 k3 => by omega
    rw [ex_seq]
    have a : exS (run P j) (.ifs (.cmp .lt (.var 0) (.int 2)) (.seq (.ret (.bl false)) .nil) .nil) [some (.int n), none] S = .nx [some (.int n), none] S := by simp [h2]
    have r := rng2_L (a := 2) (b := 1002) (by omega)
    have e1000 : ((1002 : Int) - 2).toNat = 1000 := by decide
    rw [e1000] at r
    rw [a, sqS_nx, ex_seq, ex_for, ev_irng2, ev_int, bind_ok, ev_int, bind_ok, r, rngR_some, sr_ok, still_lst, items_lst, forG_ok]
    have k : (fun σ S => exS (run P j) (.seq (.ret (.bl true)) .nil) σ S) = fun _ S => SR.rt (.bl true) S := by
      funext σ S
      simp
    rw [k, l, endR_rt]
/-- 1000003 is a prime -/
theorem pm_top : Pm 1000003 := by
  have z : ∀ k : Nat, k < 1002 → 2 ≤ k → (1000003 : Nat) % k ≠ 0 := by decide +kernel
  refine ⟨by omega, fun k k2 kk e => ?_⟩
  have hk : k < 1001 := by
    by_cases q : k < 1001
    · exact q
    · have := sq_big (show 1001 ≤ k by omega) (show (1002000 : Int) ≤ 1002000 by omega)
      omega
  refine z k.toNat (by omega) (by omega) ?_
  have : ((1000003 % k.toNat : Nat) : Int) = 0 := by
    rw [Int.natCast_emod, Int.toNat_of_nonneg (by omega)]
    exact e
  exact_mod_cast this
def fpC : E := .not (.call .pure "is_prime" (.acons (.var 1) .anil))
def fpB : Sx := .seq (.aug .add 1 (.int 1)) .nil
theorem fp_loop {P : Prog} (h : P.fn "is_prime" = some c_is_prime) (j : Nat) {S : Store} {o : Option D} {n0 : Int} : ∀ (f : Nat) (n : Int), n0 ≤ n → n ≤ 1000003 → 1000004 ≤ f + n → (∀ q : Int, n0 ≤ q → q < n → ¬ Pm q) →
    ∃ p : Int, Pm p ∧ n0 ≤ p ∧ p ≤ 1000003 ∧ (∀ q : Int, n0 ≤ q → q < p → ¬ Pm q) ∧ whlL (evE (run P (j + 1)) fpC) (exS (run P (j + 1)) fpB) f [o, some (.int n)] S = .nx [o, some (.int p)] S
  | 0, n, h1, h2, h3, _ => by omega
  | f + 1, n, h1, h2, h3, hq => by
    have c := callP_ok (cb := run P (j + 1)) (S := S) (f := "is_prime") (ds := [.int n]) (by simp) (is_run h j n (by omega) []) (by simp)
    have cc : evE (run P (j + 1)) fpC [o, some (.int n)] S = .ok (.bl (!pmB n)) S := by
      unfold fpC
      simp [c]
    rw [whl_succ, cc, sr_ok, look_bl, truD_bl, selS_some]
    by_cases hp : Pm n
    · refine ⟨n, hp, h1, h2, hq, ?_⟩
      rw [pmB_t hp, if_neg (by decide)]
    · rw [pmB_f hp, if_pos (by decide)]
      have b : exS (run P (j + 1)) fpB [o, some (.int n)] S = .nx [o, some (.int (n + 1))] S := by
        unfold fpB
        simp
      rw [b, loopR_nx]
      have ne : n ≠ 1000003 := fun e => hp (e ▸ pm_top)
      exact fp_loop h j f (n + 1) (by omega) (by omega) (by omega) fun q q1 q2 => by
        by_cases e : q = n
        · rw [e]
          exact hp
        · exact hq q q1 (by omega)
theorem fp_run {P : Prog} (h : P.fn "is_prime" = some c_is_prime) (h' : P.fn "first_prime" = some c_first_prime) (j : Nat) (a : Int) (ha : a ≤ 1000003) (S : Store) :
    ∃ p : Int, Pm p ∧ a ≤ p ∧ p ≤ 1000003 ∧ (∀ q : Int, a ≤ q → q < p → ¬ Pm q) ∧ run P (j + 2) "first_prime" [.int a] S = .ok (.int p) S := by
  obtain ⟨p, h1, h2, h3, h4, h5⟩ := fp_loop h j (S := S) (o := some (.int a)) (n0 := if a > 2 then a else 2) 1000010 (if a > 2 then a else 2) (by omega) (by split <;> omega) (by split <;> omega) fun q q1 q2 => by omega
  refine ⟨p, h1, by split at h2 <;> omega, h3, fun q q1 q2 pq => ?_, ?_⟩
  · exact h4 q (by have := pq.1; split <;> omega) q2 pq
  · rw [run_fn h' rfl]
    show endR (exS (run P (j + 1)) (.seq (.asg 1 (.bi .max2 (.acons (.int 2) (.acons (.var 0) .anil)))) (.seq (.whl 1000010 fpC fpB) (.seq (.ret (.var 1)) .nil))) [some (.int a), none] S) = _
    have b : exS (run P (j + 1)) (.asg 1 (.bi .max2 (.acons (.int 2) (.acons (.var 0) .anil)))) [some (.int a), none] S = .nx [some (.int a), some (.int (if a > 2 then a else 2))] S := by simp
    rw [ex_seq, b, sqS_nx, ex_seq, ex_whl, h5, sqS_nx]
    simp
theorem at_mem {xs : List D} {i : Int} (h0 : 0 ≤ i) (h : i < xs.length) : ∃ d, d ∈ xs ∧ atD xs i = some d := by
  have hi : i.toNat < xs.length := by omega
  refine ⟨xs[i.toNat], List.getElem_mem hi, ?_⟩
  unfold atD L2.atI L2.ixN
  rw [if_pos h0, if_pos h]
  exact List.getElem?_eq_getElem hi
theorem idx_ok {S : Store} {xs : List D} {i : Int} {d : D} (h : atD xs i = some d) : idxD S (.lst xs) (.int i) = .ok d S := by
  show (match atD xs i with
    | some d => Res.ok d S
    | none => .bad) = _
  rw [h]
/-- at an index, a small int -/
theorem idx_int {S : Store} {xs : List Int} {i : Int} (h0 : 0 ≤ i) (h : i < xs.length) : ∃ v, v ∈ xs ∧ idxD S (.lst (xs.map .int)) (.int i) = .ok (.int v) S := by
  obtain ⟨d, hd, e⟩ := at_mem (xs := xs.map .int) h0 (by rw [List.length_map]; exact h)
  obtain ⟨v, hv, rfl⟩ := List.mem_map.mp hd
  exact ⟨v, hv, idx_ok e⟩
theorem num_run {P : Prog} (h : P.fn "_law_number" = some c__law_number) (j : Nat) (k d m : Int) (hk : 0 ≤ k ∧ k < 7) (hd : 0 ≤ d ∧ d < 5040) (hm : 0 ≤ m ∧ m < 5040) (S : Store) :
    ∃ v : Int, v ≤ 1000000 ∧ run P (j + 1) "_law_number" [.int k, .int d, .int m] S = .ok (.int v) S := by
  rw [run_fn h rfl]
  have st : startD c__law_number.ns [D.int k, .int d, .int m] = [some (.int k), some (.int d), some (.int m), none] := rfl
  rw [st]
  have m1 := fun S => bin_mul (S := S) (i := d) (j := 5040) (by omega)
  have c : k = 0 ∨ k = 1 ∨ k = 2 ∨ k = 3 ∨ k = 4 ∨ k = 5 ∨ k = 6 := by omega
  rcases c with rfl | rfl | rfl | rfl | rfl | rfl | rfl
  · exact ⟨d % 81 - 20, by omega, by simp [c__law_number, bin_mod]⟩
  · exact ⟨(d * 5040 + m) % 10001, by omega, by simp [c__law_number, bin_mod, m1]⟩
  · exact ⟨(d * 5040 + m) % 1000001, by omega, by simp [c__law_number, bin_mod, m1]⟩
  · exact ⟨1000000 - d % 60, by omega, by simp [c__law_number, bin_mod]⟩
  · obtain ⟨v, hv, e⟩ := idx_int (S := S) (xs := [2, 3, 7, 31, 97, 101, 499, 997]) (i := d % 8) (by omega) (by simp; omega)
    obtain ⟨w, hw, e2⟩ := idx_int (S := S) (xs := [2, 3, 7, 31, 97, 101, 499, 997]) (i := m % 8) (by omega) (by simp; omega)
    have bv : 2 ≤ v ∧ v ≤ 997 := by simp at hv; omega
    have bw : 2 ≤ w ∧ w ≤ 997 := by simp at hw; omega
    have bd := Int.mul_le_mul bv.2 bw.2 (by omega) (by omega)
    have m2 := bin_mul (S := S) (i := v) (j := w) (by omega)
    simp only [List.map_cons, List.map_nil] at e e2
    exact ⟨v * w, by omega, by simp [c__law_number, bin_mod, sizeLine, e, e2, m2]⟩
  · obtain ⟨v, hv, e⟩ := idx_int (S := S) (xs := [341, 561, 1105, 1729, 2465, 6601, 8911, 994009, 994013, 999983]) (i := d % 10) (by omega) (by simp; omega)
    have bv : v ≤ 1000000 := by simp at hv; omega
    simp only [List.map_cons, List.map_nil] at e
    exact ⟨v, bv, by simp [c__law_number, bin_mod, bin_mul, sizeLine, e]⟩
  · obtain ⟨v, hv, e⟩ := idx_int (S := S) (xs := [1, 2, 3, 7, 1000000, 100000000000000000000000000000]) (i := d % 6) (by omega) (by simp; omega)
    have bv : 0 ≤ v := by simp at hv; omega
    have p1 := fun S => bin_pow (S := S) (i := 10) (j := 6) (by decide)
    have p2 := fun S => bin_pow (S := S) (i := 10) (j := 29) (by decide)
    simp only [List.map_cons, List.map_nil] at e
    exact ⟨0 - v, by omega, by simp [c__law_number, bin_mod, sizeLine, e, p1, p2]⟩
def lawI : Sx := (.seq (.ifs (.call .pure "_law_prime" (.acons (.var 8) .anil)) (.seq (.ret (.bl false))
  .nil) .nil)
  .nil)
def lawB : Sx := (.seq (.asg 3 (.bin .mod (.bi .int (.acons (.idx (.var 1) (.bin .mul (.int 3) (.var 2))) .anil)) (.int 7)))
  (.seq (.asg 4 (.call .pure "_law_number" (.acons (.var 3) (.acons (.idx (.var 1) (.bin .add (.bin .mul (.int 3) (.var 2)) (.int 1))) (.acons (.idx (.var 1) (.bin .add (.bin .mul (.int 3) (.var 2)) (.int 2))) .anil)))))
  (.seq (.asg 5 (.call .pure "is_prime" (.acons (.var 4) .anil)))
  (.seq (.ifs (.or (.not (.isi (.var 5) [.bool])) (.cmp .ne (.var 5) (.call .pure "_law_prime" (.acons (.var 4) .anil)))) (.seq (.ret (.bl false))
  .nil) .nil)
  (.seq (.asg 6 (.call .pure "first_prime" (.acons (.var 4) .anil)))
  (.seq (.ifs (.or (.not (.isi (.var 6) [.int])) (.isi (.var 6) [.bool])) (.seq (.ret (.bl false))
  .nil) .nil)
  (.seq (.ifs (.or (.cmp .lt (.var 6) (.var 4)) (.or (.cmp .lt (.var 6) (.int 2)) (.or (.cmp .gt (.var 6) (.int 1000003)) (.not (.call .pure "_law_prime" (.acons (.var 6) .anil)))))) (.seq (.ret (.bl false))
  .nil) .nil)
  (.seq (.asg 7 (.var 4))
  (.seq (.ifs (.cmp .lt (.var 7) (.int 2)) (.seq (.asg 7 (.int 2))
  .nil) .nil)
  (.seq (.for_ 8 (.irng2 (.var 7) (.var 6)) lawI)
  .nil))))))))))
theorem inner_loop {P : Prog} (h : P.fn "_law_prime" = some c__law_prime) (j : Nat) {S : Store} {o0 o1 o2 o3 o4 o5 o6 o7 : Option D} : ∀ (m : Nat) (a : Int) {o8 : Option D}, (∀ q : Int, a ≤ q → q < a + m → ¬ Pm q ∧ q ≤ 1002000) →
    ∃ o8', forL (fun x σ S => exS (run P (j + 1)) lawI (σ.set 8 (some x)) S) (rngL a m) [o0, o1, o2, o3, o4, o5, o6, o7, o8] S = .nx [o0, o1, o2, o3, o4, o5, o6, o7, o8'] S
  | 0, a, o8, _ => ⟨o8, rfl⟩
  | m + 1, a, o8, hq => by
    obtain ⟨q1, q2⟩ := hq a (by omega) (by omega)
    have c := callP_ok (cb := run P (j + 1)) (S := S) (f := "_law_prime") (ds := [.int a]) (by simp) (lp_run h j a q2 []) (by simp)
    rw [pmB_f q1] at c
    obtain ⟨o8', e⟩ := inner_loop h j m (a + 1) (o8 := some (.int a)) fun q z1 z2 => hq q (by omega) (by omega)
    refine ⟨o8', ?_⟩
    rw [rngL_succ, for_cons]
    have b : exS (run P (j + 1)) lawI ([o0, o1, o2, o3, o4, o5, o6, o7, o8].set 8 (some (.int a))) S = .nx [o0, o1, o2, o3, o4, o5, o6, o7, some (.int a)] S := by
      unfold lawI
      simp [c]
    rw [b, loopR_nx, e]
structure Fns (P : Prog) : Prop where
  mix : P.fn "_law_mixed" = some c__law_mixed
  pool : P.fn "_law_pool" = some c__law_pool
  isp : P.fn "is_prime" = some c_is_prime
  fp : P.fn "first_prime" = some c_first_prime
  lp : P.fn "_law_prime" = some c__law_prime
  num : P.fn "_law_number" = some c__law_number
  law : P.fn "law" = some c_law
theorem turn {P : Prog} (F : Fns P) (j : Nat) {S : Store} {xs : List Int} (hx : xs.length = 21) (hs : Small xs) {k : Int} (hk : 0 ≤ k ∧ k < 7) {o0 o2 o3 o4 o5 o6 o7 o8 : Option D} :
    ∃ p2 p3 p4 p5 p6 p7 p8, exS (run P (j + 2)) lawB ([o0, some (.lst (xs.map .int)), o2, o3, o4, o5, o6, o7, o8].set 2 (some (.int k))) S = .nx [o0, some (.lst (xs.map .int)), p2, p3, p4, p5, p6, p7, p8] S := by
  obtain ⟨a, ha, e1⟩ := idx_int (S := S) (xs := xs) (i := 3 * k) (by omega) (by omega)
  obtain ⟨b, hb, e2⟩ := idx_int (S := S) (xs := xs) (i := 3 * k + 1) (by omega) (by omega)
  obtain ⟨c, hc, e3⟩ := idx_int (S := S) (xs := xs) (i := 3 * k + 2) (by omega) (by omega)
  have ha := hs a ha
  have hb := hs b hb
  have hc := hs c hc
  obtain ⟨v, hv, n1⟩ := num_run F.num (j + 1) (a % 7) b c (by omega) hb hc []
  have n1 := callP_ok (cb := run P (j + 2)) (S := S) (f := "_law_number") (by simp) n1 (by simp)
  have n2 := callP_ok (cb := run P (j + 2)) (S := S) (f := "is_prime") (by simp) (is_run F.isp (j + 1) v (by omega) []) (by simp)
  have n3 := callP_ok (cb := run P (j + 2)) (S := S) (f := "_law_prime") (by simp) (lp_run F.lp (j + 1) v (by omega) []) (by simp)
  obtain ⟨p, pp, p1, p2, p3, n4⟩ := fp_run F.isp F.fp j v (by omega) []
  have n4 := callP_ok (cb := run P (j + 2)) (S := S) (f := "first_prime") (by simp) n4 (by simp)
  have n5 := callP_ok (cb := run P (j + 2)) (S := S) (f := "_law_prime") (by simp) (lp_run F.lp (j + 1) p (by omega) []) (by simp)
  rw [pmB_t pp] at n5
  have m1 := bin_mul (S := S) (i := 3) (j := k) (by omega)
  have m2 := bin_mod (S := S) (i := a) (j := 7) (by omega)
  have g1 : ¬ p < v := by omega
  have g2 : ¬ p < 2 := by have := pp.1; omega
  have g3 : ¬ 1000003 < p := by omega
  have key : ∀ st : Int, (v ≤ st) → 2 ≤ st ∧ st ≤ 1000003 → ∃ p8, exS (run P (j + 2)) (.for_ 8 (.irng2 (.var 7) (.var 6)) lawI) [o0, some (.lst (xs.map .int)), some (.int k), some (.int (a % 7)), some (.int v), some (.bl (pmB v)), some (.int p), some (.int st), o8] S = .nx [o0, some (.lst (xs.map .int)), some (.int k), some (.int (a % 7)), some (.int v), some (.bl (pmB v)), some (.int p), some (.int st), p8] S := fun st s1 s2 => by
    obtain ⟨p8, e⟩ := inner_loop F.lp (j + 1) (S := S) (o0 := o0) (o1 := some (.lst (xs.map .int))) (o2 := some (.int k)) (o3 := some (.int (a % 7))) (o4 := some (.int v)) (o5 := some (.bl (pmB v))) (o6 := some (.int p)) (o7 := some (.int st)) (p - st).toNat st (o8 := o8) fun q z1 z2 => ⟨p3 q (by omega) (by omega), by omega⟩
    refine ⟨p8, ?_⟩
    have r := rng2_L (a := st) (b := p) (by omega)
    rw [ex_for, ev_irng2, ev_var, List.getElem?_cons_succ, List.getElem?_cons_succ, List.getElem?_cons_succ, List.getElem?_cons_succ, List.getElem?_cons_succ, List.getElem?_cons_succ, List.getElem?_cons_succ, get_zero, slot_some, bind_ok, ev_var, List.getElem?_cons_succ, List.getElem?_cons_succ, List.getElem?_cons_succ, List.getElem?_cons_succ, List.getElem?_cons_succ, List.getElem?_cons_succ, get_zero, slot_some, bind_ok, r, rngR_some, sr_ok, still_lst, items_lst, forG_ok]
    exact e
  unfold lawB
  by_cases h2 : v < 2
  · obtain ⟨p8, e⟩ := key 2 (by omega) (by omega)
    refine ⟨some (.int k), some (.int (a % 7)), some (.int v), some (.bl (pmB v)), some (.int p), some (.int 2), p8, ?_⟩
    simp [e1, e2, e3, n1, n2, n3, n4, n5, m1, m2, g1, g2, g3, h2, e, -ex_for]
  · obtain ⟨p8, e⟩ := key v (by omega) (by omega)
    refine ⟨some (.int k), some (.int (a % 7)), some (.int v), some (.bl (pmB v)), some (.int p), some (.int v), p8, ?_⟩
    simp [e1, e2, e3, n1, n2, n3, n4, n5, m1, m2, g1, g2, g3, h2, e, -ex_for]
theorem turns {P : Prog} (F : Fns P) (j : Nat) {S : Store} {xs : List Int} (hx : xs.length = 21) (hs : Small xs) {o0 : Option D} : ∀ (m : Nat) (k : Int) {o2 o3 o4 o5 o6 o7 o8 : Option D}, 0 ≤ k → k + m ≤ 7 →
    ∃ p2 p3 p4 p5 p6 p7 p8, forL (fun x σ S => exS (run P (j + 2)) lawB (σ.set 2 (some x)) S) (rngL k m) [o0, some (.lst (xs.map .int)), o2, o3, o4, o5, o6, o7, o8] S = .nx [o0, some (.lst (xs.map .int)), p2, p3, p4, p5, p6, p7, p8] S
  | 0, k, o2, o3, o4, o5, o6, o7, o8, _, _ => ⟨o2, o3, o4, o5, o6, o7, o8, rfl⟩
  | m + 1, k, o2, o3, o4, o5, o6, o7, o8, h1, h2 => by
    obtain ⟨p2, p3, p4, p5, p6, p7, p8, e⟩ := turn F j (S := S) hx hs (k := k) (by omega) (o0 := o0) (o2 := o2) (o3 := o3) (o4 := o4) (o5 := o5) (o6 := o6) (o7 := o7) (o8 := o8)
    obtain ⟨q2, q3, q4, q5, q6, q7, q8, e2⟩ := turns F j (S := S) hx hs (o0 := o0) m (k + 1) (o2 := p2) (o3 := p3) (o4 := p4) (o5 := p5) (o6 := p6) (o7 := p7) (o8 := p8) (by omega) (by omega)
    refine ⟨q2, q3, q4, q5, q6, q7, q8, ?_⟩
    rw [rngL_succ, for_cons, e, loopR_nx, e2]
/-- THE LAW -/
theorem law_run {P : Prog} (F : Fns P) (ns : List Int) (hl : ns.length ≤ 63) : ∃ S, run P 4 "law" [.scr ns] [] = .ok (.bl true) S := by
  obtain ⟨xs, S', e, hx, hs⟩ := pool_run F.mix F.pool 1 ns hl 21 (by omega)
  have c := callP_ok (cb := run P 3) (S := []) (f := "_law_pool") (ds := [.scr ns, .int 21]) (by simp) e (by simp)
  obtain ⟨p2, p3, p4, p5, p6, p7, p8, e2⟩ := turns F 1 (S := []) hx hs (o0 := some (.scr ns)) 7 0 (o2 := none) (o3 := none) (o4 := none) (o5 := none) (o6 := none) (o7 := none) (o8 := none) (by omega) (by omega)
  refine ⟨[], ?_⟩
  rw [run_fn F.law rfl]
  show endR (exS (run P 3) (.seq (.asg 1 (.call .pure "_law_pool" (.acons (.var 0) (.acons (.int 21) .anil)))) (.seq (.for_ 2 (.irng1 (.int 7)) lawB) (.seq (.ret (.bl true)) .nil))) [some (.scr ns), none, none, none, none, none, none, none, none] []) = _
  have a : exS (run P 3) (.asg 1 (.call .pure "_law_pool" (.acons (.var 0) (.acons (.int 21) .anil)))) [some (.scr ns), none, none, none, none, none, none, none, none] [] = .nx [some (.scr ns), some (.lst (xs.map .int)), none, none, none, none, none, none, none] [] := by simp [c]
  have r := rng1_L (n := 7) (by omega)
  rw [ex_seq, a, sqS_nx, ex_seq, ex_for, ev_irng1, ev_int, bind_ok, r, rngR_some, sr_ok, still_lst, items_lst, forG_ok]
  have e2 : forL (fun x σ S => exS (run P 3) lawB (σ.set 2 (some x)) S) (rngL 0 (7 : Int).toNat) [some (.scr ns), some (.lst (xs.map .int)), none, none, none, none, none, none, none] [] = _ := e2
  rw [e2, sqS_nx]
  simp
end MX
end

section
set_option maxRecDepth 100000
set_option maxHeartbeats 0
namespace MX.K01
open PySem PySem.Spec PyProof.Rows L2
def tp (i : Nat) : Stmt := PySem.Challenge.pw_mixaloud_k01_prime_numbers.main.body.getD i (.Pass ⟨0, 0, 0, 0⟩)
def tbl : List Ent := [⟨"is_prime", ("is_prime", Option.none), "is_prime", "is_prime", tp 1, ["number", "divisor"], c_is_prime⟩,
  ⟨"first_prime", ("first_prime", Option.none), "first_prime", "first_prime", tp 2, ["least", "number"], c_first_prime⟩,
  ⟨"_law_mixed", ("_law_mixed", Option.none), "_law_mixed", "_law_mixed", tp 4, ["_law_cell", "_law_k", "_law_one"], c__law_mixed⟩,
  ⟨"_law_pool", ("_law_pool", Option.none), "_law_pool", "_law_pool", tp 5, ["_law_script", "_law_many", "_law_pool_here", "_law_cell", "_law_seed", "_law_tail", "_law_k", "_law_left", "_law_shift", "_law_x"], c__law_pool⟩,
  ⟨"_law_prime", ("_law_prime", Option.none), "_law_prime", "_law_prime", tp 6, ["_law_number_here", "_law_divisor"], c__law_prime⟩,
  ⟨"_law_number", ("_law_number", Option.none), "_law_number", "_law_number", tp 7, ["_law_kind", "_law_draw", "_law_more", "_law_ones"], c__law_number⟩,
  ⟨"law", ("law", Option.none), "law", "law", tp 8, ["_law_script", "_law_pool_here", "_law_k", "_law_kind", "_law_number_here", "_law_actual", "_law_found", "_law_start", "_law_other"], c_law⟩]
def gls : List (Str × GK) := [("law", .fn "law"), ("is_prime", .fn "is_prime"), ("max", .blt), ("int", .blt), ("range", .blt), ("sum", .blt), ("len", .blt), ("_law_mixed", .fn "_law_mixed"), ("abs", .blt), ("_law_prime", .fn "_law_prime"), ("isinstance", .blt), ("bool", .blt), ("first_prime", .fn "first_prime"), ("_law_number", .fn "_law_number"), ("_law_pool", .fn "_law_pool")]
abbrev RO : PySem.W.OpenRow := PySem.W.OpenLaw.row PySem.Challenge.rw_mixaloud_k01_prime_numbers
def fa : List He.Fa := gls.map faOf ++ []
def fn : List He.DefD := tbl.map Ent.dd
abbrev hk : PySem.W.Hook := He.hookD 4 fa fn
def ob (s : PySem.W.SharedT) : He.AlD := He.obsDG 4 fa fn (HandSHeadRun.getT s)
theorem ob_eq (s : PySem.W.SharedT) : ob s = hk.obs s.abs := He.obsDG_eq (HandSHeadRun.getT_eq s)
def names : List PySem.Str := (["is_prime", "first_prime", "_law_mixed", "_law_pool", "_law_prime", "_law_number"] : List PySem.Str)
theorem headRun (w : World) : HandSHeadRun.RunEq RO (PySem.W.view RO.prog [8]) hk ob 20000 names w := by
  intro os
  kernel_rfl
theorem tbl_nd : (tbl.map (·.id)).Nodup := by decide +kernel
theorem tbl_ok : tbl.all (Ent.ok gls) = true := by kernel_rfl
theorem gls_ok : glB tbl gls = true := by kernel_rfl
theorem law_ok : tbl.any (fun e => (e.id == "law") && (decide (e.at_ = (("law" : Str), Option.none)) && decide (e.ps = [("_law_script" : Str)]))) = true := by kernel_rfl
theorem law_true : LawTrue tbl 4 := fun ns hl => law_run ⟨rfl, rfl, rfl, rfl, rfl, rfl, rfl⟩ ns hl
end MX.K01
open PySem PySem.W PySem.Calls PyProof.Rows
theorem PySem.Challenge.cw_mixaloud_k01_prime_numbers_holds : PySem.Challenge.rw_mixaloud_k01_prime_numbers.Holds := by
  w_on; o_law
  refine HandSHeadRun.head_any (r := OpenLaw.row PySem.Challenge.rw_mixaloud_k01_prime_numbers) (q := view (OpenLaw.row PySem.Challenge.rw_mixaloud_k01_prime_numbers).prog [8]) (H := MX.K01.hk) (ob := MX.K01.ob) (M := 20000) (loose := MX.K01.names) (d := HandSHeadRun.topDef (OpenLaw.row PySem.Challenge.rw_mixaloud_k01_prime_numbers).prog 8) (kwd := []) MX.K01.ob_eq
    (by kernel_rfl) (fun s => by kernel_rfl) MX.K01.headRun (by kernel_rfl) (by kernel_rfl) (by kernel_rfl) (by rfl) (by first | assumption | decide +kernel) (by decide +kernel) ⟨rfl, rfl, rfl, rfl, rfl, by decide +kernel⟩ ?hw ?hc
  case hw => w_witness2
  case hc =>
    exact MX.walk_mx (l := PySem.Challenge.rw_mixaloud_k01_prime_numbers) (tbl := MX.K01.tbl) (gl := MX.K01.gls) (more := []) (n := 4) (x := "_law_script") rfl (by kernel_rfl) ⟨rfl, by decide, by decide⟩ (by kernel_rfl) MX.K01.tbl_nd MX.K01.tbl_ok MX.K01.gls_ok MX.K01.law_ok (by decide +kernel) MX.K01.law_true
end
