import PyProof.Rows.All
import Wide.All
import OpenK.AllK
import Wide.FinOn
import HandS.ForMost
import HandS.ForExc
import HandS.NoneIn
import HandS.TupAny
import HandS.Flow
import HandS.Style
import HandS.IsInst
import HandS.Conv
import HandS.Defaults
import HandS.Zip
import HandS.SortKw
import HandS.SortInts
import HandS.More
import HandS.Head0
import HandS.Head1
import HandS.Head2
import HandS.HeadEnd
import HandS.HeadHook1
import HandS.HeadHook2
import HandS.MakeKw
import HandS.Codes
import PySem.Challenge.RW_safelytold_k06_arcs_of_both_trees

set_option Elab.async false
set_option linter.all false
set_option maxRecDepth 100000
/-! PV: my own small language of values by data, with a store for what changes; its runs. -/
namespace PV
open PySem

/-- a value: what never changes by its worth (rol: a list that is only read), what changes by its number in the store -/
inductive D where
  | non | bl (b : Bool) | int (i : Int) | str (x : Str) | tup (ds : List D) | rol (ds : List D) | ref (n : Nat)
  deriving Inhabited

/-- what stands in the store -/
inductive O where
  | lst (ds : List D)
  | dct (kvs : List (L2.Key × D))
  | dcl (kvs : List (L2.Key × D))
  | ins (c : Nat) (fs : List (Str × D))
  deriving Inhabited

abbrev Store := List O
abbrev Ls := List (Option D)

inductive R (α : Type) where
  | ok (a : α) (S : Store)
  | exc (c : Nat) (ds : List D) (S : Store)
  | bad
def R.bind {α β : Type} (r : R α) (k : α → Store → R β) : R β :=
  match r with
  | .ok a S => k a S
  | .exc c ds S => .exc c ds S
  | .bad => .bad

inductive Bo where
  | add | sub | mul | fdiv | mod | pow
  deriving DecidableEq
inductive Co where
  | eq | ne | lt | le | gt | ge | isin | nin | is | isn
  deriving DecidableEq
inductive Fb where
  | len | abs | max | min | sum | sorted | list | tuple | int | all | any
  deriving DecidableEq
inductive Tk where
  | tuple | str | int | bool | list
  deriving DecidableEq
inductive Mt where
  | append | extend | pop | popAt | join
  deriving DecidableEq

/-- targets -/
inductive Tg where
  | nm (i : Nat) | tup (t : Tg) | nil | cons (t r : Tg)

/-- expressions; nil, cons: lists of them; q..: what a for walks -/
inductive E where
  | non | bl (b : Bool) | int (i : Int) | str (x : Str)
  | v (i : Nat)
  | bin (o : Bo) (a b : E)
  | neg (a : E)
  | no (a : E)
  | bo (k : Bool) (es : E)
  | cmp (o : Co) (a b : E)
  | chn (o p : Co) (a b c : E)
  | ite (c a b : E)
  | tup (es : E) | lst (es : E)
  | nil | cons (a r : E)
  | ix (a i : E)
  | sl (a lo hi : E)
  | dnew
  | call (f : Nat) (es : E)
  | callk (f : Nat) (ks : List Str) (es eks : E)
  | bi (f : Fb) (es : E)
  | isi (t : Tk) (a : E)
  | mt (m : Mt) (a es : E)
  | lc (own : List (Str × Nat)) (t : Tg) (it c e : E)
  | q (a : E) | qr (a : E) | qr2 (a b : E)
  | lk (i : Nat) (e : E)

inductive S where
  | nil | cons (a r : S)
  | ex (e : E)
  | set (i : Nat) (e : E)
  | slc (i : Nat) (own : List (Str × Nat)) (t : Tg) (it c e : E)
  | asg (t : Tg) (e : E)
  | par2 (i j : Nat) (a b : E)
  | par3 (i j l : Nat) (a b c : E)
  | aug (i : Nat) (o : Bo) (e : E)
  | six (a i e : E)
  | aix (a i : E) (o : Bo) (e : E)
  | ite (c : E) (a b : S)
  | whl (c : E) (b : S)
  | for (t : Tg) (it : E) (b : S)
  | ret (e : E) | retN | brk | cnt | pas
  | lks (i : Nat) (s : S)
  | non

structure Df where
  np : Nat
  nl : Nat
  dfl : List D
  ps : List Str
  body : S

/-! ### what the operations do -/
def lenOk (n : Nat) : Bool := decide (n ≤ sizeLine)

def keyOf : D → Option L2.Key
  | .int i => some (.inl i)
  | .str x => some (.inr x)
  | _ => none
def dOfKey : L2.Key → D
  | .inl i => .int i
  | .inr x => .str x

/-- the items of a list or tuple -/
def seqD (d : D) (S : Store) : Option (List D) :=
  match d with
  | .tup ds => some ds
  | .rol ds => some ds
  | .ref n => match S[n]? with
    | some (.lst ds) => some ds
    | _ => none
  | _ => none
def truD (d : D) (S : Store) : Option Bool :=
  match d with
  | .non => some false
  | .bl b => some b
  | .int i => some (i != 0)
  | .str x => some ((x.length : Int) != 0)
  | .tup ds => some (!ds.isEmpty)
  | .rol ds => some (!ds.isEmpty)
  | .ref n => match S[n]? with
    | some (.lst ds) => some (!ds.isEmpty)
    | some (.dct kvs) => some (!kvs.isEmpty)
    | _ => none

mutual
def toP (S : Store) : Nat → D → Option PyData
  | 0, _ => none
  | n + 1, d => match d with
    | .non => some .none
    | .bl b => some (.bool b)
    | .int i => some (.int i)
    | .str x => some (.str x)
    | .tup ds => (toPs S n ds).map .tuple
    | .rol ds => (toPs S n ds).map .list
    | .ref r => match S[r]? with
      | some (.lst ds) => (toPs S n ds).map .list
      | _ => none
def toPs (S : Store) : Nat → List D → Option (List PyData)
  | 0, _ => none
  | _ + 1, [] => some []
  | n + 1, d :: ds => match toP S n d, toPs S n ds with
    | some p, some ps => some (p :: ps)
    | _, _ => none
end

/-- scalars that == tells apart as data does -/
def eqS : D → D → Option Bool
  | .non, .non => some true
  | .non, .int _ => some false | .int _, .non => some false
  | .non, .bl _ => some false | .bl _, .non => some false
  | .non, .str _ => some false | .str _, .non => some false
  | .int i, .int j => some (decide (i = j))
  | .bl i, .bl j => some (decide (i = j))
  | .str i, .str j => some (decide (i = j))
  | .int _, .str _ => some false | .str _, .int _ => some false
  | .bl _, .str _ => some false | .str _, .bl _ => some false
  | _, _ => none
/-- what the lengths tell -/
def lenD (a b : D) (S : Store) : Option Bool :=
  match a, b with
  | .ref m, .ref n => match S[m]?, S[n]? with
    | some (.lst xs), some (.lst ys) => if xs.length = ys.length then (if xs.length = 0 then some true else none) else some false
    | _, _ => none
  | .tup xs, .tup ys => if xs.length = 0 ∨ ys.length = 0 then some (decide (xs.length = ys.length)) else none
  | _, _ => none
def eqD (a b : D) (S : Store) : Option Bool :=
  match eqS a b with
  | some k => some k
  | none => match lenD a b S with
  | some k => some k
  | none => match toP S 1000 a, toP S 1000 b with
    | some p, some q => if SeqAt.shaped p && SeqAt.shaped q then some (PyData.eqv p q) else none
    | _, _ => none

def flatD : D → Bool
  | .non => true | .bl _ => true | .int _ => true | .str _ => true
  | _ => false
/-- as items of a list are compared with a flat thing -/
def eqF : D → D → Bool
  | .non, .non => true
  | .bl a, .bl b => a == b
  | .bl a, .int j => (if a then 1 else 0) == j
  | .int i, .bl b => i == (if b then 1 else 0)
  | .int i, .int j => i == j
  | .str x, .str y => x == y
  | _, _ => false

def valG {α : Type} (kvs : List (L2.Key × α)) (k : L2.Key) : Option α := (kvs.find? fun kv => decide (kv.1 = k)).map (·.2)
/-- in its place, or at the end -/
def putG {α : Type} (kvs : List (L2.Key × α)) (k : L2.Key) (v : α) : List (L2.Key × α) :=
  if (kvs.any fun kv => decide (kv.1 = k)) = true then kvs.map (fun kv => if kv.1 = k then (kv.1, v) else kv) else kvs ++ [(k, v)]

def inD (a b : D) (S : Store) : Option Bool :=
  match b with
  | .ref n => match S[n]? with
    | some (.dct kvs) => match keyOf a with
      | some k => some (valG kvs k).isSome
      | none => none
    | some (.dcl kvs) => match keyOf a with
      | some k => some (valG kvs k).isSome
      | none => none
    | some (.lst ds) => if flatD a && ds.all flatD then some (ds.any fun y => eqF y a) else none
    | _ => none
  | .tup ds => if flatD a && ds.all flatD then some (ds.any fun y => eqF y a) else none
  | .str z => match a with
    | .str x => if x.length = 1 then some (decide (x.cps.getD 0 0 ∈ z.cps.toList)) else none
    | _ => none
  | _ => none

def isD (a b : D) : Option Bool :=
  match b with
  | .non => some (match a with | .non => true | _ => false)
  | _ => none

def cmpD (o : Co) (a b : D) (S : Store) : Option Bool :=
  match o with
  | .eq => eqD a b S
  | .ne => (eqD a b S).map (!·)
  | .lt => match a, b with
    | .int i, .int j => some (decide (i < j))
    | .str i, .str j => some (decide (i.cps.toList < j.cps.toList))
    | _, _ => none
  | .le => match a, b with
    | .int i, .int j => some (decide (i ≤ j))
    | _, _ => none
  | .gt => match a, b with
    | .int i, .int j => some (decide (j < i))
    | _, _ => none
  | .ge => match a, b with
    | .int i, .int j => some (decide (j ≤ i))
    | _, _ => none
  | .isin => inD a b S
  | .nin => (inD a b S).map (!·)
  | .is => isD a b
  | .isn => (isD a b).map (!·)

def mulOk (i j : Int) : Bool := decide ((-(2 ^ 64) < i ∧ i < 2 ^ 64) ∨ (-(2 ^ 64) < j ∧ j < 2 ^ 64))

def new (o : O) (S : Store) : R D := .ok (.ref S.length) (S ++ [o])


def binD (o : Bo) (a b : D) (S : Store) : R D :=
  match o with
  | .add => match a, b with
    | .int i, .int j => .ok (.int (i + j)) S
    | .int i, .bl k => .ok (.int (i + PyProof.Rows.b2i k)) S
    | .str x, .str y => if x.length + y.length ≤ sizeLine then .ok (.str (x ++ y)) S else .bad
    | .tup xs, .tup ys => if xs.length + ys.length ≤ sizeLine then .ok (.tup (xs ++ ys)) S else .bad
    | .ref m, .ref n => match S[m]?, S[n]? with
      | some (.lst xs), some (.lst ys) => if xs.length + ys.length ≤ sizeLine then new (.lst (xs ++ ys)) S else .bad
      | _, _ => .bad
    | _, _ => .bad
  | .sub => match a, b with
    | .int i, .int j => .ok (.int (i - j)) S
    | _, _ => .bad
  | .mul => match a, b with
    | .int i, .int j => if mulOk i j then .ok (.int (i * j)) S else .bad
    | .str x, .int k => if x.length ≤ 1000 ∧ k < 1000 ∧ -1000 < k then .ok (.str (Txt.mul x k)) S else .bad
    | _, _ => .bad
  | .fdiv => match a, b with
    | .int i, .int j => if 0 < j ∧ j < 1073741824 then .ok (.int (i / j)) S else .bad
    | _, _ => .bad
  | .mod => match a, b with
    | .int i, .int j => if 0 < j then .ok (.int (i % j)) S else .bad
    | _, _ => .bad
  | .pow => match a, b with
    | .int i, .int j => if 0 ≤ j ∧ j ≤ 1000000 ∧ i.natAbs < 2 ^ 64 then .ok (.int (i ^ j.toNat)) S else .bad
    | _, _ => .bad

/-- a place among n, of any sign -/
def ixD (d : D) (i : D) (S : Store) : Option D :=
  match d, i with
  | .tup ds, .int k => L2.atI ds k
  | .rol ds, .int k => L2.atI ds k
  | .str z, .int k => (L2.atI z.cps.toList k).map fun c => .str ⟨#[c]⟩
  | .ref n, .int k => match S[n]? with
    | some (.lst ds) => L2.atI ds k
    | some (.dct kvs) => valG kvs (.inl k)
    | some (.dcl kvs) => valG kvs (.inl k)
    | _ => none
  | .ref n, .str x => match S[n]? with
    | some (.dct kvs) => valG kvs (.inr x)
    | some (.dcl kvs) => valG kvs (.inr x)
    | _ => none
  | _, _ => none

/-- .. of what stands in the store -/
def ixR (d i : D) (S : Store) : Option D :=
  match d with
  | .ref _ => ixD d i S
  | _ => none
def cut {α : Type} (xs : List α) (lo hi : Option Int) : List α := (xs.drop (HT.sIx xs.length 0 lo)).take (HT.sIx xs.length xs.length hi - HT.sIx xs.length 0 lo)
def slD (d : D) (lo hi : Option Int) (S : Store) : R D :=
  match d with
  | .tup ds => .ok (.tup (cut ds lo hi)) S
  | .rol ds => new (.lst (cut ds lo hi)) S
  | .str z => .ok (.str (L2.cutS z lo hi)) S
  | .ref n => match S[n]? with
    | some (.lst ds) => new (.lst (cut ds lo hi)) S
    | _ => .bad
  | _ => .bad

def setIx (a i e : D) (S : Store) : R Unit :=
  match a, i with
  | .ref n, .int k => match S[n]? with
    | some (.lst ds) => match L2.ixN ds.length k with
      | some j => .ok () (S.set n (.lst (ds.set j e)))
      | none => .bad
    | some (.dct kvs) => if kvs.length < sizeLine then .ok () (S.set n (.dct (putG kvs (.inl k) e))) else .bad
    | _ => .bad
  | .ref n, .str x => match S[n]? with
    | some (.dct kvs) => if kvs.length < sizeLine then .ok () (S.set n (.dct (putG kvs (.inr x) e))) else .bad
    | _ => .bad
  | _, _ => .bad

def asInts : List D → Option (List Int)
  | [] => some []
  | .int i :: r => (asInts r).map (i :: ·)
  | _ => none
def asStrs : List D → Option (List Str)
  | [] => some []
  | .str i :: r => (asStrs r).map (i :: ·)
  | _ => none
def asBls : List D → Option (List Bool)
  | [] => some []
  | .bl i :: r => (asBls r).map (i :: ·)
  | _ => none

def insI {α : Type} (le : α → α → Bool) (x : α) : List α → List α
  | [] => [x]
  | y :: r => if le x y then x :: y :: r else y :: insI le x r
def isort {α : Type} (le : α → α → Bool) : List α → List α
  | [] => []
  | x :: r => insI le x (isort le r)
def leI (a b : Int) : Bool := decide (a ≤ b)
def leS (a b : Str) : Bool := !decide (b.cps.toList < a.cps.toList)

def sortD (ds : List D) : Option (List D) :=
  if ds.length < 64 then
    match asInts ds with
    | some ns => some ((isort leI ns).map .int)
    | none => match asStrs ds with
      | some xs => some ((isort leS xs).map .str)
      | none => none
  else none

def fbD (f : Fb) (ds : List D) (S : Store) : R D :=
  match f with
  | .len => match ds with
    | [.str x] => .ok (.int x.length) S
    | [.tup xs] => .ok (.int xs.length) S
    | [.rol xs] => .ok (.int xs.length) S
    | [.ref n] => match S[n]? with
      | some (.lst xs) => .ok (.int xs.length) S
      | some (.dct kvs) => .ok (.int kvs.length) S
      | _ => .bad
    | _ => .bad
  | .abs => match ds with
    | [.int i] => .ok (.int (if i < 0 then -i else i)) S
    | _ => .bad
  | .max => match ds with
    | [.int i, .int j] => .ok (.int (if j > i then j else i)) S
    | _ => .bad
  | .min => match ds with
    | [.int i, .int j] => .ok (.int (if j < i then j else i)) S
    | _ => .bad
  | .sum => match ds with
    | [.ref n] => match S[n]? with
      | some (.lst xs) => match asInts xs with
        | some ns => .ok (.int ns.sum) S
        | none => .bad
      | _ => .bad
    | _ => .bad
  | .sorted => match ds with
    | [.ref n] => match S[n]? with
      | some (.lst xs) => match sortD xs with
        | some ys => new (.lst ys) S
        | none => .bad
      | some (.dct kvs) => match sortD (kvs.map fun p => dOfKey p.1) with
        | some ys => new (.lst ys) S
        | none => .bad
      | _ => .bad
    | _ => .bad
  | .list => match ds with
    | [d] => match seqD d S with
      | some xs => new (.lst xs) S
      | none => .bad
    | _ => .bad
  | .tuple => match ds with
    | [d] => match seqD d S with
      | some xs => .ok (.tup xs) S
      | none => .bad
    | _ => .bad
  | .int => match ds with
    | [.int i] => .ok (.int i) S
    | [.bl k] => .ok (.int (if k then 1 else 0)) S
    | _ => .bad
  | .all => match ds with
    | [.ref n] => match S[n]? with
      | some (.lst xs) => match asBls xs with
        | some bs => .ok (.bl (bs.all id)) S
        | none => .bad
      | _ => .bad
    | _ => .bad
  | .any => match ds with
    | [.ref n] => match S[n]? with
      | some (.lst xs) => match asBls xs with
        | some bs => .ok (.bl (bs.any id)) S
        | none => .bad
      | _ => .bad
    | _ => .bad

def isiD (t : Tk) (d : D) (S : Store) : Option Bool :=
  match d with
  | .non => some false
  | .bl _ => some (match t with | .bool => true | .int => true | _ => false)
  | .int _ => some (match t with | .int => true | _ => false)
  | .str _ => some (match t with | .str => true | _ => false)
  | .tup _ => some (match t with | .tuple => true | _ => false)
  | .rol _ => none
  | .ref n => match S[n]? with
    | some (.lst _) => some (match t with | .list => true | _ => false)
    | _ => none

def mtD (m : Mt) (a : D) (ds : List D) (S : Store) : R D :=
  match m with
  | .append => match a, ds with
    | .ref n, [d] => match S[n]? with
      | some (.lst xs) => if xs.length < sizeLine then .ok .non (S.set n (.lst (xs ++ [d]))) else .bad
      | _ => .bad
    | _, _ => .bad
  | .extend => match a, ds with
    | .ref n, [.ref k] => match S[n]?, S[k]? with
      | some (.lst xs), some (.lst ys) => if xs.length + ys.length ≤ sizeLine then .ok .non (S.set n (.lst (xs ++ ys))) else .bad
      | _, _ => .bad
    | _, _ => .bad
  | .pop => match a, ds with
    | .ref n, [] => match S[n]? with
      | some (.lst xs) => match xs[xs.length - 1]? with
        | some y => .ok y (S.set n (.lst xs.dropLast))
        | none => .bad
      | _ => .bad
    | _, _ => .bad
  | .popAt => match a, ds with
    | .ref n, [.int i] => match S[n]? with
      | some (.lst xs) => match L2.ixN xs.length i with
        | some k => match xs[k]? with
          | some y => .ok y (S.set n (.lst (xs.eraseIdx k)))
          | none => .bad
        | none => .bad
      | _ => .bad
    | _, _ => .bad
  | .join => match a, ds with
    | .str s, [d] => match seqD d S with
      | some xs => match asStrs xs with
        | some ys => if ((Txt.join s ys).length ≤ sizeLine ∧ (ys.map (·.length)).sum + ys.length * s.length ≤ 16777216) then .ok (.str (Txt.join s ys)) S else .bad
        | none => .bad
      | none => .bad
    | _, _ => .bad

/-- what a method is asked of -/
def mtTy (m : Mt) (a : D) (S : Store) : Bool :=
  match a with
  | .str _ => match m with
    | .join => true
    | _ => false
  | .ref n => match S[n]? with
    | some (.lst _) => match m with
      | .join => false
      | _ => true
    | _ => false
  | _ => false

/-! ### targets, walked things -/
mutual
def asgT : Tg → D → Store → Ls → Option Ls
  | .nm i, d, _, ls => some (ls.set i (some d))
  | .tup t, d, S, ls => match seqD d S with
    | some ds => asgTs t ds S ls
    | none => none
  | .nil, _, _, _ => none
  | .cons _ _, _, _, _ => none
def asgTs : Tg → List D → Store → Ls → Option Ls
  | .nil, ds, _, ls => match ds with
    | [] => some ls
    | _ => none
  | .cons t r, ds, S, ls => match ds with
    | d :: rest => match asgT t d S ls with
      | some ls' => asgTs r rest S ls'
      | none => none
    | [] => none
  | .nm _, _, _, _ => none
  | .tup _, _, _, _ => none
end

inductive ItV where
  | tup (ds : List D)
  | rol (ds : List D)
  | obj (n : Nat)
  | keys (n : Nat)
  | rng (lo : Int) (n : Nat)
/-- none: no walk; some none: the end -/
def ItV.nxt (J : ItV) (i : Nat) (S : Store) : Option (Option D) :=
  match J with
  | .tup ds => some ds[i]?
  | .rol ds => some ds[i]?
  | .obj n => match S[n]? with
    | some (.lst ds) => some ds[i]?
    | _ => none
  | .keys n => match S[n]? with
    | some (.dcl kvs) => some ((kvs[i]?).map fun p => dOfKey p.1)
    | _ => none
  | .rng lo n => some (if i < n then some (.int (lo + i)) else none)

inductive Fl where
  | next (ls : Ls) | ret (d : D) | brk (ls : Ls) | cont (ls : Ls)

def forL (g : D → Store → Ls → Option Ls) (body : Ls → Store → R Fl) (J : ItV) : Nat → Nat → Ls → Store → R Fl
  | 0, _, _, _ => .bad
  | m + 1, i, ls, S => match J.nxt i S with
    | none => .bad
    | some none => .ok (.next ls) S
    | some (some d) => match g d S ls with
      | none => .bad
      | some ls1 => match body ls1 S with
        | .ok (.next ls') S' => forL g body J m (i + 1) ls' S'
        | .ok (.cont ls') S' => forL g body J m (i + 1) ls' S'
        | .ok (.brk ls') S' => .ok (.next ls') S'
        | r => r
def whlL (c : Ls → Store → R Bool) (body : Ls → Store → R Fl) : Nat → Ls → Store → R Fl
  | 0, _, _ => .bad
  | m + 1, ls, S => match c ls S with
    | .ok true S1 => match body ls S1 with
      | .ok (.next ls') S' => whlL c body m ls' S'
      | .ok (.cont ls') S' => whlL c body m ls' S'
      | .ok (.brk ls') S' => .ok (.next ls') S'
      | r => r
    | .ok false S1 => .ok (.next ls) S1
    | .exc k ds S1 => .exc k ds S1
    | .bad => .bad

def wipeD (ls : Ls) : List Nat → Ls
  | [] => ls
  | v :: vs => (wipeD ls vs).set v none
/-- the list of a comprehension stands at D -/
def lcL (g : D → Store → Ls → Option Ls) (c : Ls → Store → R Bool) (e : Ls → Store → R D) (J : ItV) (r : Nat) (w : Ls) : Nat → Nat → Store → R D
  | 0, _, _ => .bad
  | m + 1, i, S => match J.nxt i S with
    | none => .bad
    | some none => .ok (.ref r) S
    | some (some d) => match g d S w with
      | none => .bad
      | some ls1 => match c ls1 S with
        | .ok true S1 => match e ls1 S1 with
          | .ok y S2 => match S2[r]? with
            | some (.lst acc) => if acc.length < sizeLine then lcL g c e J r w m (i + 1) (S2.set r (.lst (acc ++ [y]))) else .bad
            | _ => .bad
          | .exc k ds S2 => .exc k ds S2
          | .bad => .bad
        | .ok false S1 => lcL g c e J r w m (i + 1) S1
        | .exc k ds S1 => .exc k ds S1
        | .bad => .bad

/-! ### the runs -/
def opt {α : Type} (o : Option α) (S : Store) : R α :=
  match o with
  | some a => .ok a S
  | none => .bad
/-- what an expression is worth: as a value, as a test, as a list of expressions, as what and, or go through, as what a for walks; nl: it is nil -/
structure Sm where
  val : Ls → Store → R D := fun _ _ => .bad
  tst : Ls → Store → R Bool := fun _ _ => .bad
  lst : Ls → Store → R (List D) := fun _ _ => .bad
  bov : Bool → Ls → Store → R D := fun _ _ _ => .bad
  bot : Bool → Ls → Store → R Bool := fun _ _ _ => .bad
  itv : Ls → Store → R ItV := fun _ _ => .bad
  nl : Bool := false
def tru (r : R D) : R Bool := r.bind fun x S1 => opt (truD x S1) S1
def Sm.of (f : Ls → Store → R D) : Sm := { val := f, tst := fun ls S => tru (f ls S) }
/-- a part of a slice: nil where it is left out -/
def Sm.part (s : Sm) (ls : Ls) (S : Store) : R (Option Int) :=
  if s.nl then .ok none S else (s.val ls S).bind fun x S1 => match x with
    | .int i => .ok (some i) S1
    | _ => .bad
/-- a comprehension's test: nil where there is none -/
def Sm.cond (s : Sm) (ls : Ls) (S : Store) : R Bool := if s.nl then .ok true S else s.tst ls S
section
variable (F : Nat → List D → Store → R D) (FK : Nat → List Str → List D → List D → Store → R D) (m : Nat)
def ev : E → Sm
  | .non => .of fun _ S => .ok .non S
  | .bl b => .of fun _ S => .ok (.bl b) S
  | .int i => .of fun _ S => .ok (.int i) S
  | .str x => .of fun _ S => .ok (.str x) S
  | .v i => .of fun ls S => match ls[i]? with
    | some (some d) => .ok d S
    | _ => .bad
  | .bin o a b => .of fun ls S => ((ev a).val ls S).bind fun x S1 => ((ev b).val ls S1).bind fun y S2 => binD o x y S2
  | .neg a => .of fun ls S => ((ev a).val ls S).bind fun x S1 => match x with
    | .int i => .ok (.int (-i)) S1
    | _ => .bad
  | .no a => { val := fun ls S => ((ev a).val ls S).bind fun x S1 => opt ((truD x S1).map fun k => .bl (!k)) S1
               tst := fun ls S => ((ev a).tst ls S).bind fun k S1 => .ok (!k) S1 }
  | .bo k es => { val := fun ls S => (ev es).bov k ls S, tst := fun ls S => (ev es).bot k ls S }
  | .cmp o a b => .of fun ls S => ((ev a).val ls S).bind fun x S1 => ((ev b).val ls S1).bind fun y S2 => opt ((cmpD o x y S2).map .bl) S2
  | .chn o p a b c => .of fun ls S => ((ev a).val ls S).bind fun x S1 => ((ev b).val ls S1).bind fun y S2 => match cmpD o x y S2 with
    | some true => ((ev c).val ls S2).bind fun z S3 => opt ((cmpD p y z S3).map .bl) S3
    | some false => .ok (.bl false) S2
    | none => .bad
  | .ite c a b => { val := fun ls S => ((ev c).tst ls S).bind fun k S1 => if k then (ev a).val ls S1 else (ev b).val ls S1
                    tst := fun ls S => ((ev c).tst ls S).bind fun k S1 => if k then (ev a).tst ls S1 else (ev b).tst ls S1 }
  | .tup es => .of fun ls S => ((ev es).lst ls S).bind fun ds S1 => if ds.length ≤ sizeLine then .ok (.tup ds) S1 else .bad
  | .lst es => .of fun ls S => ((ev es).lst ls S).bind fun ds S1 => if ds.length ≤ sizeLine then new (.lst ds) S1 else .bad
  | .nil => { lst := fun _ S => .ok [] S, nl := true }
  | .cons a r => {
      lst := fun ls S => ((ev a).val ls S).bind fun x S1 => ((ev r).lst ls S1).bind fun xs S2 => .ok (x :: xs) S2
      bov := fun k ls S => if (ev r).nl then (ev a).val ls S else ((ev a).val ls S).bind fun x S1 => match truD x S1 with
        | some t => if t = k then (ev r).bov k ls S1 else .ok x S1
        | none => .bad
      bot := fun k ls S => if (ev r).nl then (ev a).tst ls S else ((ev a).tst ls S).bind fun t S1 => if t = k then (ev r).bot k ls S1 else .ok t S1 }
  | .ix a i => .of fun ls S => ((ev a).val ls S).bind fun x S1 => ((ev i).val ls S1).bind fun y S2 => opt (ixD x y S2) S2
  | .sl a lo hi => .of fun ls S => ((ev a).val ls S).bind fun x S1 => ((ev lo).part ls S1).bind fun l S2 => ((ev hi).part ls S2).bind fun u S3 => slD x l u S3
  | .dnew => .of fun _ S => new (.dct []) S
  | .call f es => .of fun ls S => ((ev es).lst ls S).bind fun ds S1 => F f ds S1
  | .callk f ks es eks => .of fun ls S => ((ev es).lst ls S).bind fun ds S1 => ((ev eks).lst ls S1).bind fun es S2 => FK f ks ds es S2
  | .bi f es => .of fun ls S => ((ev es).lst ls S).bind fun ds S1 => fbD f ds S1
  | .isi t a => .of fun ls S => ((ev a).val ls S).bind fun x S1 => opt ((isiD t x S1).map .bl) S1
  | .mt k a es => .of fun ls S => ((ev a).val ls S).bind fun x S1 => if mtTy k x S1 then ((ev es).lst ls S1).bind fun ds S2 => mtD k x ds S2 else .bad
  | .lc own t it c e => .of fun ls S => ((ev it).itv ls S).bind fun J S1 =>
      lcL (fun d S ls => asgT t d S ls) (fun ls S => (ev c).cond ls S) (fun ls S => (ev e).val ls S) J S1.length (wipeD ls (own.map (·.2))) m 0 (S1 ++ [.lst []])
  | .q a => { itv := fun ls S => ((ev a).val ls S).bind fun x S1 => match x with
    | .tup ds => .ok (.tup ds) S1
    | .rol ds => .ok (.rol ds) S1
    | .ref n => match S1[n]? with
      | some (.lst _) => .ok (.obj n) S1
      | some (.dcl _) => .ok (.keys n) S1
      | _ => .bad
    | _ => .bad }
  | .qr a => { itv := fun ls S => ((ev a).val ls S).bind fun x S1 => match x with
    | .int i => if -(2 ^ 62) ≤ i ∧ i < 2 ^ 62 then .ok (.rng 0 i.toNat) S1 else .bad
    | _ => .bad }
  | .qr2 a b => { itv := fun ls S => ((ev a).val ls S).bind fun x S1 => ((ev b).val ls S1).bind fun y S2 => match x, y with
    | .int i, .int j => if -(2 ^ 62) ≤ i ∧ i < 2 ^ 62 ∧ -(2 ^ 62) ≤ j ∧ j < 2 ^ 62 then .ok (.rng i (j - i).toNat) S2 else .bad
    | _, _ => .bad }
  | .lk i e => { val := fun ls S => match ls[i]? with
    | some (some (.ref n)) => match S[n]? with
      | some (.dct kvs) => ((ev e).val ls (S.set n (.dcl kvs))).bind fun d S1 => match S1[n]? with
        | some (.dcl kvs') => .ok d (S1.set n (.dct kvs'))
        | _ => .bad
      | _ => .bad
    | _ => .bad }
abbrev evE (e : E) (ls : Ls) (S : Store) : R D := (ev F FK m e).val ls S
abbrev evT (e : E) (ls : Ls) (S : Store) : R Bool := (ev F FK m e).tst ls S
abbrev evI (e : E) (ls : Ls) (S : Store) : R ItV := (ev F FK m e).itv ls S

def exS : S → Ls → Store → R Fl
  | .nil, ls, S => .ok (.next ls) S
  | .cons a r, ls, S => match exS a ls S with
    | .ok (.next ls') S' => exS r ls' S'
    | q => q
  | .ex e, ls, S => (evE F FK m e ls S).bind fun _ S1 => .ok (.next ls) S1
  | .set i e, ls, S => (evE F FK m e ls S).bind fun x S1 => .ok (.next (ls.set i (some x))) S1
  | .slc i own t it c e, ls, S => (evE F FK m (.lc own t it c e) ls S).bind fun x S1 => .ok (.next (ls.set i (some x))) S1
  | .asg t e, ls, S => (evE F FK m e ls S).bind fun x S1 => match asgT t x S1 ls with
    | some ls' => .ok (.next ls') S1
    | none => .bad
  | .par2 i j a b, ls, S => (evE F FK m a ls S).bind fun x S1 => (evE F FK m b ls S1).bind fun y S2 => .ok (.next ((ls.set i (some x)).set j (some y))) S2
  | .par3 i j l a b c, ls, S => (evE F FK m a ls S).bind fun x S1 => (evE F FK m b ls S1).bind fun y S2 => (evE F FK m c ls S2).bind fun z S3 => .ok (.next (((ls.set i (some x)).set j (some y)).set l (some z))) S3
  | .aug i o e, ls, S => match ls[i]? with
    | some (some x) => (evE F FK m e ls S).bind fun y S1 => match o, x, y with
      | .add, .int a, .int b => .ok (.next (ls.set i (some (.int (a + b))))) S1
      | .sub, .int a, .int b => .ok (.next (ls.set i (some (.int (a - b))))) S1
      | _, _, _ => .bad
    | _ => .bad
  | .six a i e, ls, S => (evE F FK m e ls S).bind fun x S1 => (evE F FK m a ls S1).bind fun y S2 => (evE F FK m i ls S2).bind fun z S3 => (setIx y z x S3).bind fun _ S4 => .ok (.next ls) S4
  | .aix a i o e, ls, S => (evE F FK m a ls S).bind fun y S1 => (evE F FK m i ls S1).bind fun z S2 => match ixR y z S2 with
    | some x => (evE F FK m e ls S2).bind fun w S3 => match o, x, w with
      | .add, .int p, .int q => (setIx y z (.int (p + q)) S3).bind fun _ S4 => .ok (.next ls) S4
      | .sub, .int p, .int q => (setIx y z (.int (p - q)) S3).bind fun _ S4 => .ok (.next ls) S4
      | _, _, _ => .bad
    | none => .bad
  | .ite c a b, ls, S => (evT F FK m c ls S).bind fun k S1 => if k then exS a ls S1 else exS b ls S1
  | .whl c b, ls, S => whlL (fun ls S => evT F FK m c ls S) (fun ls S => exS b ls S) m ls S
  | .for t it b, ls, S => (evI F FK m it ls S).bind fun J S1 => forL (fun d S ls => asgT t d S ls) (fun ls S => exS b ls S) J m 0 ls S1
  | .ret e, ls, S => (evE F FK m e ls S).bind fun x S1 => .ok (.ret x) S1
  | .retN, _, S => .ok (.ret .non) S
  | .brk, ls, S => .ok (.brk ls) S
  | .cnt, ls, S => .ok (.cont ls) S
  | .pas, ls, S => .ok (.next ls) S
  | .lks i s, ls, S => match ls[i]? with
    | some (some (.ref n)) => match S[n]? with
      | some (.dct kvs) => (exS s ls (S.set n (.dcl kvs))).bind fun d S1 => match S1[n]? with
        | some (.dcl kvs') => .ok d (S1.set n (.dct kvs'))
        | _ => .bad
      | _ => .bad
    | _ => .bad
  | .non, _, _ => .bad
end

/-- the arguments, filled up by the defaults -/
def fill (df : Df) (ds : List D) : Option (List D) :=
  let full := ds ++ df.dfl.drop (df.dfl.length - (df.np - ds.length))
  if full.length = df.np ∧ ds.length ≤ df.np then some full else none
/-- positional ones, then keywords in the parameters' order -/
def fillK (df : Df) (ks : List Str) (ds es : List D) : Option (List D) :=
  if ks = df.ps.drop ds.length ∧ es.length = ks.length ∧ ds.length ≤ df.ps.length ∧ df.ps.length = df.np then some (ds ++ es) else none
def bodyEnd (r : R Fl) : R D :=
  match r with
  | .ok (.ret d) S => .ok d S
  | .ok (.next _) S => .ok .non S
  | .ok _ _ => .bad
  | .exc c ds S => .exc c ds S
  | .bad => .bad
def startD (df : Df) (ds : List D) : Ls := ds.map some ++ List.replicate (df.nl - ds.length) none
/-- calls, n deep -/
def runN (P : List Df) (m : Nat) : Nat → Nat → List D → Store → R D
  | 0, _, _, _ => .bad
  | n + 1, f, ds, S => match P[f]? with
    | none => .bad
    | some df => if ds.length = df.np then
        bodyEnd (exS (fun f ds S => match P[f]? with
            | some df => match fill df ds with
              | some full => runN P m n f full S
              | none => .bad
            | none => .bad)
          (fun f ks ds es S => match P[f]? with
            | some df => match fillK df ks ds es with
              | some full => runN P m n f full S
              | none => .bad
            | none => .bad) m df.body (startD df ds) S)
      else .bad
end PV

set_option Elab.async false
set_option linter.all false
set_option maxRecDepth 100000
set_option maxHeartbeats 1000000
/-! PV: what a value, a store are in the heap. -/
namespace PV
open PySem PySem.Spec PyProof.Rows L2

structure Gb where
  K : PySem.W.Frag
  cls : Nat → Addr

/-- a list that is only read -/
def RoL (K : PySem.W.Frag) (H : Hp) (a : Addr) (xs : List V) : Prop :=
  (∃ o, H a = some (.frz o (.lst xs))) ∨
    ∃ (o : Obj) (its : Array Value) (n : Nat), K.lookup a = some o ∧ o.cls = .type "list" ∧ o.dict = none ∧ o.data = .seq its n ∧ its.size ≤ sizeLine ∧ Vals xs its.toList
theorem RoL.sql {K : PySem.W.Frag} {H : Hp} {a : Addr} {xs : List V} (h : RoL K H a xs) : SqL K H a xs := by
  rcases h with ⟨o, h⟩ | h
  · exact .inl (.inr ⟨o, h⟩)
  · exact .inr h

mutual
def RV (G : Gb) (H : Hp) (b : List Addr) : D → V → Prop
  | .non, v => v = .non
  | .bl k, v => v = .bl k
  | .int i, v => v = .int i
  | .str x, v => v = .str x ∧ x.length ≤ sizeLine
  | .tup ds, v => ∃ a vs, v = .ref a ∧ SqT G.K H a vs ∧ RVs G H b ds vs
  | .rol ds, v => ∃ a vs, v = .ref a ∧ RoL G.K H a vs ∧ RVs G H b ds vs
  | .ref n, v => ∃ a, v = .ref a ∧ b[n]? = some a
def RVs (G : Gb) (H : Hp) (b : List Addr) : List D → List V → Prop
  | [], vs => vs = []
  | d :: ds, vs => ∃ v r, vs = v :: r ∧ RV G H b d v ∧ RVs G H b ds r
end

/-- what was laid and never changes is kept -/
structure Grow (H H' : Hp) : Prop where
  tup : ∀ a xs, Rd H a (.tup xs) → Rd H' a (.tup xs)
  rol : ∀ a o xs, H a = some (.frz o (.lst xs)) → H' a = some (.frz o (.lst xs))
theorem Grow.refl (H : Hp) : Grow H H := ⟨fun _ _ h => h, fun _ _ _ h => h⟩
theorem Grow.trans {H H1 H2 : Hp} (a : Grow H H1) (c : Grow H1 H2) : Grow H H2 := ⟨fun x xs h => c.tup x xs (a.tup x xs h), fun x o xs h => c.rol x o xs (a.rol x o xs h)⟩
theorem Grow.sqt {K : PySem.W.Frag} {H H' : Hp} {a : Addr} {xs : List V} (g : Grow H H') (h : SqT K H a xs) : SqT K H' a xs := by
  rcases h with h | h
  · exact .inl (g.tup a xs h)
  · exact .inr h
theorem Grow.rl {K : PySem.W.Frag} {H H' : Hp} {a : Addr} {xs : List V} (g : Grow H H') (h : RoL K H a xs) : RoL K H' a xs := by
  rcases h with ⟨o, h⟩ | h
  · exact .inl ⟨o, g.rol a o xs h⟩
  · exact .inr h
/-- a new object -/
theorem Grow.new {H : Hp} {p : Addr} {o : HO} (h : H p = none) : Grow H (upd H p o) := by
  refine ⟨fun a xs q => ?_, fun a o' xs q => ?_⟩
  · rcases q with q | ⟨ob, q⟩
    · exact .inl (by rw [upd_ne (ne_of_none q h)]; exact q)
    · exact .inr ⟨ob, by rw [upd_ne (ne_of_none q h)]; exact q⟩
  · rw [upd_ne (ne_of_none q h)]
    exact q
/-- what may change -/
def Chg : HO → Bool
  | .lst _ => true
  | .dK _ => true
  | .ins _ _ _ => true
  | .frz _ (.dK _) => true
  | _ => false
theorem Grow.set {H : Hp} {p : Addr} {o o' : HO} (h : H p = some o) (m : Chg o = true) : Grow H (upd H p o') := by
  have ne : ∀ a u, H a = some u → Chg u = false → a ≠ p := by
    intro a u q c e
    subst e
    rw [h] at q
    cases q
    rw [m] at c
    cases c
  refine ⟨fun a xs q => ?_, fun a ob xs q => ?_⟩
  · rcases q with q | ⟨ob, q⟩
    · exact .inl (by rw [upd_ne (ne a _ q rfl)]; exact q)
    · exact .inr ⟨ob, by rw [upd_ne (ne a _ q rfl)]; exact q⟩
  · rw [upd_ne (ne a _ q rfl)]
    exact q

/-- the locked dicts as they were -/
def Frz (H H' : Hp) : Prop := ∀ (a : Addr) (o : Obj) (kvs : List (Key × V)), H a = some (.frz o (.dK kvs)) → H' a = some (.frz o (.dK kvs))
theorem Frz.refl (H : Hp) : Frz H H := fun _ _ _ h => h
theorem Frz.trans {H H1 H2 : Hp} (a : Frz H H1) (c : Frz H1 H2) : Frz H H2 := fun x o k h => c x o k (a x o k h)
theorem Frz.new {H : Hp} {p : Addr} {u : HO} (h : H p = none) : Frz H (upd H p u) := fun a o k q => by
  rw [upd_ne (ne_of_none q h)]; exact q
theorem Frz.set {H : Hp} {p : Addr} {w u : HO} (h : H p = some w) (n : ∀ o k, w ≠ .frz o (.dK k)) : Frz H (upd H p u) := fun a o k q => by
  rw [upd_ne (fun e => by rw [e, h] at q; cases q; exact n _ _ rfl)]; exact q
/-- the numbers of the store, older ones as they were -/
def Old (b b' : List Addr) : Prop := ∀ (n : Nat) (a : Addr), b[n]? = some a → b'[n]? = some a
theorem Old.refl (b : List Addr) : Old b b := fun _ _ h => h
theorem Old.trans {b c d : List Addr} (h : Old b c) (k : Old c d) : Old b d := fun n a e => k n a (h n a e)
theorem Old.push (b : List Addr) (p : Addr) : Old b (b ++ [p]) := fun n a e => by
  have := (List.getElem?_eq_some_iff.mp e).1
  rw [List.getElem?_append_left this]
  exact e

section
variable {G : Gb} {H H' : Hp} {b b' : List Addr}
mutual
theorem RV.mono (o : Old b b') (g : Grow H H') : ∀ (d : D) (v : V), RV G H b d v → RV G H' b' d v
  | .non, _, h => by simp only [RV] at h ⊢; exact h
  | .bl _, _, h => by simp only [RV] at h ⊢; exact h
  | .int _, _, h => by simp only [RV] at h ⊢; exact h
  | .str _, _, h => by simp only [RV] at h ⊢; exact h
  | .tup ds, _, h => by
    simp only [RV] at h ⊢
    obtain ⟨a, vs, e, s, r⟩ := h
    exact ⟨a, vs, e, g.sqt s, RVs.mono o g ds vs r⟩
  | .rol ds, _, h => by
    simp only [RV] at h ⊢
    obtain ⟨a, vs, e, s, r⟩ := h
    exact ⟨a, vs, e, g.rl s, RVs.mono o g ds vs r⟩
  | .ref n, _, h => by
    simp only [RV] at h ⊢
    obtain ⟨a, e, q⟩ := h
    exact ⟨a, e, o n a q⟩
theorem RVs.mono (o : Old b b') (g : Grow H H') : ∀ (ds : List D) (vs : List V), RVs G H b ds vs → RVs G H' b' ds vs
  | [], _, h => by simp only [RVs] at h ⊢; exact h
  | d :: ds, _, h => by
    simp only [RVs] at h ⊢
    obtain ⟨v, r, e, p, q⟩ := h
    exact ⟨v, r, e, RV.mono o g d v p, RVs.mono o g ds r q⟩
end
theorem RVs.nil : RVs G H b [] [] := by simp only [RVs]
theorem RVs.cons {d : D} {v : V} {ds : List D} {vs : List V} (h : RV G H b d v) (r : RVs G H b ds vs) : RVs G H b (d :: ds) (v :: vs) := by
  simp only [RVs]
  exact ⟨v, vs, rfl, h, r⟩
theorem RVs.length : ∀ {ds : List D} {vs : List V}, RVs G H b ds vs → ds.length = vs.length
  | [], _, h => by simp only [RVs] at h; subst h; rfl
  | d :: ds, _, h => by
    simp only [RVs] at h
    obtain ⟨v, r, e, _, q⟩ := h
    rw [e, List.length_cons, List.length_cons, RVs.length q]
theorem RVs.get : ∀ {ds : List D} {vs : List V} {i : Nat} {d : D}, RVs G H b ds vs → ds[i]? = some d → ∃ v, vs[i]? = some v ∧ RV G H b d v
  | [], _, i, _, _, e => by simp at e
  | x :: ds, _, i, d, h, e => by
    simp only [RVs] at h
    obtain ⟨v, r, e', p, q⟩ := h
    subst e'
    cases i with
    | zero => simp at e; subst e; exact ⟨v, rfl, p⟩
    | succ i =>
      obtain ⟨w, h1, h2⟩ := RVs.get (i := i) q (by simpa using e)
      exact ⟨w, by simpa using h1, h2⟩
theorem RVs.get' {ds : List D} {vs : List V} {i : Nat} {v : V} (h : RVs G H b ds vs) (e : vs[i]? = some v) : ∃ d, ds[i]? = some d ∧ RV G H b d v := by
  have hl := h.length
  have hi := (List.getElem?_eq_some_iff.mp e).1
  have q : ds[i]? = some ds[i] := List.getElem?_eq_getElem (by omega)
  obtain ⟨w, h1, h2⟩ := h.get q
  rw [e] at h1
  cases h1
  exact ⟨_, q, h2⟩
theorem RVs.none {ds : List D} {vs : List V} {i : Nat} (h : RVs G H b ds vs) (e : ds[i]? = none) : vs.length ≤ i := by
  have := h.length
  have q := List.getElem?_eq_none_iff.mp e
  omega
theorem RVs.of_get : ∀ {ds : List D} {vs : List V}, ds.length = vs.length → (∀ (i : Nat) (d : D) (v : V), ds[i]? = some d → vs[i]? = some v → RV G H b d v) → RVs G H b ds vs
  | [], [], _, _ => RVs.nil
  | d :: ds, v :: vs, hl, h => RVs.cons (h 0 d v rfl rfl) (RVs.of_get (by simpa using hl) fun i x y e1 e2 => h (i + 1) x y (by simpa using e1) (by simpa using e2))
theorem RVs.append : ∀ {ds es : List D} {vs ws : List V}, RVs G H b ds vs → RVs G H b es ws → RVs G H b (ds ++ es) (vs ++ ws)
  | [], _, _, _, h, k => by simp only [RVs] at h; subst h; exact k
  | d :: ds, _, _, _, h, k => by
    simp only [RVs] at h
    obtain ⟨v, r, e, p, q⟩ := h
    subst e
    exact RVs.cons p (RVs.append q k)
theorem RVs.set {ds : List D} {vs : List V} {d : D} {v : V} (h : RVs G H b ds vs) (i : Nat) (r : RV G H b d v) : RVs G H b (ds.set i d) (vs.set i v) := by
  refine RVs.of_get (by simp [h.length]) fun j x y e1 e2 => ?_
  by_cases q : i = j
  · subst q
    have h1 := (List.getElem?_eq_some_iff.mp e1).1
    have h2 := (List.getElem?_eq_some_iff.mp e2).1
    rw [List.length_set] at h1 h2
    rw [List.getElem?_set_self h1] at e1
    rw [List.getElem?_set_self h2] at e2
    cases e1
    cases e2
    exact r
  · rw [List.getElem?_set_ne q] at e1 e2
    obtain ⟨w, h1, h2⟩ := h.get e1
    rw [e2] at h1
    cases h1
    exact h2
theorem RVs.pick {ds : List D} {vs : List V} (h : RVs G H b ds vs) {i : Nat} {d : D} {v : V} (e1 : ds[i]? = some d) (e2 : vs[i]? = some v) : RV G H b d v := by
  obtain ⟨w, h1, h2⟩ := h.get e1
  rw [e2] at h1
  cases h1
  exact h2
theorem RVs.drop {ds : List D} {vs : List V} (h : RVs G H b ds vs) (n : Nat) : RVs G H b (ds.drop n) (vs.drop n) := by
  refine RVs.of_get (by simp [h.length]) fun j x y e1 e2 => ?_
  rw [List.getElem?_drop] at e1 e2
  exact h.pick e1 e2
theorem RVs.take {ds : List D} {vs : List V} (h : RVs G H b ds vs) (n : Nat) : RVs G H b (ds.take n) (vs.take n) := by
  refine RVs.of_get (by simp [h.length]) fun j x y e1 e2 => ?_
  rw [List.getElem?_take] at e1 e2
  split at e1
  · rw [if_pos (by assumption)] at e2
    exact h.pick e1 e2
  · cases e1
theorem RVs.dropLast {ds : List D} {vs : List V} (h : RVs G H b ds vs) : RVs G H b ds.dropLast vs.dropLast := by
  rw [List.dropLast_eq_take, List.dropLast_eq_take, h.length]
  exact h.take _
theorem RVs.eraseIdx {ds : List D} {vs : List V} (h : RVs G H b ds vs) (n : Nat) : RVs G H b (ds.eraseIdx n) (vs.eraseIdx n) := by
  rw [List.eraseIdx_eq_take_drop_succ, List.eraseIdx_eq_take_drop_succ]
  exact (h.take n).append (h.drop (n + 1))
theorem RVs.cut {ds : List D} {vs : List V} (h : RVs G H b ds vs) (lo hi : Option Int) : RVs G H b (cut ds lo hi) (cutV vs lo hi) := by
  unfold PV.cut cutV
  rw [h.length]
  exact (h.drop _).take _

/-- tables -/
def RKs {κ : Type} (G : Gb) (H : Hp) (b : List Addr) : List (κ × D) → List (κ × V) → Prop
  | [], ws => ws = []
  | p :: ps, ws => ∃ v r, ws = (p.1, v) :: r ∧ RV G H b p.2 v ∧ RKs G H b ps r
theorem RKs.mono {κ : Type} (o : Old b b') (g : Grow H H') : ∀ {ps : List (κ × D)} {ws : List (κ × V)}, RKs G H b ps ws → RKs G H' b' ps ws
  | [], _, h => h
  | _ :: _, _, ⟨v, r, e, p, q⟩ => ⟨v, r, e, RV.mono o g _ _ p, RKs.mono o g q⟩
theorem RKs.length {κ : Type} : ∀ {ps : List (κ × D)} {ws : List (κ × V)}, RKs G H b ps ws → ps.length = ws.length
  | [], _, h => by have h : _ = [] := h; subst h; rfl
  | _ :: _, _, ⟨v, r, e, p, q⟩ => by rw [e, List.length_cons, List.length_cons, RKs.length q]
theorem RKs.keys {κ : Type} : ∀ {ps : List (κ × D)} {ws : List (κ × V)}, RKs G H b ps ws → ps.map (·.1) = ws.map (·.1)
  | [], _, h => by have h : _ = [] := h; subst h; rfl
  | _ :: _, _, ⟨v, r, e, p, q⟩ => by rw [e, List.map_cons, List.map_cons, RKs.keys q]
theorem RKs.val : ∀ {ps : List (Key × D)} {ws : List (Key × V)} (k : Key), RKs G H b ps ws → (valG ps k = none ∧ valV ws k = none) ∨ ∃ d v, valG ps k = some d ∧ valV ws k = some v ∧ RV G H b d v
  | [], _, _, h => by have h : _ = [] := h; subst h; exact .inl ⟨rfl, rfl⟩
  | p :: ps, _, k, ⟨v, r, e, h, q⟩ => by
    subst e
    have ih := RKs.val k q
    unfold valG valV at *
    by_cases e : p.1 = k
    · simp only [List.find?_cons, e, decide_true, Option.map_some]
      exact .inr ⟨_, _, rfl, rfl, h⟩
    · simp only [List.find?_cons, e, decide_false]
      exact ih
theorem RKs.some {ps : List (Key × D)} {ws : List (Key × V)} {k : Key} (h : RKs G H b ps ws) : (valG ps k).isSome = (valV ws k).isSome := by
  rcases h.val k with ⟨a, c⟩ | ⟨d, v, a, c, _⟩
  · rw [a, c]; rfl
  · rw [a, c]; rfl
theorem RKs.put {ps : List (Key × D)} {ws : List (Key × V)} {d : D} {v : V} (h : RKs G H b ps ws) (k : Key) (r : RV G H b d v) : RKs G H b (putG ps k d) (L2.putK ws k v) := by
  have hany : (ps.any fun kv => decide (kv.1 = k)) = ws.any fun kv => decide (kv.1 = k) := by
    have := h.keys
    have e1 : (ps.any fun kv => decide (kv.1 = k)) = (ps.map (·.1)).any fun z => decide (z = k) := by rw [List.any_map]; rfl
    have e2 : (ws.any fun kv => decide (kv.1 = k)) = (ws.map (·.1)).any fun z => decide (z = k) := by rw [List.any_map]; rfl
    rw [e1, e2, this]
  unfold putG L2.putK
  rw [hany]
  by_cases c : (ws.any fun kv => decide (kv.1 = k)) = true
  · rw [if_pos c, if_pos c]
    clear hany c
    induction ps generalizing ws with
    | nil => have h : ws = [] := h; subst h; exact (rfl : ([] : List (Key × V)) = [])
    | cons p ps ih =>
      obtain ⟨w, r', e, hp, q⟩ := h
      subst e
      rw [List.map_cons, List.map_cons]
      by_cases e : p.1 = k
      · simp only [e, if_true]
        exact ⟨v, _, by rw [← e], r, by simpa [e] using ih q⟩
      · simp only [if_neg e]
        exact ⟨w, _, rfl, hp, ih q⟩
  · rw [if_neg c, if_neg c]
    clear hany c
    induction ps generalizing ws with
    | nil => have h : ws = [] := h; subst h; exact ⟨v, [], rfl, r, rfl⟩
    | cons p ps ih =>
      obtain ⟨w, r', e, hp, q⟩ := h
      subst e
      exact ⟨w, _, rfl, hp, ih q⟩

/-- the texts among the keys are no longer than texts may be -/
def KOk (kvs : List (Key × D)) : Prop := ∀ p ∈ kvs, ∀ x, p.1 = .inr x → x.length ≤ sizeLine
theorem KOk.put {kvs : List (Key × D)} (h : KOk kvs) {k : Key} (hk : ∀ x, k = .inr x → x.length ≤ sizeLine) (d : D) : KOk (putG kvs k d) := by
  intro p hp x e
  unfold putG at hp
  split at hp
  · obtain ⟨q, hq, rfl⟩ := List.mem_map.mp hp
    split at e
    · exact h q hq x e
    · exact h q hq x e
  · rcases List.mem_append.mp hp with hp | hp
    · exact h p hp x e
    · rw [List.mem_singleton] at hp
      subst hp
      exact hk x e

/-! ### the store in the heap -/
def RO (G : Gb) (H : Hp) (b : List Addr) : O → Addr → Prop
  | .lst ds, a => ∃ vs, H a = some (.lst vs) ∧ RVs G H b ds vs
  | .dct kvs, a => ∃ ws, H a = some (.dK ws) ∧ RKs G H b kvs ws ∧ KOk kvs
  | .dcl kvs, a => ∃ ob ws, H a = some (.frz ob (.dK ws)) ∧ RKs G H b kvs ws ∧ KOk kvs
  | .ins c fs, a => ∃ dx ws, H a = some (.ins (G.cls c) dx ws) ∧ RKs G H b fs ws
structure Rel (G : Gb) (H : Hp) (b : List Addr) (S : Store) : Prop where
  len : b.length = S.length
  nd : b.Nodup
  obj : ∀ (n : Nat) (o : O) (a : Addr), S[n]? = some o → b[n]? = some a → RO G H b o a
theorem RO.mono (o : Old b b') (g : Grow H H') {u : O} {a : Addr} (h : RO G H b u a) (e : ∀ w, H a = some w → H' a = some w) : RO G H' b' u a := by
  cases u with
  | lst ds => obtain ⟨vs, q, r⟩ := h; exact ⟨vs, e _ q, RVs.mono o g _ _ r⟩
  | dct kvs => obtain ⟨ws, q, r, k⟩ := h; exact ⟨ws, e _ q, r.mono o g, k⟩
  | dcl kvs => obtain ⟨ob, ws, q, r, k⟩ := h; exact ⟨ob, ws, e _ q, r.mono o g, k⟩
  | ins c fs => obtain ⟨dx, ws, q, r⟩ := h; exact ⟨dx, ws, e _ q, r.mono o g⟩
theorem RO.there {u : O} {a : Addr} (h : RO G H b u a) : ∃ w, H a = some w ∧ Chg w = true := by
  cases u with
  | lst ds => obtain ⟨vs, q, r⟩ := h; exact ⟨_, q, rfl⟩
  | dct kvs => obtain ⟨ws, q, r⟩ := h; exact ⟨_, q, rfl⟩
  | dcl kvs => obtain ⟨ob, ws, q, r⟩ := h; exact ⟨_, q, rfl⟩
  | ins c fs => obtain ⟨dx, ws, q, r⟩ := h; exact ⟨_, q, rfl⟩
theorem Rel.at {S : Store} (r : Rel G H b S) {n : Nat} {a : Addr} (e : b[n]? = some a) : ∃ o, S[n]? = some o ∧ RO G H b o a := by
  have h := (List.getElem?_eq_some_iff.mp e).1
  have q : S[n]? = some (S[n]'(by rw [← r.len]; exact h)) := List.getElem?_eq_getElem _
  exact ⟨_, q, r.obj n _ a q e⟩
/-- the list with the number n, that stands at a -/
theorem Rel.obj' {S : Store} (r : Rel G H b S) {n : Nat} {o : O} {a : Addr} (e : S[n]? = some o) (h : b[n]? = some a) : RO G H b o a := r.obj n o a e h
theorem Rel.addr {S : Store} (r : Rel G H b S) {n : Nat} {o : O} (e : S[n]? = some o) : ∃ a, b[n]? = some a ∧ RO G H b o a := by
  have h := (List.getElem?_eq_some_iff.mp e).1
  have q : b[n]? = some (b[n]'(by rw [r.len]; exact h)) := List.getElem?_eq_getElem _
  exact ⟨_, q, r.obj n _ _ e q⟩
theorem Rel.inj {S : Store} (r : Rel G H b S) {n m : Nat} {a : Addr} (e1 : b[n]? = some a) (e2 : b[m]? = some a) : n = m := by
  obtain ⟨h1, e1⟩ := List.getElem?_eq_some_iff.mp e1
  obtain ⟨h2, e2⟩ := List.getElem?_eq_some_iff.mp e2
  exact (List.getElem_inj r.nd).mp (e1.trans e2.symm)

/-- what stands behind a step -/
structure Post (G : Gb) (H : Hp) (b : List Addr) (H' : Hp) (b' : List Addr) (S' : Store) : Prop where
  rel : Rel G H' b' S'
  old : Old b b'
  grow : Grow H H'
  frz : Frz H H'
theorem Post.refl {S : Store} (r : Rel G H b S) : Post G H b H b S := ⟨r, Old.refl b, Grow.refl H, Frz.refl H⟩
theorem Post.trans {H1 H2 : Hp} {b1 b2 : List Addr} {S1 S2 : Store} (p : Post G H b H1 b1 S1) (q : Post G H1 b1 H2 b2 S2) : Post G H b H2 b2 S2 := ⟨q.rel, p.old.trans q.old, p.grow.trans q.grow, p.frz.trans q.frz⟩
theorem Post.rv {H1 : Hp} {b1 : List Addr} {S1 : Store} (p : Post G H b H1 b1 S1) {d : D} {v : V} (h : RV G H b d v) : RV G H1 b1 d v := RV.mono p.old p.grow d v h
theorem Post.rvs {H1 : Hp} {b1 : List Addr} {S1 : Store} (p : Post G H b H1 b1 S1) {ds : List D} {vs : List V} (h : RVs G H b ds vs) : RVs G H1 b1 ds vs := RVs.mono p.old p.grow ds vs h

/-- a new object is laid and has the next number -/
theorem Rel.new {S : Store} (r : Rel G H b S) {p : Addr} {o : O} {u : HO} (hp : H p = none) (ro : RO G (upd H p u) (b ++ [p]) o p) : Post G H b (upd H p u) (b ++ [p]) (S ++ [o]) := by
  have fresh : p ∉ b := fun m => by
    obtain ⟨n, e⟩ := List.getElem?_of_mem m
    obtain ⟨_, _, h⟩ := r.at e
    obtain ⟨w, q, _⟩ := h.there
    rw [hp] at q
    cases q
  refine ⟨⟨by simp [r.len], ?_, fun n w a e1 e2 => ?_⟩, Old.push b p, Grow.new hp, Frz.new hp⟩
  · rw [List.nodup_append]
    exact ⟨r.nd, by simp, fun x hx y hy e => by
      rw [List.mem_singleton] at hy
      subst hy
      subst e
      exact fresh hx⟩
  · by_cases hn : n < b.length
    · rw [List.getElem?_append_left hn] at e2
      rw [List.getElem?_append_left (by rw [← r.len]; exact hn)] at e1
      refine RO.mono (Old.push b p) (Grow.new hp) (r.obj n w a e1 e2) fun z q => ?_
      rw [upd_ne (ne_of_none q hp)]
      exact q
    · have e : n = b.length := by
        have := (List.getElem?_eq_some_iff.mp e2).1
        simp at this
        omega
      subst e
      rw [List.getElem?_append_right (Nat.le_refl _)] at e2
      rw [List.getElem?_append_right (by rw [r.len]; exact Nat.le_refl _), r.len] at e1
      simp at e1 e2
      subst e1
      subst e2
      exact ro
/-- an object is changed -/
theorem Rel.set {S : Store} (r : Rel G H b S) {n : Nat} {a : Addr} {o' : O} {u w0 : HO} (e : b[n]? = some a) (hw : H a = some w0) (hn : ∀ o k, w0 ≠ .frz o (.dK k)) (ro : RO G (upd H a u) b o' a) : Post G H b (upd H a u) b (S.set n o') := by
  obtain ⟨o, _, h⟩ := r.at e
  obtain ⟨w, q, c⟩ := h.there
  have g : Grow H (upd H a u) := Grow.set q c
  refine ⟨⟨by simp [r.len], r.nd, fun m x c' e1 e2 => ?_⟩, Old.refl b, g, Frz.set hw hn⟩
  by_cases hm : n = m
  · subst hm
    have hl := (List.getElem?_eq_some_iff.mp e1).1
    rw [List.length_set] at hl
    rw [List.getElem?_set_self hl] at e1
    cases e1
    rw [e] at e2
    cases e2
    exact ro
  · rw [List.getElem?_set_ne hm] at e1
    have hne : c' ≠ a := fun z => hm (r.inj e (z ▸ e2))
    refine RO.mono (Old.refl b) g (r.obj m x c' e1 e2) fun z k => ?_
    rw [upd_ne hne]
    exact k
/-- .. the list -/
theorem Rel.newL {S : Store} (r : Rel G H b S) {p : Addr} {ds : List D} {vs : List V} (hp : H p = none) (h : RVs G H b ds vs) : Post G H b (upd H p (.lst vs)) (b ++ [p]) (S ++ [.lst ds]) ∧ RV G (upd H p (.lst vs)) (b ++ [p]) (.ref S.length) (.ref p) := by
  have z : (b ++ [p])[S.length]? = some p := by rw [← r.len, List.getElem?_append_right (Nat.le_refl _)]; simp
  refine ⟨r.new hp ⟨vs, upd_same, RVs.mono (Old.push b p) (Grow.new hp) _ _ h⟩, ?_⟩
  simp only [RV]
  exact ⟨p, rfl, z⟩
theorem Rel.setL {S : Store} (r : Rel G H b S) {n : Nat} {a : Addr} {ds : List D} {vs vs0 : List V} (e : b[n]? = some a) (hw : H a = some (.lst vs0)) (h : RVs G H b ds vs) : Post G H b (upd H a (.lst vs)) b (S.set n (.lst ds)) := by
  obtain ⟨o, _, q⟩ := r.at e
  obtain ⟨w, q, c⟩ := q.there
  exact r.set e hw (fun _ _ z => by cases z) ⟨vs, upd_same, RVs.mono (Old.refl b) (Grow.set q c) _ _ h⟩
/-- a new tuple: by its worth -/
theorem Rel.newT {S : Store} (r : Rel G H b S) {p : Addr} {ds : List D} {vs : List V} (hp : H p = none) (h : RVs G H b ds vs) : Post G H b (upd H p (.tup vs)) b S ∧ RV G (upd H p (.tup vs)) b (.tup ds) (.ref p) := by
  have g : Grow H (upd H p (.tup vs)) := Grow.new hp
  refine ⟨⟨⟨r.len, r.nd, fun n o a e1 e2 => ?_⟩, Old.refl b, g, Frz.new hp⟩, ?_⟩
  · refine RO.mono (Old.refl b) g (r.obj n o a e1 e2) fun z q => ?_
    rw [upd_ne (ne_of_none q hp)]
    exact q
  · simp only [RV]
    exact ⟨p, vs, rfl, .inl (.inl upd_same), RVs.mono (Old.refl b) g _ _ h⟩
end

/-- a locked dict is free again -/
theorem Rel.unlock {G : Gb} {H : Hp} {b : List Addr} {S : Store} (r : Rel G H b S) {n : Nat} {a : Addr} {o : Obj} {ws : List (Key × V)} {kvs : List (Key × D)} (e : b[n]? = some a) (hs : S[n]? = some (.dcl kvs)) (hw : H a = some (.frz o (.dK ws))) :
    Rel G (upd H a (.dK ws)) b (S.set n (.dct kvs)) := by
  have g : Grow H (upd H a (.dK ws)) := Grow.set hw rfl
  refine ⟨by simp [r.len], r.nd, fun m x c' e1 e2 => ?_⟩
  by_cases hm : n = m
  · subst hm
    have hl := (List.getElem?_eq_some_iff.mp e1).1
    rw [List.length_set] at hl
    rw [List.getElem?_set_self hl] at e1
    cases e1
    rw [e] at e2
    cases e2
    obtain ⟨ob, ws', q, k1, k2⟩ := r.obj n _ a hs e
    rw [hw] at q
    cases q
    exact ⟨ws, upd_same, k1.mono (Old.refl b) g, k2⟩
  · rw [List.getElem?_set_ne hm] at e1
    have hne : c' ≠ a := fun z => hm (r.inj e (z ▸ e2))
    refine RO.mono (Old.refl b) g (r.obj m x c' e1 e2) fun z k => ?_
    rw [upd_ne hne]
    exact k
/-! ### the slots -/
structure RL (G : Gb) (H : Hp) (b : List Addr) (ls : Ls) (σ : L2.St) : Prop where
  len : ls.length = σ.length
  at_ : ∀ (i : Nat) (d : D), ls[i]? = some (some d) → ∃ v : V, σ[i]? = some (some v) ∧ RV G H b d v
section
variable {G : Gb} {H H' : Hp} {b b' : List Addr} {S' : Store} {ls : Ls} {σ : L2.St}
theorem Post.rl (p : Post G H b H' b' S') (h : RL G H b ls σ) : RL G H' b' ls σ := ⟨h.len, fun i d e => let ⟨v, q, r⟩ := h.at_ i d e; ⟨v, q, p.rv r⟩⟩
theorem RL.set {d : D} {v : V} (h : RL G H b ls σ) (i : Nat) (r : RV G H b d v) : RL G H b (ls.set i (some d)) (σ.set i (some v)) := by
  refine ⟨by simp [h.len], fun j x e => ?_⟩
  by_cases q : i = j
  · subst q
    have hl := (List.getElem?_eq_some_iff.mp e).1
    rw [List.length_set] at hl
    rw [List.getElem?_set_self hl] at e
    cases e
    exact ⟨v, by rw [List.getElem?_set_self (by rw [← h.len]; exact hl)], r⟩
  · rw [List.getElem?_set_ne q] at e ⊢
    exact h.at_ j x e
theorem RL.wipe (h : RL G H b ls σ) : ∀ vs : List Nat, RL G H b (wipeD ls vs) (wipe σ vs)
  | [] => h
  | v :: vs => by
    have ih := h.wipe vs
    unfold wipeD L2.wipe
    refine ⟨by simp [ih.len], fun j x e => ?_⟩
    by_cases q : v = j
    · subst q
      have hl := (List.getElem?_eq_some_iff.mp e).1
      rw [List.length_set] at hl
      rw [List.getElem?_set_self hl] at e
      cases e
    · rw [List.getElem?_set_ne q] at e ⊢
      exact ih.at_ j x e
theorem RL.start {ds : List D} {vs : List V} {N : List Str} {nl : Nat} (h : RVs G H b ds vs) (hn : nl = N.length) : RL G H b (ds.map some ++ List.replicate (nl - ds.length) none) (start N vs) := by
  have hl := h.length
  refine ⟨by unfold L2.start; simp [hl, hn], fun i d e => ?_⟩
  unfold L2.start
  by_cases hi : i < ds.length
  · rw [List.getElem?_append_left (by simpa using hi), List.getElem?_map] at e
    cases q : ds[i]? with
    | none => rw [q] at e; cases e
    | some x =>
      rw [q] at e
      cases e
      obtain ⟨v, h1, h2⟩ := h.get q
      exact ⟨v, by rw [List.getElem?_append_left (by simpa [hl] using hi), List.getElem?_map, h1]; rfl, h2⟩
  · rw [List.getElem?_append_right (by simpa using hi), List.getElem?_replicate] at e
    split at e <;> cases e
end
end PV

set_option Elab.async false
set_option linter.all false
set_option maxRecDepth 100000
set_option maxHeartbeats 1000000
/-! PV: each operation by values does what the runs say. -/
namespace PV
open PySem PySem.Spec PyProof.Rows L2

/-- what is wanted behind a run that is worth d -/
def Want (G : Gb) (H : Hp) (b : List Addr) (r : R D) (Q : VK) : Prop := ∃ d S', r = .ok d S' ∧ ∀ v H' b', Post G H b H' b' S' → RV G H' b' d v → Q v H'
def rOp (G : Gb) (f : D → D → Store → R D) : R2 := fun x y H Q => ∃ b S dx dy, Rel G H b S ∧ RV G H b dx x ∧ RV G H b dy y ∧ Want G H b (f dx dy S) Q
def rOp1 (G : Gb) (f : D → Store → R D) : V → Hp → VK → Prop := fun x H Q => ∃ b S dx, Rel G H b S ∧ RV G H b dx x ∧ Want G H b (f dx S) Q
def rCl (G : Gb) (f : List D → Store → R D) : List V → Hp → VK → Prop := fun xs H Q => ∃ b S ds, Rel G H b S ∧ RVs G H b ds xs ∧ Want G H b (f ds S) Q
def rMt (G : Gb) (f : D → List D → Store → R D) : V → List V → Hp → VK → Prop := fun x xs H Q => ∃ b S d ds, Rel G H b S ∧ RV G H b d x ∧ RVs G H b ds xs ∧ Want G H b (f d ds S) Q

section
variable {G : Gb} {H : Hp} {b : List Addr} {S : Store}
theorem rv_non {v : V} : RV G H b .non v ↔ v = .non := by simp only [RV]
theorem rv_bl {k : Bool} {v : V} : RV G H b (.bl k) v ↔ v = .bl k := by simp only [RV]
theorem rv_int {i : Int} {v : V} : RV G H b (.int i) v ↔ v = .int i := by simp only [RV]
theorem rv_str {x : Str} {v : V} : RV G H b (.str x) v ↔ v = .str x ∧ x.length ≤ sizeLine := by simp only [RV]
theorem rv_tup {ds : List D} {v : V} : RV G H b (.tup ds) v ↔ ∃ a vs, v = .ref a ∧ SqT G.K H a vs ∧ RVs G H b ds vs := by simp only [RV]
theorem rv_rol {ds : List D} {v : V} : RV G H b (.rol ds) v ↔ ∃ a vs, v = .ref a ∧ RoL G.K H a vs ∧ RVs G H b ds vs := by simp only [RV]
theorem rv_ref {n : Nat} {v : V} : RV G H b (.ref n) v ↔ ∃ a, v = .ref a ∧ b[n]? = some a := by simp only [RV]

/-- a sequence that is read: a tuple, a list -/
theorem seq_at (r : Rel G H b S) {d : D} {v : V} {ds : List D} (h : RV G H b d v) (e : seqD d S = some ds) : ∃ a vs, v = .ref a ∧ (SqL G.K H a vs ∨ SqT G.K H a vs) ∧ RVs G H b ds vs := by
  cases d with
  | tup es =>
    simp only [seqD, Option.some.injEq] at e
    subst e
    obtain ⟨a, vs, e1, e2, e3⟩ := rv_tup.mp h
    exact ⟨a, vs, e1, .inr e2, e3⟩
  | rol es =>
    simp only [seqD, Option.some.injEq] at e
    subst e
    obtain ⟨a, vs, e1, e2, e3⟩ := rv_rol.mp h
    exact ⟨a, vs, e1, .inl e2.sql, e3⟩
  | ref n =>
    obtain ⟨a, e1, e2⟩ := rv_ref.mp h
    simp only [seqD] at e
    split at e
    · rename_i es q
      cases e
      obtain ⟨vs, h1, h2⟩ := r.obj n _ a q e2
      exact ⟨a, vs, e1, .inl (SqL.of h1), h2⟩
    · cases e
  | _ => simp [seqD] at e
/-- the list with the number n -/
theorem lst_at (r : Rel G H b S) {n : Nat} {v : V} {ds : List D} (h : RV G H b (.ref n) v) (e : S[n]? = some (.lst ds)) : ∃ a vs, v = .ref a ∧ b[n]? = some a ∧ H a = some (.lst vs) ∧ RVs G H b ds vs := by
  obtain ⟨a, e1, e2⟩ := rv_ref.mp h
  obtain ⟨vs, h1, h2⟩ := r.obj n _ a e e2
  exact ⟨a, vs, e1, e2, h1, h2⟩
theorem dct_at (r : Rel G H b S) {n : Nat} {v : V} {kvs : List (Key × D)} (h : RV G H b (.ref n) v) (e : S[n]? = some (.dct kvs)) : ∃ a ws, v = .ref a ∧ b[n]? = some a ∧ H a = some (.dK ws) ∧ RKs G H b kvs ws := by
  obtain ⟨a, e1, e2⟩ := rv_ref.mp h
  obtain ⟨ws, h1, h2, _⟩ := r.obj n _ a e e2
  exact ⟨a, ws, e1, e2, h1, h2⟩
theorem dct_ok (r : Rel G H b S) {n : Nat} {v : V} {kvs : List (Key × D)} (h : RV G H b (.ref n) v) (e : S[n]? = some (.dct kvs)) : KOk kvs := by
  obtain ⟨a, e1, e2⟩ := rv_ref.mp h
  obtain ⟨ws, h1, h2, k⟩ := r.obj n _ a e e2
  exact k
theorem dcl_at (r : Rel G H b S) {n : Nat} {v : V} {kvs : List (Key × D)} (h : RV G H b (.ref n) v) (e : S[n]? = some (.dcl kvs)) : ∃ a ob ws, v = .ref a ∧ b[n]? = some a ∧ H a = some (.frz ob (.dK ws)) ∧ RKs G H b kvs ws := by
  obtain ⟨a, e1, e2⟩ := rv_ref.mp h
  obtain ⟨ob, ws, h1, h2, _⟩ := r.obj n _ a e e2
  exact ⟨a, ob, ws, e1, e2, h1, h2⟩
theorem want_ok {d : D} {S' : Store} {Q : VK} : Want G H b (.ok d S') Q ↔ ∀ v H' b', Post G H b H' b' S' → RV G H' b' d v → Q v H' := by
  constructor
  · rintro ⟨d', S'', e, h⟩
    cases e
    exact h
  · intro h
    exact ⟨d, S', rfl, h⟩
theorem want_bad {Q : VK} : ¬ Want G H b .bad Q := fun ⟨_, _, e, _⟩ => by cases e
theorem want_exc {Q : VK} {c : Nat} {ds : List D} {S' : Store} : ¬ Want G H b (.exc c ds S') Q := fun ⟨_, _, e, _⟩ => by cases e
/-- a scalar, the heap as it is -/
theorem want_here {d : D} {v : V} {Q : VK} (r : Rel G H b S) (h : Want G H b (.ok d S) Q) (e : RV G H b d v) : Q v H := want_ok.mp h v H b (Post.refl r) e
end

section
variable {X : Cx} {G : Gb} {pins : List (Addr × Obj)} {s : Shared} {σ : L2.St} {H : Hp}
theorem str_len (x y : Str) : (x ++ y).length = x.length + y.length := Str.length_append x y

theorem op_addD (hK : X.K = G.K) : OpR X (binaryOp .Add) (rOp G (binD .add)) := by
  intro pins s σ H x y v u Q I rx ry h
  obtain ⟨b, S, dx, dy, r, h1, h2, w⟩ := h
  cases dx with
  | int i =>
    obtain rfl := rv_int.mp h1
    cases dy with
    | int j =>
      obtain rfl := rv_int.mp h2
      exact op_add pins s σ H _ _ v u Q I rx ry ⟨i, j, rfl, rfl, want_here r w (rv_int.mpr rfl)⟩
    | bl k =>
      obtain rfl := rv_bl.mp h2
      exact op_add_ib pins s σ H _ _ v u Q I rx ry ⟨i, k, rfl, rfl, want_here r w (rv_int.mpr rfl)⟩
    | _ => exact (want_bad w).elim
  | str p =>
    obtain ⟨rfl, l1⟩ := rv_str.mp h1
    cases dy with
    | str q =>
      obtain ⟨rfl, l2⟩ := rv_str.mp h2
      simp only [binD] at w
      split at w
      · rename_i c
        exact op_add_str pins s σ H _ _ v u Q I rx ry ⟨p, q, rfl, rfl, c, want_here r w (rv_str.mpr ⟨rfl, by rw [str_len]; exact c⟩)⟩
      · exact (want_bad w).elim
    | _ => exact (want_bad w).elim
  | tup ds =>
    obtain ⟨a, vs, rfl, q1, k1⟩ := rv_tup.mp h1
    cases dy with
    | tup es =>
      obtain ⟨c, ws, rfl, q2, k2⟩ := rv_tup.mp h2
      simp only [binD] at w
      split at w
      · rename_i z
        rw [← hK] at q1 q2
        refine op_catA pins s σ H _ _ v u Q I rx ry ⟨a, c, vs, ws, rfl, rfl, q1, q2, by rw [← k1.length, ← k2.length]; exact z, fun e => ?_, fun e e' => ?_, fun _ _ p hp => ?_⟩
        · subst e
          have : ds = [] := List.length_eq_zero_iff.mp (by simpa using k1.length)
          subst this
          exact want_here r w h2
        · subst e'
          have : es = [] := List.length_eq_zero_iff.mp (by simpa using k2.length)
          subst this
          rw [List.append_nil] at w
          exact want_here r w h1
        · obtain ⟨p1, p2⟩ := r.newT hp (k1.append k2)
          exact want_ok.mp w _ _ _ p1 p2
      · exact (want_bad w).elim
    | _ => exact (want_bad w).elim
  | ref m =>
    cases dy with
    | ref n =>
      simp only [binD] at w
      split at w
      · rename_i xs ys e1 e2
        split at w
        · rename_i z
          obtain ⟨a, vs, rfl, b1, q1, k1⟩ := lst_at r h1 e1
          obtain ⟨c, ws, rfl, b2, q2, k2⟩ := lst_at r h2 e2
          refine op_cat pins s σ H _ _ v u Q I rx ry ⟨a, c, vs, ws, rfl, rfl, q1, q2, by rw [← k1.length, ← k2.length]; exact z, fun p hp => ?_⟩
          obtain ⟨p1, p2⟩ := r.newL hp (k1.append k2)
          exact want_ok.mp w _ _ _ p1 p2
        · exact (want_bad w).elim
      · exact (want_bad w).elim
    | _ => exact (want_bad w).elim
  | non => exact (want_bad w).elim
  | bl k => exact (want_bad w).elim
  | rol ds => exact (want_bad w).elim
theorem op_subD : OpR X (binaryOp .Sub) (rOp G (binD .sub)) := by
  intro pins s σ H x y v u Q I rx ry h
  obtain ⟨b, S, dx, dy, r, h1, h2, w⟩ := h
  cases dx with
  | int i =>
    obtain rfl := rv_int.mp h1
    cases dy with
    | int j =>
      obtain rfl := rv_int.mp h2
      exact op_sub pins s σ H _ _ v u Q I rx ry ⟨i, j, rfl, rfl, want_here r w (rv_int.mpr rfl)⟩
    | _ => exact (want_bad w).elim
  | _ => exact (want_bad w).elim
theorem mulOk_of {x : Str} {k : Int} (h1 : x.length ≤ 1000) (h2 : k < 1000) (h3 : -1000 < k) : MulOk x k := by
  refine ⟨?_, fun n1 n2 => ?_, fun n1 n2 => ?_⟩
  · have e1 : decide (k < -(2 ^ 63 : Int)) = false := decide_eq_false (by omega)
    have e2 : decide (k ≥ 2 ^ 63) = false := decide_eq_false (by omega)
    rw [e1, e2]; rfl
  · intro c
    have : (9223372036854775 : Int) ≤ (2 ^ 63 - 1 : Int) / k := Int.le_ediv_of_mul_le (by omega) (by omega)
    omega
  · unfold Builtin.Str.tooLong
    have : x.length * k.toNat ≤ 1000 * 1000 := Nat.mul_le_mul h1 (by omega)
    have e : sizeLine = 16777216 := sizeLine_eq
    simp
    omega
theorem mul_len {x : Str} {k : Int} (h1 : x.length ≤ 1000) (h2 : k < 1000) : (Txt.mul x k).length ≤ sizeLine := by
  have e : sizeLine = 16777216 := sizeLine_eq
  unfold Txt.mul
  by_cases c : k < 1
  · rw [if_pos c]
    have : Str.empty.length = 0 := rfl
    omega
  · rw [if_neg c]
    by_cases c2 : (k == 1 || x.length == 0) = true
    · rw [if_pos c2]
      omega
    · rw [if_neg c2]
      have z : ∀ (n : Nat) (acc : Array Nat), ((List.replicate n x.cps).foldl (· ++ ·) acc).size = acc.size + n * x.length := by
        intro n
        induction n with
        | zero => intro acc; simp
        | succ n ih =>
          intro acc
          rw [List.replicate_succ, List.foldl_cons, ih, Array.size_append, Nat.succ_mul]
          show acc.size + x.length + n * x.length = _
          omega
      show ((List.replicate k.toNat x.cps).foldl (· ++ ·) #[]).size ≤ sizeLine
      rw [z]
      have : k.toNat * x.length ≤ 1000 * 1000 := Nat.mul_le_mul (by omega) h1
      simp
      omega
theorem op_mulD : OpR X (binaryOp .Mult) (rOp G (binD .mul)) := by
  intro pins s σ H x y v u Q I rx ry h
  obtain ⟨b, S, dx, dy, r, h1, h2, w⟩ := h
  cases dx with
  | int i =>
    obtain rfl := rv_int.mp h1
    cases dy with
    | int j =>
      obtain rfl := rv_int.mp h2
      simp only [binD] at w
      split at w
      · rename_i c
        exact op_mul pins s σ H _ _ v u Q I rx ry ⟨i, j, rfl, rfl, (by simpa [mulOk, CMul] using c), want_here r w (rv_int.mpr rfl)⟩
      · exact (want_bad w).elim
    | _ => exact (want_bad w).elim
  | str p =>
    obtain ⟨rfl, l1⟩ := rv_str.mp h1
    cases dy with
    | int k =>
      obtain rfl := rv_int.mp h2
      simp only [binD] at w
      split at w
      · rename_i c
        obtain ⟨t, rfl⟩ := rx
        obtain ⟨t', rfl⟩ := ry
        exact SB.mul (mulOk_of c.1 c.2.1 c.2.2) fun t' tk => ⟨.str _, H, I.tok _, ⟨_, rfl⟩, want_here r w (rv_str.mpr ⟨rfl, mul_len c.1 c.2.1⟩)⟩
      · exact (want_bad w).elim
    | _ => exact (want_bad w).elim
  | _ => exact (want_bad w).elim
theorem op_fdivD : OpR X (binaryOp .FloorDiv) (rOp G (binD .fdiv)) := by
  intro pins s σ H x y v u Q I rx ry h
  obtain ⟨b, S, dx, dy, r, h1, h2, w⟩ := h
  cases dx with
  | int i =>
    obtain rfl := rv_int.mp h1
    cases dy with
    | int j =>
      obtain rfl := rv_int.mp h2
      simp only [binD] at w
      split at w
      · rename_i c
        exact op_fdiv pins s σ H _ _ v u Q I rx ry ⟨i, j, rfl, rfl, c, want_here r w (rv_int.mpr rfl)⟩
      · exact (want_bad w).elim
    | _ => exact (want_bad w).elim
  | _ => exact (want_bad w).elim
theorem op_modD : OpR X (binaryOp .Mod) (rOp G (binD .mod)) := by
  intro pins s σ H x y v u Q I rx ry h
  obtain ⟨b, S, dx, dy, r, h1, h2, w⟩ := h
  cases dx with
  | int i =>
    obtain rfl := rv_int.mp h1
    cases dy with
    | int j =>
      obtain rfl := rv_int.mp h2
      simp only [binD] at w
      split at w
      · rename_i c
        exact op_mod pins s σ H _ _ v u Q I rx ry ⟨i, j, rfl, rfl, c, want_here r w (rv_int.mpr rfl)⟩
      · exact (want_bad w).elim
    | _ => exact (want_bad w).elim
  | _ => exact (want_bad w).elim
theorem op_powD : OpR X (binaryOp .Pow) (rOp G (binD .pow)) := by
  intro pins s σ H x y v u Q I rx ry h
  obtain ⟨b, S, dx, dy, r, h1, h2, w⟩ := h
  cases dx with
  | int i =>
    obtain rfl := rv_int.mp h1
    cases dy with
    | int j =>
      obtain rfl := rv_int.mp h2
      simp only [binD] at w
      split at w
      · rename_i c
        exact op_pow pins s σ H _ _ v u Q I rx ry ⟨i, j, rfl, rfl, c, want_here r w (rv_int.mpr rfl)⟩
      · exact (want_bad w).elim
    | _ => exact (want_bad w).elim
  | _ => exact (want_bad w).elim
def bop : Bo → Operator
  | .add => .Add | .sub => .Sub | .mul => .Mult | .fdiv => .FloorDiv | .mod => .Mod | .pow => .Pow
theorem op_binD (hK : X.K = G.K) (o : Bo) : OpR X (binaryOp (bop o)) (rOp G (binD o)) := by
  cases o with
  | add => exact op_addD hK
  | sub => exact op_subD
  | mul => exact op_mulD
  | fdiv => exact op_fdivD
  | mod => exact op_modD
  | pow => exact op_powD

/-! ### comparisons -/
mutual
theorem toP_dp {b : List Addr} {S : Store} (r : Rel G H b S) : ∀ (n : Nat) (d : D) (p : PyData) (v : V), toP S n d = some p → RV G H b d v → Dp G.K H v p
  | 0, _, _, _, e, _ => by simp [toP] at e
  | n + 1, d, p, v, e, h => by
    cases d with
    | non => simp only [toP, Option.some.injEq] at e; subst e; obtain rfl := rv_non.mp h; exact .non
    | bl k => simp only [toP, Option.some.injEq] at e; subst e; obtain rfl := rv_bl.mp h; exact .bl k
    | int k => simp only [toP, Option.some.injEq] at e; subst e; obtain rfl := rv_int.mp h; exact .int k
    | str k => simp only [toP, Option.some.injEq] at e; subst e; obtain ⟨rfl, _⟩ := rv_str.mp h; exact .str k
    | tup ds =>
      simp only [toP] at e
      obtain ⟨ps, e1, rfl⟩ := Option.map_eq_some_iff.mp e
      obtain ⟨a, vs, rfl, q, k⟩ := rv_tup.mp h
      exact .tup q (toPs_dp r n ds ps vs e1 k)
    | rol ds =>
      simp only [toP] at e
      obtain ⟨ps, e1, rfl⟩ := Option.map_eq_some_iff.mp e
      obtain ⟨a, vs, rfl, q, k⟩ := rv_rol.mp h
      exact .lst q.sql (toPs_dp r n ds ps vs e1 k)
    | ref m =>
      simp only [toP] at e
      split at e
      · rename_i ds q
        obtain ⟨ps, e1, rfl⟩ := Option.map_eq_some_iff.mp e
        obtain ⟨a, vs, rfl, _, q, k⟩ := lst_at r h q
        exact .lst (SqL.of q) (toPs_dp r n ds ps vs e1 k)
      · cases e
theorem toPs_dp {b : List Addr} {S : Store} (r : Rel G H b S) : ∀ (n : Nat) (ds : List D) (ps : List PyData) (vs : List V), toPs S n ds = some ps → RVs G H b ds vs → DpAll G.K H vs ps
  | 0, _, _, _, e, _ => by simp [toPs] at e
  | n + 1, [], ps, vs, e, h => by
    simp only [toPs, Option.some.injEq] at e
    subst e
    simp only [RVs] at h
    subst h
    exact .nil
  | n + 1, d :: ds, ps, vs, e, h => by
    simp only [RVs] at h
    obtain ⟨v, rr, rfl, h1, h2⟩ := h
    simp only [toPs] at e
    split at e
    · rename_i p q e1 e2
      cases e
      exact .cons (toP_dp r n d p v e1 h1) (toPs_dp r n ds q rr e2 h2)
    · cases e
end
theorem eqS_ok {b : List Addr} {d e : D} {x y : V} {k : Bool} (h : eqS d e = some k) (h1 : RV G H b d x) (h2 : RV G H b e y) : scal x y = true ∧ decide (x = y) = k := by
  cases d with
  | non =>
    obtain rfl := rv_non.mp h1
    cases e with
    | non => obtain rfl := rv_non.mp h2; simp only [eqS, Option.some.injEq] at h; subst h; exact ⟨rfl, by simp⟩
    | bl j => obtain rfl := rv_bl.mp h2; simp only [eqS, Option.some.injEq] at h; subst h; exact ⟨rfl, by simp⟩
    | int j => obtain rfl := rv_int.mp h2; simp only [eqS, Option.some.injEq] at h; subst h; exact ⟨rfl, by simp⟩
    | str j => obtain ⟨rfl, _⟩ := rv_str.mp h2; simp only [eqS, Option.some.injEq] at h; subst h; exact ⟨rfl, by simp⟩
    | _ => simp [eqS] at h
  | bl i =>
    obtain rfl := rv_bl.mp h1
    cases e with
    | non => obtain rfl := rv_non.mp h2; simp only [eqS, Option.some.injEq] at h; subst h; exact ⟨rfl, by simp⟩
    | bl j => obtain rfl := rv_bl.mp h2; simp only [eqS, Option.some.injEq] at h; subst h; exact ⟨rfl, by simp⟩
    | str j => obtain ⟨rfl, _⟩ := rv_str.mp h2; simp only [eqS, Option.some.injEq] at h; subst h; exact ⟨rfl, by simp⟩
    | _ => simp [eqS] at h
  | int i =>
    obtain rfl := rv_int.mp h1
    cases e with
    | non => obtain rfl := rv_non.mp h2; simp only [eqS, Option.some.injEq] at h; subst h; exact ⟨rfl, by simp⟩
    | int j => obtain rfl := rv_int.mp h2; simp only [eqS, Option.some.injEq] at h; subst h; exact ⟨rfl, by simp⟩
    | str j => obtain ⟨rfl, _⟩ := rv_str.mp h2; simp only [eqS, Option.some.injEq] at h; subst h; exact ⟨rfl, by simp⟩
    | _ => simp [eqS] at h
  | str i =>
    obtain ⟨rfl, _⟩ := rv_str.mp h1
    cases e with
    | non => obtain rfl := rv_non.mp h2; simp only [eqS, Option.some.injEq] at h; subst h; exact ⟨rfl, by simp⟩
    | bl j => obtain rfl := rv_bl.mp h2; simp only [eqS, Option.some.injEq] at h; subst h; exact ⟨rfl, by simp⟩
    | int j => obtain rfl := rv_int.mp h2; simp only [eqS, Option.some.injEq] at h; subst h; exact ⟨rfl, by simp⟩
    | str j => obtain ⟨rfl, _⟩ := rv_str.mp h2; simp only [eqS, Option.some.injEq] at h; subst h; exact ⟨rfl, by simp⟩
    | _ => simp [eqS] at h
  | _ => simp [eqS] at h

theorem opt_bl {b : List Addr} {S : Store} {o : Option Bool} {Q : VK} (r : Rel G H b S) (w : Want G H b (opt (o.map D.bl) S) Q) : ∃ k, o = some k ∧ Q (.bl k) H := by
  cases o with
  | none => exact (want_bad w).elim
  | some k => exact ⟨k, rfl, want_here r w (rv_bl.mpr rfl)⟩
theorem len_ok (hK : X.K = G.K) (hu : X.A.units < cLine) {pins : List (Addr × Obj)} {s : Shared} {σ : L2.St} {H : Hp} {x y : V} {v u : Value} {b : List Addr} {S : Store} {d e : D} {k : Bool} (I : Inv X pins σ H s) (r : Rel G H b S) (h1 : RV G H b d x) (h2 : RV G H b e y) (rx : RelV x v) (ry : RelV y u)
    (h : lenD d e S = some k) : SeqAt.RcAt X.A s v u k ∧ SeqAt.RcNeAt X.A s v u (!k) := by
  unfold lenD at h
  split at h
  · split at h
    · rename_i xs ys z1 z2
      obtain ⟨a1, vs1, rfl, _, hd1, kv1⟩ := lst_at r h1 z1
      obtain ⟨a2, vs2, rfl, _, hd2, kv2⟩ := lst_at r h2 z2
      obtain ⟨its1, rv1, p1, _⟩ := I.list (SqL.of hd1)
      obtain ⟨its2, rv2, p2, _⟩ := I.list (SqL.of hd2)
      cases rx; cases ry
      have l1 := rv1.length
      have l2 := rv2.length
      have k1 := kv1.length
      have k2 := kv2.length
      split at h
      · rename_i c
        split at h
        · rename_i c0
          cases h
          have e1 := SeqAt.RcAt.lists (e := fun _ => true) p1.isList p2.isList (by simp; omega) hu (fun j q1 _ => by simp at q1; omega)
          have e2 := SeqAt.RcNeAt.lists (e := fun _ => true) p1.isList p2.isList (by simp; omega) hu (fun j q1 _ => by simp at q1; omega)
          have z : its1.length = 0 := by omega
          exact ⟨by simpa [z] using e1, by simpa [z] using e2⟩
        · cases h
      · rename_i c
        cases h
        exact ⟨SeqAt.RcAt.lists_lengths p1.isList p2.isList (by simp; omega) hu, SeqAt.RcNeAt.lists_lengths p1.isList p2.isList (by simp; omega) hu⟩
    · cases h
  · rename_i xs ys
    obtain ⟨a1, vs1, rfl, hd1, kv1⟩ := rv_tup.mp h1
    obtain ⟨a2, vs2, rfl, hd2, kv2⟩ := rv_tup.mp h2
    rw [← hK] at hd1 hd2
    obtain ⟨its1, rv1, p1, _⟩ := I.tuple hd1
    obtain ⟨its2, rv2, p2, _⟩ := I.tuple hd2
    cases rx; cases ry
    have l1 := rv1.length
    have l2 := rv2.length
    have k1 := kv1.length
    have k2 := kv2.length
    split at h
    · rename_i c
      cases h
      have z : min its1.length its2.length = 0 := by omega
      have e1 := SeqAt.RcAt.tuples (e := fun _ => true) p1 p2 hu (fun j q1 q2 => by simp at q1 q2; omega)
      have e2 := SeqAt.RcNeAt.tuples (e := fun _ => true) p1 p2 hu (fun j q1 q2 => by simp at q1 q2; omega)
      have ee : (its1.length == its2.length) = decide (xs.length = ys.length) := by
        rw [k1, k2, l1, l2]
        cases q : its1.length == its2.length
        · exact (decide_eq_false (by simpa using q)).symm
        · exact (decide_eq_true (by simpa using q)).symm
      constructor
      · simpa [z, ee] using e1
      · simpa [z, ee] using e2
    · cases h
  · cases h
theorem op_eqDD (hK : X.K = G.K) (hu : X.A.units + 64 < cLine) : OpR X (compareOp .Eq) (rOp G fun x y S => opt ((eqD x y S).map .bl) S) := by
  intro pins s σ H x y v u Q I rx ry h
  obtain ⟨b, S, dx, dy, r, h1, h2, w⟩ := h
  obtain ⟨k, e, q⟩ := opt_bl r w
  unfold eqD at e
  split at e
  · rename_i k' e'
    cases e
    obtain ⟨s1, s2⟩ := eqS_ok e' h1 h2
    exact op_eq pins s σ H x y v u Q I rx ry ⟨s1, by rw [s2]; exact q⟩
  · split at e
    · rename_i k' e'
      cases e
      exact (len_ok hK (by omega) I r h1 h2 rx ry e').1 X.prog X.w _ _ ⟨.bl _, H, I, rfl, q⟩
    · split at e
      · rename_i p p' e1 e2
        split at e
        · rename_i c
          cases e
          rw [Bool.and_eq_true] at c
          refine op_eqD hu pins s σ H x y v u Q I rx ry ⟨p, p', ?_, ?_, c.1, c.2, q⟩
          · rw [hK]; exact toP_dp r _ _ _ _ e1 h1
          · rw [hK]; exact toP_dp r _ _ _ _ e2 h2
        · cases e
      · cases e
theorem op_neDD (hK : X.K = G.K) (hu : X.A.units + 64 < cLine) : OpR X (compareOp .NotEq) (rOp G fun x y S => opt (((eqD x y S).map (!·)).map .bl) S) := by
  intro pins s σ H x y v u Q I rx ry h
  obtain ⟨b, S, dx, dy, r, h1, h2, w⟩ := h
  obtain ⟨k, e0, q⟩ := opt_bl r w
  obtain ⟨k', e, ek⟩ := Option.map_eq_some_iff.mp e0
  subst ek
  clear e0
  unfold eqD at e
  split at e
  · rename_i k' e'
    cases e
    obtain ⟨s1, s2⟩ := eqS_ok e' h1 h2
    exact op_ne pins s σ H x y v u Q I rx ry ⟨s1, by rw [s2]; exact q⟩
  · split at e
    · rename_i k' e'
      cases e
      exact (len_ok hK (by omega) I r h1 h2 rx ry e').2 X.prog X.w _ _ ⟨.bl _, H, I, rfl, q⟩
    · split at e
      · rename_i p p' e1 e2
        split at e
        · rename_i c
          cases e
          rw [Bool.and_eq_true] at c
          refine op_neD hu pins s σ H x y v u Q I rx ry ⟨p, p', ?_, ?_, c.1, c.2, q⟩
          · rw [hK]; exact toP_dp r _ _ _ _ e1 h1
          · rw [hK]; exact toP_dp r _ _ _ _ e2 h2
        · cases e
      · cases e

theorem flat_ok {b : List Addr} {d : D} {v : V} (h : RV G H b d v) (f : flatD d = true) : flatV v = true := by
  cases d with
  | non => obtain rfl := rv_non.mp h; rfl
  | bl k => obtain rfl := rv_bl.mp h; rfl
  | int k => obtain rfl := rv_int.mp h; rfl
  | str k => obtain ⟨rfl, _⟩ := rv_str.mp h; rfl
  | _ => exact absurd f (by simp [flatD])
theorem flats_ok {b : List Addr} : ∀ {ds : List D} {vs : List V}, RVs G H b ds vs → ds.all flatD = true → vs.all flatV = true
  | [], _, h, _ => by simp only [RVs] at h; subst h; rfl
  | d :: ds, _, h, f => by
    simp only [RVs] at h
    obtain ⟨v, rr, rfl, h1, h2⟩ := h
    simp only [List.all_cons, Bool.and_eq_true] at f ⊢
    exact ⟨flat_ok h1 f.1, flats_ok h2 f.2⟩
theorem eqF_ok {b : List Addr} {d e : D} {x y : V} (h1 : RV G H b d x) (h2 : RV G H b e y) (f1 : flatD d = true) (f2 : flatD e = true) : eqV x y = eqF d e := by
  cases d with
  | non =>
    obtain rfl := rv_non.mp h1
    cases e with
    | non => obtain rfl := rv_non.mp h2; rfl
    | bl j => obtain rfl := rv_bl.mp h2; rfl
    | int j => obtain rfl := rv_int.mp h2; rfl
    | str j => obtain ⟨rfl, _⟩ := rv_str.mp h2; rfl
    | _ => exact absurd f2 (by simp [flatD])
  | bl i =>
    obtain rfl := rv_bl.mp h1
    cases e with
    | non => obtain rfl := rv_non.mp h2; rfl
    | bl j => obtain rfl := rv_bl.mp h2; rfl
    | int j => obtain rfl := rv_int.mp h2; rfl
    | str j => obtain ⟨rfl, _⟩ := rv_str.mp h2; rfl
    | _ => exact absurd f2 (by simp [flatD])
  | int i =>
    obtain rfl := rv_int.mp h1
    cases e with
    | non => obtain rfl := rv_non.mp h2; rfl
    | bl j => obtain rfl := rv_bl.mp h2; rfl
    | int j => obtain rfl := rv_int.mp h2; rfl
    | str j => obtain ⟨rfl, _⟩ := rv_str.mp h2; rfl
    | _ => exact absurd f2 (by simp [flatD])
  | str i =>
    obtain ⟨rfl, _⟩ := rv_str.mp h1
    cases e with
    | non => obtain rfl := rv_non.mp h2; rfl
    | bl j => obtain rfl := rv_bl.mp h2; rfl
    | int j => obtain rfl := rv_int.mp h2; rfl
    | str j => obtain ⟨rfl, _⟩ := rv_str.mp h2; rfl
    | _ => exact absurd f2 (by simp [flatD])
  | _ => exact absurd f1 (by simp [flatD])
theorem inF_ok {b : List Addr} {d : D} {x : V} (h : RV G H b d x) (f : flatD d = true) : ∀ {ds : List D} {vs : List V}, RVs G H b ds vs → ds.all flatD = true → inV x vs = ds.any fun y => eqF y d
  | [], _, k, _ => by simp only [RVs] at k; subst k; rfl
  | e :: ds, _, k, g => by
    simp only [RVs] at k
    obtain ⟨v, rr, rfl, h1, h2⟩ := k
    simp only [List.all_cons, Bool.and_eq_true] at g
    have ih := inF_ok h f h2 g.2
    unfold inV at ih ⊢
    rw [List.any_cons, List.any_cons, ih, eqF_ok h1 h g.1 f]
theorem key_ok {b : List Addr} {d : D} {v : V} {k : Key} (h : RV G H b d v) (e : keyOf d = some k) : v = kV k := by
  cases d with
  | int i => obtain rfl := rv_int.mp h; simp only [keyOf, Option.some.injEq] at e; subst e; rfl
  | str i => obtain ⟨rfl, _⟩ := rv_str.mp h; simp only [keyOf, Option.some.injEq] at e; subst e; rfl
  | _ => simp [keyOf] at e
theorem sign_of {x : Str} (h : x.length = 1) : x = ⟨#[x.cps.getD 0 0]⟩ := by
  obtain ⟨⟨l⟩⟩ := x
  have h' : l.length = 1 := h
  match l, h' with
  | [c], _ => rfl
/-- in, not in -/
theorem in_core (hK : X.K = G.K) (hu : X.A.units + 1 < cLine) {pins : List (Addr × Obj)} {s : Shared} {σ : L2.St} {H : Hp} {x y : V} {v u : Value} {Q : VK} {b : List Addr} {S : Store} {dx dy : D} {k : Bool}
    (I : Inv X pins σ H s) (rx : RelV x v) (ry : RelV y u) (r : Rel G H b S) (h1 : RV G H b dx x) (h2 : RV G H b dy y) (e : inD dx dy S = some k) :
    (Q (.bl k) H → wpAny (model X.prog X.w) X.A (compareOp .In v u) (EP X pins σ Q) X.xe s) ∧ (Q (.bl (!k)) H → wpAny (model X.prog X.w) X.A (compareOp .NotIn v u) (EP X pins σ Q) X.xe s) := by
  have seq : ∀ {p : Addr} {vs : List V} {ds : List D}, y = .ref p → (SqL G.K H p vs ∨ SqT G.K H p vs) → RVs G H b ds vs → flatD dx = true → ds.all flatD = true → k = (ds.any fun y => eqF y dx) →
      (Q (.bl k) H → wpAny (model X.prog X.w) X.A (compareOp .In v u) (EP X pins σ Q) X.xe s) ∧ (Q (.bl (!k)) H → wpAny (model X.prog X.w) X.A (compareOp .NotIn v u) (EP X pins σ Q) X.xe s) := by
    intro p vs ds ey hs kv f fs ek
    subst ey
    have e1 := inF_ok h1 f kv fs
    rw [← hK] at hs
    refine ⟨fun q => op_in_seq pins s σ H _ _ v u Q I rx ry ⟨p, vs, rfl, hs, flat_ok h1 f, flats_ok kv fs, ?_⟩, fun q => op_notIn_seq pins s σ H _ _ v u Q I rx ry ⟨p, vs, rfl, hs, flat_ok h1 f, flats_ok kv fs, ?_⟩⟩
    · rw [e1, ← ek]; exact q
    · rw [e1, ← ek]; exact q
  have dict : ∀ {p : Addr} {ws : List (Key × V)} {kvs : List (Key × D)} {z : Key}, y = .ref p → Rd H p (.dK ws) → RKs G H b kvs ws → keyOf dx = some z → k = (valG kvs z).isSome →
      (Q (.bl k) H → wpAny (model X.prog X.w) X.A (compareOp .In v u) (EP X pins σ Q) X.xe s) ∧ (Q (.bl (!k)) H → wpAny (model X.prog X.w) X.A (compareOp .NotIn v u) (EP X pins σ Q) X.xe s) := by
    intro p ws kvs z ey hd kv hz ek
    subst ey
    obtain rfl := key_ok h1 hz
    obtain rfl : u = Value.ref p := ry
    have g : DGet H p (kV z) (valV ws z) := .inl ⟨ws, z, hd, rfl, rfl⟩
    rw [kv.some] at ek
    refine ⟨fun q => d_in hu I g rx fun s' I' => ⟨.bl _, H, I', rfl, by rw [← ek]; exact q⟩, fun q => d_notIn hu I g rx fun s' I' => ⟨.bl _, H, I', rfl, by rw [← ek]; exact q⟩⟩
  cases dy with
  | ref n =>
    simp only [inD] at e
    split at e
    · rename_i kvs q
      split at e
      · rename_i z hz
        cases e
        obtain ⟨a, ws, ey, _, hd, kv⟩ := dct_at r h2 q
        exact dict ey (.inl hd) kv hz rfl
      · cases e
    · rename_i kvs q
      split at e
      · rename_i z hz
        cases e
        obtain ⟨a, ob, ws, ey, _, hd, kv⟩ := dcl_at r h2 q
        exact dict ey (.inr ⟨ob, hd⟩) kv hz rfl
      · cases e
    · rename_i ds q
      split at e
      · rename_i c
        cases e
        rw [Bool.and_eq_true] at c
        obtain ⟨a, vs, ey, _, hd, kv⟩ := lst_at r h2 q
        exact seq ey (.inl (SqL.of hd)) kv c.1 c.2 rfl
      · cases e
    · cases e
  | tup ds =>
    simp only [inD] at e
    split at e
    · rename_i c
      cases e
      rw [Bool.and_eq_true] at c
      obtain ⟨a, vs, ey, hd, kv⟩ := rv_tup.mp h2
      exact seq ey (.inr hd) kv c.1 c.2 rfl
    · cases e
  | str z =>
    obtain ⟨rfl, _⟩ := rv_str.mp h2
    cases dx with
    | str c =>
      obtain ⟨rfl, _⟩ := rv_str.mp h1
      simp only [inD] at e
      split at e
      · rename_i hl
        cases e
        have e1 := sign_of hl
        refine ⟨fun q => op_in_sign pins s σ H _ _ v u Q I rx ry ⟨_, z, by rw [← e1], rfl, q⟩, fun q => op_notIn_sign pins s σ H _ _ v u Q I rx ry ⟨_, z, by rw [← e1], rfl, q⟩⟩
      · cases e
    | _ => simp [inD] at e
  | _ => simp [inD] at e
def cop : Co → CmpOp
  | .eq => .Eq | .ne => .NotEq | .lt => .Lt | .le => .LtE | .gt => .Gt | .ge => .GtE | .isin => .In | .nin => .NotIn | .is => .Is | .isn => .IsNot
theorem op_cmpD (hK : X.K = G.K) (hu : X.A.units + 64 < cLine) (o : Co) : OpR X (compareOp (cop o)) (rOp G fun x y S => opt ((cmpD o x y S).map .bl) S) := by
  cases o with
  | eq => exact op_eqDD hK hu
  | ne => exact op_neDD hK hu
  | isin =>
    intro pins s σ H x y v u Q I rx ry h
    obtain ⟨b, S, dx, dy, r, h1, h2, w⟩ := h
    obtain ⟨k, e, q⟩ := opt_bl r w
    exact (in_core hK (by omega) I rx ry r h1 h2 e).1 q
  | nin =>
    intro pins s σ H x y v u Q I rx ry h
    obtain ⟨b, S, dx, dy, r, h1, h2, w⟩ := h
    obtain ⟨k, e0, q⟩ := opt_bl r w
    obtain ⟨k', e, ek⟩ := Option.map_eq_some_iff.mp (show (inD dx dy S).map (!·) = some k from e0)
    subst ek
    exact (in_core hK (by omega) I rx ry r h1 h2 e).2 q
  | is =>
    intro pins s σ H x y v u Q I rx ry h
    obtain ⟨b, S, dx, dy, r, h1, h2, w⟩ := h
    obtain ⟨k, e, q⟩ := opt_bl r w
    cases dy with
    | non =>
      obtain rfl := rv_non.mp h2
      refine op_isN pins s σ H _ _ v u Q I rx ry ⟨rfl, ?_⟩
      simp only [cmpD, isD, Option.some.injEq] at e
      subst e
      cases dx with
      | non => obtain rfl := rv_non.mp h1; exact q
      | bl j => obtain rfl := rv_bl.mp h1; exact q
      | int j => obtain rfl := rv_int.mp h1; exact q
      | str j => obtain ⟨rfl, _⟩ := rv_str.mp h1; exact q
      | tup j => obtain ⟨a, vs, rfl, _⟩ := rv_tup.mp h1; exact q
      | rol j => obtain ⟨a, vs, rfl, _⟩ := rv_rol.mp h1; exact q
      | ref j => obtain ⟨a, rfl, _⟩ := rv_ref.mp h1; exact q
    | _ => simp [cmpD, isD] at e
  | isn =>
    intro pins s σ H x y v u Q I rx ry h
    obtain ⟨b, S, dx, dy, r, h1, h2, w⟩ := h
    obtain ⟨k, e, q⟩ := opt_bl r w
    cases dy with
    | non =>
      obtain rfl := rv_non.mp h2
      refine op_notN pins s σ H _ _ v u Q I rx ry ⟨rfl, ?_⟩
      simp only [cmpD, isD, Option.map_some, Option.some.injEq] at e
      subst e
      cases dx with
      | non => obtain rfl := rv_non.mp h1; exact q
      | bl j => obtain rfl := rv_bl.mp h1; exact q
      | int j => obtain rfl := rv_int.mp h1; exact q
      | str j => obtain ⟨rfl, _⟩ := rv_str.mp h1; exact q
      | tup j => obtain ⟨a, vs, rfl, _⟩ := rv_tup.mp h1; exact q
      | rol j => obtain ⟨a, vs, rfl, _⟩ := rv_rol.mp h1; exact q
      | ref j => obtain ⟨a, rfl, _⟩ := rv_ref.mp h1; exact q
    | _ => simp [cmpD, isD] at e
  | lt =>
    intro pins s σ H x y v u Q I rx ry h
    obtain ⟨b, S, dx, dy, r, h1, h2, w⟩ := h
    obtain ⟨k, e, q⟩ := opt_bl r w
    cases dx with
    | int i =>
      obtain rfl := rv_int.mp h1
      cases dy with
      | int j =>
        obtain rfl := rv_int.mp h2
        simp only [cmpD, Option.some.injEq] at e
        subst e
        exact op_lt pins s σ H _ _ v u Q I rx ry ⟨i, j, rfl, rfl, q⟩
      | _ => simp [cmpD] at e
    | str i =>
      obtain ⟨rfl, _⟩ := rv_str.mp h1
      cases dy with
      | str j =>
        obtain ⟨rfl, _⟩ := rv_str.mp h2
        simp only [cmpD, Option.some.injEq] at e
        subst e
        exact op_lt_str pins s σ H _ _ v u Q I rx ry ⟨i, j, rfl, rfl, q⟩
      | _ => simp [cmpD] at e
    | _ => simp [cmpD] at e
  | le =>
    intro pins s σ H x y v u Q I rx ry h
    obtain ⟨b, S, dx, dy, r, h1, h2, w⟩ := h
    obtain ⟨k, e, q⟩ := opt_bl r w
    cases dx with
    | int i =>
      obtain rfl := rv_int.mp h1
      cases dy with
      | int j =>
        obtain rfl := rv_int.mp h2
        simp only [cmpD, Option.some.injEq] at e
        subst e
        exact op_le pins s σ H _ _ v u Q I rx ry ⟨i, j, rfl, rfl, q⟩
      | _ => simp [cmpD] at e
    | _ => simp [cmpD] at e
  | gt =>
    intro pins s σ H x y v u Q I rx ry h
    obtain ⟨b, S, dx, dy, r, h1, h2, w⟩ := h
    obtain ⟨k, e, q⟩ := opt_bl r w
    cases dx with
    | int i =>
      obtain rfl := rv_int.mp h1
      cases dy with
      | int j =>
        obtain rfl := rv_int.mp h2
        simp only [cmpD, Option.some.injEq] at e
        subst e
        exact op_gt pins s σ H _ _ v u Q I rx ry ⟨i, j, rfl, rfl, q⟩
      | _ => simp [cmpD] at e
    | _ => simp [cmpD] at e
  | ge =>
    intro pins s σ H x y v u Q I rx ry h
    obtain ⟨b, S, dx, dy, r, h1, h2, w⟩ := h
    obtain ⟨k, e, q⟩ := opt_bl r w
    cases dx with
    | int i =>
      obtain rfl := rv_int.mp h1
      cases dy with
      | int j =>
        obtain rfl := rv_int.mp h2
        simp only [cmpD, Option.some.injEq] at e
        subst e
        exact op_ge pins s σ H _ _ v u Q I rx ry ⟨i, j, rfl, rfl, q⟩
      | _ => simp [cmpD] at e
    | _ => simp [cmpD] at e

/-! ### truth -/
theorem truV_of (hK : X.K = G.K) {b : List Addr} {S : Store} {d : D} {x : V} {k : Bool} (r : Rel G H b S) (h : RV G H b d x) (e : truD d S = some k) (hl : ∀ kvs n, d = .ref n → S[n]? = some (.dcl kvs) → False) : TruV X.K x H k := by
  have iE : ∀ {ds : List D} {vs : List V}, RVs G H b ds vs → (!ds.isEmpty) = !vs.isEmpty := by
    intro ds vs q
    cases ds with
    | nil => simp only [RVs] at q; subst q; rfl
    | cons d ds => simp only [RVs] at q; obtain ⟨v, rr, rfl, _⟩ := q; rfl
  cases d with
  | non => obtain rfl := rv_non.mp h; simp only [truD, Option.some.injEq] at e; exact e.symm
  | bl j => obtain rfl := rv_bl.mp h; simp only [truD, Option.some.injEq] at e; exact e.symm
  | int j => obtain rfl := rv_int.mp h; simp only [truD, Option.some.injEq] at e; exact e.symm
  | str j => obtain ⟨rfl, l⟩ := rv_str.mp h; simp only [truD, Option.some.injEq] at e; exact ⟨l, e.symm⟩
  | tup ds =>
    obtain ⟨a, vs, rfl, q, kv⟩ := rv_tup.mp h
    simp only [truD, Option.some.injEq] at e
    rw [hK]
    exact .inr (.inl ⟨vs, q, by rw [← e]; exact iE kv⟩)
  | rol ds =>
    obtain ⟨a, vs, rfl, q, kv⟩ := rv_rol.mp h
    simp only [truD, Option.some.injEq] at e
    rw [hK]
    exact .inl ⟨vs, q.sql, by rw [← e]; exact iE kv⟩
  | ref n =>
    simp only [truD] at e
    split at e
    · rename_i ds q
      cases e
      obtain ⟨a, vs, rfl, _, hd, kv⟩ := lst_at r h q
      exact .inl ⟨vs, SqL.of hd, iE kv⟩
    · rename_i kvs q
      cases e
      obtain ⟨a, ws, rfl, _, hd, kv⟩ := dct_at r h q
      refine .inr (.inr ⟨ws, hd, ?_⟩)
      have := kv.length
      cases kvs <;> cases ws <;> simp_all
    · cases e
theorem truV_of' (hK : X.K = G.K) {b : List Addr} {S : Store} {d : D} {x : V} {k : Bool} (r : Rel G H b S) (h : RV G H b d x) (e : truD d S = some k) : TruV X.K x H k := by
  refine truV_of hK r h e fun kvs n e1 e2 => ?_
  subst e1
  simp [truD, e2] at e
end
end PV

set_option Elab.async false
set_option linter.all false
set_option maxRecDepth 100000
set_option maxHeartbeats 1000000
/-! PV: places, slices, stores, builtins, methods. -/
namespace PV
open PySem PySem.Spec PyProof.Rows L2

section
variable {X : Cx} {G : Gb} {pins : List (Addr × Obj)} {s : Shared} {σ : L2.St} {H : Hp}
theorem atI_ok {b : List Addr} {ds : List D} {vs : List V} {k : Int} {d : D} (h : RVs G H b ds vs) (e : atI ds k = some d) : ∃ v, atI vs k = some v ∧ RV G H b d v := by
  unfold atI at e ⊢
  rw [h.length] at e
  cases q : ixN vs.length k with
  | none => rw [q] at e; cases e
  | some j =>
    rw [q] at e
    exact h.get e
theorem chr_len (c : Nat) : (⟨#[c]⟩ : Str).length ≤ sizeLine := by
  show 1 ≤ sizeLine
  rw [sizeLine_eq]; decide
theorem opt_d {b : List Addr} {S : Store} {o : Option D} {Q : VK} (w : Want G H b (opt o S) Q) : ∃ d, o = some d ∧ ∀ v H' b', Post G H b H' b' S → RV G H' b' d v → Q v H' := by
  cases o with
  | none => exact (want_bad w).elim
  | some d => exact ⟨d, rfl, want_ok.mp w⟩
theorem ix_D (hK : X.K = G.K) (hu : X.A.units + 1 < cLine) : IxR X (rOp G fun x y S => opt (ixD x y S) S) := by
  intro value slice pins s σ H x y v u Q I rx ry h hs
  obtain ⟨b, S, dx, dy, r, h1, h2, w⟩ := h
  obtain ⟨d, e, q⟩ := opt_d w
  have dict : ∀ {p : Addr} {ws : List (Key × V)} {kvs : List (Key × D)} {z : Key}, x = .ref p → y = kV z → Rd H p (.dK ws) → RKs G H b kvs ws → valG kvs z = some d →
      wpAny (model X.prog X.w) X.A (subscriptTail value slice v u) (EP X pins σ Q) X.xe s := by
    intro p ws kvs z ex ey hd kv hz
    subst ex ey
    obtain rfl : v = Value.ref p := rx
    rcases kv.val z with ⟨a, _⟩ | ⟨d', v', a, c, rv⟩
    · rw [hz] at a; cases a
    · rw [hz] at a
      cases a
      have g : DGet H p (kV z) (some v') := .inl ⟨ws, z, hd, rfl, c.symm⟩
      exact tail_any (dict_typeIs I g) PySem.F.slot_dict_getitem.lookup (d_getItem hu I g ry fun w' s' I' rw' => ⟨v', H, I', rw', q _ _ _ (Post.refl r) rv⟩) hs
  cases dx with
  | tup ds =>
    cases dy with
    | int k =>
      obtain rfl := rv_int.mp h2
      obtain ⟨a, vs, rfl, hd, kv⟩ := rv_tup.mp h1
      obtain ⟨v', e1, e2⟩ := atI_ok kv e
      exact ix_tup value slice pins s σ H _ _ v u Q I rx ry ⟨a, vs, k, v', rfl, rfl, by rw [hK]; exact hd, e1, q _ _ _ (Post.refl r) e2⟩ hs
    | _ => simp [ixD] at e
  | rol ds =>
    cases dy with
    | int k =>
      obtain rfl := rv_int.mp h2
      obtain ⟨a, vs, rfl, hd, kv⟩ := rv_rol.mp h1
      obtain ⟨v', e1, e2⟩ := atI_ok kv e
      exact ix_list value slice pins s σ H _ _ v u Q I rx ry ⟨a, vs, k, v', rfl, rfl, by rw [hK]; exact hd.sql, e1, q _ _ _ (Post.refl r) e2⟩ hs
    | _ => simp [ixD] at e
  | str z =>
    cases dy with
    | int k =>
      obtain rfl := rv_int.mp h2
      obtain ⟨rfl, l⟩ := rv_str.mp h1
      simp only [ixD] at e
      obtain ⟨c, e1, rfl⟩ := Option.map_eq_some_iff.mp e
      exact ix_str value slice pins s σ H _ _ v u Q I rx ry ⟨z, k, c, rfl, rfl, l, e1, q _ _ _ (Post.refl r) (rv_str.mpr ⟨rfl, chr_len c⟩)⟩ hs
    | _ => simp [ixD] at e
  | ref n =>
    cases dy with
    | int k =>
      have ey : y = kV (.inl k) := rv_int.mp h2
      simp only [ixD] at e
      split at e
      · rename_i ds z
        obtain ⟨a, vs, rfl, _, hd, kv⟩ := lst_at r h1 z
        obtain rfl := rv_int.mp h2
        obtain ⟨v', e1, e2⟩ := atI_ok kv e
        exact ix_list value slice pins s σ H _ _ v u Q I rx ry ⟨a, vs, k, v', rfl, rfl, SqL.of hd, e1, q _ _ _ (Post.refl r) e2⟩ hs
      · rename_i kvs z
        obtain ⟨a, ws, ex, _, hd, kv⟩ := dct_at r h1 z
        exact dict ex ey (.inl hd) kv e
      · rename_i kvs z
        obtain ⟨a, ob, ws, ex, _, hd, kv⟩ := dcl_at r h1 z
        exact dict ex ey (.inr ⟨ob, hd⟩) kv e
      · cases e
    | str k =>
      have ey : y = kV (.inr k) := (rv_str.mp h2).1
      simp only [ixD] at e
      split at e
      · rename_i kvs z
        obtain ⟨a, ws, ex, _, hd, kv⟩ := dct_at r h1 z
        exact dict ex ey (.inl hd) kv e
      · rename_i kvs z
        obtain ⟨a, ob, ws, ex, _, hd, kv⟩ := dcl_at r h1 z
        exact dict ex ey (.inr ⟨ob, hd⟩) kv e
      · cases e
    | _ => simp [ixD] at e
  | _ => simp [ixD] at e

/-- a[lo:hi] -/
def rSl (G : Gb) (f : D → Option Int → Option Int → Store → R D) : V → Option Int → Option Int → Hp → VK → Prop := fun x lo hi H Q => ∃ b S dx, Rel G H b S ∧ RV G H b dx x ∧ Want G H b (f dx lo hi S) Q
theorem cut_len {α : Type} (xs : List α) (lo hi : Option Int) : (cut xs lo hi).length ≤ xs.length := by
  unfold cut
  rw [List.length_take, List.length_drop]
  omega
theorem sl_D (hK : X.K = G.K) : SlR X (rSl G slD) := by
  intro pins s σ H x v vl vu lo hi sl Q I rx hs pl pu h
  obtain ⟨b, S, dx, r, h1, w⟩ := h
  cases dx with
  | tup ds =>
    obtain ⟨a, vs, rfl, hd, kv⟩ := rv_tup.mp h1
    refine sl_tupA pins s σ H _ v vl vu lo hi sl Q I rx hs pl pu ⟨a, vs, rfl, by rw [hK]; exact hd, fun c => ?_, fun _ p hp => ?_⟩
    · have e : cut ds lo hi = ds := by
        unfold cut
        rw [kv.length, c.1, c.2, ← kv.length]
        simp
      simp only [slD, e] at w
      exact want_here r w h1
    · simp only [slD] at w
      obtain ⟨p1, p2⟩ := r.newT hp (kv.cut lo hi)
      exact want_ok.mp w _ _ _ p1 p2
  | rol ds =>
    obtain ⟨a, vs, rfl, hd, kv⟩ := rv_rol.mp h1
    refine sl_list pins s σ H _ v vl vu lo hi sl Q I rx hs pl pu ⟨a, vs, rfl, by rw [hK]; exact hd.sql, fun p hp => ?_⟩
    simp only [slD, new] at w
    obtain ⟨p1, p2⟩ := r.newL hp (kv.cut lo hi)
    exact want_ok.mp w _ _ _ p1 p2
  | str z =>
    obtain ⟨rfl, l⟩ := rv_str.mp h1
    simp only [slD] at w
    exact sl_str pins s σ H _ v vl vu lo hi sl Q I rx hs pl pu ⟨z, rfl, l, want_here r w (rv_str.mpr ⟨rfl, Nat.le_trans (cutS_length z lo hi) l⟩)⟩
  | ref n =>
    simp only [slD] at w
    split at w
    · rename_i ds z
      obtain ⟨a, vs, rfl, _, hd, kv⟩ := lst_at r h1 z
      refine sl_list pins s σ H _ v vl vu lo hi sl Q I rx hs pl pu ⟨a, vs, rfl, SqL.of hd, fun p hp => ?_⟩
      simp only [new] at w
      obtain ⟨p1, p2⟩ := r.newL hp (kv.cut lo hi)
      exact want_ok.mp w _ _ _ p1 p2
    · exact (want_bad w).elim
  | _ => exact (want_bad w).elim

/-- a[i] = e -/
def rSet (G : Gb) : V → V → V → Hp → (Hp → Prop) → Prop := fun o i v H Q => ∃ b S do_ di dv S', Rel G H b S ∧ RV G H b do_ o ∧ RV G H b di i ∧ RV G H b dv v ∧ setIx do_ di dv S = .ok () S' ∧ ∀ H' b', Post G H b H' b' S' → Q H'
theorem set_D (hu : X.A.units + 1 < cLine) : PSet X (rSet G) := by
  intro pins s σ H o i v ov iv u Q I ro ri rv h
  obtain ⟨b, S, do_, di, dv, S', r, h1, h2, h3, e, q⟩ := h
  have dict : ∀ {p : Addr} {ws : List (Key × V)} {kvs : List (Key × D)} {z : Key} {n : Nat}, o = .ref p → i = kV z → b[n]? = some p → H p = some (.dK ws) → RKs G H b kvs ws → kvs.length < sizeLine → KOk kvs → (∀ x, z = .inr x → x.length ≤ sizeLine) → S' = S.set n (.dct (putG kvs z dv)) →
      wpAny (model X.prog X.w) X.A (setItem ov iv u) (fun _ s' => ∃ H', Inv X pins σ H' s' ∧ Q H') X.xe s := by
    intro p ws kvs z n eo ei bn hd kv hl ko kz es
    subst eo ei es
    obtain rfl : ov = Value.ref p := ro
    refine d_setItem hu I (DPut.k hd (by rw [← kv.length]; exact hl)) ri rv fun s' I' => ⟨_, I', q _ b ?_⟩
    have g : Grow H (upd H p (.dK (L2.putK ws z v))) := Grow.set hd rfl
    exact r.set bn hd (fun _ _ z => by cases z) ⟨_, upd_same, (kv.mono (Old.refl b) g).put z (RV.mono (Old.refl b) g _ _ h3), ko.put kz dv⟩
  cases do_ with
  | ref n =>
    cases di with
    | int k =>
      have ei : i = kV (.inl k) := rv_int.mp h2
      simp only [setIx] at e
      split at e
      · rename_i ds z
        split at e
        · rename_i j hj
          cases e
          obtain ⟨a, vs, rfl, bn, hd, kv⟩ := lst_at r h1 z
          obtain rfl := rv_int.mp h2
          refine set_list pins s σ H _ _ v ov iv u Q I ro ri rv ⟨a, vs, k, j, rfl, rfl, hd, by rw [← kv.length]; exact hj, q _ b ?_⟩
          exact r.setL bn hd (kv.set j h3)
        · cases e
      · rename_i kvs z
        split at e
        · rename_i c
          cases e
          obtain ⟨a, ws, eo, bn, hd, kv⟩ := dct_at r h1 z
          exact dict eo ei bn hd kv c (dct_ok r h1 z) (fun x q => by cases q) rfl
        · cases e
      · cases e
    | str k =>
      have ei : i = kV (.inr k) := (rv_str.mp h2).1
      simp only [setIx] at e
      split at e
      · rename_i kvs z
        split at e
        · rename_i c
          cases e
          obtain ⟨a, ws, eo, bn, hd, kv⟩ := dct_at r h1 z
          exact dict eo ei bn hd kv c (dct_ok r h1 z) (fun x q => by cases q; exact (rv_str.mp h2).2) rfl
        · cases e
      · cases e
    | _ => simp [setIx] at e
  | _ => simp [setIx] at e

/-! ### builtins -/
theorem asInts_ok {b : List Addr} : ∀ {ds : List D} {vs : List V} {ns : List Int}, RVs G H b ds vs → asInts ds = some ns → vs = ns.map V.int ∧ ds = ns.map D.int
  | [], _, _, h, e => by
    simp only [RVs] at h
    subst h
    simp only [asInts, Option.some.injEq] at e
    subst e
    exact ⟨rfl, rfl⟩
  | d :: ds, _, ns, h, e => by
    simp only [RVs] at h
    obtain ⟨v, rr, rfl, h1, h2⟩ := h
    cases d with
    | int i =>
      simp only [asInts] at e
      obtain ⟨ms, e1, rfl⟩ := Option.map_eq_some_iff.mp e
      obtain ⟨h3, h4⟩ := asInts_ok h2 e1
      rw [rv_int.mp h1, h3, h4]
      exact ⟨rfl, rfl⟩
    | _ => simp [asInts] at e
theorem asStrs_ok {b : List Addr} : ∀ {ds : List D} {vs : List V} {ns : List Str}, RVs G H b ds vs → asStrs ds = some ns → vs = ns.map V.str ∧ ds = ns.map D.str ∧ ∀ x ∈ ns, x.length ≤ sizeLine
  | [], _, _, h, e => by
    simp only [RVs] at h
    subst h
    simp only [asStrs, Option.some.injEq] at e
    subst e
    exact ⟨rfl, rfl, fun x hx => by cases hx⟩
  | d :: ds, _, ns, h, e => by
    simp only [RVs] at h
    obtain ⟨v, rr, rfl, h1, h2⟩ := h
    cases d with
    | str i =>
      simp only [asStrs] at e
      obtain ⟨ms, e1, rfl⟩ := Option.map_eq_some_iff.mp e
      obtain ⟨h3, h4, h5⟩ := asStrs_ok h2 e1
      obtain ⟨h6, h7⟩ := rv_str.mp h1
      rw [h6, h3, h4]
      exact ⟨rfl, rfl, fun x hx => (List.mem_cons.mp hx).elim (fun q => q ▸ h7) (h5 x)⟩
    | _ => simp [asStrs] at e
theorem asBls_ok {b : List Addr} : ∀ {ds : List D} {vs : List V} {ns : List Bool}, RVs G H b ds vs → asBls ds = some ns → vs = ns.map V.bl ∧ ds = ns.map D.bl
  | [], _, _, h, e => by
    simp only [RVs] at h
    subst h
    simp only [asBls, Option.some.injEq] at e
    subst e
    exact ⟨rfl, rfl⟩
  | d :: ds, _, ns, h, e => by
    simp only [RVs] at h
    obtain ⟨v, rr, rfl, h1, h2⟩ := h
    cases d with
    | bl i =>
      simp only [asBls] at e
      obtain ⟨ms, e1, rfl⟩ := Option.map_eq_some_iff.mp e
      obtain ⟨h3, h4⟩ := asBls_ok h2 e1
      rw [rv_bl.mp h1, h3, h4]
      exact ⟨rfl, rfl⟩
    | _ => simp [asBls] at e
theorem rvs_ints {b : List Addr} : ∀ ns : List Int, RVs G H b (ns.map D.int) (ns.map V.int)
  | [] => RVs.nil
  | n :: ns => RVs.cons (rv_int.mpr rfl) (rvs_ints ns)
theorem rvs_strs {b : List Addr} : ∀ ns : List Str, (∀ x ∈ ns, x.length ≤ sizeLine) → RVs G H b (ns.map D.str) (ns.map V.str)
  | [], _ => RVs.nil
  | n :: ns, h => RVs.cons (rv_str.mpr ⟨rfl, h n List.mem_cons_self⟩) (rvs_strs ns fun x hx => h x (List.mem_cons_of_mem _ hx))

theorem insI_perm {α : Type} (le : α → α → Bool) (x : α) : ∀ l, (insI le x l).Perm (x :: l)
  | [] => List.Perm.refl _
  | y :: r => by
    unfold insI
    split
    · exact List.Perm.refl _
    · exact ((insI_perm le x r).cons y).trans (List.Perm.swap x y r)
theorem isort_perm {α : Type} (le : α → α → Bool) : ∀ l : List α, (isort le l).Perm l
  | [] => List.Perm.refl _
  | x :: r => (insI_perm le x _).trans ((isort_perm le r).cons x)
theorem insI_sorted {α : Type} {le : α → α → Bool} (tr : ∀ a b c, le a b = true → le b c = true → le a c = true) (tot : ∀ a b, le a b = false → le b a = true) (x : α) : ∀ l, l.Pairwise (fun a b => le a b = true) → (insI le x l).Pairwise (fun a b => le a b = true)
  | [], _ => by unfold insI; simp
  | y :: r, h => by
    obtain ⟨h1, h2⟩ := List.pairwise_cons.mp h
    unfold insI
    split
    · rename_i c
      refine List.pairwise_cons.mpr ⟨fun z hz => ?_, h⟩
      rcases List.mem_cons.mp hz with rfl | hz
      · exact c
      · exact tr _ _ _ c (h1 z hz)
    · rename_i c
      refine List.pairwise_cons.mpr ⟨fun z hz => ?_, insI_sorted tr tot x r h2⟩
      rcases List.mem_cons.mp ((insI_perm le x r).mem_iff.mp hz) with rfl | hz
      · exact tot _ _ (by simpa using c)
      · exact h1 z hz
theorem isort_sorted {α : Type} {le : α → α → Bool} (tr : ∀ a b c, le a b = true → le b c = true → le a c = true) (tot : ∀ a b, le a b = false → le b a = true) : ∀ l, (isort le l).Pairwise (fun a b => le a b = true)
  | [] => List.Pairwise.nil
  | x :: r => insI_sorted tr tot x _ (isort_sorted tr tot r)
theorem leI_iff {a b : Int} : leI a b = true ↔ a ≤ b := by simp [leI]
theorem isortI_of {ns ms : List Int} (p : ms.Perm ns) (h : ms.Pairwise (· ≤ ·)) : ms = isort leI ns := by
  refine List.Perm.eq_of_pairwise (le := fun a b : Int => a ≤ b) (fun a b _ _ h1 h2 => Int.le_antisymm h1 h2) h ?_ (p.trans (isort_perm leI ns).symm)
  refine (isort_sorted (le := leI) (fun a b c h1 h2 => ?_) (fun a b h1 => ?_) ns).imp fun h => leI_iff.mp h
  · rw [leI_iff] at h1 h2 ⊢; omega
  · rw [leI_iff]
    have : ¬ a ≤ b := fun q => by rw [leI_iff.mpr q] at h1; cases h1
    omega
theorem leS_iff {a b : Str} : leS a b = true ↔ ¬ (b.cps.toList < a.cps.toList) := by simp [leS]
theorem lt_tri (a b : List Nat) (h1 : ¬ a < b) (h2 : ¬ b < a) : a = b := List.le_antisymm (List.not_lt.mp h2) (List.not_lt.mp h1)
theorem leS_trans (a b c : Str) (h1 : leS a b = true) (h2 : leS b c = true) : leS a c = true := by
  rw [leS_iff] at h1 h2 ⊢
  exact List.not_lt.mpr (List.le_trans (List.not_lt.mp h1) (List.not_lt.mp h2))
theorem leS_total (a b : Str) (h : leS a b = false) : leS b a = true := by
  rw [leS_iff]
  have : b.cps.toList < a.cps.toList := by
    by_cases q : b.cps.toList < a.cps.toList
    · exact q
    · rw [leS_iff.mpr q] at h; cases h
  intro q
  exact List.lt_irrefl _ (List.lt_trans this q)
theorem leS_antisymm (a b : Str) (h1 : leS a b = true) (h2 : leS b a = true) : a = b := by
  rw [leS_iff] at h1 h2
  have := lt_tri _ _ h1 h2
  obtain ⟨⟨l⟩⟩ := a
  obtain ⟨⟨k⟩⟩ := b
  have e : k = l := by simpa using this
  rw [e]
theorem risingS_pw : ∀ (p : Str) (l : List Str), risingS p l = true → (p :: l).Pairwise (fun a b => leS a b = true)
  | p, [], _ => by simp
  | p, x :: r, h => by
    unfold risingS at h
    rw [Bool.and_eq_true] at h
    have ih := risingS_pw x r h.2
    have e : leS p x = true := by
      rw [leS_iff]
      have := h.1
      rw [ltCps_eq] at this
      simpa using this
    refine List.pairwise_cons.mpr ⟨fun z hz => ?_, ih⟩
    rcases List.mem_cons.mp hz with rfl | hz
    · exact e
    · exact leS_trans _ _ _ e ((List.pairwise_cons.mp ih).1 z hz)
theorem sortedS_pw : ∀ l : List Str, sortedS l = true → l.Pairwise (fun a b => leS a b = true)
  | [], _ => List.Pairwise.nil
  | x :: r, h => risingS_pw x r h
theorem isortS_of {ns ms : List Str} (p : ms.Perm ns) (h : sortedS ms = true) : ms = isort leS ns :=
  List.Perm.eq_of_pairwise (le := fun a b : Str => leS a b = true) (fun a b _ _ h1 h2 => leS_antisymm a b h1 h2) (sortedS_pw ms h) (isort_sorted leS_trans leS_total ns) (p.trans (isort_perm leS ns).symm)

theorem one_arg {b : List Addr} {d : D} {xs : List V} (h : RVs G H b [d] xs) : ∃ v, xs = [v] ∧ RV G H b d v := by
  simp only [RVs] at h
  obtain ⟨v, rr, rfl, h1, rfl⟩ := h
  exact ⟨v, rfl, h1⟩
theorem two_args {b : List Addr} {d e : D} {xs : List V} (h : RVs G H b [d, e] xs) : ∃ v w, xs = [v, w] ∧ RV G H b d v ∧ RV G H b e w := by
  simp only [RVs] at h
  obtain ⟨v, rr, rfl, h1, w, r2, rfl, h2, rfl⟩ := h
  exact ⟨v, w, rfl, h1, h2⟩
theorem int_args {b : List Addr} {i j : Int} {xs : List V} (h : RVs G H b [.int i, .int j] xs) : xs = [.int i, .int j] := by
  obtain ⟨v, w, rfl, h1, h2⟩ := two_args h
  rw [rv_int.mp h1, rv_int.mp h2]

def fbN : Fb → Str × Value
  | .len => ("len", .builtin "len") | .abs => ("abs", .builtin "abs") | .max => ("max", .builtin "max") | .min => ("min", .builtin "min") | .sum => ("sum", .builtin "sum")
  | .sorted => ("sorted", .builtin "sorted") | .list => ("list", .type "list") | .tuple => ("tuple", .type "tuple") | .int => ("int", .type "int") | .all => ("all", .builtin "all") | .any => ("any", .builtin "any")

theorem cr_lenD (hK : X.K = G.K) : CallR X (.builtin "len") (rCl G (fbD .len)) := by
  intro pins s σ H xs us Q I rs h
  obtain ⟨b, S, ds, r, h1, w⟩ := h
  have bad : ∀ {d e : D} {rest : List D}, Want G H b (fbD .len (d :: e :: rest) S) Q → False := by
    intro d e rest w
    simp only [fbD] at w
    exact want_bad w
  rcases ds with _ | ⟨d, _ | ⟨e, rest⟩⟩
  · exact (want_bad w).elim
  · obtain ⟨x, rfl, h3⟩ := one_arg h1
    cases d with
    | str z =>
      obtain ⟨rfl, l⟩ := rv_str.mp h3
      exact call_len pins s σ H _ us Q I rs ⟨_, z.length, rfl, ⟨l, rfl⟩, want_here r w (rv_int.mpr rfl)⟩
    | tup es =>
      obtain ⟨a, vs, rfl, hd, kv⟩ := rv_tup.mp h3
      exact call_len pins s σ H _ us Q I rs ⟨_, es.length, rfl, .inr ⟨vs, by rw [hK]; exact hd, kv.length⟩, want_here r w (rv_int.mpr rfl)⟩
    | rol es =>
      obtain ⟨a, vs, rfl, hd, kv⟩ := rv_rol.mp h3
      exact call_len pins s σ H _ us Q I rs ⟨_, es.length, rfl, .inl ⟨vs, by rw [hK]; exact hd.sql, kv.length⟩, want_here r w (rv_int.mpr rfl)⟩
    | ref n =>
      simp only [fbD] at w
      split at w
      · rename_i es z
        obtain ⟨a, vs, rfl, _, hd, kv⟩ := lst_at r h3 z
        exact call_len pins s σ H _ us Q I rs ⟨_, es.length, rfl, .inl ⟨vs, SqL.of hd, kv.length⟩, want_here r w (rv_int.mpr rfl)⟩
      · rename_i kvs z
        obtain ⟨a, ws, rfl, _, hd, kv⟩ := dct_at r h3 z
        rw [Vals.ref1 rs]
        refine d_len I (.inl hd) fun t s' I' => ⟨.int ws.length, H, I', ⟨_, rfl⟩, ?_⟩
        rw [← kv.length]
        exact want_here r w (rv_int.mpr rfl)
      · exact (want_bad w).elim
    | _ => exact (want_bad w).elim
  · exact (bad w).elim
theorem cr_absD : CallR X (.builtin "abs") (rCl G (fbD .abs)) := by
  intro pins s σ H xs us Q I rs h
  obtain ⟨b, S, ds, r, h1, w⟩ := h
  simp only [fbD] at w
  split at w
  · rename_i i
    obtain ⟨x, rfl, h3⟩ := one_arg h1
    obtain rfl := rv_int.mp h3
    exact call_abs pins s σ H _ us Q I rs ⟨i, rfl, want_here r w (rv_int.mpr rfl)⟩
  · exact (want_bad w).elim
theorem cr_maxD (hc : X.calm = true) : CallR X (.builtin "max") (rCl G (fbD .max)) := by
  intro pins s σ H xs us Q I rs h
  obtain ⟨b, S, ds, r, h1, w⟩ := h
  simp only [fbD] at w
  split at w
  · rename_i i j
    obtain rfl := int_args h1
    exact call_max2 hc pins s σ H _ us Q I rs ⟨i, j, rfl, want_here r w (rv_int.mpr rfl)⟩
  · exact (want_bad w).elim
theorem cr_minD (hc : X.calm = true) : CallR X (.builtin "min") (rCl G (fbD .min)) := by
  intro pins s σ H xs us Q I rs h
  obtain ⟨b, S, ds, r, h1, w⟩ := h
  simp only [fbD] at w
  split at w
  · rename_i i j
    obtain rfl := int_args h1
    exact call_min2 hc pins s σ H _ us Q I rs ⟨i, j, rfl, want_here r w (rv_int.mpr rfl)⟩
  · exact (want_bad w).elim
theorem cr_sumD (hc : X.calm = true) : CallR X (.builtin "sum") (rCl G (fbD .sum)) := by
  intro pins s σ H xs us Q I rs h
  obtain ⟨b, S, ds, r, h1, w⟩ := h
  simp only [fbD] at w
  split at w
  · split at w
    · rename_i es z
      split at w
      · rename_i ns e
        obtain ⟨x, rfl, h3⟩ := one_arg h1
        obtain ⟨a, vs, rfl, _, hd, kv⟩ := lst_at r h3 z
        obtain ⟨rfl, _⟩ := asInts_ok kv e
        exact cr_sum hc pins s σ H _ us Q I rs ⟨a, ns, rfl, SqL.of hd, want_here r w (rv_int.mpr rfl)⟩
      · exact (want_bad w).elim
    · exact (want_bad w).elim
  · exact (want_bad w).elim
theorem cr_allD (hc : X.calm = true) : CallR X (.builtin "all") (rCl G (fbD .all)) := by
  intro pins s σ H xs us Q I rs h
  obtain ⟨b, S, ds, r, h1, w⟩ := h
  simp only [fbD] at w
  split at w
  · split at w
    · rename_i es z
      split at w
      · rename_i ns e
        obtain ⟨x, rfl, h3⟩ := one_arg h1
        obtain ⟨a, vs, rfl, _, hd, kv⟩ := lst_at r h3 z
        obtain ⟨rfl, _⟩ := asBls_ok kv e
        exact L2.cr_all hc pins s σ H _ us Q I rs ⟨a, ns, rfl, SqL.of hd, want_here r w (rv_bl.mpr rfl)⟩
      · exact (want_bad w).elim
    · exact (want_bad w).elim
  · exact (want_bad w).elim
theorem cr_anyD (hc : X.calm = true) : CallR X (.builtin "any") (rCl G (fbD .any)) := by
  intro pins s σ H xs us Q I rs h
  obtain ⟨b, S, ds, r, h1, w⟩ := h
  simp only [fbD] at w
  split at w
  · split at w
    · rename_i es z
      split at w
      · rename_i ns e
        obtain ⟨x, rfl, h3⟩ := one_arg h1
        obtain ⟨a, vs, rfl, _, hd, kv⟩ := lst_at r h3 z
        obtain ⟨rfl, _⟩ := asBls_ok kv e
        exact L2.cr_any hc pins s σ H _ us Q I rs ⟨a, ns, rfl, SqL.of hd, want_here r w (rv_bl.mpr rfl)⟩
      · exact (want_bad w).elim
    · exact (want_bad w).elim
  · exact (want_bad w).elim
theorem cr_intD : CallR X (.type "int") (rCl G (fbD .int)) := by
  intro pins s σ H xs us Q I rs h
  obtain ⟨b, S, ds, r, h1, w⟩ := h
  simp only [fbD] at w
  split at w
  · rename_i i
    obtain ⟨x, rfl, h3⟩ := one_arg h1
    obtain rfl := rv_int.mp h3
    exact call_int1 pins s σ H _ us Q I rs (.inl ⟨i, rfl, want_here r w (rv_int.mpr rfl)⟩)
  · rename_i k
    obtain ⟨x, rfl, h3⟩ := one_arg h1
    obtain rfl := rv_bl.mp h3
    exact call_int1 pins s σ H _ us Q I rs (.inr ⟨k, rfl, want_here r w (rv_int.mpr rfl)⟩)
  · exact (want_bad w).elim
theorem cr_listD (hK : X.K = G.K) : CallR X (.type "list") (rCl G (fbD .list)) := by
  intro pins s σ H xs us Q I rs h
  obtain ⟨b, S, ds, r, h1, w⟩ := h
  simp only [fbD] at w
  split at w
  · rename_i d
    split at w
    · rename_i es e
      obtain ⟨x, rfl, h3⟩ := one_arg h1
      obtain ⟨a, vs, rfl, hs, kv⟩ := seq_at r h3 e
      refine call_list_of pins s σ H _ us Q I rs ⟨a, vs, rfl, by rw [hK]; exact hs, fun p hp => ?_⟩
      simp only [new] at w
      obtain ⟨p1, p2⟩ := r.newL hp kv
      exact want_ok.mp w _ _ _ p1 p2
    · exact (want_bad w).elim
  · exact (want_bad w).elim
theorem cr_tupleD (hK : X.K = G.K) : CallR X (.type "tuple") (rCl G (fbD .tuple)) := by
  intro pins s σ H xs us Q I rs h
  obtain ⟨b, S, ds, r, h1, w⟩ := h
  simp only [fbD] at w
  split at w
  · rename_i d
    split at w
    · rename_i es e
      obtain ⟨x, rfl, h3⟩ := one_arg h1
      obtain ⟨a, vs, rfl, hs, kv⟩ := seq_at r h3 e
      refine call_tuple_of pins s σ H _ us Q I rs ⟨a, vs, rfl, ?_⟩
      rw [hK]
      rcases hs with hs | hs
      · refine .inl ⟨hs, fun p hp => ?_⟩
        obtain ⟨p1, p2⟩ := r.newT hp kv
        exact want_ok.mp w _ _ _ p1 p2
      · exact .inr ⟨hs, want_here r w (rv_tup.mpr ⟨a, vs, rfl, hs, kv⟩)⟩
    · exact (want_bad w).elim
  · exact (want_bad w).elim
theorem sortD_ok {b : List Addr} {ds es : List D} {vs : List V} (kv : RVs G H b ds vs) (e : sortD ds = some es) : ds.length < 64 ∧
    ((∃ ns, vs = ns.map V.int ∧ es = (isort leI ns).map D.int) ∨ ∃ ns : List Str, vs = ns.map V.str ∧ es = (isort leS ns).map D.str ∧ ∀ x ∈ ns, x.length ≤ sizeLine) := by
  unfold sortD at e
  split at e
  · rename_i c
    refine ⟨c, ?_⟩
    split at e
    · rename_i ns q
      cases e
      exact .inl ⟨ns, (asInts_ok kv q).1, rfl⟩
    · split at e
      · rename_i ns q
        cases e
        obtain ⟨h1, _, h3⟩ := asStrs_ok kv q
        exact .inr ⟨ns, h1, rfl, h3⟩
      · cases e
  · cases e
theorem cr_sortedD (hc : X.calm = true) : CallR X (.builtin "sorted") (rCl G (fbD .sorted)) := by
  intro pins s σ H xs us Q I rs h
  obtain ⟨b, S, ds, r, h1, w⟩ := h
  simp only [fbD] at w
  split at w
  · split at w
    · rename_i es z
      split at w
      · rename_i ys e
        obtain ⟨x, rfl, h3⟩ := one_arg h1
        obtain ⟨a, vs, rfl, _, hd, kv⟩ := lst_at r h3 z
        obtain ⟨h64, q⟩ := sortD_ok kv e
        rw [kv.length] at h64
        simp only [new] at w
        rcases q with ⟨ns, rfl, rfl⟩ | ⟨ns, rfl, rfl, hl⟩
        · rw [List.length_map] at h64
          refine cr_sorted pins s σ H _ us Q I rs ⟨a, ns, rfl, SqL.of hd, h64, fun ms p pm so hp => ?_⟩
          rw [isortI_of pm so]
          obtain ⟨p1, p2⟩ := r.newL hp (rvs_ints (isort leI ns))
          exact want_ok.mp w _ _ _ p1 p2
        · rw [List.length_map] at h64
          refine cr_sortedS pins s σ H _ us Q I rs ⟨a, ns, rfl, SqL.of hd, h64, fun ms p pm so hp => ?_⟩
          rw [isortS_of pm so]
          obtain ⟨p1, p2⟩ := r.newL hp (rvs_strs (isort leS ns) fun x hx => hl x ((isort_perm leS ns).mem_iff.mp hx))
          exact want_ok.mp w _ _ _ p1 p2
      · exact (want_bad w).elim
    · rename_i kvs z
      split at w
      · rename_i ys e
        obtain ⟨x, rfl, h3⟩ := one_arg h1
        obtain ⟨a, ws, rfl, _, hd, kv⟩ := dct_at r h3 z
        simp only [new] at w
        have hk := kv.keys
        unfold sortD at e
        split at e
        · rename_i c
          rw [List.length_map] at c
          split at e
          · rename_i ns q
            cases e
            have key : ∀ (l : List (Key × D)) (ns : List Int), asInts (l.map fun p => dOfKey p.1) = some ns → l.map (·.1) = ns.map Sum.inl := by
              intro l
              induction l with
              | nil => intro ns e; simp only [List.map_nil, asInts, Option.some.injEq] at e; subst e; rfl
              | cons p l ih =>
                intro ns e
                rw [List.map_cons] at e
                cases hp : p.1 with
                | inl i =>
                  rw [hp] at e
                  simp only [dOfKey, asInts] at e
                  obtain ⟨ms, e1, rfl⟩ := Option.map_eq_some_iff.mp e
                  rw [List.map_cons, ih ms e1, hp]; rfl
                | inr i => rw [hp] at e; simp [dOfKey, asInts] at e
            have e1 := key kvs ns q
            have hlen : ns.length = kvs.length := by have := congrArg List.length e1; simpa using this.symm
            refine call_sortedDI hc pins s σ H _ us Q I rs ⟨a, ws, ns, rfl, .inl hd, by rw [← hk]; exact e1, by omega, fun ms p pm so hp => ?_⟩
            rw [isortI_of pm so]
            obtain ⟨p1, p2⟩ := r.newL hp (rvs_ints (isort leI ns))
            exact want_ok.mp w _ _ _ p1 p2
          · split at e
            · rename_i ns q
              cases e
              have key : ∀ (l : List (Key × D)) (ns : List Str), asStrs (l.map fun p => dOfKey p.1) = some ns → l.map (·.1) = ns.map Sum.inr := by
                intro l
                induction l with
                | nil => intro ns e; simp only [List.map_nil, asStrs, Option.some.injEq] at e; subst e; rfl
                | cons p l ih =>
                  intro ns e
                  rw [List.map_cons] at e
                  cases hp : p.1 with
                  | inr i =>
                    rw [hp] at e
                    simp only [dOfKey, asStrs] at e
                    obtain ⟨ms, e1, rfl⟩ := Option.map_eq_some_iff.mp e
                    rw [List.map_cons, ih ms e1, hp]; rfl
                  | inl i => rw [hp] at e; simp [dOfKey, asStrs] at e
              have e1 := key kvs ns q
              have hlen : ns.length = kvs.length := by have := congrArg List.length e1; simpa using this.symm
              refine call_sortedD hc pins s σ H _ us Q I rs ⟨a, ws, ns, rfl, .inl hd, by rw [← hk]; exact e1, by omega, fun ms p pm so hp => ?_⟩
              rw [isortS_of pm so]
              have hl : ∀ x ∈ ns, x.length ≤ sizeLine := by
                intro x hx
                have : Sum.inr x ∈ kvs.map (·.1) := by rw [e1]; exact List.mem_map.mpr ⟨x, hx, rfl⟩
                obtain ⟨q, hq, eq⟩ := List.mem_map.mp this
                exact dct_ok r h3 z q hq x eq
              obtain ⟨p1, p2⟩ := r.newL hp (rvs_strs (isort leS ns) fun x hx => hl x ((isort_perm leS ns).mem_iff.mp hx))
              exact want_ok.mp w _ _ _ p1 p2
            · cases e
        · cases e
      · exact (want_bad w).elim
    · exact (want_bad w).elim
  · exact (want_bad w).elim

/-! ### isinstance -/
def tkN : Tk → Str × String
  | .tuple => ("tuple", "tuple") | .str => ("str", "str") | .int => ("int", "int") | .bool => ("bool", "bool") | .list => ("list", "list")
theorem isi_D (hK : X.K = G.K) {b : List Addr} {S : Store} {d : D} {x : V} {k : Bool} (t : Tk) (r : Rel G H b S) (h : RV G H b d x) (e : isiD t d S = some k) : ∃ ty, TyX X.K H x ty ∧ PySem.W.kitOne X.K ty (.type (tkN t).2) = some k := by
  cases d with
  | non =>
    obtain rfl := rv_non.mp h
    simp only [isiD, Option.some.injEq] at e
    subst e
    exact ⟨_, .base .non, by cases t <;> exact kit_ty (by decide +kernel)⟩
  | bl j =>
    obtain rfl := rv_bl.mp h
    simp only [isiD, Option.some.injEq] at e
    subst e
    exact ⟨_, .base (.bl j), by cases t <;> exact kit_ty (by decide +kernel)⟩
  | int j =>
    obtain rfl := rv_int.mp h
    simp only [isiD, Option.some.injEq] at e
    subst e
    exact ⟨_, .base (.int j), by cases t <;> exact kit_ty (by decide +kernel)⟩
  | str j =>
    obtain ⟨rfl, _⟩ := rv_str.mp h
    simp only [isiD, Option.some.injEq] at e
    subst e
    exact ⟨_, .base (.str j), by cases t <;> exact kit_ty (by decide +kernel)⟩
  | tup ds =>
    obtain ⟨a, vs, rfl, hd, _⟩ := rv_tup.mp h
    simp only [isiD, Option.some.injEq] at e
    subst e
    have kk : PySem.W.kitOne X.K (.type "tuple") (.type (tkN t).2) = some (match t with | .tuple => true | _ => false) := by cases t <;> exact kit_ty (by decide +kernel)
    rw [← hK] at hd
    rcases hd with (hd | ⟨o, hd⟩) | ⟨o, its, n, hd, hc, _⟩
    · exact ⟨_, .base (.tup hd), kk⟩
    · exact ⟨_, .fTuple hd, kk⟩
    · exact ⟨_, .kTuple hd hc, kk⟩
  | ref n =>
    simp only [isiD] at e
    split at e
    · rename_i ds z
      cases e
      obtain ⟨a, vs, rfl, _, hd, _⟩ := lst_at r h z
      exact ⟨_, .base (.lst hd), by cases t <;> exact kit_ty (by decide +kernel)⟩
    · cases e
  | rol ds => simp [isiD] at e

/-! ### methods -/
theorem mt_appendD : MtR X "list.append" (rMt G (mtD .append)) := by
  intro pins s σ H x xs v us Q I rx rs h
  obtain ⟨b, S, d, ds, r, h1, h2, w⟩ := h
  simp only [mtD] at w
  split at w
  · split at w
    · rename_i z
      split at w
      · rename_i c
        obtain ⟨a, vs, rfl, bn, hd, kv⟩ := lst_at r h1 z
        obtain ⟨y, rfl, h4⟩ := one_arg h2
        refine mt_append pins s σ H _ _ v us Q I rx rs ⟨a, vs, y, rfl, rfl, hd, by rw [← kv.length]; exact c, ?_⟩
        exact want_ok.mp w _ _ _ (r.setL bn hd (kv.append (RVs.cons h4 RVs.nil))) (rv_non.mpr rfl)
      · exact (want_bad w).elim
    · exact (want_bad w).elim
  · exact (want_bad w).elim
theorem mt_extendD : MtR X "list.extend" (rMt G (mtD .extend)) := by
  intro pins s σ H x xs v us Q I rx rs h
  obtain ⟨b, S, d, ds, r, h1, h2, w⟩ := h
  simp only [mtD] at w
  split at w
  · split at w
    · rename_i z z2
      split at w
      · rename_i c
        obtain ⟨a, vs, rfl, bn, hd, kv⟩ := lst_at r h1 z
        obtain ⟨y, rfl, h4⟩ := one_arg h2
        obtain ⟨a2, vs2, rfl, bn2, hd2, kv2⟩ := lst_at r h4 z2
        refine mt_extend pins s σ H _ _ v us Q I rx rs ⟨a, a2, vs, vs2, rfl, rfl, hd, hd2, by rw [← kv.length, ← kv2.length]; exact c, ?_⟩
        exact want_ok.mp w _ _ _ (r.setL bn hd (kv.append kv2)) (rv_non.mpr rfl)
      · exact (want_bad w).elim
    · exact (want_bad w).elim
  · exact (want_bad w).elim
theorem mt_popD : MtR X "list.pop" (rMt G (mtD .pop)) := by
  intro pins s σ H x xs v us Q I rx rs h
  obtain ⟨b, S, d, ds, r, h1, h2, w⟩ := h
  simp only [mtD] at w
  split at w
  · split at w
    · rename_i z
      split at w
      · rename_i y c
        obtain ⟨a, vs, rfl, bn, hd, kv⟩ := lst_at r h1 z
        simp only [RVs] at h2
        subst h2
        obtain ⟨yv, e1, e2⟩ := kv.get c
        refine mt_pop pins s σ H _ _ v us Q I rx rs ⟨a, vs, yv, rfl, rfl, hd, by rw [← kv.length]; exact e1, ?_⟩
        have p := r.setL bn hd kv.dropLast
        exact want_ok.mp w _ _ _ p (p.rv e2)
      · exact (want_bad w).elim
    · exact (want_bad w).elim
  · exact (want_bad w).elim
theorem mt_popAtD : MtR X "list.pop" (rMt G (mtD .popAt)) := by
  intro pins s σ H x xs v us Q I rx rs h
  obtain ⟨b, S, d, ds, r, h1, h2, w⟩ := h
  simp only [mtD] at w
  split at w
  · split at w
    · rename_i z
      split at w
      · rename_i k hk
        split at w
        · rename_i y c
          obtain ⟨a, vs, rfl, bn, hd, kv⟩ := lst_at r h1 z
          obtain ⟨y2, rfl, h4⟩ := one_arg h2
          obtain rfl := rv_int.mp h4
          obtain ⟨yv, e1, e2⟩ := kv.get c
          rw [kv.length] at hk
          obtain ⟨q1, q2, q3, q4⟩ := ixN_seq hk
          have hz := (show ObjOk X.prog X.w H s.heap a (.lst vs) from I.hok a _ hd).1
          have hs : sizeLine = 16777216 := sizeLine_eq
          refine mt_popAt pins s σ H _ _ v us Q I rx rs ⟨a, vs, _, k, yv, rfl, rfl, hd, by omega, by omega, q1, e1, ?_⟩
          have p := r.setL bn hd (kv.eraseIdx k)
          exact want_ok.mp w _ _ _ p (p.rv e2)
        · exact (want_bad w).elim
      · exact (want_bad w).elim
    · exact (want_bad w).elim
  · exact (want_bad w).elim
theorem mt_joinD (hK : X.K = G.K) : MtR X "str.join" (rMt G (mtD .join)) := by
  intro pins s σ H x xs v us Q I rx rs h
  obtain ⟨b, S, d, ds, r, h1, h2, w⟩ := h
  simp only [mtD] at w
  split at w
  · split at w
    · rename_i es z
      split at w
      · rename_i ys e
        split at w
        · rename_i c
          obtain ⟨rfl, l⟩ := rv_str.mp h1
          obtain ⟨y2, rfl, h4⟩ := one_arg h2
          obtain ⟨a, vs, rfl, hs, kv⟩ := seq_at r h4 z
          obtain ⟨rfl, _, _⟩ := asStrs_ok kv e
          refine mt_join pins s σ H _ _ v us Q I rx rs ⟨_, a, ys, rfl, rfl, by rw [hK]; exact hs, c.2, ?_⟩
          exact want_here r w (rv_str.mpr ⟨rfl, c.1⟩)
        · exact (want_bad w).elim
      · exact (want_bad w).elim
    · exact (want_bad w).elim
  · exact (want_bad w).elim
theorem mtTy_ok (hK : X.K = G.K) {b : List Addr} {S : Store} {d : D} {x : V} {m : Mt} (r : Rel G H b S) (h : RV G H b d x) (e : mtTy m d S = true) : tyV X.K (match m with | .join => "str" | _ => "list") x H := by
  cases d with
  | str z =>
    obtain ⟨rfl, _⟩ := rv_str.mp h
    cases m <;> simp [mtTy] at e <;> rfl
  | ref n =>
    simp only [mtTy] at e
    split at e
    · rename_i ds z
      obtain ⟨a, vs, rfl, _, hd, _⟩ := lst_at r h z
      cases m <;> simp at e <;> exact .inl ⟨rfl, vs, SqL.of hd⟩
    · cases e
  | _ => simp [mtTy] at e
end
end PV

set_option Elab.async false
set_option linter.all false
set_option maxRecDepth 100000
set_option maxHeartbeats 2000000
/-! PV: the syntax in the row's own trees, and that expressions run so. -/
namespace PV
open PySem PySem.Spec PyProof.Rows L2

/-! ### readings made of runs -/
def tE (G : Gb) (f : Ls → Store → R D) : TE := fun σ H Q => ∃ b S ls, Rel G H b S ∧ RL G H b ls σ ∧ Want G H b (f ls S) Q
def tT (G : Gb) (f : Ls → Store → R Bool) : TT := fun σ H Q => ∃ b S ls k S', Rel G H b S ∧ RL G H b ls σ ∧ f ls S = .ok k S' ∧ ∀ H' b', Post G H b H' b' S' → Q k H'
def tA (G : Gb) (f : Ls → Store → R (List D)) : TA := fun σ H Q => ∃ b S ls ds S', Rel G H b S ∧ RL G H b ls σ ∧ f ls S = .ok ds S' ∧ ∀ vs H' b', Post G H b H' b' S' → RVs G H' b' ds vs → Q vs H'
/-- an iterator goes through what J says -/
def Walks (G : Gb) (J : ItV) (T : It) (H0 : Hp) (b0 : List Addr) : Prop := ∀ (i : Nat) (H : Hp) (b : List Addr) (S : Store), Rel G H b S → Old b0 b → Grow H0 H → Frz H0 H →
  (J.nxt i S = some none → T.stop i H) ∧ ∀ d, J.nxt i S = some (some d) → T.go i H ∧ ∀ x H', T.yld i H x H' → ∃ b', Post G H b H' b' S ∧ RV G H' b' d x
def tI (G : Gb) (f : Ls → Store → R ItV) : TI := fun σ H Q => ∃ b S ls J S', Rel G H b S ∧ RL G H b ls σ ∧ f ls S = .ok J S' ∧ ∀ (T : It) H' b', Post G H b H' b' S' → Walks G J T H' b' → Q T H'
/-- the slots that a target fills -/
def slotsT : Tg → List Nat
  | .nm i => [i]
  | .tup t => slotsT t
  | .nil => []
  | .cons t r => slotsT t ++ slotsT r
/-- but for the slots of t as before -/
def Kept (t : Tg) (σ σ' : L2.St) : Prop := ∀ vs : List Nat, (∀ i ∈ slotsT t, i ∈ vs) → wipe σ' vs = wipe σ vs
def tG (G : Gb) (t : Tg) : TG := fun v σ H Q => ∃ b S ls d ls', Rel G H b S ∧ RL G H b ls σ ∧ RV G H b d v ∧ asgT t d S ls = some ls' ∧ ∀ σ', RL G H b ls' σ' → Kept t σ σ' → Q σ' H
def tGs (G : Gb) (t : Tg) : TGs := fun vs σ H Q => ∃ b S ls ds ls', Rel G H b S ∧ RL G H b ls σ ∧ RVs G H b ds vs ∧ asgTs t ds S ls = some ls' ∧ ∀ σ', RL G H b ls' σ' → Kept t σ σ' → Q σ' H
theorem wipe_set {σ : L2.St} {i : Nat} {x : Option V} : ∀ {vs : List Nat}, i ∈ vs → wipe (σ.set i x) vs = wipe σ vs
  | [], h => by cases h
  | v :: vs, h => by
    unfold wipe
    by_cases c : i ∈ vs
    · rw [wipe_set c]
    · have e : i = v := by
        rcases List.mem_cons.mp h with e | h
        · exact e
        · exact absurd h c
      subst e
      have key : ∀ ws : List Nat, i ∉ ws → wipe (σ.set i x) ws = (wipe σ ws).set i x := by
        intro ws
        induction ws with
        | nil => intro _; rfl
        | cons w ws ih =>
          intro h
          rw [List.mem_cons, not_or] at h
          unfold wipe
          rw [ih h.2, List.set_comm _ _ h.1]
      rw [key vs c, List.set_set]
theorem wipe_wipe {σ : L2.St} : ∀ vs : List Nat, wipe (wipe σ vs) vs = wipe σ vs := by
  have key : ∀ (ws vs : List Nat), (∀ i ∈ ws, i ∈ vs) → wipe (wipe σ ws) vs = wipe σ vs := by
    intro ws
    induction ws with
    | nil => intro vs _; rfl
    | cons w ws ih =>
      intro vs h
      rw [show wipe σ (w :: ws) = (wipe σ ws).set w none from rfl, wipe_set (h w List.mem_cons_self)]
      exact ih vs fun i hi => h i (List.mem_cons_of_mem _ hi)
  exact fun vs => key vs vs fun _ h => h

end PV
namespace L2
open PySem PySem.Spec PyProof.Rows
section
variable {X : Cx} {e : Expr}
theorem PE.wk {t t' : TE} (h : PE X e t) (k : ∀ σ H Q, t' σ H Q → t σ H Q) : PE X e t' := ⟨fun pins s σ H Q I w => h.run pins s σ H Q I (k σ H Q w)⟩
theorem PT.wk {t t' : TT} (h : PT X e t) (k : ∀ σ H Q, t' σ H Q → t σ H Q) : PT X e t' := ⟨fun pins s σ H Q I w => h.run pins s σ H Q I (k σ H Q w)⟩
theorem PW.wk {t t' : TT} (h : PW X e t) (k : ∀ σ H Q, t' σ H Q → t σ H Q) : PW X e t' := ⟨fun wh pins s σ H Q I w => h.run wh pins s σ H Q I (k σ H Q w)⟩
theorem PA.wk {es : List Expr} {t t' : TA} (h : PA X es t) (k : ∀ σ H Q, t' σ H Q → t σ H Q) : PA X es t' := ⟨fun p pins s σ H Q I w => h.run p pins s σ H Q I (k σ H Q w)⟩
theorem PK.wk {es : List Keyword} {t t' : TA} (h : PK X es t) (k : ∀ σ H Q, t' σ H Q → t σ H Q) : PK X es t' := ⟨fun p pins s σ H Q I w => h.run p pins s σ H Q I (k σ H Q w)⟩
theorem PI.wk {tg : Expr} {t t' : TI} (h : PI X tg e t) (k : ∀ σ H Q, t' σ H Q → t σ H Q) : PI X tg e t' := ⟨fun pins s σ H Q I w => h.run pins s σ H Q I (k σ H Q w)⟩
theorem PI.orr {tg : Expr} {t t' : TI} (h : PI X tg e t) (k : PI X tg e t') : PI X tg e (fun σ H Q => t σ H Q ∨ t' σ H Q) := ⟨fun pins s σ H Q I w => w.elim (h.run pins s σ H Q I) (k.run pins s σ H Q I)⟩
theorem PG.wk {t t' : TG} (h : PG X e t) (k : ∀ v σ H Q, t' v σ H Q → t v σ H Q) : PG X e t' := ⟨fun pins s σ H v u Q I r w => h.run pins s σ H v u Q I r (k v σ H Q w)⟩
theorem PG.orr {t t' : TG} (h : PG X e t) (k : PG X e t') : PG X e (fun v σ H Q => t v σ H Q ∨ t' v σ H Q) := ⟨fun pins s σ H v u Q I r w => w.elim (h.run pins s σ H v u Q I r) (k.run pins s σ H v u Q I r)⟩
theorem PGs.wk {es : List Expr} {t t' : TGs} (h : PGs X es t) (k : ∀ v σ H Q, t' v σ H Q → t v σ H Q) : PGs X es t' := ⟨fun pins s σ H v u Q I r w => h.run pins s σ H v u Q I r (k v σ H Q w)⟩
end

end L2
namespace PV
open PySem PySem.Spec PyProof.Rows L2
/-! ### shapes of trees -/
def isStar : Expr → Bool
  | .Starred _ _ => true
  | _ => false
def isSlice : Expr → Bool
  | .Slice _ _ _ _ => true
  | _ => false
/-- a name called without arguments -/
def isC0 : Expr → Bool
  | .Call (.Name _ _) [] [] _ => true
  | _ => false
def isSetE : Expr → Bool
  | .Set _ _ _ => true
  | _ => false
theorem star_of {e : Expr} (h : isStar e = false) (es : List Expr) (env : Env) : starEach (e :: es) env = (false, eval e env) :: starEach es env := by
  cases e <;> first | rfl | (simp [isStar] at h)
theorem stars_of : ∀ {es : List Expr} {env : Env} (h : es.all (fun e => !isStar e) = true), ∀ x ∈ starEach es env, x.1 = false
  | [], _, _ => fun x hx => by cases hx
  | e :: es, env, h => fun x hx => by
    rw [List.all_cons, Bool.and_eq_true] at h
    have h1 : isStar e = false := by simpa using h.1
    rw [star_of h1] at hx
    rcases List.mem_cons.mp hx with rfl | hx
    · rfl
    · exact stars_of h.2 x hx
theorem back_any {es : List Expr} {env : Env} {pos : Pos} (h : es.all (fun e => !isStar e) = true) : (backTo pos (starEach es env)).any (·.1) = false := by
  rw [List.any_eq_false]
  intro x hx
  unfold backTo at hx
  obtain ⟨y, hy, rfl⟩ := List.mem_map.mp hx
  have := stars_of h y hy
  obtain ⟨a, t⟩ := y
  simp only at this
  subst this
  simp
theorem back_all {es : List Expr} {env : Env} {pos : Pos} (h : es.all (fun e => !isStar e) = true) : (backTo pos (starEach es env)).all (fun x => !x.1) = true := by
  rw [List.all_eq_true]
  intro x hx
  unfold backTo at hx
  obtain ⟨y, hy, rfl⟩ := List.mem_map.mp hx
  have := stars_of h y hy
  obtain ⟨a, t⟩ := y
  simp only at this
  subst this
  rfl
theorem plainIx_of {e : Expr} (h : isSlice e = false) : PlainIx e := fun o i => by
  cases e <;> first | rfl | (simp [isSlice] at h)
theorem base_of {o : Expr} {m : Str} {env : Env} {w : Sem Value} (h : isC0 o = false) : attributeBase o m env w = w := by
  unfold attributeBase
  split
  · simp [isC0] at h
  · rfl
theorem each_of : ∀ {es : List Expr} {env : Env} (h : es.all (fun e => !isStar e) = true), (assignEach es env).length = es.length ∧ (∀ x ∈ assignEach es env, x.1 = false)
  | [], _, _ => ⟨rfl, fun x hx => by cases hx⟩
  | e :: es, env, h => by
    rw [List.all_cons, Bool.and_eq_true] at h
    have h1 : isStar e = false := by simpa using h.1
    have q : assignEach (e :: es) env = (false, assign e env) :: assignEach es env := by cases e <;> first | rfl | (simp [isStar] at h1)
    obtain ⟨i1, i2⟩ := each_of (env := env) h.2
    rw [q]
    refine ⟨by rw [List.length_cons, i1]; rfl, fun x hx => ?_⟩
    rcases List.mem_cons.mp hx with rfl | hx
    · rfl
    · exact i2 x hx
theorem each_none {es : List Expr} {env : Env} (h : es.all (fun e => !isStar e) = true) : (assignEach es env).findIdx? (·.1) = none := by
  rw [List.findIdx?_eq_none_iff]
  intro x hx
  exact (each_of h).2 x hx
theorem each_cons {e : Expr} {es : List Expr} {env : Env} (h : isStar e = false) : (assignEach (e :: es) env).map (·.2) = assign e env :: (assignEach es env).map (·.2) := by
  have q : assignEach (e :: es) env = (false, assign e env) :: assignEach es env := by cases e <;> first | rfl | (simp [isStar] at h)
  rw [q]; rfl

/-! ### the check: E beside a tree -/
structure Ck where
  e : Scope → Expr → Bool := fun _ _ => false
  es : Scope → List Expr → Bool := fun _ _ => false
  kw : Scope → List Keyword → Bool := fun _ _ => false
  it : Scope → Expr → Bool := fun _ _ => false
  nl : Bool := false
def globC (sc : Scope) (y : Str) : Bool := decide (sc.names.lookup y = some .globalImplicit) && !(y == ("__debug__" : Str))
def visC (N : List Str) (sc : Scope) (i : Nat) (y : Str) : Bool :=
  decide (N[i]? = some y) && (match sc.names.lookup y with | some .local => true | some .cell => true | some .free => true | _ => false) && !(y == ("__debug__" : Str)) && !(y == ("__classdict__" : Str))
def strOk (x : Str) : Bool := decide (x.length ≤ 1000)
/-- where names may be stored: a local, a cell of its own -/
def ownC (sc : Scope) (y : Str) : Bool := match sc.names.lookup y with | some .local => true | some .cell => true | _ => false
def mtN : Mt → Str
  | .append => "append" | .extend => "extend" | .pop => "pop" | .popAt => "pop" | .join => "join"
def mtA : Mt → Nat
  | .append => 1 | .extend => 1 | .pop => 0 | .popAt => 1 | .join => 1
mutual
def ckT (N : List Str) (st : Str → Bool) : Tg → Expr → Bool
  | .nm i, x => match x with
    | .Name y _ => decide (N[i]? = some y) && st y
    | _ => false
  | .tup t, x => match x with
    | .Tuple es _ _ => es.all (fun e => !isStar e) && ckTs N st t es
    | _ => false
  | .nil, _ => false
  | .cons _ _, _ => false
def ckTs (N : List Str) (st : Str → Bool) : Tg → List Expr → Bool
  | .nil, xs => xs.isEmpty
  | .cons t r, xs => match xs with
    | x :: rest => !isStar x && ckT N st t x && ckTs N st r rest
    | [] => false
  | .nm _, _ => false
  | .tup _, _ => false
end
section
variable (N : List Str) (FT : List (Str × Nat × Nat)) (KT : List (Nat × Nat × List Str))
def bopC : Bo → Operator → Bool := fun o p => decide (p = bop o)
def ck : E → Ck
  | .non => { e := fun _ x => match x with | .Constant .none _ _ => true | _ => false }
  | .bl b => { e := fun _ x => match x with | .Constant (.bool c) _ _ => b == c | _ => false }
  | .int i => { e := fun _ x => match x with | .Constant (.int j) _ _ => decide (j = i) | _ => false }
  | .str y => { e := fun _ x => match x with | .Constant (.str z) _ _ => decide (z = y) && strOk y | _ => false }
  | .v i => { e := fun sc x => match x with | .Name y _ => visC N sc i y | _ => false }
  | .bin o a b => { e := fun sc x => match x with | .BinOp l p r _ => decide (p = bop o) && (ck a).e sc l && (ck b).e sc r | _ => false }
  | .neg a => { e := fun sc x => match x with | .UnaryOp .USub l _ => (ck a).e sc l | _ => false }
  | .no a => { e := fun sc x => match x with | .UnaryOp .Not l _ => (ck a).e sc l | _ => false }
  | .bo k es => { e := fun sc x => match x with | .BoolOp p l _ => decide (p = if k then .And else .Or) && !l.isEmpty && (ck es).es sc l | _ => false }
  | .cmp o a b => { e := fun sc x => match x with | .Compare l [p] [r] _ => decide (p = cop o) && !isSetE r && (ck a).e sc l && (ck b).e sc r | _ => false }
  | .chn o q a b c => { e := fun sc x => match x with | .Compare l [p, p2] [r, r2] _ => decide (p = cop o) && decide (p2 = cop q) && !isSetE r2 && (ck a).e sc l && (ck b).e sc r && (ck c).e sc r2 | _ => false }
  | .ite c a b => { e := fun sc x => match x with | .IfExp t l r _ => (ck c).e sc t && (ck a).e sc l && (ck b).e sc r | _ => false }
  | .tup es => { e := fun sc x => match x with | .Tuple l _ _ => (ck es).es sc l | _ => false }
  | .lst es => { e := fun sc x => match x with | .List l _ => (ck es).es sc l | _ => false }
  | .nil => { es := fun _ xs => xs.isEmpty, kw := fun _ xs => xs.isEmpty, nl := true }
  | .cons a r => {
      es := fun sc xs => match xs with | x :: rest => !isStar x && (ck a).e sc x && (ck r).es sc rest | [] => false
      kw := fun sc xs => match xs with | ⟨some _, x, _⟩ :: rest => (ck a).e sc x && (ck r).kw sc rest | _ => false }
  | .ix a i => { e := fun sc x => match x with | .Subscript l r _ => !isSlice r && (ck a).e sc l && (ck i).e sc r | _ => false }
  | .sl a lo hi => { e := fun sc x => match x with
      | .Subscript l (.Slice u w none _) _ => (ck a).e sc l && (match u with | none => (ck lo).nl | some y => !(ck lo).nl && (ck lo).e sc y) && (match w with | none => (ck hi).nl | some y => !(ck hi).nl && (ck hi).e sc y)
      | _ => false }
  | .dnew => { e := fun _ x => match x with | .Dict [] [] _ => true | _ => false }
  | .call f es => { e := fun sc x => match x with
      | .Call (.Name y _) l [] _ => globC sc y && (match FT[f]? with | some (z, np, nd) => decide (z = y) && decide (l.length ≤ np) && decide (np - l.length ≤ nd) | none => false) && (ck es).es sc l
      | _ => false }
  | .callk f ks es eks => { e := fun sc x => match x with
      | .Call (.Name y _) l kws _ => globC sc y && (match FT[f]? with | some (z, _, _) => decide (z = y) | none => false) && decide ((f, l.length, ks) ∈ KT) && decide (kws.map (·.arg) = ks.map some) && !kws.isEmpty && (ck es).es sc l && (ck eks).kw sc kws
      | _ => false }
  | .bi f es => { e := fun sc x => match x with
      | .Call (.Name y _) l [] _ => globC sc y && decide (y = (fbN f).1) && !l.isEmpty && (ck es).es sc l
      | _ => false }
  | .isi t a => { e := fun sc x => match x with
      | .Call (.Name y _) [l, .Name z _] [] _ => globC sc y && globC sc z && decide (y = "isinstance") && decide (z = (tkN t).1) && !isStar l && (ck a).e sc l
      | _ => false }
  | .mt m a es => { e := fun sc x => match x with
      | .Call (.Attribute o nm apos) l [] cpos => decide (nm = mtN m) && !isC0 o && (apos.endLine == cpos.line) && decide (l.length = mtA m) && (ck a).e sc o && (ck es).es sc l
      | _ => false }
  | .lc own t it c e => { e := fun sc x => match x with
      | .ListComp elt [⟨tg, iter, ifs, 0⟩] scope _ => blkC N sc scope own && ckT N (ownC scope) t tg && (slotsT t).all (fun i => decide (i ∈ own.map (·.2))) && (ck it).it sc iter && !isSetE iter &&
          (match ifs with | [] => (ck c).nl | [y] => !(ck c).nl && (ck c).e (relS scope sc) y | _ => false) && (ck e).e (relS scope sc) elt
      | _ => false }
  | .lk _ e => { e := fun sc x => (ck e).e sc x }
  | .q a => { it := fun sc x => (ck a).e sc x }
  | .qr a => { it := fun sc x => match x with
      | .Call (.Name y _) [l] [] _ => globC sc y && decide (y = "range") && !isStar l && (ck a).e sc l
      | _ => false }
  | .qr2 a b => { it := fun sc x => match x with
      | .Call (.Name y _) [l, r] [] _ => globC sc y && decide (y = "range") && !isStar l && !isStar r && (ck a).e sc l && (ck b).e sc r
      | _ => false }
end

/-! ### what is known where an expression stands -/
def bNames : List Str := ["len", "abs", "max", "min", "sum", "sorted", "list", "tuple", "int", "all", "any", "isinstance", "range", "str", "bool"]
/-- a call of the def number f with n values -/
def CallOk (X : Cx) (G : Gb) (F : Nat → List D → Store → R D) (f : Nat) (y : Str) (n : Nat) : Prop :=
  ∃ (a : Addr) (fd : FuncData) (ps : List Str) (ds : List Value) (dvs : List V) (sp : Sp) (k : Nat), X.mg y = some (.ref a) ∧ PySem.W.keepIn X.K (.ref a) = true ∧ FnOk X.prog X.w X.K X.mg X.base CX0 k a fd ps sp ∧ Room k X.A ∧
    Binds X.K fd ps ds ∧ Vals dvs ds ∧ ∀ (H : Hp) (b : List Addr) (S : Store) (vs : List V) (es : List D) (Q : VK), Rel G H b S → RVs G H b es vs → es.length = n → Want G H b (F f es S) Q → sp (vs ++ dvs) H Q E0
def CallKOk (X : Cx) (G : Gb) (FK : Nat → List Str → List D → List D → Store → R D) (f : Nat) (y : Str) (n : Nat) (ks : List Str) : Prop :=
  ∃ (a : Addr) (fd : FuncData) (ps : List Str) (g : List Value → List Value → List Value) (gV : List V → List V → List V) (sp : Sp) (k : Nat), X.mg y = some (.ref a) ∧ PySem.W.keepIn X.K (.ref a) = true ∧ FnOk X.prog X.w X.K X.mg X.base CX0 k a fd ps sp ∧ Room k X.A ∧
    KBn X.K fd ps n ks g gV ∧ ∀ (H : Hp) (b : List Addr) (S : Store) (vs ws : List V) (es fs : List D) (Q : VK), Rel G H b S → RVs G H b es vs → RVs G H b fs ws → es.length = n → fs.length = ks.length → Want G H b (FK f ks es fs S) Q → sp (gV vs ws) H Q E0
structure Stand (G : Gb) (F : Nat → List D → Store → R D) (FK : Nat → List Str → List D → List D → Store → R D) (N : List Str) (FT : List (Str × Nat × Nat)) (KT : List (Nat × Nat × List Str)) (sc : Scope) (X : Cx) : Prop where
  eK : X.K = G.K
  eN : X.N = N
  nd : N.Nodup
  esc : X.env.scope = sc
  calm : X.calm = true
  room : X.A.units + 64 < cLine
  mgb : ∀ y ∈ bNames, X.mg y = none
  call : ∀ f y np nd n, FT[f]? = some (y, np, nd) → n ≤ np → np - n ≤ nd → CallOk X G F f y n
  callk : ∀ f y np nd n ks, FT[f]? = some (y, np, nd) → (f, n, ks) ∈ KT → CallKOk X G FK f y n ks
theorem scope_blk {scope : Scope} {cl : List (Str × Addr)} {C : Addr} {env : Env} : (compEnvC scope cl C env).scope = relS scope env.scope := rfl
theorem Stand.blk {G : Gb} {F : Nat → List D → Store → R D} {FK : Nat → List Str → List D → List D → Store → R D} {N : List Str} {FT : List (Str × Nat × Nat)} {KT : List (Nat × Nat × List Str)} {sc : Scope} {X : Cx} (g : Stand G F FK N FT KT sc X)
    (s : Shared) (H : Hp) (scope : Scope) (cl : List (Str × Addr)) (C : Addr) (fp : List Addr) : Stand G F FK N FT KT (relS scope sc) (X.blk s H scope (compEnvC scope cl C X.env) fp) :=
  ⟨g.eK, g.eN, g.nd, by rw [← g.esc]; exact scope_blk, g.calm, g.room, g.mgb, g.call, g.callk⟩

section
variable {G : Gb} {X : Cx} {N : List Str}
theorem gl_of {sc : Scope} {y : Str} (hs : X.env.scope = sc) (h : globC sc y = true) : Gl X y ∧ (y == ("__debug__" : Str)) = false := by
  unfold globC at h
  rw [Bool.and_eq_true] at h
  refine ⟨?_, by simpa using h.2⟩
  show X.env.kindOf y = _
  unfold Env.kindOf
  rw [hs]
  exact of_decide_eq_true h.1

/-! ### targets -/
/-- a name that may be stored -/
def Sto (X : Cx) (y : Str) : Prop := Loc X.env.scope y ∧ (X.fn y = true ∨ X.env.scope.names.lookup y = some .local)
mutual
theorem snd_T (hN : X.N = N) (nd : N.Nodup) (hc : X.calm = true) (hK : X.K = G.K) {st : Str → Bool} (hst : ∀ y, st y = true → Sto X y) : ∀ (t : Tg) (x : Expr), ckT N st t x = true → PG X x (tG G t)
  | .nm i, x, h => by
    cases x with
    | Name y p =>
      simp only [ckT, Bool.and_eq_true] at h
      obtain ⟨l, f⟩ := hst y h.2
      refine (pg_name (i := i) (by rw [hN]; exact nd) (by rw [hN]; exact of_decide_eq_true h.1) l f).wk fun v σ H Q ⟨b, S, ls, d, ls', r, rl, rv, e, q⟩ => ?_
      simp only [asgT, Option.some.injEq] at e
      subst e
      exact q _ (rl.set i rv) fun vs hv => wipe_set (hv i List.mem_cons_self)
    | _ => simp [ckT] at h
  | .tup t, x, h => by
    cases x with
    | Tuple es k p =>
      simp only [ckT, Bool.and_eq_true] at h
      have ih := snd_Ts hN nd hc hK hst t es h.2
      have n1 := (each_of (env := X.env) h.1).1
      have n2 := each_none (env := X.env) h.1
      refine ((pg_tup hc ih n1 n2).orr (pg_unl hc ih n1 n2)).wk fun v σ H Q ⟨b, S, ls, d, ls', r, rl, rv, e, q⟩ => ?_
      simp only [asgT] at e
      split at e
      · rename_i ds es'
        obtain ⟨a, vs, rfl, hs, kv⟩ := seq_at r rv es'
        have hl : vs.length = es.length := by
          rw [← kv.length]
          have len : ∀ (t : Tg) (ds : List D) (es : List Expr) (ls ls' : Ls), asgTs t ds S ls = some ls' → ckTs N st t es = true → ds.length = es.length := by
            intro t
            induction t with
            | nil =>
              intro ds es ls ls' e c
              cases ds with
              | nil => simp only [ckTs, List.isEmpty_iff] at c; subst c; rfl
              | cons d ds => simp [asgTs] at e
            | cons t r iht ihr =>
              intro ds es ls ls' e c
              cases ds with
              | nil => simp [asgTs] at e
              | cons d ds =>
                cases es with
                | nil => simp [ckTs] at c
                | cons x es =>
                  simp only [asgTs] at e
                  split at e
                  · simp only [ckTs, Bool.and_eq_true] at c
                    rw [List.length_cons, List.length_cons, ihr _ _ _ _ e c.2]
                  · cases e
            | nm i => intro ds es ls ls' e c; simp [asgTs] at e
            | tup t iht => intro ds es ls ls' e c; simp [asgTs] at e
          exact len t ds es ls ls' e h.2
        rw [hK]
        rcases hs with hs | hs
        · exact .inr ⟨a, vs, rfl, hs, hl, b, S, ls, ds, ls', r, rl, kv, e, q⟩
        · exact .inl ⟨a, vs, rfl, hs, hl, b, S, ls, ds, ls', r, rl, kv, e, q⟩
      · cases e
    | _ => simp [ckT] at h
  | .nil, x, h => by simp [ckT] at h
  | .cons _ _, x, h => by simp [ckT] at h
theorem snd_Ts (hN : X.N = N) (nd : N.Nodup) (hc : X.calm = true) (hK : X.K = G.K) {st : Str → Bool} (hst : ∀ y, st y = true → Sto X y) : ∀ (t : Tg) (xs : List Expr), ckTs N st t xs = true → PGs X xs (tGs G t)
  | .nil, xs, h => by
    simp only [ckTs, List.isEmpty_iff] at h
    subst h
    refine pgs_nil.wk fun vs σ H Q ⟨b, S, ls, ds, ls', r, rl, rv, e, q⟩ => ?_
    cases ds with
    | nil =>
      simp only [asgTs, Option.some.injEq] at e
      subst e
      simp only [RVs] at rv
      exact ⟨rv, q _ rl fun _ _ => rfl⟩
    | cons d ds => simp [asgTs] at e
  | .cons t rr, xs, h => by
    cases xs with
    | nil => simp [ckTs] at h
    | cons x xs =>
      simp only [ckTs, Bool.and_eq_true] at h
      have hs : isStar x = false := by simpa using h.1.1
      refine (pgs_cons (snd_T hN nd hc hK hst t x h.1.2) (snd_Ts hN nd hc hK hst rr xs h.2) (each_cons hs)).wk fun vs σ H Q ⟨b, S, ls, ds, ls', r, rl, rv, e, q⟩ => ?_
      cases ds with
      | nil => simp [asgTs] at e
      | cons d ds =>
        simp only [RVs] at rv
        obtain ⟨v, r2, rfl, rv1, rv2⟩ := rv
        simp only [asgTs] at e
        split at e
        · rename_i ls1 e1
          exact ⟨v, r2, rfl, b, S, ls, d, ls1, r, rl, rv1, e1, fun σ' rl' k1 => ⟨b, S, ls1, ds, ls', r, rl', rv2, e, fun σ2 rl2 k2 => q σ2 rl2 fun vs hv => (k2 vs fun i hi => hv i (List.mem_append_right _ hi)).trans (k1 vs fun i hi => hv i (List.mem_append_left _ hi))⟩⟩
        · cases e
  | .nm _, xs, h => by simp [ckTs] at h
  | .tup _, xs, h => by simp [ckTs] at h
end
end
end PV

set_option Elab.async false
set_option linter.all false
set_option maxRecDepth 100000
set_option maxHeartbeats 2000000
/-! PV: expressions run as their E says. -/
namespace PV
open PySem PySem.Spec PyProof.Rows L2

section
variable {G : Gb} {H H1 : Hp} {b b1 : List Addr} {S S1 : Store}
theorem bind_ok {α β : Type} {r : R α} {k : α → Store → R β} {a : β} {S' : Store} (h : r.bind k = .ok a S') : ∃ x S1, r = .ok x S1 ∧ k x S1 = .ok a S' := by
  cases r with
  | ok x S1 => exact ⟨x, S1, rfl, h⟩
  | exc c ds S1 => cases h
  | bad => cases h
theorem want_bind {α : Type} {r : R α} {k : α → Store → R D} {Q : VK} (w : Want G H b (r.bind k) Q) : ∃ x S1, r = .ok x S1 ∧ Want G H b (k x S1) Q := by
  obtain ⟨d, S', e, q⟩ := w
  obtain ⟨x, S1, e1, e2⟩ := bind_ok e
  exact ⟨x, S1, e1, d, S', e2, q⟩
theorem Want.mono {r : R D} {Q : VK} (p : Post G H b H1 b1 S1) (w : Want G H b r Q) : Want G H1 b1 r Q := by
  obtain ⟨d, S', e, q⟩ := w
  exact ⟨d, S', e, fun v H' b' p' rv => q v H' b' (p.trans p') rv⟩
theorem two {fa fb : Ls → Store → R D} {g : D → D → Store → R D} {σ : L2.St} {Q : VK} (h : tE G (fun ls S => (fa ls S).bind fun x S1 => (fb ls S1).bind fun y S2 => g x y S2) σ H Q) : tOp (rOp G g) (tE G fa) (tE G fb) σ H Q := by
  obtain ⟨b, S, ls, r, rl, w⟩ := h
  obtain ⟨x, S1, e1, w⟩ := want_bind w
  refine ⟨b, S, ls, r, rl, x, S1, e1, fun v H1 b1 p1 rv1 => ?_⟩
  obtain ⟨y, S2, e2, w⟩ := want_bind (w.mono p1)
  exact ⟨b1, S1, ls, p1.rel, p1.rl rl, y, S2, e2, fun u H2 b2 p2 rv2 => ⟨b2, S2, x, y, p2.rel, p2.rv rv1, rv2, w.mono p2⟩⟩
theorem one {fa : Ls → Store → R D} {g : D → Store → R D} {σ : L2.St} {Q : VK} (h : tE G (fun ls S => (fa ls S).bind fun x S1 => g x S1) σ H Q) : tE G fa σ H fun v H1 => rOp1 G g v H1 Q := by
  obtain ⟨b, S, ls, r, rl, w⟩ := h
  obtain ⟨x, S1, e1, w⟩ := want_bind w
  exact ⟨b, S, ls, r, rl, x, S1, e1, fun v H1 b1 p1 rv1 => ⟨b1, S1, x, p1.rel, rv1, w.mono p1⟩⟩
theorem args {fa : Ls → Store → R (List D)} {g : List D → Store → R D} {σ : L2.St} {Q : VK} (h : tE G (fun ls S => (fa ls S).bind fun x S1 => g x S1) σ H Q) : tA G fa σ H fun vs H1 => rCl G g vs H1 Q := by
  obtain ⟨b, S, ls, r, rl, w⟩ := h
  obtain ⟨x, S1, e1, w⟩ := want_bind w
  exact ⟨b, S, ls, x, S1, r, rl, e1, fun v H1 b1 p1 rv1 => ⟨b1, S1, x, p1.rel, rv1, w.mono p1⟩⟩
theorem ok_inj {α : Type} {a c : α} (h : R.ok a S = R.ok c S1) : a = c ∧ S = S1 := by cases h; exact ⟨rfl, rfl⟩
/-- a test, by the truth of the value -/
theorem tru_ok' {r : R D} {k : Bool} {S' : Store} (h : tru r = .ok k S') : ∃ d, r = .ok d S' ∧ truD d S' = some k := by
  obtain ⟨d, S1, e1, e2⟩ := bind_ok h
  cases q : truD d S1 with
  | none => rw [q] at e2; cases e2
  | some j =>
    rw [q] at e2
    cases e2
    exact ⟨d, e1, q⟩
end

section
variable {G : Gb} {F : Nat → List D → Store → R D} {FK : Nat → List Str → List D → List D → Store → R D} {m : Nat} {N : List Str} {FT : List (Str × Nat × Nat)} {KT : List (Nat × Nat × List Str)}

structure Snd (G : Gb) (F : Nat → List D → Store → R D) (FK : Nat → List Str → List D → List D → Store → R D) (m : Nat) (N : List Str) (FT : List (Str × Nat × Nat)) (KT : List (Nat × Nat × List Str)) (e : E) : Prop where
  val : ∀ (X : Cx) (sc : Scope) (x : Expr), Stand G F FK N FT KT sc X → (ck N FT KT e).e sc x = true → PE X x (tE G (ev F FK m e).val)
  tst : ∀ (X : Cx) (sc : Scope) (x : Expr), Stand G F FK N FT KT sc X → (ck N FT KT e).e sc x = true → PT X x (tT G (ev F FK m e).tst)
  lst : ∀ (X : Cx) (sc : Scope) (xs : List Expr), Stand G F FK N FT KT sc X → (ck N FT KT e).es sc xs = true → PA X xs (tA G (ev F FK m e).lst)
  noS : ∀ (sc : Scope) (xs : List Expr), (ck N FT KT e).es sc xs = true → xs.all (fun e => !isStar e) = true
  nlq : (ck N FT KT e).nl = (ev F FK m e).nl
  nlx : ∀ (sc : Scope) (xs : List Expr), (ck N FT KT e).es sc xs = true → ((ev F FK m e).nl = true ↔ xs = [])
  bov : ∀ (X : Cx) (sc : Scope) (xs : List Expr), Stand G F FK N FT KT sc X → (ck N FT KT e).es sc xs = true → xs ≠ [] → ∀ (k : Bool) (pos : Pos), PE X (.BoolOp (if k then .And else .Or) xs pos) (tE G ((ev F FK m e).bov k))
  bot : ∀ (X : Cx) (sc : Scope) (xs : List Expr), Stand G F FK N FT KT sc X → (ck N FT KT e).es sc xs = true → xs ≠ [] → ∀ (k : Bool) (pos : Pos), PW X (.BoolOp (if k then .And else .Or) xs pos) (tT G ((ev F FK m e).bot k))
  kws : ∀ (X : Cx) (sc : Scope) (ks : List Keyword), Stand G F FK N FT KT sc X → (ck N FT KT e).kw sc ks = true → PK X ks (tA G (ev F FK m e).lst) ∧ ∀ env pos, (backToKw pos (keywordEach ks env)).filterMap (·.1) = ks.filterMap (·.arg) ∧ (backToKw pos (keywordEach ks env)).all (·.1.isSome) = true ∧ (backToKw pos (keywordEach ks env)).any (·.1.isNone) = false
  lnE : ∀ (sc : Scope) (xs : List Expr), (ck N FT KT e).es sc xs = true → ∀ (ls : Ls) (S : Store) (ds : List D) (S' : Store), (ev F FK m e).lst ls S = .ok ds S' → ds.length = xs.length
  lnK : ∀ (sc : Scope) (xs : List Keyword), (ck N FT KT e).kw sc xs = true → ∀ (ls : Ls) (S : Store) (ds : List D) (S' : Store), (ev F FK m e).lst ls S = .ok ds S' → ds.length = xs.length
  nil0 : (ev F FK m e).nl = true → ∀ (ls : Ls) (S : Store), (ev F FK m e).lst ls S = .ok [] S
  itv : ∀ (X : Cx) (sc : Scope) (tg x : Expr), Stand G F FK N FT KT sc X → (ck N FT KT e).it sc x = true → PI X tg x (tI G (ev F FK m e).itv)
/-- an expression that is a value and nothing else -/
theorem Snd.mk' {e : E} (h1 : (ck N FT KT e).es = fun _ _ => false) (h2 : (ck N FT KT e).kw = fun _ _ => false) (h3 : (ck N FT KT e).it = fun _ _ => false) (h4 : (ck N FT KT e).nl = false) (h5 : (ev F FK m e).nl = false)
    (val : ∀ (X : Cx) (sc : Scope) (x : Expr), Stand G F FK N FT KT sc X → (ck N FT KT e).e sc x = true → PE X x (tE G (ev F FK m e).val))
    (tst : ∀ (X : Cx) (sc : Scope) (x : Expr), Stand G F FK N FT KT sc X → (ck N FT KT e).e sc x = true → PT X x (tT G (ev F FK m e).tst)) : Snd G F FK m N FT KT e :=
  by
  refine ⟨val, tst, ?_, ?_, h4.trans h5.symm, ?_, ?_, ?_, ?_, ?_, ?_, ?_, ?_⟩
  · intro _ _ _ _ h; rw [h1] at h; cases h
  · intro _ _ h; rw [h1] at h; cases h
  · intro _ _ h; rw [h1] at h; cases h
  · intro _ _ _ _ h; rw [h1] at h; cases h
  · intro _ _ _ _ h; rw [h1] at h; cases h
  · intro _ _ _ _ h; rw [h2] at h; cases h
  · intro _ _ h; rw [h1] at h; cases h
  · intro _ _ h; rw [h2] at h; cases h
  · intro h; rw [h5] at h; cases h
  · intro _ _ _ _ _ h; rw [h3] at h; cases h
theorem tst_of {X : Cx} {x : Expr} {f : Ls → Store → R D} (hK : X.K = G.K) (h : PE X x (tE G f)) (hx : ∀ whole, isTrue x X.env whole = (do let v ← whole; standAt x.pos; holding [v] (truthy v))) : PT X x (tT G fun ls S => tru (f ls S)) := by
  refine (pt_truth h hx).wk fun σ H Q ⟨b, S, ls, k, S', r, rl, e, q⟩ => ?_
  obtain ⟨d, e1, e2⟩ := tru_ok' e
  exact ⟨b, S, ls, r, rl, d, S', e1, fun v H' b' p rv => ⟨k, truV_of' hK p.rel rv e2, q H' b' p⟩⟩
/-- .. of a value that is a truth value -/
theorem tst_bl {X : Cx} {x : Expr} {f : Ls → Store → R D} {t : TE} (h : PT X x (tTest t)) (ht : ∀ σ H Q, tE G f σ H Q → t σ H Q) (hb : ∀ ls S d S', f ls S = .ok d S' → ∃ k, d = .bl k) : PT X x (tT G fun ls S => tru (f ls S)) := by
  refine h.wk fun σ H Q ⟨b, S, ls, k, S', r, rl, e, q⟩ => ?_
  obtain ⟨d, e1, e2⟩ := tru_ok' e
  obtain ⟨j, rfl⟩ := hb _ _ _ _ e1
  simp only [truD, Option.some.injEq] at e2
  subst e2
  exact ht σ H _ ⟨b, S, ls, r, rl, _, S', e1, fun v H' b' p rv => ⟨j, rv_bl.mp rv, q H' b' p⟩⟩
theorem opt_blv {o : Option Bool} {S S' : Store} {d : D} (h : opt (o.map D.bl) S = .ok d S') : ∃ k, d = .bl k := by
  cases o with
  | none => cases h
  | some k => cases h; exact ⟨k, rfl⟩

theorem behind_of {o : CmpOp} {e : Expr} (h : isSetE e = false) : behindInMarks o e = false := by
  cases e <;> first | rfl | (simp [isSetE] at h)

theorem pt_ifExp {X : Cx} {c a b : Expr} {pos : Pos} {tc t u : TT} (hc : PT X c tc) (ha : PT X a t) (hb : PT X b u) : PT X (.IfExp c a b pos) (fun σ H Q => tc σ H fun k H1 => if k = true then t σ H1 Q else u σ H1 Q) := by
  refine ⟨fun pins s σ H Q I h => ?_⟩
  have e : isTrue (.IfExp c a b pos) X.env (eval (.IfExp c a b pos) X.env) = (do if ← isTrue c X.env (eval c X.env) then isTrue a X.env (eval a X.env) else isTrue b X.env (eval b X.env)) := by rfl
  rw [e]
  refine wpAny_bind (thn (hc.run pins s σ H _ I h) fun d s1 ⟨H1, I1, q1⟩ => ?_)
  cases d with
  | true => exact ha.run pins s1 σ H1 Q I1 q1
  | false => exact hb.run pins s1 σ H1 Q I1 q1

theorem snd_non : Snd G F FK m N FT KT .non := by
  have val : ∀ (X : Cx) (sc : Scope) (x : Expr), Stand G F FK N FT KT sc X → (ck N FT KT .non).e sc x = true → PE X x (tE G (ev F FK m .non).val) ∧ PT X x (tT G (ev F FK m .non).tst) := fun X sc x g h => by
    simp only [ck] at h
    split at h
    · refine ⟨?v, tst_of g.eK ?v fun _ => rfl⟩
      exact pe_non.wk fun σ H Q ⟨b, S, ls, r, rl, w⟩ => want_here r w (rv_non.mpr rfl)
    · cases h
  exact .mk' rfl rfl rfl rfl rfl (fun X sc x g h => (val X sc x g h).1) fun X sc x g h => (val X sc x g h).2
theorem snd_bl {k : Bool} : Snd G F FK m N FT KT (.bl k) := by
  have val : ∀ (X : Cx) (sc : Scope) (x : Expr), Stand G F FK N FT KT sc X → (ck N FT KT (.bl k)).e sc x = true → PE X x (tE G (ev F FK m (.bl k)).val) ∧ PT X x (tT G (ev F FK m (.bl k)).tst) := fun X sc x g h => by
    simp only [ck] at h
    split at h
    · obtain rfl := eq_of_beq h
      refine ⟨?v, tst_of g.eK ?v fun _ => rfl⟩
      exact pe_bl.wk fun σ H Q ⟨b, S, ls, r, rl, w⟩ => want_here r w (rv_bl.mpr rfl)
    · cases h
  exact .mk' rfl rfl rfl rfl rfl (fun X sc x g h => (val X sc x g h).1) fun X sc x g h => (val X sc x g h).2
theorem snd_int {k : Int} : Snd G F FK m N FT KT (.int k) := by
  have val : ∀ (X : Cx) (sc : Scope) (x : Expr), Stand G F FK N FT KT sc X → (ck N FT KT (.int k)).e sc x = true → PE X x (tE G (ev F FK m (.int k)).val) ∧ PT X x (tT G (ev F FK m (.int k)).tst) := fun X sc x g h => by
    simp only [ck] at h
    split at h
    · obtain rfl := of_decide_eq_true h
      refine ⟨?v, tst_of g.eK ?v fun _ => rfl⟩
      exact pe_int.wk fun σ H Q ⟨b, S, ls, r, rl, w⟩ => want_here r w (rv_int.mpr rfl)
    · cases h
  exact .mk' rfl rfl rfl rfl rfl (fun X sc x g h => (val X sc x g h).1) fun X sc x g h => (val X sc x g h).2
theorem small1000' {n : Nat} (h : n ≤ 1000) : n ≤ sizeLine := by have e : sizeLine = 16777216 := sizeLine_eq; omega
theorem snd_str {k : Str} : Snd G F FK m N FT KT (.str k) := by
  have val : ∀ (X : Cx) (sc : Scope) (x : Expr), Stand G F FK N FT KT sc X → (ck N FT KT (.str k)).e sc x = true → PE X x (tE G (ev F FK m (.str k)).val) ∧ PT X x (tT G (ev F FK m (.str k)).tst) := fun X sc x g h => by
    simp only [ck] at h
    split at h
    · rw [Bool.and_eq_true] at h
      obtain rfl := of_decide_eq_true h.1
      have l := small1000' (of_decide_eq_true h.2)
      refine ⟨?v, tst_of g.eK ?v fun _ => rfl⟩
      exact pe_str.wk fun σ H Q ⟨b, S, ls, r, rl, w⟩ => want_here r w (rv_str.mpr ⟨rfl, l⟩)
    · cases h
  exact .mk' rfl rfl rfl rfl rfl (fun X sc x g h => (val X sc x g h).1) fun X sc x g h => (val X sc x g h).2
theorem snd_v {i : Nat} : Snd G F FK m N FT KT (.v i) := by
  have val : ∀ (X : Cx) (sc : Scope) (x : Expr), Stand G F FK N FT KT sc X → (ck N FT KT (.v i)).e sc x = true → PE X x (tE G (ev F FK m (.v i)).val) ∧ PT X x (tT G (ev F FK m (.v i)).tst) := fun X sc x g h => by
    simp only [ck] at h
    split at h
    · rename_i y p
      unfold visC at h
      rw [Bool.and_eq_true, Bool.and_eq_true, Bool.and_eq_true] at h
      obtain ⟨⟨⟨h1, h2⟩, h3⟩, h4⟩ := h
      have hv : Vis X.env.scope y := by
        rw [g.esc]
        split at h2
        · exact .inl (by assumption)
        · exact .inr (.inl (by assumption))
        · exact .inr (.inr (by assumption))
        · cases h2
      refine ⟨?v, tst_of g.eK ?v fun _ => rfl⟩
      exact (pe_var (i := i) (by rw [g.eN]; exact of_decide_eq_true h1) hv (by simpa using h3) (by simpa using h4)).wk fun σ H Q ⟨b, S, ls, r, rl, w⟩ => by
        have w : Want G H b (match ls[i]? with | some (some d) => R.ok d S | _ => R.bad) Q := w
        split at w
        · rename_i d e
          obtain ⟨v, e1, e2⟩ := rl.at_ i d e
          exact ⟨v, e1, want_here r w e2⟩
        · exact (want_bad w).elim
    · cases h
  exact .mk' rfl rfl rfl rfl rfl (fun X sc x g h => (val X sc x g h).1) fun X sc x g h => (val X sc x g h).2
theorem snd_bin {o : Bo} {a c : E} (ha : Snd G F FK m N FT KT a) (hc : Snd G F FK m N FT KT c) : Snd G F FK m N FT KT (.bin o a c) := by
  have val : ∀ (X : Cx) (sc : Scope) (x : Expr), Stand G F FK N FT KT sc X → (ck N FT KT (.bin o a c)).e sc x = true → PE X x (tE G (ev F FK m (.bin o a c)).val) ∧ PT X x (tT G (ev F FK m (.bin o a c)).tst) := fun X sc x g h => by
    simp only [ck] at h
    split at h
    · rw [Bool.and_eq_true, Bool.and_eq_true] at h
      obtain ⟨⟨h1, h2⟩, h3⟩ := h
      obtain rfl := of_decide_eq_true h1
      refine ⟨?v, tst_of g.eK ?v fun _ => rfl⟩
      exact (pe_op (op_binD g.eK o) (ha.val X sc _ g h2) (hc.val X sc _ g h3)).wk fun σ H Q w => two w
    · cases h
  exact .mk' rfl rfl rfl rfl rfl (fun X sc x g h => (val X sc x g h).1) fun X sc x g h => (val X sc x g h).2
theorem snd_neg {a : E} (ha : Snd G F FK m N FT KT a) : Snd G F FK m N FT KT (.neg a) := by
  have val : ∀ (X : Cx) (sc : Scope) (x : Expr), Stand G F FK N FT KT sc X → (ck N FT KT (.neg a)).e sc x = true → PE X x (tE G (ev F FK m (.neg a)).val) ∧ PT X x (tT G (ev F FK m (.neg a)).tst) := fun X sc x g h => by
    simp only [ck] at h
    split at h
    · refine ⟨?v, tst_of g.eK ?v fun _ => rfl⟩
      exact (pe_un un_neg (ha.val X sc _ g h)).wk fun σ H Q w => by
        obtain ⟨b, S, ls, r, rl, w⟩ := w
        obtain ⟨d, S1, e1, w⟩ := want_bind w
        refine ⟨b, S, ls, r, rl, d, S1, e1, fun v H1 b1 p1 rv1 => ?_⟩
        have w := w.mono p1
        cases d with
        | int i =>
          obtain rfl := rv_int.mp rv1
          exact ⟨i, rfl, want_here p1.rel w (rv_int.mpr rfl)⟩
        | _ => exact (want_bad w).elim
    · cases h
  exact .mk' rfl rfl rfl rfl rfl (fun X sc x g h => (val X sc x g h).1) fun X sc x g h => (val X sc x g h).2
theorem snd_no {a : E} (ha : Snd G F FK m N FT KT a) : Snd G F FK m N FT KT (.no a) := by
  refine .mk' rfl rfl rfl rfl rfl (fun X sc x g h => ?_) fun X sc x g h => ?_
  · simp only [ck] at h
    split at h
    · refine (pe_notT (ha.val X sc _ g h)).wk fun σ H Q w => ?_
      obtain ⟨b, S, ls, r, rl, w⟩ := w
      obtain ⟨d, S1, e1, w⟩ := want_bind w
      refine ⟨b, S, ls, r, rl, d, S1, e1, fun v H1 b1 p1 rv1 => ?_⟩
      have w := w.mono p1
      cases q : truD d S1 with
      | none => rw [q] at w; exact (want_bad w).elim
      | some k =>
        rw [q] at w
        exact ⟨k, truV_of' g.eK p1.rel rv1 q, want_here p1.rel w (rv_bl.mpr rfl)⟩
    · cases h
  · simp only [ck] at h
    split at h
    · refine (pt_not (ha.tst X sc _ g h)).wk fun σ H Q ⟨b, S, ls, k, S', r, rl, e, q⟩ => ?_
      obtain ⟨j, S1, e1, e2⟩ := bind_ok e
      obtain ⟨rfl, rfl⟩ := ok_inj e2
      exact ⟨b, S, ls, j, _, r, rl, e1, fun H' b' p => q H' b' p⟩
    · cases h
theorem snd_bo {k : Bool} {es : E} (hs : Snd G F FK m N FT KT es) : Snd G F FK m N FT KT (.bo k es) := by
  refine .mk' rfl rfl rfl rfl rfl (fun X sc x g h => ?_) fun X sc x g h => ?_
  · simp only [ck] at h
    split at h
    · rw [Bool.and_eq_true, Bool.and_eq_true] at h
      obtain rfl := of_decide_eq_true h.1.1
      exact hs.bov X sc _ g h.2 (fun e => by rw [e] at h; simp at h) k _
    · cases h
  · simp only [ck] at h
    split at h
    · rw [Bool.and_eq_true, Bool.and_eq_true] at h
      obtain rfl := of_decide_eq_true h.1.1
      exact (hs.bot X sc _ g h.2 (fun e => by rw [e] at h; simp at h) k _).pt
    · cases h
theorem snd_cmp {o : Co} {a c : E} (ha : Snd G F FK m N FT KT a) (hc : Snd G F FK m N FT KT c) : Snd G F FK m N FT KT (.cmp o a c) := by
  refine .mk' rfl rfl rfl rfl rfl (fun X sc x g h => ?_) fun X sc x g h => ?_
  · simp only [ck] at h
    split at h
    · rw [Bool.and_eq_true, Bool.and_eq_true, Bool.and_eq_true] at h
      obtain ⟨⟨⟨h1, h2⟩, h3⟩, h4⟩ := h
      obtain rfl := of_decide_eq_true h1
      exact (pe_cmpR (op_cmpD g.eK g.room o) (ha.val X sc _ g h3) (hc.val X sc _ g h4) (behind_of (by simpa using h2))).wk fun σ H Q w => two w
    · cases h
  · simp only [ck] at h
    split at h
    · rw [Bool.and_eq_true, Bool.and_eq_true, Bool.and_eq_true] at h
      obtain ⟨⟨⟨h1, h2⟩, h3⟩, h4⟩ := h
      obtain rfl := of_decide_eq_true h1
      refine tst_bl (pt_cmpR (op_cmpD g.eK g.room o) (ha.val X sc _ g h3) (hc.val X sc _ g h4) (behind_of (by simpa using h2))) (fun σ H Q w => two w) fun ls S d S' e => ?_
      obtain ⟨_, _, _, e⟩ := bind_ok e
      obtain ⟨_, _, _, e⟩ := bind_ok e
      exact opt_blv e
    · cases h
theorem chain_of {X : Cx} (g : X.K = G.K) {o p : Co} {fa fb fc : Ls → Store → R D} {σ : L2.St} {H : Hp} {Q : VK}
    (h : tE G (fun ls S => (fa ls S).bind fun x S1 => (fb ls S1).bind fun y S2 => match cmpD o x y S2 with
      | some true => (fc ls S2).bind fun z S3 => opt ((cmpD p y z S3).map .bl) S3
      | some false => .ok (.bl false) S2
      | none => .bad) σ H Q) : tChain (rOp G fun x y S => opt ((cmpD o x y S).map .bl) S) (rOp G fun x y S => opt ((cmpD p x y S).map .bl) S) (tE G fa) (tE G fb) (tE G fc) σ H Q := by
  obtain ⟨b, S, ls, r, rl, w⟩ := h
  obtain ⟨x, S1, e1, w⟩ := want_bind w
  refine ⟨b, S, ls, r, rl, x, S1, e1, fun v H1 b1 p1 rv1 => ?_⟩
  obtain ⟨y, S2, e2, w⟩ := want_bind (w.mono p1)
  refine ⟨b1, S1, ls, p1.rel, p1.rl rl, y, S2, e2, fun u H2 b2 p2 rv2 => ?_⟩
  have w := w.mono p2
  refine ⟨b2, S2, x, y, p2.rel, p2.rv rv1, rv2, ?_⟩
  cases q : cmpD o x y S2 with
  | none => rw [q] at w; exact (want_bad w).elim
  | some k =>
    rw [q] at w
    refine ⟨.bl k, S2, (by show opt ((cmpD o x y S2).map D.bl) S2 = _; rw [q]; rfl), fun v3 H3 b3 p3 rv3 => ⟨k, rv_bl.mp rv3, ?_⟩⟩
    cases k with
    | false =>
      rw [if_neg Bool.false_ne_true]
      exact want_here p3.rel (w.mono p3) (rv_bl.mpr rfl)
    | true =>
      rw [if_pos rfl]
      obtain ⟨z, S3, e3, w⟩ := want_bind (w.mono p3)
      exact ⟨b3, S2, ls, p3.rel, p3.rl (p2.rl (p1.rl rl)), z, S3, e3, fun v4 H4 b4 p4 rv4 => ⟨b4, S3, y, z, p4.rel, p4.rv (p3.rv rv2), rv4, w.mono p4⟩⟩
theorem snd_chn {o p : Co} {a b c : E} (ha : Snd G F FK m N FT KT a) (hb : Snd G F FK m N FT KT b) (hc : Snd G F FK m N FT KT c) : Snd G F FK m N FT KT (.chn o p a b c) := by
  refine .mk' rfl rfl rfl rfl rfl (fun X sc x g h => ?_) fun X sc x g h => ?_
  · simp only [ck] at h
    split at h
    · simp only [Bool.and_eq_true] at h
      obtain ⟨⟨⟨⟨⟨h1, h2⟩, h3⟩, h4⟩, h5⟩, h6⟩ := h
      obtain rfl := of_decide_eq_true h1
      obtain rfl := of_decide_eq_true h2
      exact (pe_chain (op_cmpD g.eK g.room o) (op_cmpD g.eK g.room p) (ha.val X sc _ g h4) (hb.val X sc _ g h5) (hc.val X sc _ g h6) (behind_of (by simpa using h3))).wk fun σ H Q w => chain_of g.eK w
    · cases h
  · simp only [ck] at h
    split at h
    · simp only [Bool.and_eq_true] at h
      obtain ⟨⟨⟨⟨⟨h1, h2⟩, h3⟩, h4⟩, h5⟩, h6⟩ := h
      obtain rfl := of_decide_eq_true h1
      obtain rfl := of_decide_eq_true h2
      refine tst_bl (pt_chain (op_cmpD g.eK g.room o) (op_cmpD g.eK g.room p) (ha.val X sc _ g h4) (hb.val X sc _ g h5) (hc.val X sc _ g h6) (behind_of (by simpa using h3))) (fun σ H Q w => chain_of g.eK w) fun ls S d S' e => ?_
      obtain ⟨_, _, _, e⟩ := bind_ok e
      obtain ⟨_, _, _, e⟩ := bind_ok e
      split at e
      · obtain ⟨_, _, _, e⟩ := bind_ok e
        exact opt_blv e
      · cases e; exact ⟨_, rfl⟩
      · cases e
    · cases h
theorem snd_ite {c a b : E} (hc : Snd G F FK m N FT KT c) (ha : Snd G F FK m N FT KT a) (hb : Snd G F FK m N FT KT b) : Snd G F FK m N FT KT (.ite c a b) := by
  refine .mk' rfl rfl rfl rfl rfl (fun X sc x g h => ?_) fun X sc x g h => ?_
  · simp only [ck] at h
    split at h
    · simp only [Bool.and_eq_true] at h
      obtain ⟨⟨h1, h2⟩, h3⟩ := h
      refine (pe_ifExp (hc.tst X sc _ g h1) (ha.val X sc _ g h2) (hb.val X sc _ g h3)).wk fun σ H Q w => ?_
      obtain ⟨b, S, ls, r, rl, w⟩ := w
      obtain ⟨k, S1, e1, w⟩ := want_bind w
      refine ⟨b, S, ls, k, S1, r, rl, e1, fun H1 b1 p1 => ?_⟩
      have w := w.mono p1
      cases k with
      | true => exact ⟨b1, S1, ls, p1.rel, p1.rl rl, w⟩
      | false => exact ⟨b1, S1, ls, p1.rel, p1.rl rl, w⟩
    · cases h
  · simp only [ck] at h
    split at h
    · simp only [Bool.and_eq_true] at h
      obtain ⟨⟨h1, h2⟩, h3⟩ := h
      refine (pt_ifExp (hc.tst X sc _ g h1) (ha.tst X sc _ g h2) (hb.tst X sc _ g h3)).wk fun σ H Q ⟨b, S, ls, k, S', r, rl, e, q⟩ => ?_
      obtain ⟨j, S1, e1, e2⟩ := bind_ok e
      refine ⟨b, S, ls, j, S1, r, rl, e1, fun H1 b1 p1 => ?_⟩
      cases j with
      | true => exact ⟨b1, S1, ls, k, S', p1.rel, p1.rl rl, e2, fun H' b' p => q H' b' (p1.trans p)⟩
      | false => exact ⟨b1, S1, ls, k, S', p1.rel, p1.rl rl, e2, fun H' b' p => q H' b' (p1.trans p)⟩
    · cases h
theorem snd_tup {es : E} (hs : Snd G F FK m N FT KT es) : Snd G F FK m N FT KT (.tup es) := by
  have val : ∀ (X : Cx) (sc : Scope) (x : Expr), Stand G F FK N FT KT sc X → (ck N FT KT (.tup es)).e sc x = true → PE X x (tE G (ev F FK m (.tup es)).val) ∧ PT X x (tT G (ev F FK m (.tup es)).tst) := fun X sc x g h => by
    simp only [ck] at h
    split at h
    · refine ⟨?v, tst_of g.eK ?v fun _ => rfl⟩
      exact (pe_tup (hs.lst X sc _ g h)).wk fun σ H Q w => by
        obtain ⟨b, S, ls, r, rl, w⟩ := w
        obtain ⟨ds, S1, e1, w⟩ := want_bind w
        refine ⟨b, S, ls, ds, S1, r, rl, e1, fun vs H1 b1 p1 kv => ?_⟩
        have w := w.mono p1
        split at w
        · rename_i c
          refine ⟨by rw [← kv.length]; exact c, fun p hp => ?_⟩
          obtain ⟨q1, q2⟩ := p1.rel.newT hp kv
          exact want_ok.mp w _ _ _ q1 q2
        · exact (want_bad w).elim
    · cases h
  exact .mk' rfl rfl rfl rfl rfl (fun X sc x g h => (val X sc x g h).1) fun X sc x g h => (val X sc x g h).2
theorem snd_lst {es : E} (hs : Snd G F FK m N FT KT es) : Snd G F FK m N FT KT (.lst es) := by
  have val : ∀ (X : Cx) (sc : Scope) (x : Expr), Stand G F FK N FT KT sc X → (ck N FT KT (.lst es)).e sc x = true → PE X x (tE G (ev F FK m (.lst es)).val) ∧ PT X x (tT G (ev F FK m (.lst es)).tst) := fun X sc x g h => by
    simp only [ck] at h
    split at h
    · refine ⟨?v, tst_of g.eK ?v fun _ => rfl⟩
      exact (pe_lst (hs.lst X sc _ g h)).wk fun σ H Q w => by
        obtain ⟨b, S, ls, r, rl, w⟩ := w
        obtain ⟨ds, S1, e1, w⟩ := want_bind w
        refine ⟨b, S, ls, ds, S1, r, rl, e1, fun vs H1 b1 p1 kv => ?_⟩
        have w := w.mono p1
        split at w
        · rename_i c
          refine ⟨by rw [← kv.length]; exact c, fun p hp => ?_⟩
          obtain ⟨q1, q2⟩ := p1.rel.newL hp kv
          exact want_ok.mp w _ _ _ q1 q2
        · exact (want_bad w).elim
    · cases h
  exact .mk' rfl rfl rfl rfl rfl (fun X sc x g h => (val X sc x g h).1) fun X sc x g h => (val X sc x g h).2
theorem snd_nil : Snd G F FK m N FT KT .nil := by
  refine ⟨fun _ _ _ _ h => (Bool.false_ne_true h).elim, fun _ _ _ _ h => (Bool.false_ne_true h).elim, fun X sc xs g h => ?_, fun sc xs h => ?_, rfl, fun sc xs h => ?_, fun X sc xs g h hn => ?_, fun X sc xs g h hn => ?_, fun X sc xs g h => ?_, fun sc xs h ls S ds S' e => ?_, fun sc xs h ls S ds S' e => ?_, fun _ _ _ => rfl, fun _ _ _ _ _ h => (Bool.false_ne_true h).elim⟩
  · have e : xs = [] := List.isEmpty_iff.mp h
    subst e
    refine pa_nil.wk fun σ H Q ⟨b, S, ls, ds, S', r, rl, e, q⟩ => ?_
    cases e
    exact q [] H b (Post.refl r) RVs.nil
  · have e : xs = [] := List.isEmpty_iff.mp h
    subst e
    rfl
  · have e : xs = [] := List.isEmpty_iff.mp h
    exact ⟨fun _ => e, fun _ => rfl⟩
  · exact absurd (List.isEmpty_iff.mp h) hn
  · exact absurd (List.isEmpty_iff.mp h) hn
  · have e : xs = [] := List.isEmpty_iff.mp h
    subst e
    refine ⟨pk_nil.wk fun σ H Q ⟨b, S, ls, ds, S', r, rl, e, q⟩ => ?_, fun env pos => ⟨rfl, rfl, rfl⟩⟩
    cases e
    exact q [] H b (Post.refl r) RVs.nil
  · have e2 : xs = [] := List.isEmpty_iff.mp h
    subst e2
    cases e; rfl
  · have e2 : xs = [] := List.isEmpty_iff.mp h
    subst e2
    cases e; rfl
theorem snd_cons {a r : E} (ha : Snd G F FK m N FT KT a) (hr : Snd G F FK m N FT KT r) : Snd G F FK m N FT KT (.cons a r) := by
  have sp : ∀ (sc : Scope) (xs : List Expr), (ck N FT KT (.cons a r)).es sc xs = true → ∃ x rest, xs = x :: rest ∧ isStar x = false ∧ (ck N FT KT a).e sc x = true ∧ (ck N FT KT r).es sc rest = true := fun sc xs h => by
    simp only [ck] at h
    split at h
    · rename_i x rest
      simp only [Bool.and_eq_true] at h
      exact ⟨x, rest, rfl, by simpa using h.1.1, h.1.2, h.2⟩
    · cases h
  have both : ∀ {σ : L2.St} {H : Hp} {Q : List V → Hp → Prop}, tA G (ev F FK m (.cons a r)).lst σ H Q → tCons (tE G (ev F FK m a).val) (tA G (ev F FK m r).lst) σ H Q := fun {σ H Q} w => by
    obtain ⟨b, S, ls, ds, S', rr, rl, e, q⟩ := w
    obtain ⟨x, S1, e1, e⟩ := bind_ok e
    obtain ⟨xs, S2, e2, e⟩ := bind_ok e
    obtain ⟨rfl, rfl⟩ := ok_inj e
    exact ⟨b, S, ls, rr, rl, x, S1, e1, fun v H1 b1 p1 rv1 => ⟨b1, S1, ls, xs, _, p1.rel, p1.rl rl, e2, fun vs H2 b2 p2 kv => q _ H2 b2 (p1.trans p2) (RVs.cons (p2.rv rv1) kv)⟩⟩
  refine ⟨fun _ _ _ _ h => (Bool.false_ne_true h).elim, fun _ _ _ _ h => (Bool.false_ne_true h).elim, fun X sc xs g h => ?_, fun sc xs h => ?_, rfl, fun sc xs h => ?_, fun X sc xs g h hn k pos => ?_, fun X sc xs g h hn k pos => ?_, fun X sc xs g h => ?_, fun sc xs h ls S ds S' e => ?_, fun sc xs h ls S ds S' e => ?_, fun h => (Bool.false_ne_true h).elim, fun _ _ _ _ _ h => (Bool.false_ne_true h).elim⟩
  · obtain ⟨x, rest, rfl, h1, h2, h3⟩ := sp sc xs h
    exact (pa_cons (ha.val X sc x g h2) (hr.lst X sc rest g h3) (star_of h1 _ _)).wk fun σ H Q w => both w
  · obtain ⟨x, rest, rfl, h1, h2, h3⟩ := sp sc xs h
    rw [List.all_cons, hr.noS sc rest h3, h1]; rfl
  · obtain ⟨x, rest, rfl, h1, h2, h3⟩ := sp sc xs h
    exact ⟨fun e => (by cases e), fun e => by cases e⟩
  · obtain ⟨x, rest, rfl, h1, h2, h3⟩ := sp sc xs h
    have z := hr.nlx sc rest h3
    cases rest with
    | nil =>
      have e : (ev F FK m r).nl = true := z.mpr rfl
      refine (pe_one (ha.val X sc x g h2)).wk fun σ H Q ⟨b, S, ls, rr, rl, w⟩ => ⟨b, S, ls, rr, rl, ?_⟩
      have w : Want G H b (if (ev F FK m r).nl then _ else _) Q := w
      rw [if_pos e] at w
      exact w
    | cons y ys =>
      have e : ¬ (ev F FK m r).nl = true := fun q => by cases z.mp q
      have ih := hr.bov X sc (y :: ys) g h3 (by simp) k pos
      cases k with
      | true =>
        refine (pe_andT (ha.val X sc x g h2) ih).wk fun σ H Q ⟨b, S, ls, rr, rl, w⟩ => ?_
        have w : Want G H b (if (ev F FK m r).nl then _ else _) Q := w
        rw [if_neg e] at w
        obtain ⟨d, S1, e1, w⟩ := want_bind w
        refine ⟨b, S, ls, rr, rl, d, S1, e1, fun v H1 b1 p1 rv1 => ?_⟩
        have w := w.mono p1
        cases q : truD d S1 with
        | none => rw [q] at w; exact (want_bad w).elim
        | some t =>
          rw [q] at w
          refine ⟨t, truV_of' g.eK p1.rel rv1 q, ?_⟩
          cases t with
          | true => exact ⟨b1, S1, ls, p1.rel, p1.rl rl, w⟩
          | false => exact want_here p1.rel w rv1
      | false =>
        refine (pe_orT (ha.val X sc x g h2) ih).wk fun σ H Q ⟨b, S, ls, rr, rl, w⟩ => ?_
        have w : Want G H b (if (ev F FK m r).nl then _ else _) Q := w
        rw [if_neg e] at w
        obtain ⟨d, S1, e1, w⟩ := want_bind w
        refine ⟨b, S, ls, rr, rl, d, S1, e1, fun v H1 b1 p1 rv1 => ?_⟩
        have w := w.mono p1
        cases q : truD d S1 with
        | none => rw [q] at w; exact (want_bad w).elim
        | some t =>
          rw [q] at w
          refine ⟨t, truV_of' g.eK p1.rel rv1 q, ?_⟩
          cases t with
          | true => exact want_here p1.rel w rv1
          | false => exact ⟨b1, S1, ls, p1.rel, p1.rl rl, w⟩
  · obtain ⟨x, rest, rfl, h1, h2, h3⟩ := sp sc xs h
    have z := hr.nlx sc rest h3
    cases rest with
    | nil =>
      have e : (ev F FK m r).nl = true := z.mpr rfl
      have hh : PW X (.BoolOp (if k then .And else .Or) [x] pos) (tT G (ev F FK m a).tst) := by
        cases k with
        | true => exact pw_and1 (ha.tst X sc x g h2)
        | false => exact pw_or1 (ha.tst X sc x g h2)
      refine hh.wk fun σ H Q ⟨b, S, ls, j, S', rr, rl, w, q⟩ => ⟨b, S, ls, j, S', rr, rl, ?_, q⟩
      have w : (if (ev F FK m r).nl then _ else _) = R.ok j S' := w
      rw [if_pos e] at w
      exact w
    | cons y ys =>
      have e : ¬ (ev F FK m r).nl = true := fun q => by cases z.mp q
      have ih := hr.bot X sc (y :: ys) g h3 (by simp) k pos
      cases k with
      | true =>
        refine (pw_and (ha.tst X sc x g h2) ih).wk fun σ H Q ⟨b, S, ls, j, S', rr, rl, w, q⟩ => ?_
        have w : (if (ev F FK m r).nl then _ else _) = R.ok j S' := w
        rw [if_neg e] at w
        obtain ⟨t, S1, e1, w⟩ := bind_ok w
        refine ⟨b, S, ls, t, S1, rr, rl, e1, fun H1 b1 p1 => ?_⟩
        cases t with
        | true => exact ⟨b1, S1, ls, j, S', p1.rel, p1.rl rl, w, fun H' b' p => q H' b' (p1.trans p)⟩
        | false => cases w; exact q H1 b1 p1
      | false =>
        refine (pw_or (ha.tst X sc x g h2) ih).wk fun σ H Q ⟨b, S, ls, j, S', rr, rl, w, q⟩ => ?_
        have w : (if (ev F FK m r).nl then _ else _) = R.ok j S' := w
        rw [if_neg e] at w
        obtain ⟨t, S1, e1, w⟩ := bind_ok w
        refine ⟨b, S, ls, t, S1, rr, rl, e1, fun H1 b1 p1 => ?_⟩
        cases t with
        | true => cases w; exact q H1 b1 p1
        | false => exact ⟨b1, S1, ls, j, S', p1.rel, p1.rl rl, w, fun H' b' p => q H' b' (p1.trans p)⟩
  · simp only [ck] at h
    split at h
    · rename_i nm x kp rest
      rw [Bool.and_eq_true] at h
      obtain ⟨i1, i2⟩ := hr.kws X sc rest g h.2
      refine ⟨(pk_cons (ha.val X sc x g h.1) i1).wk fun σ H Q w => both w, fun env pos => ?_⟩
      obtain ⟨j1, j2, j3⟩ := i2 env pos
      refine ⟨?_, ?_, ?_⟩
      · show nm :: _ = nm :: _
        exact congrArg _ j1
      · show (true && _) = true
        exact j2
      · show (false || _) = false
        exact j3
    · cases h
  · obtain ⟨x, rest, rfl, h1, h2, h3⟩ := sp sc xs h
    obtain ⟨x1, S1, e1, e⟩ := bind_ok e
    obtain ⟨xs1, S2, e2, e⟩ := bind_ok e
    obtain ⟨rfl, rfl⟩ := ok_inj e
    rw [List.length_cons, List.length_cons, hr.lnE sc rest h3 _ _ _ _ e2]
  · simp only [ck] at h
    split at h
    · rename_i nm x kp rest
      rw [Bool.and_eq_true] at h
      obtain ⟨x1, S1, e1, e⟩ := bind_ok e
      obtain ⟨xs1, S2, e2, e⟩ := bind_ok e
      obtain ⟨rfl, rfl⟩ := ok_inj e
      rw [List.length_cons, List.length_cons, hr.lnK sc rest h.2 _ _ _ _ e2]
    · cases h
theorem snd_ix {a i : E} (ha : Snd G F FK m N FT KT a) (hi : Snd G F FK m N FT KT i) : Snd G F FK m N FT KT (.ix a i) := by
  have val : ∀ (X : Cx) (sc : Scope) (x : Expr), Stand G F FK N FT KT sc X → (ck N FT KT (.ix a i)).e sc x = true → PE X x (tE G (ev F FK m (.ix a i)).val) ∧ PT X x (tT G (ev F FK m (.ix a i)).tst) := fun X sc x g h => by
    simp only [ck] at h
    split at h
    · simp only [Bool.and_eq_true] at h
      obtain ⟨⟨h1, h2⟩, h3⟩ := h
      refine ⟨?v, tst_of g.eK ?v fun _ => rfl⟩
      exact (pe_ix (ix_D g.eK (by have := g.room; omega)) (ha.val X sc _ g h2) (hi.val X sc _ g h3) (plainIx_of (by simpa using h1))).wk fun σ H Q w => two w
    · cases h
  exact .mk' rfl rfl rfl rfl rfl (fun X sc x g h => (val X sc x g h).1) fun X sc x g h => (val X sc x g h).2
theorem part_of {e : E} (he : Snd G F FK m N FT KT e) {X : Cx} {sc : Scope} (g : Stand G F FK N FT KT sc X) {o : Option Expr} (h : (match o with | none => (ck N FT KT e).nl | some y => !(ck N FT KT e).nl && (ck N FT KT e).e sc y) = true) :
    PO X o fun σ H Q => ∃ b S ls p S', Rel G H b S ∧ RL G H b ls σ ∧ (ev F FK m e).part ls S = .ok p S' ∧ ∀ H' b', Post G H b H' b' S' → Q p H' := by
  cases o with
  | none =>
    have e1 : (ev F FK m e).nl = true := by rw [← he.nlq]; exact h
    refine ⟨fun pins s σ H Q I ⟨b, S, ls, p, S', r, rl, e, q⟩ => po_none.run pins s σ H Q I ?_⟩
    unfold Sm.part at e
    rw [if_pos e1] at e
    cases e
    exact q H b (Post.refl r)
  | some y =>
    rw [Bool.and_eq_true] at h
    have e1 : ¬ (ev F FK m e).nl = true := by rw [← he.nlq]; simpa using h.1
    refine ⟨fun pins s σ H Q I ⟨b, S, ls, p, S', r, rl, e, q⟩ => (po_some (he.val X sc y g h.2)).run pins s σ H Q I ?_⟩
    unfold Sm.part at e
    rw [if_neg e1] at e
    obtain ⟨d, S1, e2, e⟩ := bind_ok e
    refine ⟨b, S, ls, r, rl, d, S1, e2, fun v H1 b1 p1 rv1 => ?_⟩
    cases d with
    | int i =>
      cases e
      exact ⟨i, rv_int.mp rv1, q H1 b1 p1⟩
    | _ => cases e
theorem snd_sl {a lo hi : E} (ha : Snd G F FK m N FT KT a) (hl : Snd G F FK m N FT KT lo) (hh : Snd G F FK m N FT KT hi) : Snd G F FK m N FT KT (.sl a lo hi) := by
  have val : ∀ (X : Cx) (sc : Scope) (x : Expr), Stand G F FK N FT KT sc X → (ck N FT KT (.sl a lo hi)).e sc x = true → PE X x (tE G (ev F FK m (.sl a lo hi)).val) ∧ PT X x (tT G (ev F FK m (.sl a lo hi)).tst) := fun X sc x g h => by
    simp only [ck] at h
    split at h
    · rw [Bool.and_eq_true, Bool.and_eq_true] at h
      obtain ⟨⟨h1, h2⟩, h3⟩ := h
      refine ⟨?v, tst_of g.eK ?v fun _ => rfl⟩
      exact (pe_slice (sl_D g.eK) (ha.val X sc _ g h1) (part_of hl g h2) (part_of hh g h3)).wk fun σ H Q w => by
        obtain ⟨b, S, ls, r, rl, w⟩ := w
        obtain ⟨d, S1, e1, w⟩ := want_bind w
        refine ⟨b, S, ls, r, rl, d, S1, e1, fun v H1 b1 p1 rv1 => ?_⟩
        obtain ⟨l, S2, e2, w⟩ := want_bind (w.mono p1)
        refine ⟨b1, S1, ls, l, S2, p1.rel, p1.rl rl, e2, fun H2 b2 p2 => ?_⟩
        obtain ⟨u, S3, e3, w⟩ := want_bind (w.mono p2)
        exact ⟨b2, S2, ls, u, S3, p2.rel, p2.rl (p1.rl rl), e3, fun H3 b3 p3 => ⟨b3, S3, d, p3.rel, p3.rv (p2.rv rv1), w.mono p3⟩⟩
    · cases h
  exact .mk' rfl rfl rfl rfl rfl (fun X sc x g h => (val X sc x g h).1) fun X sc x g h => (val X sc x g h).2
theorem snd_dnew : Snd G F FK m N FT KT .dnew := by
  have val : ∀ (X : Cx) (sc : Scope) (x : Expr), Stand G F FK N FT KT sc X → (ck N FT KT .dnew).e sc x = true → PE X x (tE G (ev F FK m .dnew).val) ∧ PT X x (tT G (ev F FK m .dnew).tst) := fun X sc x g h => by
    simp only [ck] at h
    split at h
    · refine ⟨?v, tst_of g.eK ?v fun _ => rfl⟩
      exact pe_dnewK.wk fun σ H Q ⟨b, S, ls, r, rl, w⟩ p hp => by
        have z : (b ++ [p])[S.length]? = some p := by rw [← r.len, List.getElem?_append_right (Nat.le_refl _)]; simp
        exact want_ok.mp w _ _ _ (r.new hp ⟨[], upd_same, rfl, fun p hp => by cases hp⟩) (rv_ref.mpr ⟨p, rfl, z⟩)
    · cases h
  exact .mk' rfl rfl rfl rfl rfl (fun X sc x g h => (val X sc x g h).1) fun X sc x g h => (val X sc x g h).2
end
end PV

set_option Elab.async false
set_option linter.all false
set_option maxRecDepth 100000
set_option maxHeartbeats 2000000
/-! PV: calls, methods, comprehensions, what is walked. -/
namespace L2
open PySem PySem.Spec PyProof.Rows
theorem PTs.wk {X : Cx} {es : List Expr} {t t' : TT} (h : PTs X es t) (k : ∀ σ H Q, t' σ H Q → t σ H Q) : PTs X es t' := ⟨fun pins s σ H Q I w => h.run pins s σ H Q I (k σ H Q w)⟩
section
variable {X : Cx} {CX : CXT} {k n : Nat} {f : Addr} {fd : FuncData} {ps ks : List Str} {sp : Sp} {E : XK} {x : Str} {p pos : Pos} {e : Expr} {es : List Expr} {kws : List Keyword} {t tk : TA} {g : List Value → List Value → List Value} {gV : List V → List V → List V}
theorem pe_callN0 (F : FnOk X.prog X.w X.K X.mg X.base CX k f fd ps sp) (hr : Room k X.A) (hg : Gl X x) (hm : X.mg x = some (.ref f)) (hk : PySem.W.keepIn X.K (.ref f) = true) (hb : KBn X.K fd ps n ks g gV) (hx : Passes CX X E)
    (hkw : PK X kws tk) (hall : (backToKw pos (keywordEach kws X.env)).all (·.1.isSome) = true) (hks : (backToKw pos (keywordEach kws X.env)).filterMap (·.1) = ks)
    (hdb : (x == ("__debug__" : Str)) = false) (hpl : ((backTo pos (starEach [] X.env)).any (·.1) || (backToKw pos (keywordEach kws X.env)).any (·.1.isNone)) = false) :
    PE X (.Call (.Name x p) [] kws pos) (tCallN n ks.length sp gV E tNil tk) := by
  refine ⟨fun pins s σ H Q I h => ?_⟩
  refine wpAny_Call_Name_kw (ld_glob I hg hm ?_ hdb)
  refine PySem.W.callWith_KW0 (h₀ := X.base) I.ok.mod.kin hk hall (thn (hkw.run pos pins s σ H _ I h) fun ws s2 ⟨zs, H2, I2, rz, l1, l2, q2⟩ => ⟨I2.kIn, ?_⟩) hpl
  rw [hks]
  exact run_fnN F hr hb hx I2 .nil rz l1 l2 q2
end
end L2
namespace PV
open PySem PySem.Spec PyProof.Rows L2
section
variable {G : Gb} {F : Nat → List D → Store → R D} {FK : Nat → List Str → List D → List D → Store → R D} {m : Nat} {N : List Str} {FT : List (Str × Nat × Nat)} {KT : List (Nat × Nat × List Str)}

theorem rl_mono {H H' : Hp} {b b' : List Addr} {ls : Ls} {σ : L2.St} (o : Old b b') (g : Grow H H') (h : RL G H b ls σ) : RL G H' b' ls σ := ⟨h.len, fun i d e => let ⟨v, q, r⟩ := h.at_ i d e; ⟨v, q, RV.mono o g d v r⟩⟩

theorem snd_call {f : Nat} {es : E} (hs : Snd G F FK m N FT KT es) : Snd G F FK m N FT KT (.call f es) := by
  have val : ∀ (X : Cx) (sc : Scope) (x : Expr), Stand G F FK N FT KT sc X → (ck N FT KT (.call f es)).e sc x = true → PE X x (tE G (ev F FK m (.call f es)).val) ∧ PT X x (tT G (ev F FK m (.call f es)).tst) := fun X sc x g h => by
    simp only [ck] at h
    split at h
    · rename_i y p l pos
      rw [Bool.and_eq_true, Bool.and_eq_true] at h
      obtain ⟨⟨h1, h2⟩, h3⟩ := h
      obtain ⟨hg, hd⟩ := gl_of g.esc h1
      split at h2
      · rename_i z np nd hft
        simp only [Bool.and_eq_true, decide_eq_true_eq] at h2
        obtain ⟨⟨rfl, h4⟩, h5⟩ := h2
        obtain ⟨a, fd, ps, ds, dvs, sp, k, c1, c2, c3, c4, c5, c6, c7⟩ := g.call f z np nd l.length hft h4 h5
        refine ⟨?v, tst_of g.eK ?v fun _ => rfl⟩
        cases l with
        | nil =>
          refine (pe_call0 c3 c4 hg c1 c2 c5 c6 pass0 hd).wk fun σ H Q w => ?_
          obtain ⟨b, S, ls, r, rl, w⟩ := w
          have w : Want G H b (((ev F FK m es).lst ls S).bind fun ds S1 => F f ds S1) Q := w
          rw [hs.nil0 ((hs.nlx sc [] h3).mpr rfl)] at w
          exact c7 H b S [] [] Q r RVs.nil rfl w
        | cons e es' =>
          have h6 := hs.noS sc _ h3
          rw [List.all_cons, Bool.and_eq_true] at h6
          refine (pe_call c3 c4 hg c1 c2 c5 c6 pass0 (hs.lst X sc _ g h3) hd (star_of (by simpa using h6.1) _ _) (back_any h6.2)).wk fun σ H Q w => ?_
          obtain ⟨b, S, ls, r, rl, w⟩ := w
          obtain ⟨ds, S1, e1, w⟩ := want_bind w
          exact ⟨b, S, ls, ds, S1, r, rl, e1, fun vs H1 b1 p1 kv => c7 H1 b1 S1 vs ds Q p1.rel kv (hs.lnE sc _ h3 _ _ _ _ e1) (w.mono p1)⟩
      · cases h2
    · cases h
  exact .mk' rfl rfl rfl rfl rfl (fun X sc x g h => (val X sc x g h).1) fun X sc x g h => (val X sc x g h).2
theorem args_of {ks : List Str} {kws : List Keyword} (h : kws.map (·.arg) = ks.map some) : kws.filterMap (·.arg) = ks := by
  have e : kws.filterMap (·.arg) = (kws.map (·.arg)).filterMap id := by rw [List.filterMap_map]; rfl
  rw [e, h, List.filterMap_map]
  simp
theorem snd_callk {f : Nat} {ks : List Str} {es eks : E} (hs : Snd G F FK m N FT KT es) (hk : Snd G F FK m N FT KT eks) : Snd G F FK m N FT KT (.callk f ks es eks) := by
  have val : ∀ (X : Cx) (sc : Scope) (x : Expr), Stand G F FK N FT KT sc X → (ck N FT KT (.callk f ks es eks)).e sc x = true → PE X x (tE G (ev F FK m (.callk f ks es eks)).val) ∧ PT X x (tT G (ev F FK m (.callk f ks es eks)).tst) := fun X sc x g h => by
    simp only [ck] at h
    split at h
    · rename_i y p l kws pos
      simp only [Bool.and_eq_true, decide_eq_true_eq] at h
      obtain ⟨⟨⟨⟨⟨⟨h1, h2⟩, h3⟩, h4⟩, h5⟩, h6⟩, h7⟩ := h
      obtain ⟨hg, hd⟩ := gl_of g.esc h1
      split at h2
      · rename_i z np nd hft
        obtain rfl := of_decide_eq_true h2
        obtain ⟨a, fd, ps, gg, gV, sp, k, c1, c2, c3, c4, c5, c6⟩ := g.callk f z np nd l.length ks hft h3
        obtain ⟨kp, kq⟩ := hk.kws X sc kws g h7
        obtain ⟨q1, q2, q3⟩ := kq X.env pos
        rw [args_of h4] at q1
        have hlen : kws.length = ks.length := by rw [← List.length_map (f := (·.arg)), h4, List.length_map]
        refine ⟨?v, tst_of g.eK ?v fun _ => rfl⟩
        cases l with
        | nil =>
          refine (pe_callN0 c3 c4 hg c1 c2 c5 pass0 kp q2 q1 hd (by rw [q3]; rfl)).wk fun σ H Q w => ?_
          obtain ⟨b, S, ls, r, rl, w⟩ := w
          have w : Want G H b (((ev F FK m es).lst ls S).bind fun ds S1 => ((ev F FK m eks).lst ls S1).bind fun es S2 => FK f ks ds es S2) Q := w
          rw [hs.nil0 ((hs.nlx sc [] h6).mpr rfl)] at w
          have w : Want G H b (((ev F FK m eks).lst ls S).bind fun es S2 => FK f ks [] es S2) Q := w
          obtain ⟨ds, S1, e1, w⟩ := want_bind w
          refine ⟨b, S, ls, ds, S1, r, rl, e1, fun vs H1 b1 p1 kv => ?_⟩
          have ln := hk.lnK sc _ h7 _ _ _ _ e1
          exact ⟨rfl, by rw [← kv.length, ln, hlen], c6 H1 b1 S1 [] vs [] ds Q p1.rel RVs.nil kv rfl (by rw [ln, hlen]) (w.mono p1)⟩
        | cons e es' =>
          have h8 := hs.noS sc _ h6
          have h9 := h8
          rw [List.all_cons, Bool.and_eq_true] at h9
          refine (pe_callN c3 c4 hg c1 c2 c5 pass0 (hs.lst X sc _ g h6) kp q2 q1 hd (star_of (by simpa using h9.1) _ _) (by rw [q3, back_any h8]; rfl)).wk fun σ H Q w => ?_
          obtain ⟨b, S, ls, r, rl, w⟩ := w
          obtain ⟨ds, S1, e1, w⟩ := want_bind w
          refine ⟨b, S, ls, ds, S1, r, rl, e1, fun vs H1 b1 p1 kv => ?_⟩
          obtain ⟨fs, S2, e2, w⟩ := want_bind (w.mono p1)
          refine ⟨b1, S1, ls, fs, S2, p1.rel, p1.rl rl, e2, fun ws H2 b2 p2 kw => ?_⟩
          have l1 := hs.lnE sc _ h6 _ _ _ _ e1
          have l2 := hk.lnK sc _ h7 _ _ _ _ e2
          exact ⟨by rw [← kv.length, l1], by rw [← kw.length, l2, hlen], c6 H2 b2 S2 vs ws ds fs Q p2.rel (p2.rvs kv) kw l1 (by rw [l2, hlen]) (w.mono p2)⟩
      · cases h2
    · cases h
  exact .mk' rfl rfl rfl rfl rfl (fun X sc x g h => (val X sc x g h).1) fun X sc x g h => (val X sc x g h).2
theorem snd_bi {f : Fb} {es : E} (hs : Snd G F FK m N FT KT es) : Snd G F FK m N FT KT (.bi f es) := by
  have val : ∀ (X : Cx) (sc : Scope) (x : Expr), Stand G F FK N FT KT sc X → (ck N FT KT (.bi f es)).e sc x = true → PE X x (tE G (ev F FK m (.bi f es)).val) ∧ PT X x (tT G (ev F FK m (.bi f es)).tst) := fun X sc x g h => by
    simp only [ck] at h
    split at h
    · rename_i y p l pos
      simp only [Bool.and_eq_true, decide_eq_true_eq] at h
      obtain ⟨⟨⟨h1, h2⟩, h3⟩, h4⟩ := h
      obtain ⟨hg, hd⟩ := gl_of g.esc h1
      have hm : X.mg y = none := g.mgb y (by rw [h2]; cases f <;> decide)
      have hn : y ≠ "__name__" := by rw [h2]; cases f <;> decide
      refine ⟨?v, tst_of g.eK ?v fun _ => rfl⟩
      cases l with
      | nil => simp at h3
      | cons e es' =>
        have h6 := hs.noS sc _ h4
        rw [List.all_cons, Bool.and_eq_true] at h6
        have s1 := star_of (e := e) (by simpa using h6.1) es' X.env
        have s2 := back_any (env := X.env) (pos := pos) h6.2
        have ha := hs.lst X sc _ g h4
        subst h2
        cases f with
        | len => exact (pe_callB (cr_lenD g.eK) hg hm (by decide +kernel) ha hn hd s1 s2).wk fun σ H Q w => args w
        | abs => exact (pe_callB cr_absD hg hm (by decide +kernel) ha hn hd s1 s2).wk fun σ H Q w => args w
        | max => exact (pe_callB (cr_maxD g.calm) hg hm (by decide +kernel) ha hn hd s1 s2).wk fun σ H Q w => args w
        | min => exact (pe_callB (cr_minD g.calm) hg hm (by decide +kernel) ha hn hd s1 s2).wk fun σ H Q w => args w
        | sum => exact (pe_callB (cr_sumD g.calm) hg hm (by decide +kernel) ha hn hd s1 s2).wk fun σ H Q w => args w
        | sorted => exact (pe_callB (cr_sortedD g.calm) hg hm (by decide +kernel) ha hn hd s1 s2).wk fun σ H Q w => args w
        | all => exact (pe_callB (cr_allD g.calm) hg hm (by decide +kernel) ha hn hd s1 s2).wk fun σ H Q w => args w
        | any => exact (pe_callB (cr_anyD g.calm) hg hm (by decide +kernel) ha hn hd s1 s2).wk fun σ H Q w => args w
        | list => exact (pe_callTy (cr_listD g.eK) hg hm (by decide +kernel) ha hn hd s1 s2).wk fun σ H Q w => args w
        | tuple => exact (pe_callTy (cr_tupleD g.eK) hg hm (by decide +kernel) ha hn hd s1 s2).wk fun σ H Q w => args w
        | int => exact (pe_callTy cr_intD hg hm (by decide +kernel) ha hn hd s1 s2).wk fun σ H Q w => args w
    · cases h
  exact .mk' rfl rfl rfl rfl rfl (fun X sc x g h => (val X sc x g h).1) fun X sc x g h => (val X sc x g h).2
theorem snd_isi {t : Tk} {a : E} (ha : Snd G F FK m N FT KT a) : Snd G F FK m N FT KT (.isi t a) := by
  have val : ∀ (X : Cx) (sc : Scope) (x : Expr), Stand G F FK N FT KT sc X → (ck N FT KT (.isi t a)).e sc x = true → PE X x (tE G (ev F FK m (.isi t a)).val) ∧ PT X x (tT G (ev F FK m (.isi t a)).tst) := fun X sc x g h => by
    simp only [ck] at h
    split at h
    · rename_i y p l z q pos
      simp only [Bool.and_eq_true, decide_eq_true_eq] at h
      obtain ⟨⟨⟨⟨⟨h1, h2⟩, h3⟩, h4⟩, h5⟩, h6⟩ := h
      obtain ⟨hg, hd⟩ := gl_of g.esc h1
      obtain ⟨hg2, hd2⟩ := gl_of g.esc h2
      subst h3 h4
      have hm : X.mg (tkN t).1 = none := g.mgb _ (by cases t <;> decide)
      have pz : PE X (.Name (tkN t).1 q) (tC (.ty (tkN t).2)) := by
        exact pe_bltn hg2 hm (u := .type (tkN t).2) (by cases t <;> decide +kernel) (by rfl) (by cases t <;> decide) hd2
      have s1 := star_of (e := l) (by simpa using h5) [.Name (tkN t).1 q] X.env
      refine ⟨?v, tst_of g.eK ?v fun _ => rfl⟩
      refine (pe_callB call_isi hg (g.mgb _ (by decide)) (by decide +kernel) (pa_cons (ha.val X sc l g h6) (pa_cons pz pa_nil)  s1) (by decide) hd s1 (by rfl)).wk fun σ H Q w => ?_
      obtain ⟨b, S, ls, r, rl, w⟩ := w
      obtain ⟨d, S1, e1, w⟩ := want_bind w
      refine ⟨b, S, ls, r, rl, d, S1, e1, fun v H1 b1 p1 rv1 => ?_⟩
      obtain ⟨k, e2, q2⟩ := opt_bl p1.rel (w.mono p1)
      obtain ⟨ty, t1, t2⟩ := isi_D g.eK t p1.rel rv1 e2
      exact ⟨v, _, ty, _, k, rfl, .ty _, t1, t2, q2⟩
    · cases h
  exact .mk' rfl rfl rfl rfl rfl (fun X sc x g h => (val X sc x g h).1) fun X sc x g h => (val X sc x g h).2
theorem snd_mt {k : Mt} {a es : E} (ha : Snd G F FK m N FT KT a) (hs : Snd G F FK m N FT KT es) : Snd G F FK m N FT KT (.mt k a es) := by
  have val : ∀ (X : Cx) (sc : Scope) (x : Expr), Stand G F FK N FT KT sc X → (ck N FT KT (.mt k a es)).e sc x = true → PE X x (tE G (ev F FK m (.mt k a es)).val) ∧ PT X x (tT G (ev F FK m (.mt k a es)).tst) := fun X sc x g h => by
    simp only [ck] at h
    split at h
    · rename_i o nm apos l cpos
      simp only [Bool.and_eq_true, decide_eq_true_eq] at h
      obtain ⟨⟨⟨⟨⟨h1, h2⟩, h3⟩, h4⟩, h5⟩, h6⟩ := h
      have hb : ∀ w, attributeBase o nm X.env w = w := fun w => base_of (by simpa using h2)
      have ho := ha.val X sc o g h5
      have hl := hs.lst X sc l g h6
      have hn := hs.noS sc l h6
      have go : ∀ {T : String} {r : V → List V → Hp → VK → Prop}, (∀ {b : List Addr} {S : Store} {d : D} {x : V} {H : Hp}, Rel G H b S → RV G H b d x → mtTy k d S = true → tyV X.K T x H) → r = rMt G (mtD k) → l ≠ [] →
          ∀ (σ : L2.St) (H : Hp) (Q : VK), tE G (ev F FK m (.mt k a es)).val σ H Q → tBM X.K T r (tE G (ev F FK m a).val) (tA G (ev F FK m es).lst) σ H Q := fun hT hr _ σ H Q w => by
        subst hr
        obtain ⟨b, S, ls, r, rl, w⟩ := w
        obtain ⟨d, S1, e1, w⟩ := want_bind w
        refine ⟨b, S, ls, r, rl, d, S1, e1, fun v H1 b1 p1 rv1 => ?_⟩
        have w := w.mono p1
        split at w
        · rename_i c
          obtain ⟨ds, S2, e2, w⟩ := want_bind w
          exact ⟨hT p1.rel rv1 c, b1, S1, ls, ds, S2, p1.rel, p1.rl rl, e2, fun vs H2 b2 p2 kv => ⟨b2, S2, d, ds, p2.rel, p2.rv rv1, kv, w.mono p2⟩⟩
        · exact (want_bad w).elim
      refine ⟨?v, tst_of g.eK ?v fun _ => rfl⟩
      cases l with
      | nil =>
        have e0 := hs.nil0 ((hs.nlx sc [] h6).mpr rfl)
        cases k with
        | pop =>
          obtain rfl : nm = "pop" := h1
          refine (pe_bm0 PySem.F.plainAttrs_list PySem.F.slot_list_pop PySem.F.type_list_pop (mt_popD (G := G)) ho (hb _) h3).wk fun σ H Q w => ?_
          obtain ⟨b, S, ls, r, rl, w⟩ := w
          obtain ⟨d, S1, e1, w⟩ := want_bind w
          refine ⟨b, S, ls, r, rl, d, S1, e1, fun v H1 b1 p1 rv1 => ?_⟩
          have w := w.mono p1
          split at w
          · rename_i c
            rw [e0] at w
            exact ⟨mtTy_ok g.eK p1.rel rv1 c, b1, S1, d, [], p1.rel, rv1, RVs.nil, w⟩
          · exact (want_bad w).elim
        | _ => simp [mtA] at h4
      | cons e es' =>
        have h9 := hn
        rw [List.all_cons, Bool.and_eq_true] at h9
        have s1 := star_of (e := e) (by simpa using h9.1) es' X.env
        have s2 := back_any (env := X.env) (pos := cpos) h9.2
        have few : ((backTo cpos (starEach (e :: es') X.env)).all (fun x => !x.1) && (backToKw cpos (keywordEach [] X.env)).all (fun x => x.1.isSome)
            && decide ((e :: es').length + ([] : List Keyword).length + (if ([] : List Keyword).isEmpty then 0 else 1) < 30)) = true := by
          rw [back_all hn]
          have q : (e :: es').length ≤ 1 := by rw [h4]; cases k <;> decide
          have q2 : (e :: es').length + ([] : List Keyword).length + (if ([] : List Keyword).isEmpty then 0 else 1) < 30 := Nat.lt_of_le_of_lt (m := 1) q (by decide)
          rw [decide_eq_true q2]
          rfl
        have hne : (e :: es') ≠ [] := by simp
        cases k with
        | append =>
          obtain rfl : nm = "append" := h1
          exact (pe_bm PySem.F.plainAttrs_list slot_list_append type_list_append mt_appendD ho hl (hb _) few h3 s1 s2).wk (go (fun r rv c => mtTy_ok g.eK r rv c) rfl hne)
        | extend =>
          obtain rfl : nm = "extend" := h1
          exact (pe_bm PySem.F.plainAttrs_list PySem.F.slot_list_extend PySem.F.type_list_extend mt_extendD ho hl (hb _) few h3 s1 s2).wk (go (fun r rv c => mtTy_ok g.eK r rv c) rfl hne)
        | pop => simp [mtA] at h4
        | popAt =>
          obtain rfl : nm = "pop" := h1
          exact (pe_bm PySem.F.plainAttrs_list PySem.F.slot_list_pop PySem.F.type_list_pop mt_popAtD ho hl (hb _) few h3 s1 s2).wk (go (fun r rv c => mtTy_ok g.eK r rv c) rfl hne)
        | join =>
          obtain rfl : nm = "join" := h1
          exact (pe_bm PySem.F.plainAttrs_str PySem.F.slot_str_join PySem.F.type_str_join (mt_joinD g.eK) ho hl (hb _) few h3 s1 s2).wk (go (fun r rv c => mtTy_ok g.eK r rv c) rfl hne)
    · cases h
  exact .mk' rfl rfl rfl rfl rfl (fun X sc x g h => (val X sc x g h).1) fun X sc x g h => (val X sc x g h).2

/-! ### what is walked -/
theorem walks_list {H0 : Hp} {b0 : List Addr} {n : Nat} {a : Addr} (e : b0[n]? = some a) : Walks G (.obj n) (Itl G.K a) H0 b0 := fun i H b S r o gr fz => by
  have e' := o n a e
  refine ⟨fun h => ?_, fun d h => ?_⟩
  · simp only [ItV.nxt] at h
    split at h
    · rename_i ds z
      simp only [Option.some.injEq] at h
      obtain ⟨a2, vs, q1, q2, hd, kv⟩ := lst_at r (rv_ref.mpr ⟨a, rfl, e'⟩) z
      cases q1
      exact ⟨vs, SqL.of hd, kv.none h⟩
    · cases h
  · simp only [ItV.nxt] at h
    split at h
    · rename_i ds z
      simp only [Option.some.injEq] at h
      obtain ⟨a2, vs, q1, q2, hd, kv⟩ := lst_at r (rv_ref.mpr ⟨a, rfl, e'⟩) z
      cases q1
      obtain ⟨v, g1, g2⟩ := kv.get h
      refine ⟨⟨vs, v, SqL.of hd, g1⟩, fun x H' y => ?_⟩
      obtain ⟨rfl, y⟩ := y
      have y := y vs (SqL.of hd)
      rw [g1] at y
      cases y
      exact ⟨b, Post.refl r, g2⟩
    · cases h
theorem walks_rol {H0 : Hp} {b0 : List Addr} {ds : List D} {vs : List V} {a : Addr} (hq : RoL G.K H0 a vs) (kv : RVs G H0 b0 ds vs) : Walks G (.rol ds) (Itl G.K a) H0 b0 := fun i H b S r o gr fz => by
  have hd := (gr.rl hq).sql
  have kv := RVs.mono o gr _ _ kv
  refine ⟨fun h => ?_, fun d h => ?_⟩
  · simp only [ItV.nxt, Option.some.injEq] at h
    exact ⟨vs, hd, kv.none h⟩
  · simp only [ItV.nxt, Option.some.injEq] at h
    obtain ⟨v, g1, g2⟩ := kv.get h
    refine ⟨⟨vs, v, hd, g1⟩, fun x H' y => ?_⟩
    obtain ⟨rfl, y⟩ := y
    have y := y vs hd
    rw [g1] at y
    cases y
    exact ⟨b, Post.refl r, g2⟩
theorem walks_tup {H0 : Hp} {b0 : List Addr} {ds : List D} {vs : List V} {a : Addr} (hq : SqT G.K H0 a vs) (kv : RVs G H0 b0 ds vs) : Walks G (.tup ds) (Itt G.K a) H0 b0 := fun i H b S r o gr fz => by
  have hd := gr.sqt hq
  have kv := RVs.mono o gr _ _ kv
  refine ⟨fun h => ?_, fun d h => ?_⟩
  · simp only [ItV.nxt, Option.some.injEq] at h
    exact ⟨vs, hd, kv.none h⟩
  · simp only [ItV.nxt, Option.some.injEq] at h
    obtain ⟨v, g1, g2⟩ := kv.get h
    refine ⟨⟨vs, v, hd, g1⟩, fun x H' y => ?_⟩
    obtain ⟨rfl, y⟩ := y
    have y := y vs hd
    rw [g1] at y
    cases y
    exact ⟨b, Post.refl r, g2⟩
theorem walks_rng {H0 : Hp} {b0 : List Addr} {lo : Int} {n : Nat} : Walks G (.rng lo n) (Itr lo n) H0 b0 := fun i H b S r o gr fz => by
  refine ⟨fun h => ?_, fun d h => ?_⟩
  · simp only [ItV.nxt, Option.some.injEq] at h
    split at h
    · cases h
    · show n ≤ i
      omega
  · simp only [ItV.nxt, Option.some.injEq] at h
    split at h
    · rename_i c
      simp only [Option.some.injEq] at h
      subst h
      refine ⟨c, fun x H' y => ?_⟩
      obtain ⟨rfl, rfl⟩ := y
      exact ⟨b, Post.refl r, rv_int.mpr rfl⟩
    · cases h
theorem walks_keys {H0 : Hp} {b0 : List Addr} {n : Nat} {a : Addr} {o : Obj} {ws : List (Key × V)} (e : b0[n]? = some a) (h0 : H0 a = some (.frz o (.dK ws))) : Walks G (.keys n) (Itk a o ws) H0 b0 := fun i H b S r old gr fz => by
  have e' := old n a e
  have hw := fz a o ws h0
  refine ⟨fun h => ?_, fun d h => ?_⟩
  · simp only [ItV.nxt] at h
    split at h
    · rename_i kvs z
      simp only [Option.some.injEq] at h
      obtain ⟨ob, ws', q, k1, k2⟩ := r.obj n _ a z e'
      rw [hw] at q
      cases q
      refine ⟨hw, ?_⟩
      rw [← k1.length]
      rcases Nat.lt_or_ge i kvs.length with c | c
      · rw [List.getElem?_eq_getElem c] at h; cases h
      · exact c
    · cases h
  · simp only [ItV.nxt] at h
    split at h
    · rename_i kvs z
      simp only [Option.some.injEq] at h
      obtain ⟨ob, ws', q, k1, k2⟩ := r.obj n _ a z e'
      rw [hw] at q
      cases q
      obtain ⟨p, hp, rfl⟩ := Option.map_eq_some_iff.mp h
      have hl := (List.getElem?_eq_some_iff.mp hp).1
      have hk : ws[i]?.map (·.1) = some p.1 := by
        rw [← List.getElem?_map, ← k1.keys, List.getElem?_map, hp]; rfl
      obtain ⟨w, hw1, hw2⟩ := Option.map_eq_some_iff.mp hk
      refine ⟨⟨hw, by rw [← k1.length]; exact hl⟩, fun x H' y => ?_⟩
      obtain ⟨rfl, k, v, y1, rfl⟩ := y
      rw [hw1] at y1
      cases y1
      refine ⟨b, Post.refl r, ?_⟩
      simp only at hw2
      subst hw2
      cases hkk : p.1 with
      | inl j => exact rv_int.mpr rfl
      | inr x => exact rv_str.mpr ⟨rfl, k2 p (List.mem_of_getElem? hp) x hkk⟩
    · cases h
/-- a thing that is walked and nothing else -/
theorem Snd.mkI {e : E} (h0 : (ck N FT KT e).e = fun _ _ => false) (h1 : (ck N FT KT e).es = fun _ _ => false) (h2 : (ck N FT KT e).kw = fun _ _ => false) (h4 : (ck N FT KT e).nl = false) (h5 : (ev F FK m e).nl = false)
    (itv : ∀ (X : Cx) (sc : Scope) (tg x : Expr), Stand G F FK N FT KT sc X → (ck N FT KT e).it sc x = true → PI X tg x (tI G (ev F FK m e).itv)) : Snd G F FK m N FT KT e := by
  refine ⟨?_, ?_, ?_, ?_, h4.trans h5.symm, ?_, ?_, ?_, ?_, ?_, ?_, ?_, itv⟩
  · intro _ _ _ _ h; rw [h0] at h; cases h
  · intro _ _ _ _ h; rw [h0] at h; cases h
  · intro _ _ _ _ h; rw [h1] at h; cases h
  · intro _ _ h; rw [h1] at h; cases h
  · intro _ _ h; rw [h1] at h; cases h
  · intro _ _ _ _ h; rw [h1] at h; cases h
  · intro _ _ _ _ h; rw [h1] at h; cases h
  · intro _ _ _ _ h; rw [h2] at h; cases h
  · intro _ _ h; rw [h1] at h; cases h
  · intro _ _ h; rw [h2] at h; cases h
  · intro h; rw [h5] at h; cases h
theorem snd_q {a : E} (ha : Snd G F FK m N FT KT a) : Snd G F FK m N FT KT (.q a) := by
  refine .mkI rfl rfl rfl rfl rfl fun X sc tg x g h => ?_
  have v := ha.val X sc x g h
  refine (((pi_list v).orr (pi_tup v)).orr (pi_keys v)).wk fun σ H Q w => ?_
  obtain ⟨b, S, ls, J, S', r, rl, e, q⟩ := w
  obtain ⟨d, S1, e1, e⟩ := bind_ok e
  have core : ∀ (t : TE) (hh : ∀ R, (∀ v H' b', Post G H b H' b' S1 → RV G H' b' d v → R v H') → t σ H R), True := fun _ _ => trivial
  rw [g.eK]
  cases d with
  | tup ds =>
    obtain ⟨rfl, rfl⟩ := ok_inj e
    refine .inl (.inr ⟨b, S, ls, r, rl, _, _, e1, fun v H' b' p rv => ?_⟩)
    obtain ⟨a, vs, rfl, hq, kv⟩ := rv_tup.mp rv
    exact ⟨a, rfl, ⟨vs, hq⟩, q _ H' b' p (walks_tup hq kv)⟩
  | rol ds =>
    obtain ⟨rfl, rfl⟩ := ok_inj e
    refine .inl (.inl ⟨b, S, ls, r, rl, _, _, e1, fun v H' b' p rv => ?_⟩)
    obtain ⟨a, vs, rfl, hq, kv⟩ := rv_rol.mp rv
    exact ⟨a, rfl, ⟨vs, hq.sql⟩, q _ H' b' p (walks_rol hq kv)⟩
  | ref n =>
    have e : (match S1[n]? with | some (.lst _) => R.ok (ItV.obj n) S1 | some (.dcl _) => R.ok (ItV.keys n) S1 | _ => R.bad) = R.ok J S' := e
    split at e
    · rename_i ds z
      obtain ⟨rfl, rfl⟩ := ok_inj e
      refine .inl (.inl ⟨b, S, ls, r, rl, _, _, e1, fun v H' b' p rv => ?_⟩)
      obtain ⟨a, vs, rfl, hb, hd, kv⟩ := lst_at p.rel rv z
      exact ⟨a, rfl, ⟨vs, SqL.of hd⟩, q _ H' b' p (walks_list hb)⟩
    · rename_i kvs z
      obtain ⟨rfl, rfl⟩ := ok_inj e
      refine .inr ⟨b, S, ls, r, rl, _, _, e1, fun v H' b' p rv => ?_⟩
      obtain ⟨a, ob, ws, rfl, hb, hd, kv⟩ := dcl_at p.rel rv z
      exact ⟨a, ob, rfl, .inl ⟨ws, hd, q _ H' b' p (walks_keys hb hd)⟩⟩
    · cases e
  | _ => cases e
theorem snd_qr {a : E} (ha : Snd G F FK m N FT KT a) : Snd G F FK m N FT KT (.qr a) := by
  refine .mkI rfl rfl rfl rfl rfl fun X sc tg x g h => ?_
  simp only [ck] at h
  split at h
  · rename_i y p l pos
    simp only [Bool.and_eq_true, decide_eq_true_eq] at h
    obtain ⟨⟨⟨h1, rfl⟩, h3⟩, h4⟩ := h
    obtain ⟨hg, hd⟩ := gl_of g.esc h1
    have s1 := star_of (e := l) (by simpa using h3) [] X.env
    refine (pi_range1 hg (g.mgb _ (by decide)) (pa_cons (ha.val X sc l g h4) pa_nil s1) s1).wk fun σ H Q w => ?_
    obtain ⟨b, S, ls, J, S', r, rl, e, q⟩ := w
    obtain ⟨d, S1, e1, e⟩ := bind_ok e
    refine ⟨b, S, ls, r, rl, d, S1, e1, fun v H' b' p rv => ?_⟩
    cases d with
    | int i =>
      have e : (if -(2 ^ 62) ≤ i ∧ i < 2 ^ 62 then R.ok (ItV.rng 0 i.toNat) S1 else R.bad) = R.ok J S' := e
      split at e
      · rename_i c
        obtain ⟨rfl, rfl⟩ := ok_inj e
        obtain rfl := rv_int.mp rv
        exact ⟨i, rfl, c.1, c.2, q _ H' b' p walks_rng⟩
      · cases e
    | _ => cases e
  · cases h
theorem snd_qr2 {a c : E} (ha : Snd G F FK m N FT KT a) (hc : Snd G F FK m N FT KT c) : Snd G F FK m N FT KT (.qr2 a c) := by
  refine .mkI rfl rfl rfl rfl rfl fun X sc tg x g h => ?_
  simp only [ck] at h
  split at h
  · rename_i y p l r2 pos
    simp only [Bool.and_eq_true, decide_eq_true_eq] at h
    obtain ⟨⟨⟨⟨⟨h1, rfl⟩, h3⟩, h4⟩, h5⟩, h6⟩ := h
    obtain ⟨hg, hd⟩ := gl_of g.esc h1
    have s2 := star_of (e := r2) (by simpa using h4) [] X.env
    have s1 : starEach [l, r2] X.env = [(false, eval l X.env), (false, eval r2 X.env)] := by rw [star_of (by simpa using h3), s2]; rfl
    have s3 : starEach [l, r2] X.env = (false, eval l X.env) :: starEach [r2] X.env := star_of (by simpa using h3) _ _
    refine (pi_range2 hg (g.mgb _ (by decide)) (pa_cons (ha.val X sc l g h5) (pa_cons (hc.val X sc r2 g h6) pa_nil s2) s3) s1 s2).wk fun σ H Q w => ?_
    obtain ⟨b, S, ls, J, S', r, rl, e, q⟩ := w
    obtain ⟨d, S1, e1, e⟩ := bind_ok e
    obtain ⟨d2, S2, e2, e⟩ := bind_ok e
    refine ⟨b, S, ls, r, rl, d, S1, e1, fun v H1 b1 p1 rv1 => ⟨b1, S1, ls, p1.rel, p1.rl rl, d2, S2, e2, fun v2 H2 b2 p2 rv2 => ?_⟩⟩
    cases d with
    | int i =>
      cases d2 with
      | int j =>
        have e : (if -(2 ^ 62) ≤ i ∧ i < 2 ^ 62 ∧ -(2 ^ 62) ≤ j ∧ j < 2 ^ 62 then R.ok (ItV.rng i (j - i).toNat) S2 else R.bad) = R.ok J S' := e
        split at e
        · rename_i c
          obtain ⟨rfl, rfl⟩ := ok_inj e
          obtain rfl := rv_int.mp rv1
          obtain rfl := rv_int.mp rv2
          exact ⟨i, j, rfl, c, q _ H2 b2 (p1.trans p2) walks_rng⟩
        · cases e
      | _ => cases e
    | _ => cases e
  · cases h
/-! ### comprehensions -/
theorem own_sto {X : Cx} {s : Shared} {H : Hp} {scope : Scope} {cl : List (Str × Addr)} {C : Addr} {fp : List Addr} {y : Str} (h : ownC scope y = true) : Sto (X.blk s H scope (compEnvC scope cl C X.env) fp) y := by
  unfold ownC at h
  split at h
  · rename_i e
    have q := lookup_relS_keep (sc := X.env.scope) (k := .local) (by simp) e
    exact ⟨.inl q, .inr q⟩
  · rename_i e
    have q := lookup_relS_keep (sc := X.env.scope) (k := .cell) (by simp) e
    exact ⟨.inr q, .inl (by show (scope.names.lookup y == some .cell) = true; rw [e]; rfl)⟩
  · cases h
theorem cond_of {e : E} (he : Snd G F FK m N FT KT e) {X : Cx} {sc : Scope} (g : Stand G F FK N FT KT sc X) {ifs : List Expr} (h : (match ifs with | [] => (ck N FT KT e).nl | [y] => !(ck N FT KT e).nl && (ck N FT KT e).e sc y | _ => false) = true) :
    PTs X ifs (tT G fun ls S => (ev F FK m e).cond ls S) := by
  split at h
  · have e1 : (ev F FK m e).nl = true := by rw [← he.nlq]; exact h
    refine pts_nil.wk fun σ H Q ⟨b, S, ls, k, S', r, rl, w, q⟩ => ?_
    have w : (if (ev F FK m e).nl = true then R.ok true S else (ev F FK m e).tst ls S) = R.ok k S' := w
    rw [if_pos e1] at w
    obtain ⟨rfl, rfl⟩ := ok_inj w
    exact q H b (Post.refl r)
  · rename_i y
    rw [Bool.and_eq_true] at h
    have e1 : ¬ (ev F FK m e).nl = true := by rw [← he.nlq]; simpa using h.1
    refine (pts_one (he.tst X sc y g h.2)).wk fun σ H Q ⟨b, S, ls, k, S', r, rl, w, q⟩ => ?_
    have w : (if (ev F FK m e).nl = true then R.ok true S else (ev F FK m e).tst ls S) = R.ok k S' := w
    rw [if_neg e1] at w
    exact ⟨b, S, ls, k, S', r, rl, w, q⟩
  · cases h
/-- a comprehension's turns -/
theorem lc_of {own : List (Str × Nat)} {t : Tg} {fi : Ls → Store → R ItV} {fc : Ls → Store → R Bool} {fe : Ls → Store → R D} {σ : L2.St} {H : Hp} {Q : VK} (hv : ∀ i ∈ slotsT t, i ∈ own.map (·.2))
    (h : tE G (fun ls S => (fi ls S).bind fun J S1 => lcL (fun d S ls => asgT t d S ls) fc fe J S1.length (wipeD ls (own.map (·.2))) m 0 (S1 ++ [.lst []])) σ H Q) : tLc (tI G fi) (tG G t) (tT G fc) (tE G fe) (own.map (·.2)) σ H Q := by
  obtain ⟨b, S, ls, r, rl, w⟩ := h
  obtain ⟨J, S1, e1, w⟩ := want_bind w
  refine ⟨b, S, ls, J, S1, r, rl, e1, fun T H1 b1 p1 wk D hD => ?_⟩
  have w := w.mono p1
  obtain ⟨pn, rn⟩ := p1.rel.newL hD RVs.nil
  have w := w.mono pn
  have rl1 := (pn.rl (p1.rl rl)).wipe (own.map (·.2))
  generalize wipeD ls (own.map (·.2)) = wl at w rl1
  generalize hb0 : b1 ++ [D] = b0 at *
  generalize hH0 : upd H1 D (.lst []) = H0 at *
  generalize hr : S1.length = rr at *
  generalize S1 ++ [.lst []] = S2 at *
  have w0 := wk
  refine ⟨fun i mm Hc => ∃ bc Sc, Post G H0 b0 Hc bc Sc ∧ Want G Hc bc (lcL (fun d S ls => asgT t d S ls) fc fe J rr wl mm i Sc) Q, ⟨m, b0, S2, Post.refl pn.rel, w⟩, ?_⟩
  rintro i mm Hc ⟨bc, Sc, pc, w⟩
  have pt := pn.trans pc
  cases mm with
  | zero => exact (want_bad w).elim
  | succ mm =>
    obtain ⟨w1, w2⟩ := wk i Hc bc Sc pc.rel pt.old pt.grow pt.frz
    unfold lcL at w
    split at w
    · exact (want_bad w).elim
    · rename_i e2
      exact .inl ⟨w1 e2, want_here pc.rel w (pc.rv rn)⟩
    · rename_i d e2
      obtain ⟨g1, g2⟩ := w2 d e2
      refine .inr ⟨g1, fun H' => ∃ bc Sc, Post G H0 b0 H' bc Sc ∧ Want G H' bc (lcL (fun d S ls => asgT t d S ls) fc fe J rr wl mm (i + 1) Sc) Q, fun H' hn => ⟨mm, Nat.lt_succ_self _, hn⟩, fun x H2 hy => ?_⟩
      obtain ⟨b2, p2, rv2⟩ := g2 x H2 hy
      have w := w.mono p2
      have p02 := pc.trans p2
      split at w
      · exact (want_bad w).elim
      · rename_i ls1 e3
        refine ⟨b2, Sc, wl, d, ls1, p02.rel, p02.rl rl1, rv2, e3, fun σ3 rl3 kp => ⟨(kp _ hv).trans (wipe_wipe _), ?_⟩⟩
        split at w
        · rename_i S3 e4
          refine ⟨b2, Sc, ls1, true, S3, p02.rel, rl3, e4, fun H3 b3 p3 => ?_⟩
          show (if true = true then _ else _)
          rw [if_pos rfl]
          have p03 := p02.trans p3
          have w := w.mono p3
          split at w
          · rename_i y S4 e5
            refine ⟨b3, S3, ls1, p3.rel, p3.rl rl3, y, S4, e5, fun v H4 b4 p4 rv4 => ?_⟩
            have w := w.mono p4
            have p04 := p03.trans p4
            split at w
            · rename_i acc e6
              split at w
              · rename_i hl
                obtain ⟨a, vs, q1, bn, hd, kv⟩ := lst_at p4.rel (p04.rv rn) e6
                cases q1
                have p5 := p4.rel.setL bn hd (kv.append (RVs.cons rv4 RVs.nil))
                exact ⟨vs, hd, by rw [← kv.length]; exact hl, b4, _, p04.trans p5, w.mono p5⟩
              · exact (want_bad w).elim
            · exact (want_bad w).elim
          · exact (want_exc w).elim
          · exact (want_bad w).elim
        · rename_i S3 e4
          refine ⟨b2, Sc, ls1, false, S3, p02.rel, rl3, e4, fun H3 b3 p3 => ?_⟩
          show (if false = true then _ else _)
          rw [if_neg Bool.false_ne_true]
          exact ⟨b3, S3, p02.trans p3, w.mono p3⟩
        · exact (want_exc w).elim
        · exact (want_bad w).elim
theorem fold_of {e : Expr} (h : isSetE e = false) (env : Env) : ∀ x, foldedSetIterable e env x = pure x := by
  intro x
  cases e <;> first | rfl | (simp [isSetE] at h)
theorem snd_lc {own : List (Str × Nat)} {t : Tg} {it c e : E} (hi : Snd G F FK m N FT KT it) (hc : Snd G F FK m N FT KT c) (he : Snd G F FK m N FT KT e) : Snd G F FK m N FT KT (.lc own t it c e) := by
  have val : ∀ (X : Cx) (sc : Scope) (x : Expr), Stand G F FK N FT KT sc X → (ck N FT KT (.lc own t it c e)).e sc x = true → PE X x (tE G (ev F FK m (.lc own t it c e)).val) ∧ PT X x (tT G (ev F FK m (.lc own t it c e)).tst) := fun X sc x g h => by
    simp only [ck] at h
    split at h
    · rename_i elt tg iter ifs scope pos
      rw [Bool.and_eq_true, Bool.and_eq_true, Bool.and_eq_true, Bool.and_eq_true, Bool.and_eq_true, Bool.and_eq_true] at h
      obtain ⟨⟨⟨⟨⟨⟨h1, h2⟩, h3⟩, h4⟩, h5⟩, h6⟩, h7⟩ := h
      have hv : ∀ i ∈ slotsT t, i ∈ own.map (·.2) := fun i hi => by
        have := List.all_eq_true.mp h3 i hi
        exact of_decide_eq_true this
      refine ⟨?v, tst_of g.eK ?v fun _ => rfl⟩
      refine (pe_lc g.calm (by rw [g.eN]; exact g.nd) (hi.itv X sc tg iter g h4) (by rw [g.eN, g.esc]; exact blkOk_by h1)
        (fun s H C cl fp => snd_T (X := X.blk s H scope (compEnvC scope cl C X.env) fp) g.eN g.nd g.calm g.eK (fun y hy => own_sto hy) t tg h2)
        (fun s H C cl fp => cond_of hc (g.blk s H scope cl C fp) h6)
        (fun s H C cl fp => he.val _ _ elt (g.blk s H scope cl C fp) h7) (fold_of (by simpa using h5) X.env)).wk fun σ H Q w => lc_of hv w
    · cases h
  exact .mk' rfl rfl rfl rfl rfl (fun X sc x g h => (val X sc x g h).1) fun X sc x g h => (val X sc x g h).2

/-- the dict of a variable locked -/
theorem lock_of {i n : Nat} {H : Hp} {b : List Addr} {S : Store} {ls : Ls} {σ : L2.St} {kvs : List (Key × D)} (r : Rel G H b S) (rl : RL G H b ls σ) (h1 : ls[i]? = some (some (.ref n))) (h2 : S[n]? = some (.dct kvs)) :
    ∃ (a : Addr) (ws : List (Key × V)), b[n]? = some a ∧ H a = some (.dK ws) ∧ ∀ od, Post G H b (upd H a (.frz od (.dK ws))) b (S.set n (.dcl kvs)) ∧
      ∀ {H' : Hp} {b' : List Addr} {S' : Store} {kvs' : List (Key × D)}, Post G (upd H a (.frz od (.dK ws))) b H' b' S' → S'[n]? = some (.dcl kvs') → H' a = some (.frz od (.dK ws)) ∧ Post G H b (upd H' a (.dK ws)) b' (S'.set n (.dct kvs')) ∧ Grow H' (upd H' a (.dK ws)) := by
  obtain ⟨v, _, rv⟩ := rl.at_ i _ h1
  obtain ⟨a, ws, rfl, bn, hd, kv⟩ := dct_at r rv h2
  have ko := dct_ok r rv h2
  refine ⟨a, ws, bn, hd, fun od => ?_⟩
  have g1 : Grow H (upd H a (.frz od (.dK ws))) := Grow.set hd rfl
  have p1 : Post G H b (upd H a (.frz od (.dK ws))) b (S.set n (.dcl kvs)) := r.set bn hd (fun _ _ z => by cases z) ⟨od, ws, upd_same, kv.mono (Old.refl b) g1, ko⟩
  refine ⟨p1, fun {H' b' S' kvs'} p2 hs => ?_⟩
  have hw := p2.frz a od ws upd_same
  have g2 : Grow H' (upd H' a (.dK ws)) := Grow.set hw rfl
  refine ⟨hw, ⟨p2.rel.unlock (p2.old n a bn) hs hw, p2.old, (p1.grow.trans p2.grow).trans g2, fun x o k q => ?_⟩, g2⟩
  have hne : x ≠ a := fun e => by rw [e, hd] at q; cases q
  rw [upd_ne hne]
  exact p2.frz x o k (by rw [upd_ne hne]; exact q)
theorem snd_lk {i : Nat} {e : E} (he : Snd G F FK m N FT KT e) : Snd G F FK m N FT KT (.lk i e) := by
  refine .mk' rfl rfl rfl rfl rfl (fun X sc x g h => ?_) fun X sc x g h => ⟨fun pins s σ H Q I ⟨b, S, ls, k, S', r, rl, z, q⟩ => by cases z⟩
  refine (pe_lock (he.val X sc x g h)).wk fun σ H Q w => ?_
  obtain ⟨b, S, ls, r, rl, w⟩ := w
  simp only [ev] at w
  split at w
  · rename_i n h1
    split at w
    · rename_i kvs h2
      obtain ⟨a, ws, bn, hd, hh⟩ := lock_of r rl h1 h2
      refine ⟨a, .dK ws, hd, trivial, fun od => ?_⟩
      obtain ⟨p1, hu⟩ := hh od
      obtain ⟨d, S1, e1, w⟩ := want_bind w
      refine ⟨b, _, ls, p1.rel, p1.rl rl, d, S1, e1, fun v H' b' p2 rv => ?_⟩
      split at w
      · rename_i kvs' hs
        obtain ⟨hw, p3, g3⟩ := hu p2 hs
        exact ⟨hw, want_ok.mp w v _ _ p3 (RV.mono (Old.refl b') g3 _ _ rv)⟩
      · exact (want_bad w).elim
    · exact (want_bad w).elim
  · exact (want_bad w).elim

theorem snd : ∀ e : E, Snd G F FK m N FT KT e
  | .non => snd_non
  | .bl _ => snd_bl
  | .int _ => snd_int
  | .str _ => snd_str
  | .v _ => snd_v
  | .bin _ a b => snd_bin (snd a) (snd b)
  | .neg a => snd_neg (snd a)
  | .no a => snd_no (snd a)
  | .bo _ es => snd_bo (snd es)
  | .cmp _ a b => snd_cmp (snd a) (snd b)
  | .chn _ _ a b c => snd_chn (snd a) (snd b) (snd c)
  | .ite c a b => snd_ite (snd c) (snd a) (snd b)
  | .tup es => snd_tup (snd es)
  | .lst es => snd_lst (snd es)
  | .nil => snd_nil
  | .cons a r => snd_cons (snd a) (snd r)
  | .ix a i => snd_ix (snd a) (snd i)
  | .sl a lo hi => snd_sl (snd a) (snd lo) (snd hi)
  | .dnew => snd_dnew
  | .call _ es => snd_call (snd es)
  | .callk _ _ es eks => snd_callk (snd es) (snd eks)
  | .bi _ es => snd_bi (snd es)
  | .isi _ a => snd_isi (snd a)
  | .mt _ a es => snd_mt (snd a) (snd es)
  | .lc _ _ it c e => snd_lc (snd it) (snd c) (snd e)
  | .lk _ e => snd_lk (snd e)
  | .q a => snd_q (snd a)
  | .qr a => snd_qr (snd a)
  | .qr2 a b => snd_qr2 (snd a) (snd b)
end
end PV

set_option Elab.async false
set_option linter.all false
set_option maxRecDepth 100000
set_option maxHeartbeats 2000000
/-! PV: statements run as their S says. -/
namespace L2
open PySem PySem.Spec PyProof.Rows
section
variable {X : Cx}
theorem PS.wk {st : Stmt} {t t' : TS} (h : PS X st t) (k : ∀ D σ H, t' D σ H → t D σ H) : PS X st t' := ⟨fun pins s σ H D I w => h.run pins s σ H D I (k D σ H w)⟩
theorem PSs.wk {st : List Stmt} {t t' : TS} (h : PSs X st t) (k : ∀ D σ H, t' D σ H → t D σ H) : PSs X st t' := ⟨fun pins s σ H D I w => h.run pins s σ H D I (k D σ H w)⟩
end
end L2
namespace PV
open PySem PySem.Spec PyProof.Rows L2
section
variable {G : Gb} {X : Cx}
theorem get_D (hK : X.K = G.K) (hu : X.A.units + 1 < cLine) : PGet X (rOp G fun x y S => opt (ixR x y S) S) := by
  intro pins s σ H x y v u Q I rx ry h
  obtain ⟨b, S, dx, dy, r, h1, h2, w⟩ := h
  obtain ⟨d, e, q⟩ := opt_d w
  have dict : ∀ {p : Addr} {ws : List (Key × V)} {kvs : List (Key × D)} {z : Key}, x = .ref p → y = kV z → Rd H p (.dK ws) → RKs G H b kvs ws → valG kvs z = some d →
      wpAny (model X.prog X.w) X.A (getItem v u) (EP X pins σ Q) X.xe s := by
    intro p ws kvs z ex ey hd kv hz
    subst ex ey
    obtain rfl : v = Value.ref p := rx
    rcases kv.val z with ⟨a, _⟩ | ⟨d', v', a, c, rv⟩
    · rw [hz] at a; cases a
    · rw [hz] at a
      cases a
      have g : DGet H p (kV z) (some v') := .inl ⟨ws, z, hd, rfl, c.symm⟩
      exact d_getItem hu I g ry fun w' s' I' rw' => ⟨v', H, I', rw', q _ _ _ (Post.refl r) rv⟩
  cases dx with
  | ref n =>
    cases dy with
    | int k =>
      have ey : y = kV (.inl k) := rv_int.mp h2
      simp only [ixR, ixD] at e
      split at e
      · rename_i ds z
        obtain ⟨a, vs, rfl, _, hd, kv⟩ := lst_at r h1 z
        obtain rfl := rv_int.mp h2
        obtain ⟨v', e1, e2⟩ := atI_ok kv e
        cases rx
        obtain ⟨t, rfl⟩ := ry
        obtain ⟨its, rr, pl, hz⟩ := I.list (SqL.of hd)
        obtain ⟨j, g1, g2, g3, g4, g5⟩ := atI_get e1
        obtain ⟨w, ew, rw'⟩ := rr.get g2
        have hl := rr.length
        have hn := line63
        have fin : EP X pins σ Q w s := ⟨v', H, I, rw', q _ _ _ (Post.refl r) e2⟩
        by_cases h0 : 0 ≤ k
        · have hj : k.toNat = j := by
            rw [seqIndex_of h0 g5] at g1
            exact Option.some.inj g1
          exact wpAny_getItem_list pl.isList h0 (by omega) (by rw [hj]; simpa using ew) fin
        · have hj : (k + (its.toArray.size : Int)).toNat = j := by
            rw [seqIndex_neg (by omega) g4] at g1
            rw [List.size_toArray, ← hl]
            exact Option.some.inj g1
          exact wpAny_getItem_list_neg pl.isList (by omega) (by rw [List.size_toArray] <;> omega) (by omega) (by rw [hj]; simpa using ew) fin
      · rename_i kvs z
        obtain ⟨a, ws, ex, _, hd, kv⟩ := dct_at r h1 z
        exact dict ex ey (.inl hd) kv e
      · rename_i kvs z
        obtain ⟨a, ob, ws, ex, _, hd, kv⟩ := dcl_at r h1 z
        exact dict ex ey (.inr ⟨ob, hd⟩) kv e
      · cases e
    | str k =>
      have ey : y = kV (.inr k) := (rv_str.mp h2).1
      simp only [ixR, ixD] at e
      split at e
      · rename_i kvs z
        obtain ⟨a, ws, ex, _, hd, kv⟩ := dct_at r h1 z
        exact dict ex ey (.inl hd) kv e
      · rename_i kvs z
        obtain ⟨a, ob, ws, ex, _, hd, kv⟩ := dcl_at r h1 z
        exact dict ex ey (.inr ⟨ob, hd⟩) kv e
      · cases e
    | _ => simp [ixR, ixD] at e
  | _ => simp [ixR] at e

/-! ### how a block ends -/
def WantS (G : Gb) (H : Hp) (b : List Addr) (r : R Fl) (D : Ends) : Prop :=
  ∃ fl S', r = .ok fl S' ∧ match fl with
    | .next ls' => ∀ H' b' σ', Post G H b H' b' S' → RL G H' b' ls' σ' → D.nx σ' H'
    | .brk ls' => ∀ H' b' σ', Post G H b H' b' S' → RL G H' b' ls' σ' → D.bk σ' H'
    | .cont ls' => ∀ H' b' σ', Post G H b H' b' S' → RL G H' b' ls' σ' → D.ct σ' H'
    | .ret d => ∀ v H' b', Post G H b H' b' S' → RV G H' b' d v → D.rt v H'
def tS (G : Gb) (f : Ls → Store → R Fl) : TS := fun D σ H => ∃ b S ls, Rel G H b S ∧ RL G H b ls σ ∧ WantS G H b (f ls S) D
theorem WantS.mono {H H1 : Hp} {b b1 : List Addr} {S1 : Store} {r : R Fl} {D : Ends} (p : Post G H b H1 b1 S1) (w : WantS G H b r D) : WantS G H1 b1 r D := by
  obtain ⟨fl, S', e, q⟩ := w
  refine ⟨fl, S', e, ?_⟩
  cases fl with
  | next ls' => exact fun H' b' σ' p' rl => q H' b' σ' (p.trans p') rl
  | brk ls' => exact fun H' b' σ' p' rl => q H' b' σ' (p.trans p') rl
  | cont ls' => exact fun H' b' σ' p' rl => q H' b' σ' (p.trans p') rl
  | ret d => exact fun v H' b' p' rv => q v H' b' (p.trans p') rv
theorem wantS_bind {α : Type} {H : Hp} {b : List Addr} {r : R α} {k : α → Store → R Fl} {D : Ends} (w : WantS G H b (r.bind k) D) : ∃ x S1, r = .ok x S1 ∧ WantS G H b (k x S1) D := by
  obtain ⟨fl, S', e, q⟩ := w
  obtain ⟨x, S1, e1, e2⟩ := bind_ok e
  exact ⟨x, S1, e1, fl, S', e2, q⟩
theorem wantS_bad {H : Hp} {b : List Addr} {D : Ends} : ¬ WantS G H b .bad D := fun ⟨_, _, e, _⟩ => by cases e
theorem wantS_exc {H : Hp} {b : List Addr} {D : Ends} {c : Nat} {ds : List PV.D} {S : Store} : ¬ WantS G H b (.exc c ds S) D := fun ⟨_, _, e, _⟩ => by cases e
theorem wantS_next {H : Hp} {b : List Addr} {D : Ends} {ls : Ls} {S : Store} (w : WantS G H b (.ok (.next ls) S) D) : ∀ H' b' σ', Post G H b H' b' S → RL G H' b' ls σ' → D.nx σ' H' := by
  obtain ⟨fl, S', e, q⟩ := w
  cases e
  exact q
theorem wantS_brk {H : Hp} {b : List Addr} {D : Ends} {ls : Ls} {S : Store} (w : WantS G H b (.ok (.brk ls) S) D) : ∀ H' b' σ', Post G H b H' b' S → RL G H' b' ls σ' → D.bk σ' H' := by
  obtain ⟨fl, S', e, q⟩ := w
  cases e
  exact q
theorem wantS_cont {H : Hp} {b : List Addr} {D : Ends} {ls : Ls} {S : Store} (w : WantS G H b (.ok (.cont ls) S) D) : ∀ H' b' σ', Post G H b H' b' S → RL G H' b' ls σ' → D.ct σ' H' := by
  obtain ⟨fl, S', e, q⟩ := w
  cases e
  exact q
theorem wantS_ret {H : Hp} {b : List Addr} {D : Ends} {d : PV.D} {S : Store} (w : WantS G H b (.ok (.ret d) S) D) : ∀ v H' b', Post G H b H' b' S → RV G H' b' d v → D.rt v H' := by
  obtain ⟨fl, S', e, q⟩ := w
  cases e
  exact q
/-- a value, then the rest -/
theorem st1 {fa : Ls → Store → R D} {k : Ls → D → Store → R Fl} {σ : L2.St} {H : Hp} {D : Ends} {Q : VK} (h : tS G (fun ls S => (fa ls S).bind (k ls)) D σ H)
    (hk : ∀ b S ls d v H1 b1 S1, Rel G H b S → RL G H b ls σ → Post G H b H1 b1 S1 → RV G H1 b1 d v → RL G H1 b1 ls σ → WantS G H1 b1 (k ls d S1) D → Q v H1) : tE G fa σ H Q := by
  obtain ⟨b, S, ls, r, rl, w⟩ := h
  obtain ⟨d, S1, e1, w⟩ := wantS_bind w
  exact ⟨b, S, ls, r, rl, d, S1, e1, fun v H1 b1 p1 rv1 => hk b S ls d v H1 b1 S1 r rl p1 rv1 (p1.rl rl) (w.mono p1)⟩
end

/-! ### the check -/
structure CkS where
  s : Scope → Stmt → Bool := fun _ _ => false
  ss : Scope → List Stmt → Bool := fun _ _ => false
def isComp : Expr → Bool
  | .ListComp _ _ _ _ => true
  | .SetComp _ _ _ _ => true
  | .DictComp _ _ _ _ _ => true
  | _ => false
/-- the stores' order of name = comprehension -/
def swC (x : Expr) (y : Str) (py : Pos) (sc : Scope) : Bool :=
  match x with
  | .ListComp _ _ scope pos => decide (sc.names.lookup y = some .local) && py.line == pos.line && !(scope.names.any fun (n, k) => n == y && (k == .local || k == .cell))
  | .SetComp _ _ _ _ => true
  | .DictComp _ _ _ _ _ => true
  | _ => false
/-- a tuple of constants -/
def notPair (x : Expr) : Bool :=
  match x with
  | .Tuple vs _ _ => vs.all (foldedForSure 8)
  | _ => true
/-- a target that is not a plain local name -/
def notTs (sc : Scope) (es : List Expr) : Bool := es.any fun x => match x with
  | .Name y _ => !decide (sc.names.lookup y = some .local)
  | _ => true
def isSliceN (e : Expr) : Bool := isSlice e
section
variable (N : List Str) (FT : List (Str × Nat × Nat)) (KT : List (Nat × Nat × List Str))
def nmC (sc : Scope) (i : Nat) (y : Str) : Bool := decide (N[i]? = some y) && ownC sc y
def nmL (sc : Scope) (i : Nat) (y : Str) : Bool := decide (N[i]? = some y) && decide (sc.names.lookup y = some .local)
def ckS : S → CkS
  | .nil => { ss := fun _ xs => xs.isEmpty }
  | .cons a r => { ss := fun sc xs => match xs with | x :: rest => (ckS a).s sc x && (ckS r).ss sc rest | [] => false }
  | .ex e => { s := fun sc x => match x with | .Expr y _ => !isComp y && (ck N FT KT e).e sc y | _ => false }
  | .set i e => { s := fun sc x => match x with | .Assign [.Name y py] v _ => nmC N sc i y && !swC v y py sc && (ck N FT KT e).e sc v | _ => false }
  | .slc i own t it c e => { s := fun sc x => match x with
      | .Assign [.Name y py] (.ListComp elt [⟨tg, iter, ifs, 0⟩] scope pos) _ => nmL N sc i y && swC (.ListComp elt [⟨tg, iter, ifs, 0⟩] scope pos) y py sc && (ck N FT KT (.lc own t it c e)).e sc (.ListComp elt [⟨tg, iter, ifs, 0⟩] scope pos)
      | _ => false }
  | .asg t e => { s := fun sc x => match x with | .Assign [.Tuple es k p] v _ => ckT N (ownC sc) t (.Tuple es k p) && (notPair v || notTs sc es) && (ck N FT KT e).e sc v | _ => false }
  | .par2 i j a b => { s := fun sc x => match x with
      | .Assign [.Tuple [.Name y py, .Name z pz] _ _] (.Tuple [l, r] _ _) _ => nmL N sc i y && nmL N sc j z && !(i == j) && !(y == z) && py.line == pz.line && !isStar l && !isStar r && !([l, r].all (foldedForSure 8)) && !([l, r].all (constantsAlone 8)) && (ck N FT KT a).e sc l && (ck N FT KT b).e sc r
      | _ => false }
  | .par3 i j l a b c => { s := fun sc x => match x with
      | .Assign [.Tuple [.Name y py, .Name z pz, .Name w pw] _ _] (.Tuple [u1, u2, u3] _ _) _ => nmL N sc i y && nmL N sc j z && nmL N sc l w && !(i == j) && !(i == l) && !(j == l) && !(y == z) && !(y == w) && !(z == w) && py.line == pz.line && py.line == pw.line && !isStar u1 && !isStar u2 && !isStar u3 &&
          !([u1, u2, u3].all (foldedForSure 8)) && !([u1, u2, u3].all (constantsAlone 8)) && (ck N FT KT a).e sc u1 && (ck N FT KT b).e sc u2 && (ck N FT KT c).e sc u3
      | _ => false }
  | .aug i o e => { s := fun sc x => match x with | .AugAssign (.Name y _) p v _ => nmC N sc i y && decide (p = bop o) && (ck N FT KT e).e sc v | _ => false }
  | .six a i e => { s := fun sc x => match x with | .Assign [.Subscript l r _] v _ => !isSlice r && !isComp v && (ck N FT KT e).e sc v && (ck N FT KT a).e sc l && (ck N FT KT i).e sc r | _ => false }
  | .aix a i o e => { s := fun sc x => match x with | .AugAssign (.Subscript l r _) p v _ => !isSlice r && decide (p = bop o) && (ck N FT KT a).e sc l && (ck N FT KT i).e sc r && (ck N FT KT e).e sc v | _ => false }
  | .ite c a b => { s := fun sc x => match x with | .If t l r _ => (ck N FT KT c).e sc t && (ckS a).ss sc l && (ckS b).ss sc r | _ => false }
  | .whl c b => { s := fun sc x => match x with | .While t l [] _ => (ck N FT KT c).e sc t && (ckS b).ss sc l | _ => false }
  | .for t it b => { s := fun sc x => match x with | .For tg iter l [] _ => ckT N (ownC sc) t tg && !isSetE iter && (ck N FT KT it).it sc iter && (ckS b).ss sc l | _ => false }
  | .ret e => { s := fun sc x => match x with | .Return (some v) _ => (ck N FT KT e).e sc v | _ => false }
  | .retN => { s := fun sc x => match x with | .Return none _ => true | _ => false }
  | .brk => { s := fun sc x => match x with | .Break _ => true | _ => false }
  | .cnt => { s := fun sc x => match x with | .Continue _ => true | _ => false }
  | .pas => { s := fun sc x => match x with | .Pass _ => true | .Expr (.Constant (.str _) _ _) _ => true | _ => false }
  | .lks _ s => { s := fun sc x => (ckS s).s sc x }
  | .non => {}
end

structure StandS (G : Gb) (F : Nat → List D → Store → R D) (FK : Nat → List Str → List D → List D → Store → R D) (N : List Str) (FT : List (Str × Nat × Nat)) (KT : List (Nat × Nat × List Str)) (sc : Scope) (X : Cx) : Prop extends Stand G F FK N FT KT sc X where
  own : PassesOwn (model X.prog X.w) X.A X.env X.xe
  kind : sc.kind = .function
  fn : ∀ y, X.fn y = true

section
variable {G : Gb} {F : Nat → List D → Store → R D} {FK : Nat → List Str → List D → List D → Store → R D} {m : Nat} {N : List Str} {FT : List (Str × Nat × Nat)} {KT : List (Nat × Nat × List Str)}
structure SndS (G : Gb) (F : Nat → List D → Store → R D) (FK : Nat → List Str → List D → List D → Store → R D) (m : Nat) (N : List Str) (FT : List (Str × Nat × Nat)) (KT : List (Nat × Nat × List Str)) (t : S) : Prop where
  s : ∀ (X : Cx) (sc : Scope) (x : Stmt), StandS G F FK N FT KT sc X → (ckS N FT KT t).s sc x = true → PS X x (tS G (exS F FK m t))
  ss : ∀ (X : Cx) (sc : Scope) (xs : List Stmt), StandS G F FK N FT KT sc X → (ckS N FT KT t).ss sc xs = true → PSs X xs (tS G (exS F FK m t))

theorem sto_of {X : Cx} {sc : Scope} (g : StandS G F FK N FT KT sc X) {y : Str} (h : ownC sc y = true) : Sto X y := by
  unfold ownC at h
  rw [← g.esc] at h
  split at h
  · rename_i e
    exact ⟨.inl e, .inr e⟩
  · rename_i e
    exact ⟨.inr e, .inl (g.fn y)⟩
  · cases h
theorem sw_not {v : Expr} {t : Option Expr} {l : Nat} {env : Env} (h : isComp v = false) : swapsWith v t l env = pure false := by
  cases v <;> first | rfl | (simp [isComp] at h)
theorem kind_of {env : Env} (h : env.scope.kind = .function) : env.blockKind = .function := by unfold Env.blockKind; rw [h]; rfl
theorem sw_name {v : Expr} {y : Str} {py : Pos} {l : Nat} {env : Env} (hk : env.scope.kind = .function) (h : swC v y py env.scope = false) : swapsWith v (some (.Name y py)) l env = pure false := by
  cases v with
  | ListComp elt gs scope pos =>
    have kb := kind_of hk
    unfold swapsWith
    simp only [swC] at h
    have ky : (env.kindOf y == some .local) = decide (env.scope.names.lookup y = some .local) := by
      unfold Env.kindOf
      cases q : env.scope.names.lookup y with
      | none => rfl
      | some k => cases k <;> rfl
    simp only [kb, ky, Expr.pos]
    show pure _ = pure false
    rw [show (ScopeKind.function == ScopeKind.function) = true from rfl, Bool.true_and, h]
  | SetComp _ _ _ _ => simp [swC] at h
  | DictComp _ _ _ _ _ => simp [swC] at h
  | _ => rfl
theorem SndS.mk' {t : S} (h : (ckS N FT KT t).ss = fun _ _ => false) (s : ∀ (X : Cx) (sc : Scope) (x : Stmt), StandS G F FK N FT KT sc X → (ckS N FT KT t).s sc x = true → PS X x (tS G (exS F FK m t))) : SndS G F FK m N FT KT t :=
  ⟨s, fun _ _ _ _ k => by rw [h] at k; cases k⟩
theorem eNd {X : Cx} {sc : Scope} (g : Stand G F FK N FT KT sc X) : X.N.Nodup := by rw [g.eN]; exact g.nd
theorem ss_nil : SndS G F FK m N FT KT .nil := ⟨fun X sc x g h => (Bool.false_ne_true h).elim, fun X sc xs g h => by
  have e : xs = [] := List.isEmpty_iff.mp h
  subst e
  exact pss_nil.wk fun D σ H ⟨b, S, ls, r, rl, w⟩ => wantS_next w H b σ (Post.refl r) rl⟩
theorem ss_cons {a r : S} (ha : SndS G F FK m N FT KT a) (hr : SndS G F FK m N FT KT r) : SndS G F FK m N FT KT (.cons a r) := ⟨fun X sc x g h => (Bool.false_ne_true h).elim, fun X sc xs g h => by
  simp only [ckS] at h
  split at h
  · rename_i x rest
    rw [Bool.and_eq_true] at h
    refine (pss_cons (ha.s X sc x g h.1) (hr.ss X sc rest g h.2)).wk fun D σ H ⟨b, S, ls, rr, rl, w⟩ => ⟨b, S, ls, rr, rl, ?_⟩
    obtain ⟨fl, S', e, q⟩ := w
    simp only [exS] at e
    split at e
    · rename_i ls1 S1 e1
      exact ⟨_, _, e1, fun H' b' σ' p rl' => ⟨b', S1, ls1, p.rel, rl', WantS.mono p ⟨fl, S', e, q⟩⟩⟩
    · rename_i hn
      refine ⟨fl, S', e, ?_⟩
      cases fl with
      | next ls' => exact (hn _ _ e).elim
      | brk ls' => exact q
      | cont ls' => exact q
      | ret d => exact q
  · cases h⟩
theorem ss_ex {e : E} : SndS G F FK m N FT KT (.ex e) := .mk' rfl fun X sc x g h => by
  simp only [ckS] at h
  split at h
  · rename_i y p
    rw [Bool.and_eq_true] at h
    refine (ps_expr ((snd (m := m) e).val X sc y g.toStand h.2) (sw_not (by simpa using h.1))).wk fun D σ H w => ?_
    exact st1 w fun b S ls d v H1 b1 S1 r rl p1 rv1 rl1 w => wantS_next w H1 b1 σ (Post.refl p1.rel) rl1
  · cases h
theorem nmC_of {X : Cx} {sc : Scope} (g : StandS G F FK N FT KT sc X) {i : Nat} {y : Str} (h : nmC N sc i y = true) : X.N[i]? = some y ∧ Sto X y := by
  unfold nmC at h
  rw [Bool.and_eq_true] at h
  exact ⟨by rw [g.eN]; exact of_decide_eq_true h.1, sto_of g h.2⟩
theorem nmL_of {X : Cx} {sc : Scope} (g : StandS G F FK N FT KT sc X) {i : Nat} {y : Str} (h : nmL N sc i y = true) : X.N[i]? = some y ∧ X.env.scope.names.lookup y = some .local := by
  unfold nmL at h
  rw [Bool.and_eq_true] at h
  exact ⟨by rw [g.eN]; exact of_decide_eq_true h.1, by rw [g.esc]; exact of_decide_eq_true h.2⟩
theorem eKind {X : Cx} {sc : Scope} (g : StandS G F FK N FT KT sc X) : X.env.scope.kind = .function := by rw [g.esc]; exact g.kind
theorem ss_set {i : Nat} {e : E} : SndS G F FK m N FT KT (.set i e) := .mk' rfl fun X sc x g h => by
  simp only [ckS] at h
  split at h
  · rename_i y py v pos
    simp only [Bool.and_eq_true] at h
    obtain ⟨⟨h1, h2⟩, h3⟩ := h
    obtain ⟨n1, n2, n3⟩ := nmC_of g h1
    refine (ps_set (eNd g.toStand) n1 n2 ((snd (m := m) e).val X sc v g.toStand h3) (sw_name (eKind g) (by rw [g.esc]; simpa using h2)) n3).wk fun D σ H w => ?_
    exact st1 w fun b S ls d v H1 b1 S1 r rl p1 rv1 rl1 w => wantS_next w H1 b1 _ (Post.refl p1.rel) (rl1.set i rv1)
  · cases h
theorem sw_yes {elt : Expr} {gs : List Comprehension} {scope : Scope} {pos py : Pos} {y : Str} {l : Nat} {env : Env} (hk : env.scope.kind = .function) (h : swC (.ListComp elt gs scope pos) y py env.scope = true) : swapsWith (.ListComp elt gs scope pos) (some (.Name y py)) l env = pure true := by
  simp only [swC, Bool.and_eq_true, decide_eq_true_eq] at h
  exact sw_true hk h.1.1 h.1.2 (by simpa using h.2)
theorem ss_slc {i : Nat} {own : List (Str × Nat)} {t : Tg} {it c e : E} : SndS G F FK m N FT KT (.slc i own t it c e) := .mk' rfl fun X sc x g h => by
  simp only [ckS] at h
  split at h
  · rename_i y py elt tg iter ifs scope pos spos
    rw [Bool.and_eq_true, Bool.and_eq_true] at h
    obtain ⟨⟨a1, a2⟩, h⟩ := h
    obtain ⟨n1, n2⟩ := nmL_of g a1
    simp only [ck] at h
    rw [Bool.and_eq_true, Bool.and_eq_true, Bool.and_eq_true, Bool.and_eq_true, Bool.and_eq_true, Bool.and_eq_true] at h
    obtain ⟨⟨⟨⟨⟨⟨h1, h2⟩, h3⟩, h4⟩, h5⟩, h6⟩, h7⟩ := h
    have hv : ∀ i ∈ slotsT t, i ∈ own.map (·.2) := fun i hi => by
      have := List.all_eq_true.mp h3 i hi
      exact of_decide_eq_true this
    refine (ps_setLc g.calm (eNd g.toStand) n1 n2 (sw_yes (eKind g) (by rw [g.esc]; exact a2)) ((snd (m := m) it).itv X sc tg iter g.toStand h4) (by rw [g.eN, g.esc]; exact blkOk_by h1)
        (fun s H C cl fp => snd_T (X := X.blk s H scope (compEnvC scope cl C X.env) fp) g.eN g.nd g.calm g.eK (fun y hy => own_sto hy) t tg h2)
        (fun s H C cl fp => cond_of (snd (m := m) c) (g.toStand.blk s H scope cl C fp) h6)
        (fun s H C cl fp => (snd (m := m) e).val _ _ elt (g.toStand.blk s H scope cl C fp) h7) (fold_of (by simpa using h5) X.env)).wk fun D σ H w => ?_
    refine lc_of (m := m) hv ?_
    exact st1 w fun b S ls d v H1 b1 S1 r rl p1 rv1 rl1 w => wantS_next w H1 b1 _ (Post.refl p1.rel) (rl1.set i rv1)
  · cases h
theorem sole_tup {es : List Expr} {k : Nat} {p : Pos} {v : Expr} {l : Nat} {env : Env} : swapsWithSole [.Tuple es k p] v l env = pure false := by
  cases v <;> rfl
theorem sole_sub {a i : Expr} {p : Pos} {v : Expr} {l : Nat} {env : Env} : swapsWithSole [.Subscript a i p] v l env = pure false := by
  cases v <;> rfl
theorem sole_sub' {a i : Expr} {p : Pos} {v : Expr} {env : Env} : swappedStores [.Subscript a i p] v env = pure none := by
  cases v <;> rfl
theorem unpaired {es : List Expr} {k : Nat} {p : Pos} {v : Expr} {env : Env} (h : notPair v = true) : swappedStores [.Tuple es k p] v env = pure none := by
  cases v with
  | Tuple vs k2 p2 =>
    simp only [notPair] at h
    unfold swappedStores
    simp only [h]
    split <;> try rfl
    split <;> try rfl
    simp
  | _ => rfl
theorem fm_short {f : Expr → Option Str} {p : Expr → Bool} (hp : ∀ x, p x = true → f x = none) : ∀ {es : List Expr}, es.any p = true → (List.filterMap f es).length < es.length
  | [], h => by cases h
  | x :: es, h => by
    have hl := List.length_filterMap_le f es
    rw [List.any_cons, Bool.or_eq_true] at h
    rw [List.filterMap_cons]
    rcases h with h | h
    · rw [hp x h]
      simp only [List.length_cons]
      omega
    · have := fm_short hp h
      cases f x <;> simp only [List.length_cons] <;> omega
theorem unpaired2 {es : List Expr} {k : Nat} {p : Pos} {v : Expr} {env : Env} (h : notTs env.scope es = true) : swappedStores [.Tuple es k p] v env = pure none := by
  cases v with
  | Tuple vs k2 p2 =>
    unfold notTs at h
    unfold swappedStores
    simp only
    split <;> try rfl
    split <;> try rfl
    split <;> try rfl
    rename_i q
    exfalso
    apply q
    rw [Bool.or_eq_true]
    left
    refine bne_iff_ne.mpr (Nat.ne_of_lt (fm_short (fun x hx => ?_) h))
    cases x <;> try rfl
    rename_i y py
    simp only [Bool.not_eq_true', decide_eq_false_iff_not] at hx
    have : (env.kindOf y == some .local) = false := by
      unfold Env.kindOf
      cases hq : env.scope.names.lookup y with
      | none => simp
      | some z => rw [hq] at hx; cases z <;> simp at hx ⊢
    simp [this]
  | _ => rfl
theorem ss_asg {t : Tg} {e : E} : SndS G F FK m N FT KT (.asg t e) := .mk' rfl fun X sc x g h => by
  simp only [ckS] at h
  split at h
  · rename_i es k p v pos
    simp only [Bool.and_eq_true] at h
    obtain ⟨⟨h1, h2⟩, h3⟩ := h
    refine (ps_asg ((snd (m := m) e).val X sc v g.toStand h3) (snd_T g.eN g.nd g.calm g.eK (fun y hy => sto_of g hy) t _ h1) sole_tup ((Bool.or_eq_true _ _ ▸ h2).elim unpaired fun z => unpaired2 (g.esc ▸ z))).wk fun D σ H w => ?_
    refine st1 w fun b S ls d v H1 b1 S1 r rl p1 rv1 rl1 w => ?_
    split at w
    · rename_i ls' e1
      exact ⟨b1, S1, ls, d, ls', p1.rel, rl1, rv1, e1, fun σ' rl' _ => wantS_next w H1 b1 _ (Post.refl p1.rel) rl'⟩
    · exact (wantS_bad w).elim
  · cases h
theorem kd_of {env : Env} {y : Str} (h : env.scope.names.lookup y = some .local) : (env.kindOf y == some .local) = true := by
  unfold Env.kindOf
  rw [h]; rfl
theorem eraseDups2 {y z : Str} (h : y ≠ z) : [y, z].eraseDups = [y, z] := by
  have h2 : (z == y) = false := by simpa using fun e => h e.symm
  rw [List.eraseDups_cons, List.filter_cons]
  rw [h2]
  rfl
theorem hw2 {y z : Str} {py pz pt : Pos} {l r : Expr} {kt k2 : Nat} {pt2 : Pos} {env : Env} (hk : env.scope.kind = .function) (hy : env.scope.names.lookup y = some .local) (hz : env.scope.names.lookup z = some .local) (hn : y ≠ z) (hl : (py.line == pz.line) = true)
    (s1 : isStar l = false) (s2 : isStar r = false) (f1 : [l, r].all (foldedForSure 8) = false) (f2 : [l, r].all (constantsAlone 8) = false) :
    swappedStores [.Tuple [.Name y py, .Name z pz] kt pt] (.Tuple [l, r] k2 pt2) env = pure (some [y, z]) := by
  have hl2 : (pz.line == py.line) = true := by simpa using (by simpa using hl : py.line = pz.line).symm
  have hs : ∀ f : Expr → Bool, f = isStar → [l, r].any f = false := fun f e => by subst e; simp [s1, s2]
  have hf : ∀ f : Expr → Option Str, f (.Name y py) = some y → f (.Name z pz) = some z → List.filterMap f [Expr.Name y py, Expr.Name z pz] = [y, z] := fun f e1 e2 => by simp [e1, e2]
  unfold swappedStores
  simp only [kind_of hk]
  rw [hs _ (by funext e; cases e <;> rfl)]
  rw [hf _ (by simp [kd_of hy, Expr.pos]) (by simpa [kd_of hz, Expr.pos] using hl2)]
  simp only [f1, f2, eraseDups2 hn]
  rfl
theorem ss_par2 {i j : Nat} {a c : E} : SndS G F FK m N FT KT (.par2 i j a c) := .mk' rfl fun X sc x g h => by
  simp only [ckS] at h
  split at h
  · rename_i y py z pz kt pt l r k2 pt2 pos
    simp only [Bool.and_eq_true, Bool.not_eq_true', beq_eq_false_iff_ne] at h
    obtain ⟨⟨⟨⟨⟨⟨⟨⟨⟨⟨h1, h2⟩, h3⟩, h4⟩, h5⟩, h6⟩, h7⟩, h8⟩, h9⟩, h10⟩, h11⟩ := h
    obtain ⟨n1, n2⟩ := nmL_of g h1
    obtain ⟨n3, n4⟩ := nmL_of g h2
    have s1 : starEach [l, r] X.env = (false, eval l X.env) :: starEach [r] X.env := star_of h6 _ _
    refine (ps_par g.calm (eNd g.toStand) n1 n3 h3 n2 n4 (pa_cons ((snd (m := m) a).val X sc l g.toStand h10) (pa_cons ((snd (m := m) c).val X sc r g.toStand h11) pa_nil (star_of h7 _ _)) s1)
      (hw2 (eKind g) n2 n4 h4 h5 h6 h7 h8 h9) sole_tup).wk fun D σ H w => ?_
    obtain ⟨b, S, ls, rr, rl, w⟩ := w
    obtain ⟨d, S1, e1, w⟩ := wantS_bind w
    refine ⟨b, S, ls, rr, rl, d, S1, e1, fun v H1 b1 p1 rv1 => ?_⟩
    obtain ⟨d2, S2, e2, w⟩ := wantS_bind (w.mono p1)
    refine ⟨b1, S1, ls, p1.rel, p1.rl rl, d2, S2, e2, fun u H2 b2 p2 rv2 => ?_⟩
    exact ⟨v, u, rfl, wantS_next (w.mono p2) H2 b2 _ (Post.refl p2.rel) (((p2.rl (p1.rl rl)).set i (p2.rv rv1)).set j rv2)⟩
  · cases h
theorem eraseDups3 {y z w : Str} (h : y ≠ z) (h2 : y ≠ w) (h3 : z ≠ w) : [y, z, w].eraseDups = [y, z, w] := by
  have a : (z == y) = false := by simpa using fun e => h e.symm
  have b : (w == y) = false := by simpa using fun e => h2 e.symm
  rw [List.eraseDups_cons, List.filter_cons, List.filter_cons, a, b]
  have := eraseDups2 h3
  simpa using this
theorem hw3 {y z u : Str} {py pz pu pt : Pos} {l r q : Expr} {kt k2 : Nat} {pt2 : Pos} {env : Env} (hk : env.scope.kind = .function) (hy : env.scope.names.lookup y = some .local) (hz : env.scope.names.lookup z = some .local) (hu : env.scope.names.lookup u = some .local)
    (hn : y ≠ z) (hn2 : y ≠ u) (hn3 : z ≠ u) (hl : (py.line == pz.line) = true) (hl' : (py.line == pu.line) = true)
    (s1 : isStar l = false) (s2 : isStar r = false) (s3 : isStar q = false) (f1 : [l, r, q].all (foldedForSure 8) = false) (f2 : [l, r, q].all (constantsAlone 8) = false) :
    swappedStores [.Tuple [.Name y py, .Name z pz, .Name u pu] kt pt] (.Tuple [l, r, q] k2 pt2) env = pure (some [y, z, u]) := by
  have hl2 : (pz.line == py.line) = true := by simpa using (by simpa using hl : py.line = pz.line).symm
  have hl3 : (pu.line == py.line) = true := by simpa using (by simpa using hl' : py.line = pu.line).symm
  have hs : ∀ f : Expr → Bool, f = isStar → [l, r, q].any f = false := fun f e => by subst e; simp [s1, s2, s3]
  have hf : ∀ f : Expr → Option Str, f (.Name y py) = some y → f (.Name z pz) = some z → f (.Name u pu) = some u → List.filterMap f [Expr.Name y py, Expr.Name z pz, Expr.Name u pu] = [y, z, u] := fun f e1 e2 e3 => by simp [e1, e2, e3]
  unfold swappedStores
  simp only [kind_of hk]
  rw [hs _ (by funext e; cases e <;> rfl)]
  rw [hf _ (by simp [kd_of hy, Expr.pos]) (by simpa [kd_of hz, Expr.pos] using hl2) (by simpa [kd_of hu, Expr.pos] using hl3)]
  simp only [f1, f2, eraseDups3 hn hn2 hn3]
  rfl
theorem ss_par3 {i j k : Nat} {a c e : E} : SndS G F FK m N FT KT (.par3 i j k a c e) := .mk' rfl fun X sc x g h => by
  simp only [ckS] at h
  split at h
  · rename_i y py z pz u pu kt pt l r q k2 pt2 pos
    simp only [Bool.and_eq_true, Bool.not_eq_true', beq_eq_false_iff_ne] at h
    obtain ⟨⟨⟨⟨⟨⟨⟨⟨⟨⟨⟨⟨⟨⟨⟨⟨⟨⟨h1, h2⟩, h2'⟩, h3⟩, h3'⟩, h3''⟩, h4⟩, h4'⟩, h4''⟩, h5⟩, h5'⟩, h6⟩, h7⟩, h7'⟩, h8⟩, h9⟩, h10⟩, h11⟩, h12⟩ := h
    obtain ⟨n1, n2⟩ := nmL_of g h1
    obtain ⟨n3, n4⟩ := nmL_of g h2
    obtain ⟨n5, n6⟩ := nmL_of g h2'
    have s1 : starEach [l, r, q] X.env = (false, eval l X.env) :: starEach [r, q] X.env := star_of h6 _ _
    have s2 : starEach [r, q] X.env = (false, eval r X.env) :: starEach [q] X.env := star_of h7 _ _
    refine (ps_par3 g.calm (eNd g.toStand) n1 n3 n5 h3 h3' h3'' n2 n4 n6 (pa_cons ((snd (m := m) a).val X sc l g.toStand h10) (pa_cons ((snd (m := m) c).val X sc r g.toStand h11) (pa_cons ((snd (m := m) e).val X sc q g.toStand h12) pa_nil (star_of h7' _ _)) s2) s1)
      (hw3 (eKind g) n2 n4 n6 h4 h4' h4'' h5 h5' h6 h7 h7' h8 h9) sole_tup).wk fun D σ H w => ?_
    obtain ⟨b, S, ls, rr, rl, w⟩ := w
    obtain ⟨d, S1, e1, w⟩ := wantS_bind w
    refine ⟨b, S, ls, rr, rl, d, S1, e1, fun v H1 b1 p1 rv1 => ?_⟩
    obtain ⟨d2, S2, e2, w⟩ := wantS_bind (w.mono p1)
    refine ⟨b1, S1, ls, p1.rel, p1.rl rl, d2, S2, e2, fun u H2 b2 p2 rv2 => ?_⟩
    obtain ⟨d3, S3, e3, w⟩ := wantS_bind (w.mono p2)
    refine ⟨b2, S2, ls, p2.rel, p2.rl (p1.rl rl), d3, S3, e3, fun u3 H3 b3 p3 rv3 => ?_⟩
    exact ⟨v, u, u3, rfl, wantS_next (w.mono p3) H3 b3 _ (Post.refl p3.rel) ((((p3.rl (p2.rl (p1.rl rl))).set i (p3.rv (p2.rv rv1))).set j (p3.rv rv2)).set k rv3)⟩
  · cases h
theorem ss_aug {i : Nat} {o : Bo} {e : E} : SndS G F FK m N FT KT (.aug i o e) := .mk' rfl fun X sc x g h => by
  simp only [ckS] at h
  split at h
  · rename_i y py p v pos
    simp only [Bool.and_eq_true, decide_eq_true_eq] at h
    obtain ⟨⟨h1, rfl⟩, h3⟩ := h
    obtain ⟨n1, n2, n3⟩ := nmC_of g h1
    have he := (snd (m := m) e).val X sc v g.toStand h3
    cases o with
    | add =>
      refine (ps_aug (eNd g.toStand) n1 n2 he ip_add n3).wk fun D σ H w => ?_
      obtain ⟨b, S, ls, r, rl, w⟩ := w
      simp only [exS] at w
      split at w
      · rename_i d e0
        obtain ⟨x0, q1, q2⟩ := rl.at_ i d e0
        obtain ⟨d2, S1, e1, w⟩ := wantS_bind w
        refine ⟨x0, q1, b, S, ls, r, rl, d2, S1, e1, fun v H1 b1 p1 rv1 => ?_⟩
        have w := w.mono p1
        split at w
        · obtain rfl := rv_int.mp (p1.rv q2)
          obtain rfl := rv_int.mp rv1
          exact ⟨_, _, rfl, rfl, wantS_next w H1 b1 _ (Post.refl p1.rel) ((p1.rl rl).set i (rv_int.mpr rfl))⟩
        · rename_i hh _ _; cases hh
        · exact (wantS_bad w).elim
      · exact (wantS_bad w).elim
    | sub =>
      refine (ps_aug (eNd g.toStand) n1 n2 he ip_sub n3).wk fun D σ H w => ?_
      obtain ⟨b, S, ls, r, rl, w⟩ := w
      simp only [exS] at w
      split at w
      · rename_i d e0
        obtain ⟨x0, q1, q2⟩ := rl.at_ i d e0
        obtain ⟨d2, S1, e1, w⟩ := wantS_bind w
        refine ⟨x0, q1, b, S, ls, r, rl, d2, S1, e1, fun v H1 b1 p1 rv1 => ?_⟩
        have w := w.mono p1
        split at w
        · rename_i hh _ _; cases hh
        · obtain rfl := rv_int.mp (p1.rv q2)
          obtain rfl := rv_int.mp rv1
          exact ⟨_, _, rfl, rfl, wantS_next w H1 b1 _ (Post.refl p1.rel) ((p1.rl rl).set i (rv_int.mpr rfl))⟩
        · exact (wantS_bad w).elim
      · exact (wantS_bad w).elim
    | _ =>
      refine ps_never.wk fun D σ H w => ?_
      obtain ⟨b, S, ls, r, rl, w⟩ := w
      simp only [exS] at w
      split at w
      · obtain ⟨d2, S1, e1, w⟩ := wantS_bind w
        exact wantS_bad w
      · exact wantS_bad w
  · cases h
theorem ss_six {a i e : E} : SndS G F FK m N FT KT (.six a i e) := .mk' rfl fun X sc x g h => by
  simp only [ckS] at h
  split at h
  · rename_i l r p v pos
    simp only [Bool.and_eq_true, Bool.not_eq_true'] at h
    obtain ⟨⟨⟨⟨h1, h2⟩, h3⟩, h4⟩, h5⟩ := h
    refine (ps_asg ((snd (m := m) e).val X sc v g.toStand h3) (pg_sub ((snd (m := m) a).val X sc l g.toStand h4) ((snd (m := m) i).val X sc r g.toStand h5) (set_D (G := G) (by have := g.room; omega)) (by intro _; cases r <;> first | rfl | (simp [isSlice] at h1))) sole_sub sole_sub').wk fun D σ H w => ?_
    obtain ⟨b, S, ls, rr, rl, w⟩ := w
    obtain ⟨d, S1, e1, w⟩ := wantS_bind w
    refine ⟨b, S, ls, rr, rl, d, S1, e1, fun v H1 b1 p1 rv1 => ?_⟩
    obtain ⟨d2, S2, e2, w⟩ := wantS_bind (w.mono p1)
    refine ⟨b1, S1, ls, p1.rel, p1.rl rl, d2, S2, e2, fun u H2 b2 p2 rv2 => ?_⟩
    obtain ⟨d3, S3, e3, w⟩ := wantS_bind (w.mono p2)
    refine ⟨b2, S2, ls, p2.rel, p2.rl (p1.rl rl), d3, S3, e3, fun u3 H3 b3 p3 rv3 => ?_⟩
    obtain ⟨un, S4, e4, w⟩ := wantS_bind (w.mono p3)
    exact ⟨b3, S3, d2, d3, d, S4, p3.rel, p3.rv rv2, rv3, p3.rv (p2.rv rv1), e4, fun H4 b4 p4 => wantS_next (w.mono p4) H4 b4 _ (Post.refl p4.rel) (p4.rl (p3.rl (p2.rl (p1.rl rl))))⟩
  · cases h
theorem ss_aix {a i e : E} {o : Bo} : SndS G F FK m N FT KT (.aix a i o e) := .mk' rfl fun X sc x g h => by
  simp only [ckS] at h
  split at h
  · rename_i l r tp p v pos
    simp only [Bool.and_eq_true, Bool.not_eq_true', decide_eq_true_eq] at h
    obtain ⟨⟨⟨⟨h1, rfl⟩, h3⟩, h4⟩, h5⟩ := h
    have ho := (snd (m := m) a).val X sc l g.toStand h3
    have hi := (snd (m := m) i).val X sc r g.toStand h4
    have he := (snd (m := m) e).val X sc v g.toStand h5
    have hu : X.A.units + 1 < cLine := by have := g.room; omega
    have ha : ∀ ov iv new, augStore r ov iv new = (do holding [new, ov, iv] (setItem ov iv new); release [new, ov, iv] []; pure .next) := by intro _ _ _; cases r <;> first | rfl | (simp [isSlice] at h1)
    cases o with
    | add =>
      refine (ps_augS ho hi (get_D g.eK hu) he ip_add (set_D (G := G) hu) ha).wk fun D σ H w => ?_
      obtain ⟨b, S, ls, rr, rl, w⟩ := w
      obtain ⟨d, S1, e1, w⟩ := wantS_bind w
      refine ⟨b, S, ls, rr, rl, d, S1, e1, fun v H1 b1 p1 rv1 => ?_⟩
      obtain ⟨d2, S2, e2, w⟩ := wantS_bind (w.mono p1)
      refine ⟨b1, S1, ls, p1.rel, p1.rl rl, d2, S2, e2, fun u H2 b2 p2 rv2 => ?_⟩
      have w := w.mono p2
      split at w
      · rename_i x0 e3
        refine ⟨b2, S2, d, d2, p2.rel, p2.rv rv1, rv2, x0, S2, (by show opt (ixR d d2 S2) S2 = _; rw [e3]; rfl), fun v3 H3 b3 p3 rv3 => ?_⟩
        obtain ⟨d4, S4, e4, w⟩ := wantS_bind (w.mono p3)
        refine ⟨b3, S2, ls, p3.rel, p3.rl (p2.rl (p1.rl rl)), d4, S4, e4, fun v4 H4 b4 p4 rv4 => ?_⟩
        have w := w.mono p4
        split at w
        · obtain rfl := rv_int.mp (p4.rv rv3)
          obtain rfl := rv_int.mp rv4
          obtain ⟨un, S5, e5, w⟩ := wantS_bind w
          exact ⟨_, _, rfl, rfl, b4, S4, d, d2, _, S5, p4.rel, p4.rv (p3.rv (p2.rv rv1)), p4.rv (p3.rv rv2), rv_int.mpr rfl, e5, fun H5 b5 p5 => wantS_next (w.mono p5) H5 b5 _ (Post.refl p5.rel) (p5.rl (p4.rl (p3.rl (p2.rl (p1.rl rl)))))⟩
        · rename_i hh _ _; cases hh
        · exact (wantS_bad w).elim
      · exact (wantS_bad w).elim
    | sub =>
      refine (ps_augS ho hi (get_D g.eK hu) he ip_sub (set_D (G := G) hu) ha).wk fun D σ H w => ?_
      obtain ⟨b, S, ls, rr, rl, w⟩ := w
      obtain ⟨d, S1, e1, w⟩ := wantS_bind w
      refine ⟨b, S, ls, rr, rl, d, S1, e1, fun v H1 b1 p1 rv1 => ?_⟩
      obtain ⟨d2, S2, e2, w⟩ := wantS_bind (w.mono p1)
      refine ⟨b1, S1, ls, p1.rel, p1.rl rl, d2, S2, e2, fun u H2 b2 p2 rv2 => ?_⟩
      have w := w.mono p2
      split at w
      · rename_i x0 e3
        refine ⟨b2, S2, d, d2, p2.rel, p2.rv rv1, rv2, x0, S2, (by show opt (ixR d d2 S2) S2 = _; rw [e3]; rfl), fun v3 H3 b3 p3 rv3 => ?_⟩
        obtain ⟨d4, S4, e4, w⟩ := wantS_bind (w.mono p3)
        refine ⟨b3, S2, ls, p3.rel, p3.rl (p2.rl (p1.rl rl)), d4, S4, e4, fun v4 H4 b4 p4 rv4 => ?_⟩
        have w := w.mono p4
        split at w
        · rename_i hh _ _; cases hh
        · obtain rfl := rv_int.mp (p4.rv rv3)
          obtain rfl := rv_int.mp rv4
          obtain ⟨un, S5, e5, w⟩ := wantS_bind w
          exact ⟨_, _, rfl, rfl, b4, S4, d, d2, _, S5, p4.rel, p4.rv (p3.rv (p2.rv rv1)), p4.rv (p3.rv rv2), rv_int.mpr rfl, e5, fun H5 b5 p5 => wantS_next (w.mono p5) H5 b5 _ (Post.refl p5.rel) (p5.rl (p4.rl (p3.rl (p2.rl (p1.rl rl)))))⟩
        · exact (wantS_bad w).elim
      · exact (wantS_bad w).elim
    | _ =>
      refine ps_never.wk fun D σ H w => ?_
      obtain ⟨b, S, ls, rr, rl, w⟩ := w
      obtain ⟨d, S1, e1, w⟩ := wantS_bind w
      obtain ⟨d2, S2, e2, w⟩ := wantS_bind w
      split at w
      · obtain ⟨d4, S4, e4, w⟩ := wantS_bind w
        exact wantS_bad w
      · exact wantS_bad w
  · cases h
/-- a test, then the rest -/
theorem st1t {ft : Ls → Store → R Bool} {k : Ls → Bool → Store → R Fl} {σ : L2.St} {H : Hp} {D : Ends} {Q : Bool → Hp → Prop} (h : tS G (fun ls S => (ft ls S).bind (k ls)) D σ H)
    (hk : ∀ b S ls d H1 b1 S1, Rel G H b S → RL G H b ls σ → Post G H b H1 b1 S1 → RL G H1 b1 ls σ → WantS G H1 b1 (k ls d S1) D → Q d H1) : tT G ft σ H Q := by
  obtain ⟨b, S, ls, r, rl, w⟩ := h
  obtain ⟨d, S1, e1, w⟩ := wantS_bind w
  exact ⟨b, S, ls, d, S1, r, rl, e1, fun H1 b1 p1 => hk b S ls d H1 b1 S1 r rl p1 (p1.rl rl) (w.mono p1)⟩
theorem ss_ite {c : E} {a b : S} (ha : SndS G F FK m N FT KT a) (hb : SndS G F FK m N FT KT b) : SndS G F FK m N FT KT (.ite c a b) := .mk' rfl fun X sc x g h => by
  simp only [ckS] at h
  split at h
  · simp only [Bool.and_eq_true] at h
    obtain ⟨⟨h1, h2⟩, h3⟩ := h
    refine (ps_if ((snd (m := m) c).tst X sc _ g.toStand h1) (ha.ss X sc _ g h2) (hb.ss X sc _ g h3)).wk fun D σ H w => ?_
    refine st1t w fun b S ls d H1 b1 S1 r rl p1 rl1 w => ?_
    cases d with
    | true => exact ⟨b1, S1, ls, p1.rel, rl1, w⟩
    | false => exact ⟨b1, S1, ls, p1.rel, rl1, w⟩
  · cases h
theorem ss_ret {e : E} : SndS G F FK m N FT KT (.ret e) := .mk' rfl fun X sc x g h => by
  simp only [ckS] at h
  split at h
  · refine (ps_ret ((snd (m := m) e).val X sc _ g.toStand h)).wk fun D σ H w => ?_
    exact st1 w fun b S ls d v H1 b1 S1 r rl p1 rv1 rl1 w => wantS_ret w v H1 b1 (Post.refl p1.rel) rv1
  · cases h
theorem ss_retN : SndS G F FK m N FT KT .retN := .mk' rfl fun X sc x g h => by
  simp only [ckS] at h
  split at h
  · exact ps_retN.wk fun D σ H ⟨b, S, ls, r, rl, w⟩ => wantS_ret w .non H b (Post.refl r) (rv_non.mpr rfl)
  · cases h
theorem ss_brk : SndS G F FK m N FT KT .brk := .mk' rfl fun X sc x g h => by
  simp only [ckS] at h
  split at h
  · exact ps_break.wk fun D σ H ⟨b, S, ls, r, rl, w⟩ => wantS_brk w H b σ (Post.refl r) rl
  · cases h
theorem ss_cnt : SndS G F FK m N FT KT .cnt := .mk' rfl fun X sc x g h => by
  simp only [ckS] at h
  split at h
  · exact ps_continue.wk fun D σ H ⟨b, S, ls, r, rl, w⟩ => wantS_cont w H b σ (Post.refl r) rl
  · cases h
theorem ss_pas : SndS G F FK m N FT KT .pas := .mk' rfl fun X sc x g h => by
  simp only [ckS] at h
  split at h
  · exact ps_pass.wk fun D σ H ⟨b, S, ls, r, rl, w⟩ => wantS_next w H b σ (Post.refl r) rl
  · exact ps_doc.wk fun D σ H ⟨b, S, ls, r, rl, w⟩ => wantS_next w H b σ (Post.refl r) rl
  · cases h
theorem ss_non : SndS G F FK m N FT KT .non := .mk' rfl fun X sc x g h => (Bool.false_ne_true h).elim
theorem ss_whl {c : E} {t : S} (hb : SndS G F FK m N FT KT t) : SndS G F FK m N FT KT (.whl c t) := .mk' rfl fun X sc x g h => by
  simp only [ckS] at h
  split at h
  · simp only [Bool.and_eq_true] at h
    refine (ps_while g.own ((snd (m := m) c).tst X sc _ g.toStand h.1) (hb.ss X sc _ g h.2)).wk fun D σ H w => ?_
    obtain ⟨b0, S0, ls0, r0, rl0, w0⟩ := w
    refine ⟨fun mm σ' H' => ∃ b S ls, Rel G H' b S ∧ RL G H' b ls σ' ∧ WantS G H' b (whlL (fun ls S => evT F FK m c ls S) (fun ls S => exS F FK m t ls S) mm ls S) D, ⟨m, b0, S0, ls0, r0, rl0, w0⟩, ?_⟩
    rintro mm σ1 H1 ⟨b1, S1, ls1, r1, rl1, w⟩
    cases mm with
    | zero => exact (wantS_bad w).elim
    | succ mm =>
      unfold whlL at w
      split at w
      · rename_i S2 e2
        refine ⟨b1, S1, ls1, true, S2, r1, rl1, e2, fun H2 b2 p2 => ?_⟩
        show (if true = true then _ else _)
        rw [if_pos rfl]
        have w := w.mono p2
        refine ⟨fun σ' H' => ∃ b S ls, Rel G H' b S ∧ RL G H' b ls σ' ∧ WantS G H' b (whlL (fun ls S => evT F FK m c ls S) (fun ls S => exS F FK m t ls S) mm ls S) D, fun σ' H' hn => ⟨mm, Nat.lt_succ_self _, hn⟩, b2, S2, ls1, p2.rel, p2.rl rl1, ?_⟩
        split at w
        · rename_i ls' S' e3
          exact ⟨_, _, e3, fun H' b' σ' p rl' => ⟨b', S', ls', p.rel, rl', w.mono p⟩⟩
        · rename_i ls' S' e3
          exact ⟨_, _, e3, fun H' b' σ' p rl' => ⟨b', S', ls', p.rel, rl', w.mono p⟩⟩
        · rename_i ls' S' e3
          exact ⟨_, _, e3, fun H' b' σ' p rl' => wantS_next (w.mono p) H' b' σ' (Post.refl p.rel) rl'⟩
        · rename_i n1 n2 n3
          obtain ⟨fl, S', e, q⟩ := w
          refine ⟨fl, S', e, ?_⟩
          cases fl with
          | next ls' => exact (n1 _ _ e).elim
          | brk ls' => exact (n3 _ _ e).elim
          | cont ls' => exact (n2 _ _ e).elim
          | ret d => exact q
      · rename_i S2 e2
        refine ⟨b1, S1, ls1, false, S2, r1, rl1, e2, fun H2 b2 p2 => ?_⟩
        show (if false = true then _ else _)
        rw [if_neg Bool.false_ne_true]
        exact wantS_next (w.mono p2) H2 b2 σ1 (Post.refl p2.rel) (p2.rl rl1)
      · exact (wantS_exc w).elim
      · exact (wantS_bad w).elim
  · cases h
theorem ss_for {t : Tg} {it : E} {bd : S} (hb : SndS G F FK m N FT KT bd) : SndS G F FK m N FT KT (.for t it bd) := .mk' rfl fun X sc x g h => by
  simp only [ckS] at h
  split at h
  · rename_i tg iter l pos
    simp only [Bool.and_eq_true] at h
    obtain ⟨⟨⟨h1, h2⟩, h3⟩, h4⟩ := h
    refine (ps_for g.own g.calm ((snd (m := m) it).itv X sc tg iter g.toStand h3) (snd_T g.eN g.nd g.calm g.eK (fun y hy => sto_of g hy) t tg h1) (hb.ss X sc _ g h4) (fold_of (by simpa using h2) X.env)).wk fun D σ H w => ?_
    obtain ⟨b, S, ls, r, rl, w⟩ := w
    obtain ⟨J, S1, e1, w⟩ := wantS_bind w
    refine ⟨b, S, ls, J, S1, r, rl, e1, fun T H1 b1 p1 wk => ?_⟩
    have w := w.mono p1
    have rl1 := p1.rl rl
    refine ⟨fun i mm σ' Hc => ∃ bc Sc lc, Post G H1 b1 Hc bc Sc ∧ RL G Hc bc lc σ' ∧ WantS G Hc bc (forL (fun d S ls => asgT t d S ls) (fun ls S => exS F FK m bd ls S) J mm i lc Sc) D, ⟨m, b1, S1, ls, Post.refl p1.rel, rl1, w⟩, ?_⟩
    rintro i mm σc Hc ⟨bc, Sc, lc, pc, rlc, w⟩
    cases mm with
    | zero => exact (wantS_bad w).elim
    | succ mm =>
      obtain ⟨w1, w2⟩ := wk i Hc bc Sc pc.rel pc.old pc.grow pc.frz
      unfold forL at w
      split at w
      · exact (wantS_bad w).elim
      · rename_i e2
        exact .inl ⟨w1 e2, wantS_next w Hc bc σc (Post.refl pc.rel) rlc⟩
      · rename_i d e2
        obtain ⟨g1, g2⟩ := w2 d e2
        refine .inr ⟨g1, fun σ' Hc => ∃ bc Sc lc, Post G H1 b1 Hc bc Sc ∧ RL G Hc bc lc σ' ∧ WantS G Hc bc (forL (fun d S ls => asgT t d S ls) (fun ls S => exS F FK m bd ls S) J mm (i + 1) lc Sc) D, fun σ' H' hn => ⟨mm, Nat.lt_succ_self _, hn⟩, fun x H2 hy => ?_⟩
        obtain ⟨b2, p2, rv2⟩ := g2 x H2 hy
        have w := w.mono p2
        have p02 := pc.trans p2
        split at w
        · exact (wantS_bad w).elim
        · rename_i ls1 e3
          refine ⟨b2, Sc, lc, d, ls1, p02.rel, p2.rl rlc, rv2, e3, fun σ3 rl3 kp => ⟨b2, Sc, ls1, p02.rel, rl3, ?_⟩⟩
          split at w
          · rename_i ls' S' e4
            exact ⟨_, _, e4, fun H' b' σ' p rl' => ⟨b', S', ls', p02.trans p, rl', w.mono p⟩⟩
          · rename_i ls' S' e4
            exact ⟨_, _, e4, fun H' b' σ' p rl' => ⟨b', S', ls', p02.trans p, rl', w.mono p⟩⟩
          · rename_i ls' S' e4
            exact ⟨_, _, e4, fun H' b' σ' p rl' => wantS_next (w.mono p) H' b' σ' (Post.refl p.rel) rl'⟩
          · rename_i n1 n2 n3
            obtain ⟨fl, S', e, q⟩ := w
            refine ⟨fl, S', e, ?_⟩
            cases fl with
            | next ls' => exact (n1 _ _ e).elim
            | brk ls' => exact (n3 _ _ e).elim
            | cont ls' => exact (n2 _ _ e).elim
            | ret d => exact q
  · cases h

theorem ss_lks {i : Nat} {t : S} (ht : SndS G F FK m N FT KT t) : SndS G F FK m N FT KT (.lks i t) := .mk' rfl fun X sc x g h => by
  refine (ps_lock (ht.s X sc x g h)).wk fun D σ H w => ?_
  obtain ⟨b, S, ls, r, rl, w⟩ := w
  simp only [exS] at w
  split at w
  · rename_i n h1
    split at w
    · rename_i kvs h2
      obtain ⟨a, ws, bn, hd, hh⟩ := lock_of r rl h1 h2
      refine ⟨a, .dK ws, hd, trivial, fun od => ?_⟩
      obtain ⟨p1, hu⟩ := hh od
      obtain ⟨d, S1, e1, w⟩ := wantS_bind w
      refine ⟨b, _, ls, p1.rel, p1.rl rl, d, S1, e1, ?_⟩
      split at w
      · rename_i kvs' hs
        have fin : ∀ {H' : Hp} {b' : List Addr}, Post G (upd H a (.frz od (.dK ws))) b H' b' S1 → H' a = some (.frz od (.dK ws)) ∧ Post G H b (upd H' a (.dK ws)) b' (S1.set n (.dct kvs')) ∧ Grow H' (upd H' a (.dK ws)) := fun p2 => hu p2 hs
        cases d with
        | next ls' => exact fun H' b' σ' p2 rl' => ⟨(fin p2).1, wantS_next w _ b' σ' (fin p2).2.1 (rl_mono (Old.refl b') (fin p2).2.2 rl')⟩
        | brk ls' => exact fun H' b' σ' p2 rl' => ⟨(fin p2).1, wantS_brk w _ b' σ' (fin p2).2.1 (rl_mono (Old.refl b') (fin p2).2.2 rl')⟩
        | cont ls' => exact fun H' b' σ' p2 rl' => ⟨(fin p2).1, wantS_cont w _ b' σ' (fin p2).2.1 (rl_mono (Old.refl b') (fin p2).2.2 rl')⟩
        | ret d => exact fun v H' b' p2 rv => ⟨(fin p2).1, wantS_ret w v _ b' (fin p2).2.1 (RV.mono (Old.refl b') (fin p2).2.2 _ _ rv)⟩
      · exact (wantS_bad w).elim
    · exact (wantS_bad w).elim
  · exact (wantS_bad w).elim
theorem snd_S : ∀ s : S, SndS G F FK m N FT KT s
  | .nil => ss_nil
  | .cons a r => ss_cons (snd_S a) (snd_S r)
  | .ex _ => ss_ex
  | .set _ _ => ss_set
  | .slc _ _ _ _ _ _ => ss_slc
  | .asg _ _ => ss_asg
  | .par2 _ _ _ _ => ss_par2
  | .par3 _ _ _ _ _ _ => ss_par3
  | .aug _ _ _ => ss_aug
  | .six _ _ _ => ss_six
  | .aix _ _ _ _ => ss_aix
  | .ite _ a b => ss_ite (snd_S a) (snd_S b)
  | .whl _ b => ss_whl (snd_S b)
  | .for _ _ b => ss_for (snd_S b)
  | .ret _ => ss_ret
  | .retN => ss_retN
  | .brk => ss_brk
  | .cnt => ss_cnt
  | .pas => ss_pas
  | .lks _ s => ss_lks (snd_S s)
  | .non => ss_non
end
end PV

set_option Elab.async false
set_option linter.all false
set_option maxRecDepth 100000
set_option maxHeartbeats 2000000
/-! PV: defs, by the depth of calls; the law's end. -/
namespace PV
open PySem PySem.Spec PyProof.Rows L2

/-- a def: how it stands in the text, and in PV -/
structure Fc where
  x : Str
  params : Arguments
  body : List Stmt
  sc : Scope
  dfl : List He.Dv
  N : List Str
  df : Df
def Fc.d (c : Fc) : He.DefD := ⟨(c.x, none), c.x, c.x, c.params, c.body, c.sc, c.dfl, []⟩
def dvB : He.Dv → D → Bool
  | .non, .non => true
  | .bl b, .bl c => b == c
  | .int i, .int j => decide (i = j)
  | .str x, .str y => decide (x = y) && strOk x
  | _, _ => false
def dvBs : List He.Dv → List D → Bool
  | [], [] => true
  | v :: vs, d :: ds => dvB v d && dvBs vs ds
  | _, _ => false
def ftOf (C : List Fc) : List (Str × Nat × Nat) := C.map fun c => (c.x, c.df.np, c.df.dfl.length)
def Fc.ck (FT : List (Str × Nat × Nat)) (KT : List (Nat × Nat × List Str)) (c : Fc) : Bool :=
  C8.scC c.N c.df.ps c.sc && (ckS c.N FT KT c.df.body).ss c.sc c.body && decide (c.df.ps.length = c.df.np) && decide (c.N.length = c.df.nl) && dvBs c.dfl c.df.dfl
section
variable {G : Gb} {H : Hp} {b : List Addr}
theorem dv_ok {K : PySem.W.Frag} {v : He.Dv} {d : D} (h : dvB v d = true) : RV G H b d (v.v K) := by
  cases v <;> cases d <;> simp only [dvB] at h <;> try (cases h; done)
  · exact rv_non.mpr rfl
  · obtain rfl := eq_of_beq h
    exact rv_bl.mpr rfl
  · obtain rfl := of_decide_eq_true h
    exact rv_int.mpr rfl
  · rw [Bool.and_eq_true] at h
    obtain rfl := of_decide_eq_true h.1
    exact rv_str.mpr ⟨rfl, small1000' (of_decide_eq_true h.2)⟩
theorem dvs_ok {K : PySem.W.Frag} : ∀ {vs : List He.Dv} {ds : List D}, dvBs vs ds = true → RVs G H b ds (vs.map (He.Dv.v K))
  | [], [], _ => RVs.nil
  | [], _ :: _, h => by cases h
  | _ :: _, [], h => by cases h
  | v :: vs, d :: ds, h => by
    rw [dvBs, Bool.and_eq_true] at h
    exact RVs.cons (dv_ok h.1) (dvs_ok h.2)
end
/-- n values are written, the defaults fill up -/
def BindC (c : Fc) : Prop := ∀ (K : PySem.W.Frag) (a : Addr) (fd : FuncData), FunD K c.x c.x c.params c.body c.sc (c.dfl.map (He.Dv.v K)) [] a fd → ∀ n, n ≤ c.df.np → c.df.np - n ≤ c.df.dfl.length →
  ∃ ds, Vals ((c.dfl.map (He.Dv.v K)).drop (c.df.dfl.length - (c.df.np - n))) ds ∧ Binds K fd c.df.ps ds
/-- n values are written, the others by their names -/
def KBindC (c : Fc) (n : Nat) (ks : List Str) : Prop := ks = c.df.ps.drop n ∧ ∀ (K : PySem.W.Frag) (a : Addr) (fd : FuncData), FunD K c.x c.x c.params c.body c.sc (c.dfl.map (He.Dv.v K)) [] a fd → KBn K fd c.df.ps n ks (· ++ ·) (· ++ ·)
theorem BindC.of0 {c : Fc} (h0 : c.dfl = []) (h1 : c.df.dfl = [])
    (h : ∀ (kV doc pm : Value) (an : Option Addr) (cdv ct : Value) (us : List Value), us.length = c.df.ps.length → bindArgs (PySem.W.fnOf c.x c.x c.params c.body c.sc .none kV doc pm an cdv ct) ⟨us, []⟩ = pure (c.df.ps.zip us)) : BindC c := fun K a fd F n h2 h3 => by
  rw [h0] at F ⊢
  exact ⟨[], by simpa using (Paired.nil : Vals [] []), FunD.bindsN F h⟩
theorem BindC.of1 {c : Fc} (h0 : c.dfl ≠ []) (hl : c.dfl.length = c.df.dfl.length) (hp : c.df.ps.length = c.df.np)
    (h : ∀ n, n ≤ c.df.np → c.df.np - n ≤ c.df.dfl.length → ∀ (T : Addr) (kV doc pm : Value) (an : Option Addr) (cdv ct : Value) (us its : List Value), us.length = n → its.length = c.dfl.length →
      ∃ k, bindArgs (PySem.W.fnOf c.x c.x c.params c.body c.sc (.ref T) kV doc pm an cdv ct) ⟨us, []⟩ = seqItems? (.ref T) >>= k ∧ k (some its.toArray) = pure (c.df.ps.zip (us ++ its.drop (c.df.dfl.length - (c.df.np - n))))) : BindC c := fun K a fd F n h2 h3 => by
  refine FunD.binds1 F n (c.df.dfl.length - (c.df.np - n)) (by simpa using h0) (by rw [List.length_map, hl]; omega) fun T kV doc pm an cdv ct us its l1 l2 => ?_
  exact h n h2 h3 T kV doc pm an cdv ct us its l1 (by simpa using l2)
theorem KBindC.of0 {c : Fc} {n : Nat} {ks : List Str} (h0 : c.dfl = []) (hk : ks = c.df.ps.drop n)
    (h : ∀ (kV doc pm : Value) (an : Option Addr) (cdv ct : Value) (us ws : List Value), us.length = n → ws.length = ks.length → bindArgs (PySem.W.fnOf c.x c.x c.params c.body c.sc .none kV doc pm an cdv ct) ⟨us, ks.zip ws⟩ = pure (c.df.ps.zip (us ++ ws))) : KBindC c n ks := by
  refine ⟨hk, fun K a fd F => ?_⟩
  rw [h0] at F
  obtain ⟨oc, od, dV, kV, doc, pm, an, cdv, ct, osl, rfl, lk, hcd, hD, hK⟩ := F.ex
  rcases hD with ⟨_, rfl⟩ | ⟨e, _⟩
  · exact ⟨fun s us ws _ l1 l2 => .of_eq (h kV doc pm an cdv ct us ws l1 l2), fun r1 r2 => r1.append r2⟩
  · exact absurd rfl e

/-- what a def promises, n calls deep -/
def spN (G : Gb) (P : List Df) (m n f np : Nat) : Sp := fun vs H Q _ => vs.length = np ∧ ∃ b S ds, Rel G H b S ∧ RVs G H b ds vs ∧ Want G H b (runN P m n f ds S) Q
def callF (P : List Df) (m n : Nat) : Nat → List D → Store → R D := fun f ds S => match P[f]? with
  | some df => match fill df ds with
    | some full => runN P m n f full S
    | none => .bad
  | none => .bad
def callFK (P : List Df) (m n : Nat) : Nat → List Str → List D → List D → Store → R D := fun f ks ds es S => match P[f]? with
  | some df => match fillK df ks ds es with
    | some full => runN P m n f full S
    | none => .bad
  | none => .bad
theorem runN_succ (P : List Df) (m n f : Nat) (ds : List D) (S : Store) : runN P m (n + 1) f ds S = match P[f]? with
    | none => .bad
    | some df => if ds.length = df.np then bodyEnd (exS (callF P m n) (callFK P m n) m df.body (startD df ds) S) else .bad := rfl
section
variable {C : List Fc} {KT : List (Nat × Nat × List Str)} {m : Nat} {prog : Program} {w : World} {base : Heap} {mg : Str → Option Value} {G : Gb}
theorem ft_at {f : Nat} {c : Fc} (h : C[f]? = some c) : (ftOf C)[f]? = some (c.x, c.df.np, c.df.dfl.length) := by
  unfold ftOf
  rw [List.getElem?_map, h]; rfl
theorem of_ft {f : Nat} {y : Str} {np nd : Nat} (h : (ftOf C)[f]? = some (y, np, nd)) : ∃ c, C[f]? = some c ∧ y = c.x ∧ np = c.df.np ∧ nd = c.df.dfl.length := by
  unfold ftOf at h
  rw [List.getElem?_map] at h
  cases q : C[f]? with
  | none => rw [q] at h; cases h
  | some c =>
    rw [q] at h
    cases h
    exact ⟨c, rfl, rfl, rfl, rfl⟩
theorem p_at {f : Nat} {c : Fc} (h : C[f]? = some c) : (C.map (·.df))[f]? = some c.df := by rw [List.getElem?_map, h]; rfl
theorem dvBs_len : ∀ {vs : List He.Dv} {ds : List D}, dvBs vs ds = true → vs.length = ds.length
  | [], [], _ => rfl
  | [], _ :: _, h => by cases h
  | _ :: _, [], h => by cases h
  | _ :: _, _ :: _, h => by
    rw [dvBs, Bool.and_eq_true] at h
    rw [List.length_cons, List.length_cons, dvBs_len h.2]
/-- THE RULE: every def runs as its Df says -/
theorem fn_all (hck : ∀ c ∈ C, c.ck (ftOf C) KT = true) (hB : ∀ c ∈ C, BindC c) (hKB : ∀ f n ks, (f, n, ks) ∈ KT → ∃ c, C[f]? = some c ∧ KBindC c n ks ∧ n ≤ c.df.ps.length)
    (hF : ∀ c ∈ C, ∃ fd, FunD G.K c.x c.x c.params c.body c.sc (c.dfl.map (He.Dv.v G.K)) [] (He.ga G.K c.x) fd) (hG : ∀ c ∈ C, mg c.x = some (.ref (He.ga G.K c.x))) (hm : ∀ y ∈ bNames, mg y = none) :
    ∀ (n f : Nat) (c : Fc) (fd : FuncData), C[f]? = some c → FunD G.K c.x c.x c.params c.body c.sc (c.dfl.map (He.Dv.v G.K)) [] (He.ga G.K c.x) fd → FnOk prog w G.K mg base CX0 n (He.ga G.K c.x) fd c.df.ps (spN G (C.map (·.df)) m n f c.df.np) := by
  have hnp : ∀ c ∈ C, c.df.ps.length = c.df.np := fun c hc => by
    have h := hck c hc
    unfold Fc.ck at h
    simp only [Bool.and_eq_true, decide_eq_true_eq] at h
    exact h.1.1.2
  intro n
  induction n with
  | zero =>
    intro f c fd hc F
    exact ⟨fun vs H Q E h => by rw [hnp c (List.mem_of_getElem? hc)]; exact h.1, fun A outer s H args us vs Q E _ _ _ _ h => by
      obtain ⟨_, b, S, ds, _, _, h⟩ := h
      exact (want_bad h).elim⟩
  | succ n ih =>
    intro f c fd hc F
    have hm' := List.mem_of_getElem? hc
    have h := hck c hm'
    unfold Fc.ck at h
    simp only [Bool.and_eq_true, decide_eq_true_eq] at h
    obtain ⟨⟨⟨⟨k1, k2⟩, k3⟩, k4⟩, k5⟩ := h
    have sc := C8.fnScope_by k1
    refine F.ok sc (fun vs H Q E h => by rw [k3]; exact h.1) fun cdv A outer s H vs Q E hr h => ?_
    refine ⟨tS G (exS (callF (C.map (·.df)) m n) (callFK (C.map (·.df)) m n) m c.df.body), PSs.nox ?_, ?_⟩
    · refine (snd_S c.df.body).ss _ c.sc c.body ?_ k2
      refine { eK := rfl, eN := rfl, nd := sc.nd, esc := rfl, calm := rfl, room := hr.units, mgb := hm, call := ?_, callk := ?_, own := PassesOwn.never, kind := sc.kind, fn := fun _ => rfl }
      · intro f2 y np nd n2 hft hle hd
        obtain ⟨c2, hc2, rfl, rfl, rfl⟩ := of_ft hft
        have hm2 := List.mem_of_getElem? hc2
        obtain ⟨fd2, F2⟩ := hF c2 hm2
        obtain ⟨ds, v1, v2⟩ := hB c2 hm2 G.K _ fd2 F2 n2 hle hd
        refine ⟨_, fd2, c2.df.ps, ds, _, _, n, hG c2 hm2, F2.kp, ih f2 c2 fd2 hc2 F2, hr, v2, v1, ?_⟩
        intro H b S vs es Q r rv hl w
        have k5' : dvBs c2.dfl c2.df.dfl = true := by
          have h := hck c2 hm2
          unfold Fc.ck at h
          simp only [Bool.and_eq_true, decide_eq_true_eq] at h
          exact h.2
        have hl2 := dvBs_len k5'
        unfold callF at w
        rw [p_at hc2] at w
        simp only [fill] at w
        split at w
        · rename_i full e
          split at e
          · rename_i hh
            cases e
            have rr := rv.append ((dvs_ok (G := G) (H := H) (b := b) (K := G.K) k5').drop (c2.df.dfl.length - (c2.df.np - es.length)))
            rw [hl] at rr w hh
            exact ⟨by rw [← rr.length]; exact hh.1, b, S, _, r, rr, w⟩
          · cases e
        · exact (want_bad w).elim
      · intro f2 y np nd n2 ks hft hk
        obtain ⟨c2, hc2, rfl, rfl, rfl⟩ := of_ft hft
        obtain ⟨c3, hc3, ⟨hks, kb⟩, hle⟩ := hKB f2 n2 ks hk
        rw [hc2] at hc3
        cases hc3
        have hm2 := List.mem_of_getElem? hc2
        obtain ⟨fd2, F2⟩ := hF c2 hm2
        refine ⟨_, fd2, c2.df.ps, _, _, _, n, hG c2 hm2, F2.kp, ih f2 c2 fd2 hc2 F2, hr, kb G.K _ fd2 F2, ?_⟩
        intro H b S vs ws es fs Q r rv rw' l1 l2 w
        unfold callFK at w
        rw [p_at hc2] at w
        simp only [fillK] at w
        split at w
        · rename_i full e
          split at e
          · cases e
            have rr := rv.append rw'
            refine ⟨?_, b, S, _, r, rr, w⟩
            rw [← rr.length, List.length_append, l1, l2, hks, List.length_drop, ← hnp c2 hm2]
            omega
          · cases e
        · exact (want_bad w).elim
    · obtain ⟨hl, b, S, ds, r, rv, w⟩ := h
      refine ⟨b, S, startD c.df ds, r, RL.start rv k4.symm, ?_⟩
      rw [runN_succ, p_at hc] at w
      simp only at w
      split at w
      · obtain ⟨d, S', e, q⟩ := w
        generalize exS (callF (C.map (·.df)) m n) (callFK (C.map (·.df)) m n) m c.df.body (startD c.df ds) S = rr at e
        cases rr with
        | ok fl S1 =>
          cases fl with
          | next ls' =>
            cases e
            exact ⟨_, _, rfl, fun H' b' σ' p rl => q .non H' b' p (rv_non.mpr rfl)⟩
          | ret d' =>
            cases e
            exact ⟨_, _, rfl, q⟩
          | brk ls' => cases e
          | cont ls' => cases e
        | exc k ds S1 => cases e
        | bad => cases e
      · exact (want_bad w).elim
end
end PV

set_option Elab.async false
set_option linter.all false
set_option maxRecDepth 100000
set_option maxHeartbeats 1000000
/-! PV: its own calculus: what a run must come to. -/
namespace PV
open PySem

class Kt (α : Type) where
  f : α → Store → Prop
def augD (o : Bo) (x y : D) : Option D :=
  match o, x, y with
  | .add, .int a, .int b => some (.int (a + b))
  | .sub, .int a, .int b => some (.int (a - b))
  | _, _, _ => none
@[simp] theorem aug_add {a b : Int} : augD .add (.int a) (.int b) = some (.int (a + b)) := (rfl)
@[simp] theorem aug_sub {a b : Int} : augD .sub (.int a) (.int b) = some (.int (a - b)) := (rfl)
/-- how a turn of a for ends -/
def turnQ (N : Ls → Store → Prop) (QF : Fl → Store → Prop) : Fl → Store → Prop := fun fl S' => match fl with
  | .next ls' => N ls' S'
  | .cont ls' => N ls' S'
  | .brk ls' => QF (.next ls') S'
  | .ret d => QF (.ret d) S'
@[simp] theorem tq_next {N : Ls → Store → Prop} {QF : Fl → Store → Prop} {ls : Ls} {S : Store} : turnQ N QF (.next ls) S = N ls S := (rfl)
@[simp] theorem tq_cont {N : Ls → Store → Prop} {QF : Fl → Store → Prop} {ls : Ls} {S : Store} : turnQ N QF (.cont ls) S = N ls S := (rfl)
@[simp] theorem tq_brk {N : Ls → Store → Prop} {QF : Fl → Store → Prop} {ls : Ls} {S : Store} : turnQ N QF (.brk ls) S = QF (.next ls) S := (rfl)
@[simp] theorem tq_ret {N : Ls → Store → Prop} {QF : Fl → Store → Prop} {d : D} {S : Store} : turnQ N QF (.ret d) S = QF (.ret d) S := (rfl)

/-! ### the operations at constructors -/
section
variable {S : Store} {i j : Int} {x y : Str} {ds es : List D} {n k : Nat} {d e : D}
@[simp] theorem mulOk_iff : (mulOk i j = true) = ((-(2 ^ 64) < i ∧ i < 2 ^ 64) ∨ (-(2 ^ 64) < j ∧ j < 2 ^ 64)) := by simp [mulOk]
@[simp] theorem b_add : binD .add (.int i) (.int j) S = .ok (.int (i + j)) S := (rfl)
@[simp] theorem b_adds : binD .add (.str x) (.str y) S = if x.length + y.length ≤ sizeLine then .ok (.str (x ++ y)) S else .bad := (rfl)
@[simp] theorem b_addt : binD .add (.tup ds) (.tup es) S = if ds.length + es.length ≤ sizeLine then .ok (.tup (ds ++ es)) S else .bad := (rfl)
@[simp] theorem b_addl : binD .add (.ref n) (.ref k) S = match S[n]?, S[k]? with
      | some (.lst xs), some (.lst ys) => if xs.length + ys.length ≤ sizeLine then new (.lst (xs ++ ys)) S else .bad
      | _, _ => .bad := (rfl)
@[simp] theorem b_sub : binD .sub (.int i) (.int j) S = .ok (.int (i - j)) S := (rfl)
@[simp] theorem b_mul : binD .mul (.int i) (.int j) S = if mulOk i j then .ok (.int (i * j)) S else .bad := (rfl)
@[simp] theorem b_muls : binD .mul (.str x) (.int i) S = if x.length ≤ 1000 ∧ i < 1000 ∧ -1000 < i then .ok (.str (Txt.mul x i)) S else .bad := (rfl)
@[simp] theorem b_fdiv : binD .fdiv (.int i) (.int j) S = if 0 < j ∧ j < 1073741824 then .ok (.int (i / j)) S else .bad := (rfl)
@[simp] theorem b_mod : binD .mod (.int i) (.int j) S = if 0 < j then .ok (.int (i % j)) S else .bad := (rfl)
@[simp] theorem b_pow : binD .pow (.int i) (.int j) S = if 0 ≤ j ∧ j ≤ 1000000 ∧ i.natAbs < 2 ^ 64 then .ok (.int (i ^ j.toNat)) S else .bad := (rfl)
@[simp] theorem c_eqi : cmpD .eq (.int i) (.int j) S = some (decide (i = j)) := (rfl)
@[simp] theorem c_eqs : cmpD .eq (.str x) (.str y) S = some (decide (x = y)) := (rfl)
@[simp] theorem c_nei : cmpD .ne (.int i) (.int j) S = some (!decide (i = j)) := (rfl)
@[simp] theorem c_nes : cmpD .ne (.str x) (.str y) S = some (!decide (x = y)) := (rfl)
@[simp] theorem c_eqr : cmpD .eq (.ref n) (.ref k) S = eqD (.ref n) (.ref k) S := (rfl)
@[simp] theorem c_ner : cmpD .ne (.ref n) (.ref k) S = (eqD (.ref n) (.ref k) S).map (!·) := (rfl)
@[simp] theorem c_eqt : cmpD .eq (.tup ds) (.tup es) S = eqD (.tup ds) (.tup es) S := (rfl)
@[simp] theorem c_net : cmpD .ne (.tup ds) (.tup es) S = (eqD (.tup ds) (.tup es) S).map (!·) := (rfl)
/-- beside an empty list -/
theorem eq_nil (h1 : S[n]? = some (.lst ds)) (h2 : S[k]? = some (.lst [])) : eqD (.ref n) (.ref k) S = some ds.isEmpty := by
  unfold eqD
  simp only [eqS, lenD, h1, h2]
  cases ds <;> rfl
@[simp] theorem c_lti : cmpD .lt (.int i) (.int j) S = some (decide (i < j)) := (rfl)
@[simp] theorem c_lei : cmpD .le (.int i) (.int j) S = some (decide (i ≤ j)) := (rfl)
@[simp] theorem c_gti : cmpD .gt (.int i) (.int j) S = some (decide (j < i)) := (rfl)
@[simp] theorem c_gei : cmpD .ge (.int i) (.int j) S = some (decide (j ≤ i)) := (rfl)
@[simp] theorem c_is : cmpD .is d .non S = some (match d with | .non => true | _ => false) := (rfl)
@[simp] theorem c_isn : cmpD .isn d .non S = some (!(match d with | .non => true | _ => false)) := (rfl)
@[simp] theorem c_in : cmpD .isin d e S = inD d e S := (rfl)
@[simp] theorem c_nin : cmpD .nin d e S = (inD d e S).map (!·) := (rfl)
@[simp] theorem f_int : fbD .int [.int i] S = .ok (.int i) S := (rfl)
@[simp] theorem f_lens : fbD .len [.str x] S = .ok (.int x.length) S := (rfl)
@[simp] theorem f_lent : fbD .len [.tup ds] S = .ok (.int ds.length) S := (rfl)
@[simp] theorem f_lenr : fbD .len [.rol ds] S = .ok (.int ds.length) S := (rfl)
@[simp] theorem f_lenl : fbD .len [.ref n] S = match S[n]? with
      | some (.lst xs) => .ok (.int xs.length) S
      | some (.dct kvs) => .ok (.int kvs.length) S
      | _ => .bad := (rfl)
@[simp] theorem f_abs : fbD .abs [.int i] S = .ok (.int (if i < 0 then -i else i)) S := (rfl)
@[simp] theorem f_max : fbD .max [.int i, .int j] S = .ok (.int (if j > i then j else i)) S := (rfl)
@[simp] theorem f_min : fbD .min [.int i, .int j] S = .ok (.int (if j < i then j else i)) S := (rfl)
@[simp] theorem f_list : fbD .list [d] S = match seqD d S with
      | some xs => new (.lst xs) S
      | none => .bad := (rfl)
@[simp] theorem x_tup : ixD (.tup ds) (.int i) S = L2.atI ds i := (rfl)
@[simp] theorem x_rol : ixD (.rol ds) (.int i) S = L2.atI ds i := (rfl)
@[simp] theorem x_str : ixD (.str x) (.int i) S = (L2.atI x.cps.toList i).map fun c => .str ⟨#[c]⟩ := (rfl)
@[simp] theorem x_ref : ixD (.ref n) (.int i) S = match S[n]? with
    | some (.lst ds) => L2.atI ds i
    | some (.dct kvs) => valG kvs (.inl i)
    | some (.dcl kvs) => valG kvs (.inl i)
    | _ => none := (rfl)
@[simp] theorem x_refs : ixD (.ref n) (.str x) S = match S[n]? with
    | some (.dct kvs) => valG kvs (.inr x)
    | some (.dcl kvs) => valG kvs (.inr x)
    | _ => none := (rfl)
@[simp] theorem xr_ref : ixR (.ref n) d S = ixD (.ref n) d S := (rfl)
@[simp] theorem st_ref : setIx (.ref n) (.int i) e S = match S[n]? with
    | some (.lst ds) => match L2.ixN ds.length i with
      | some j => .ok () (S.set n (.lst (ds.set j e)))
      | none => .bad
    | some (.dct kvs) => if kvs.length < sizeLine then .ok () (S.set n (.dct (putG kvs (.inl i) e))) else .bad
    | _ => .bad := (rfl)
@[simp] theorem st_refs : setIx (.ref n) (.str x) e S = match S[n]? with
    | some (.dct kvs) => if kvs.length < sizeLine then .ok () (S.set n (.dct (putG kvs (.inr x) e))) else .bad
    | _ => .bad := (rfl)
@[simp] theorem tr_bl {b : Bool} : truD (.bl b) S = some b := (rfl)
@[simp] theorem tr_non : truD .non S = some false := (rfl)
@[simp] theorem tr_int : truD (.int i) S = some (i != 0) := (rfl)
@[simp] theorem tr_tup : truD (.tup ds) S = some (!ds.isEmpty) := (rfl)
@[simp] theorem tr_ref : truD (.ref n) S = match S[n]? with
    | some (.lst ds) => some (!ds.isEmpty)
    | some (.dct kvs) => some (!kvs.isEmpty)
    | _ => none := (rfl)
@[simp] theorem sq_tup : seqD (.tup ds) S = some ds := (rfl)
@[simp] theorem sq_rol : seqD (.rol ds) S = some ds := (rfl)
@[simp] theorem sq_ref : seqD (.ref n) S = match S[n]? with
    | some (.lst ds) => some ds
    | _ => none := (rfl)
@[simp] theorem as_nm {d : D} {ls : Ls} : asgT (.nm n) d S ls = some (ls.set n (some d)) := (rfl)
@[simp] theorem as_tup {t : Tg} {d : D} {ls : Ls} : asgT (.tup t) d S ls = match seqD d S with
    | some ds => asgTs t ds S ls
    | none => none := (rfl)
@[simp] theorem as_nil {ls : Ls} : asgTs .nil [] S ls = some ls := (rfl)
@[simp] theorem as_cons {t r : Tg} {d : D} {ls : Ls} : asgTs (.cons t r) (d :: ds) S ls = match asgT t d S ls with
      | some ls' => asgTs r ds S ls'
      | none => none := (rfl)
@[simp] theorem f_intb {b : Bool} : fbD .int [.bl b] S = .ok (.int (if b then 1 else 0)) S := (rfl)
@[simp] theorem f_tuple : fbD .tuple [d] S = match seqD d S with
      | some xs => .ok (.tup xs) S
      | none => .bad := (rfl)
@[simp] theorem f_sum : fbD .sum [.ref n] S = match S[n]? with
      | some (.lst xs) => match asInts xs with
        | some ns => .ok (.int ns.sum) S
        | none => .bad
      | _ => .bad := (rfl)
@[simp] theorem f_sorted : fbD .sorted [.ref n] S = match S[n]? with
      | some (.lst xs) => match sortD xs with
        | some ys => new (.lst ys) S
        | none => .bad
      | some (.dct kvs) => match sortD (kvs.map fun p => dOfKey p.1) with
        | some ys => new (.lst ys) S
        | none => .bad
      | _ => .bad := (rfl)
@[simp] theorem f_all : fbD .all [.ref n] S = match S[n]? with
      | some (.lst xs) => match asBls xs with
        | some bs => .ok (.bl (bs.all id)) S
        | none => .bad
      | _ => .bad := (rfl)
@[simp] theorem f_any : fbD .any [.ref n] S = match S[n]? with
      | some (.lst xs) => match asBls xs with
        | some bs => .ok (.bl (bs.any id)) S
        | none => .bad
      | _ => .bad := (rfl)
@[simp] theorem sl_tup {lo hi : Option Int} : slD (.tup ds) lo hi S = .ok (.tup (cut ds lo hi)) S := (rfl)
@[simp] theorem sl_rol {lo hi : Option Int} : slD (.rol ds) lo hi S = new (.lst (cut ds lo hi)) S := (rfl)
@[simp] theorem sl_str {lo hi : Option Int} : slD (.str x) lo hi S = .ok (.str (L2.cutS x lo hi)) S := (rfl)
@[simp] theorem sl_ref {lo hi : Option Int} : slD (.ref n) lo hi S = match S[n]? with
    | some (.lst ds) => new (.lst (cut ds lo hi)) S
    | _ => .bad := (rfl)
theorem cut_hi {α : Type} {xs : List α} {i : Int} (h : 0 ≤ i) : cut xs none (some i) = xs.take i.toNat := by
  unfold cut HT.sIx
  simp only [List.drop_zero]
  rw [if_neg (by omega), Nat.sub_zero, List.take_eq_take_min (i := i.toNat)]
theorem cut_lo {α : Type} {xs : List α} {i : Int} (h : 0 ≤ i) : cut xs (some i) none = xs.drop i.toNat := by
  unfold cut HT.sIx
  simp only
  rw [if_neg (by omega), List.take_of_length_le (by simp)]
  rcases Nat.le_total i.toNat xs.length with q | q
  · rw [Nat.min_eq_left q]
  · rw [Nat.min_eq_right q, List.drop_of_length_le (Nat.le_refl _), List.drop_of_length_le q]
@[simp] theorem cut_hi_l {α : Type} {xs : List α} {n : Nat} : cut xs none (some (no_index (OfNat.ofNat n))) = xs.take n := cut_hi (i := (n : Int)) (by omega)
@[simp] theorem cut_lo_l {α : Type} {xs : List α} {n : Nat} : cut xs (some (no_index (OfNat.ofNat n))) none = xs.drop n := cut_lo (i := (n : Int)) (by omega)
@[simp] theorem cut_hi_n {α : Type} {xs : List α} {n : Nat} : cut xs none (some (n : Int)) = xs.take n := cut_hi (i := (n : Int)) (by omega)
@[simp] theorem cut_lo_n {α : Type} {xs : List α} {n : Nat} : cut xs (some (n : Int)) none = xs.drop n := cut_lo (i := (n : Int)) (by omega)
@[simp] theorem m_append : mtD .append (.ref n) [d] S = match S[n]? with
      | some (.lst xs) => if xs.length < sizeLine then .ok .non (S.set n (.lst (xs ++ [d]))) else .bad
      | _ => .bad := (rfl)
@[simp] theorem m_extend : mtD .extend (.ref n) [.ref k] S = match S[n]?, S[k]? with
      | some (.lst xs), some (.lst ys) => if xs.length + ys.length ≤ sizeLine then .ok .non (S.set n (.lst (xs ++ ys))) else .bad
      | _, _ => .bad := (rfl)
@[simp] theorem m_pop : mtD .pop (.ref n) [] S = match S[n]? with
      | some (.lst xs) => match xs[xs.length - 1]? with
        | some y => .ok y (S.set n (.lst xs.dropLast))
        | none => .bad
      | _ => .bad := (rfl)
@[simp] theorem m_popAt : mtD .popAt (.ref n) [.int i] S = match S[n]? with
      | some (.lst xs) => match L2.ixN xs.length i with
        | some k => match xs[k]? with
          | some y => .ok y (S.set n (.lst (xs.eraseIdx k)))
          | none => .bad
        | none => .bad
      | _ => .bad := (rfl)
@[simp] theorem m_join : mtD .join (.str x) [d] S = match seqD d S with
      | some xs => match asStrs xs with
        | some ys => if ((Txt.join x ys).length ≤ sizeLine ∧ (ys.map (·.length)).sum + ys.length * x.length ≤ 16777216) then .ok (.str (Txt.join x ys)) S else .bad
        | none => .bad
      | none => .bad := (rfl)
@[simp] theorem ty_ref {q : Mt} : mtTy q (.ref n) S = match S[n]? with
    | some (.lst _) => match q with
      | .join => false
      | _ => true
    | _ => false := (rfl)
@[simp] theorem ty_str : mtTy .join (.str x) S = true := (rfl)
@[simp] theorem is_non {t : Tk} : isiD t .non S = some false := (rfl)
@[simp] theorem is_bl {t : Tk} {b : Bool} : isiD t (.bl b) S = some (match t with | .bool => true | .int => true | _ => false) := (rfl)
@[simp] theorem is_int {t : Tk} : isiD t (.int i) S = some (match t with | .int => true | _ => false) := (rfl)
@[simp] theorem is_str {t : Tk} : isiD t (.str x) S = some (match t with | .str => true | _ => false) := (rfl)
@[simp] theorem is_tup {t : Tk} : isiD t (.tup ds) S = some (match t with | .tuple => true | _ => false) := (rfl)
@[simp] theorem is_ref {t : Tk} : isiD t (.ref n) S = match S[n]? with
    | some (.lst _) => some (match t with | .list => true | _ => false)
    | _ => none := (rfl)
@[simp] theorem nx_tup : (ItV.tup ds).nxt n S = some ds[n]? := (rfl)
@[simp] theorem nx_rol : (ItV.rol ds).nxt n S = some ds[n]? := (rfl)
@[simp] theorem nx_obj : (ItV.obj k).nxt n S = match S[k]? with
    | some (.lst ds) => some ds[n]?
    | _ => none := (rfl)
@[simp] theorem nx_keys : (ItV.keys k).nxt n S = match S[k]? with
    | some (.dcl kvs) => some ((kvs[n]?).map fun p => dOfKey p.1)
    | _ => none := (rfl)
@[simp] theorem nx_rng : (ItV.rng i k).nxt n S = some (if n < k then some (.int (i + n)) else none) := (rfl)
@[simp] theorem wipe_nil {ls : Ls} : wipeD ls [] = ls := (rfl)
@[simp] theorem wipe_cons {ls : Ls} {v : Nat} {vs : List Nat} : wipeD ls (v :: vs) = (wipeD ls vs).set v none := (rfl)
@[simp] theorem c_eqb {a b : Bool} : cmpD .eq (.bl a) (.bl b) S = some (decide (a = b)) := (rfl)
end

namespace Z
/-- a run comes to what Q says (Q stands as an instance, for simp leaves it alone) -/
def wq {α : Type} (r : R α) [Q : Kt α] : Prop :=
  match r with
  | .ok a S => Q.f a S
  | _ => False
def wp {α : Type} (r : R α) (Q : α → Store → Prop) : Prop := @wq α r ⟨Q⟩
theorem wp_def {α : Type} {r : R α} {Q : α → Store → Prop} : wp r Q ↔ ∃ a S, r = .ok a S ∧ Q a S := by
  cases r with
  | ok a S => exact ⟨fun h => ⟨a, S, rfl, h⟩, fun ⟨_, _, e, q⟩ => by cases e; exact q⟩
  | exc c ds S => exact ⟨fun h => False.elim h, fun ⟨_, _, e, q⟩ => by cases e⟩
  | bad => exact ⟨fun h => False.elim h, fun ⟨_, _, e, q⟩ => by cases e⟩
theorem wp_mono {α : Type} {r : R α} {Q : α → Store → Prop} {Q' : Kt α} (h : wp r Q) (k : ∀ a S, Q a S → Q'.f a S) : @wq α r Q' := by
  cases r with
  | ok a S => exact k a S h
  | exc c ds S => exact h
  | bad => exact h
@[simp] theorem wp_ok {α : Type} {a : α} {S : Store} {Q : Kt α} : @wq α (.ok a S) Q = Q.f a S := (rfl)
@[simp] theorem wp_bad {α : Type} {Q : Kt α} : @wq α .bad Q = False := (rfl)
@[simp] theorem wp_bind {α β : Type} {r : R α} {k : α → Store → R β} {Q : Kt β} : @wq β (r.bind k) Q = wp r fun a S => @wq β (k a S) Q := by cases r <;> rfl
@[simp] theorem wp_opt {α : Type} {o : Option α} {S : Store} {Q : Kt α} : @wq α (opt o S) Q = match o with | some a => Q.f a S | none => False := by cases o <;> rfl
@[simp] theorem wp_new {o : O} {S : Store} {Q : Kt D} : @wq D (new o S) Q = Q.f (.ref S.length) (S ++ [o]) := (rfl)
@[simp] theorem wp_ite {α : Type} {c : Prop} [Decidable c] {a b : R α} {Q : Kt α} : @wq α (if c then a else b) Q = if c then @wq α a Q else @wq α b Q := by by_cases h : c <;> simp [h]
theorem wb {α β : Type} {r : R α} {k : α → Store → R β} {Q : β → Store → Prop} : wp (r.bind k) Q = wp r fun a S => wp (k a S) Q := by cases r <;> rfl
theorem wo {α : Type} {o : Option α} {S : Store} {Q : α → Store → Prop} : wp (opt o S) Q = match o with | some a => Q a S | none => False := by cases o <;> rfl
theorem wk {α : Type} {a : α} {S : Store} {Q : α → Store → Prop} : wp (.ok a S) Q = Q a S := (rfl)
theorem wq_wp {α : Type} {r : R α} {Q : Kt α} : @wq α r Q = wp r Q.f := (rfl)
section
variable {F : Nat → List D → Store → R D} {FK : Nat → List Str → List D → List D → Store → R D} {m : Nat} {ls : Ls} {S : Store} {Q : Kt D} {QB : Kt Bool} {QL : Kt (List D)} {QI : Kt ItV} {QF : Kt Fl}
@[simp] theorem e_non : @wq _ ((ev F FK m .non).val ls S) Q = Q.f .non S := (rfl)
@[simp] theorem e_bl {b} : @wq _ ((ev F FK m (.bl b)).val ls S) Q = Q.f (.bl b) S := (rfl)
@[simp] theorem e_int {b} : @wq _ ((ev F FK m (.int b)).val ls S) Q = Q.f (.int b) S := (rfl)
@[simp] theorem e_str {b} : @wq _ ((ev F FK m (.str b)).val ls S) Q = Q.f (.str b) S := (rfl)
theorem e_v' {i} : @wq _ ((ev F FK m (.v i)).val ls S) Q = @wq _ (match ls[i]? with | some (some d) => .ok d S | _ => .bad) Q := (rfl)
@[simp] theorem e_v {i} : @wq _ ((ev F FK m (.v i)).val ls S) Q = match ls[i]? with | some (some d) => Q.f d S | _ => False := by
  rw [e_v']
  split <;> simp_all
@[simp] theorem e_bin {o a b} : @wq _ ((ev F FK m (.bin o a b)).val ls S) Q = wp ((ev F FK m a).val ls S) fun x S1 => wp ((ev F FK m b).val ls S1) fun y S2 => @wq _ (binD o x y S2) Q := by
  show @wq _ (R.bind _ _) Q = _
  simp
@[simp] theorem e_neg {a} : @wq _ ((ev F FK m (.neg a)).val ls S) Q = wp ((ev F FK m a).val ls S) fun x S1 => @wq _ (match x with | .int i => .ok (.int (-i)) S1 | _ => .bad) Q := by
  show @wq _ (R.bind _ _) Q = _
  simp only [wp_bind] <;> rfl
@[simp] theorem e_no {a} : @wq _ ((ev F FK m (.no a)).val ls S) Q = wp ((ev F FK m a).val ls S) fun x S1 => @wq _ (opt ((truD x S1).map fun k => .bl (!k)) S1) Q := by
  show @wq _ (R.bind _ _) Q = _
  simp only [wp_bind]
@[simp] theorem t_no {a} : @wq _ ((ev F FK m (.no a)).tst ls S) QB = wp ((ev F FK m a).tst ls S) fun k S1 => QB.f (!k) S1 := by
  show @wq _ (R.bind _ _) QB = _
  simp only [wp_bind, wp_ok]
@[simp] theorem e_bo {k es} : @wq _ ((ev F FK m (.bo k es)).val ls S) Q = @wq _ ((ev F FK m es).bov k ls S) Q := (rfl)
@[simp] theorem t_bo {k es} : @wq _ ((ev F FK m (.bo k es)).tst ls S) QB = @wq _ ((ev F FK m es).bot k ls S) QB := (rfl)
@[simp] theorem bv_one {k a} : @wq _ ((ev F FK m (.cons a .nil)).bov k ls S) Q = @wq _ ((ev F FK m a).val ls S) Q := (rfl)
@[simp] theorem bt_one {k a} : @wq _ ((ev F FK m (.cons a .nil)).bot k ls S) QB = @wq _ ((ev F FK m a).tst ls S) QB := (rfl)
@[simp] theorem bv_cons {k a b r} : @wq _ ((ev F FK m (.cons a (.cons b r))).bov k ls S) Q = wp ((ev F FK m a).val ls S) fun x S1 => @wq _ (match truD x S1 with | some t => if t = k then (ev F FK m (.cons b r)).bov k ls S1 else .ok x S1 | none => .bad) Q := by
  show @wq _ (R.bind _ _) Q = _
  simp only [wp_bind] <;> rfl
@[simp] theorem bt_cons {k a b r} : @wq _ ((ev F FK m (.cons a (.cons b r))).bot k ls S) QB = wp ((ev F FK m a).tst ls S) fun t S1 => if t = k then @wq _ ((ev F FK m (.cons b r)).bot k ls S1) QB else QB.f t S1 := by
  show @wq _ (R.bind _ _) QB = _
  simp only [wp_bind]
  congr 1
  funext t S1
  by_cases h : t = k <;> simp [h]
@[simp] theorem e_cmp {o a b} : @wq _ ((ev F FK m (.cmp o a b)).val ls S) Q = wp ((ev F FK m a).val ls S) fun x S1 => wp ((ev F FK m b).val ls S1) fun y S2 => @wq _ (opt ((cmpD o x y S2).map .bl) S2) Q := by
  show @wq _ (R.bind _ _) Q = _
  simp only [wp_bind]
@[simp] theorem t_cmp {o a b} : @wq _ ((ev F FK m (.cmp o a b)).tst ls S) QB = wp ((ev F FK m a).val ls S) fun x S1 => wp ((ev F FK m b).val ls S1) fun y S2 => @wq _ (opt (cmpD o x y S2) S2) QB := by
  show wp (tru (R.bind _ _)) QB.f = _
  unfold tru
  simp only [wb]
  congr 1
  funext x S1
  congr 1
  funext y S2
  rw [wq_wp]
  cases cmpD o x y S2 <;> rfl
@[simp] theorem e_chn {o p a b c} : @wq _ ((ev F FK m (.chn o p a b c)).val ls S) Q = wp ((ev F FK m a).val ls S) fun x S1 => wp ((ev F FK m b).val ls S1) fun y S2 => @wq _ (match cmpD o x y S2 with
    | some true => ((ev F FK m c).val ls S2).bind fun z S3 => opt ((cmpD p y z S3).map .bl) S3
    | some false => .ok (.bl false) S2
    | none => .bad) Q := by
  show @wq _ (R.bind _ _) Q = _
  simp only [wp_bind] <;> rfl
@[simp] theorem e_ite {c a b} : @wq _ ((ev F FK m (.ite c a b)).val ls S) Q = wp ((ev F FK m c).tst ls S) fun k S1 => if k then @wq _ ((ev F FK m a).val ls S1) Q else @wq _ ((ev F FK m b).val ls S1) Q := by
  show @wq _ (R.bind _ _) Q = _
  simp only [wp_bind]
  congr 1
  funext k S1
  cases k <;> rfl
@[simp] theorem e_tup {es} : @wq _ ((ev F FK m (.tup es)).val ls S) Q = wp ((ev F FK m es).lst ls S) fun ds S1 => if ds.length ≤ sizeLine then Q.f (.tup ds) S1 else False := by
  show @wq _ (R.bind _ _) Q = _
  simp only [wp_bind]
  congr 1
  funext ds S1
  by_cases h : ds.length ≤ sizeLine <;> simp [h]
@[simp] theorem e_lst {es} : @wq _ ((ev F FK m (.lst es)).val ls S) Q = wp ((ev F FK m es).lst ls S) fun ds S1 => if ds.length ≤ sizeLine then Q.f (.ref S1.length) (S1 ++ [.lst ds]) else False := by
  show @wq _ (R.bind _ _) Q = _
  simp only [wp_bind]
  congr 1
  funext ds S1
  by_cases h : ds.length ≤ sizeLine <;> simp [h]
@[simp] theorem l_nil : @wq _ ((ev F FK m .nil).lst ls S) QL = QL.f [] S := (rfl)
@[simp] theorem l_cons {a r} : @wq _ ((ev F FK m (.cons a r)).lst ls S) QL = wp ((ev F FK m a).val ls S) fun x S1 => wp ((ev F FK m r).lst ls S1) fun xs S2 => QL.f (x :: xs) S2 := by
  show @wq _ (R.bind _ _) QL = _
  simp only [wp_bind, wp_ok]
@[simp] theorem e_ix {a i} : @wq _ ((ev F FK m (.ix a i)).val ls S) Q = wp ((ev F FK m a).val ls S) fun x S1 => wp ((ev F FK m i).val ls S1) fun y S2 => @wq _ (opt (ixD x y S2) S2) Q := by
  show @wq _ (R.bind _ _) Q = _
  simp only [wp_bind]
@[simp] theorem p_nil : (ev F FK m .nil).part ls S = .ok none S := (rfl)
theorem part_val {e} (h : (ev F FK m e).nl = false) {QO : Kt (Option Int)} : @wq _ ((ev F FK m e).part ls S) QO = wp ((ev F FK m e).val ls S) fun x S1 => match x with | .int i => QO.f (some i) S1 | _ => False := by
  unfold Sm.part
  rw [h]
  show @wq _ (R.bind _ _) QO = _
  simp only [wp_bind]
  congr 1
  funext x S1
  cases x <;> rfl
@[simp] theorem p_v {i} {QO : Kt (Option Int)} : @wq _ ((ev F FK m (.v i)).part ls S) QO = wp ((ev F FK m (.v i)).val ls S) fun x S1 => match x with | .int i => QO.f (some i) S1 | _ => False := part_val rfl
@[simp] theorem p_int {i} {QO : Kt (Option Int)} : @wq _ ((ev F FK m (.int i)).part ls S) QO = QO.f (some i) S := (rfl)
@[simp] theorem p_bin {o a b} {QO : Kt (Option Int)} : @wq _ ((ev F FK m (.bin o a b)).part ls S) QO = wp ((ev F FK m (.bin o a b)).val ls S) fun x S1 => match x with | .int i => QO.f (some i) S1 | _ => False := part_val rfl
@[simp] theorem p_call {f es} {QO : Kt (Option Int)} : @wq _ ((ev F FK m (.call f es)).part ls S) QO = wp ((ev F FK m (.call f es)).val ls S) fun x S1 => match x with | .int i => QO.f (some i) S1 | _ => False := part_val rfl
@[simp] theorem p_bi {f es} {QO : Kt (Option Int)} : @wq _ ((ev F FK m (.bi f es)).part ls S) QO = wp ((ev F FK m (.bi f es)).val ls S) fun x S1 => match x with | .int i => QO.f (some i) S1 | _ => False := part_val rfl
@[simp] theorem e_sl {a lo hi} : @wq _ ((ev F FK m (.sl a lo hi)).val ls S) Q = wp ((ev F FK m a).val ls S) fun x S1 => wp ((ev F FK m lo).part ls S1) fun l S2 => wp ((ev F FK m hi).part ls S2) fun u S3 => @wq _ (slD x l u S3) Q := by
  show @wq _ (R.bind _ _) Q = _
  simp only [wp_bind]
@[simp] theorem e_dnew : @wq _ ((ev F FK m .dnew).val ls S) Q = Q.f (.ref S.length) (S ++ [.dct []]) := (rfl)
@[simp] theorem e_call {f es} : @wq _ ((ev F FK m (.call f es)).val ls S) Q = wp ((ev F FK m es).lst ls S) fun ds S1 => @wq _ (F f ds S1) Q := by
  show @wq _ (R.bind _ _) Q = _
  simp only [wp_bind]
@[simp] theorem e_callk {f ks es eks} : @wq _ ((ev F FK m (.callk f ks es eks)).val ls S) Q = wp ((ev F FK m es).lst ls S) fun ds S1 => wp ((ev F FK m eks).lst ls S1) fun es S2 => @wq _ (FK f ks ds es S2) Q := by
  show @wq _ (R.bind _ _) Q = _
  simp only [wp_bind]
@[simp] theorem e_bi {f es} : @wq _ ((ev F FK m (.bi f es)).val ls S) Q = wp ((ev F FK m es).lst ls S) fun ds S1 => @wq _ (fbD f ds S1) Q := by
  show @wq _ (R.bind _ _) Q = _
  simp only [wp_bind]
@[simp] theorem e_isi {t a} : @wq _ ((ev F FK m (.isi t a)).val ls S) Q = wp ((ev F FK m a).val ls S) fun x S1 => @wq _ (opt ((isiD t x S1).map .bl) S1) Q := by
  show @wq _ (R.bind _ _) Q = _
  simp only [wp_bind]
@[simp] theorem t_isi {t a} : @wq _ ((ev F FK m (.isi t a)).tst ls S) QB = wp ((ev F FK m a).val ls S) fun x S1 => @wq _ (opt (isiD t x S1) S1) QB := by
  show wp (tru (R.bind _ _)) QB.f = _
  unfold tru
  simp only [wb]
  congr 1
  funext x S1
  rw [wq_wp]
  cases isiD t x S1 <;> rfl
@[simp] theorem e_mt {k a es} : @wq _ ((ev F FK m (.mt k a es)).val ls S) Q = wp ((ev F FK m a).val ls S) fun x S1 => if mtTy k x S1 then wp ((ev F FK m es).lst ls S1) fun ds S2 => @wq _ (mtD k x ds S2) Q else False := by
  show @wq _ (R.bind _ _) Q = _
  simp only [wp_bind]
  congr 1
  funext x S1
  cases mtTy k x S1 <;> simp
@[simp] theorem e_lc {own t it c e} : @wq _ ((ev F FK m (.lc own t it c e)).val ls S) Q = wp ((ev F FK m it).itv ls S) fun J S1 =>
    @wq _ (lcL (fun d S ls => asgT t d S ls) (fun ls S => (ev F FK m c).cond ls S) (fun ls S => (ev F FK m e).val ls S) J S1.length (wipeD ls (own.map (·.2))) m 0 (S1 ++ [.lst []])) Q := by
  show @wq _ (R.bind _ _) Q = _
  simp only [wp_bind]
@[simp] theorem i_q {a} : @wq _ ((ev F FK m (.q a)).itv ls S) QI = wp ((ev F FK m a).val ls S) fun x S1 => @wq _ (match x with
    | .tup ds => .ok (.tup ds) S1
    | .rol ds => .ok (.rol ds) S1
    | .ref n => match S1[n]? with
      | some (.lst _) => .ok (.obj n) S1
      | some (.dcl _) => .ok (.keys n) S1
      | _ => .bad
    | _ => .bad) QI := by
  show @wq _ (R.bind _ _) QI = _
  simp only [wp_bind] <;> rfl
@[simp] theorem i_qr {a} : @wq _ ((ev F FK m (.qr a)).itv ls S) QI = wp ((ev F FK m a).val ls S) fun x S1 => match x with
    | .int i => if -(2 ^ 62) ≤ i ∧ i < 2 ^ 62 then QI.f (.rng 0 i.toNat) S1 else False
    | _ => False := by
  show @wq _ (R.bind _ _) QI = _
  simp only [wp_bind]
  congr 1
  funext x S1
  cases x <;> try rfl
  rename_i i
  by_cases h : -(2 ^ 62) ≤ i ∧ i < 2 ^ 62 <;> simp [h]
@[simp] theorem i_qr2 {a b} : @wq _ ((ev F FK m (.qr2 a b)).itv ls S) QI = wp ((ev F FK m a).val ls S) fun x S1 => wp ((ev F FK m b).val ls S1) fun y S2 => match x, y with
    | .int i, .int j => if -(2 ^ 62) ≤ i ∧ i < 2 ^ 62 ∧ -(2 ^ 62) ≤ j ∧ j < 2 ^ 62 then QI.f (.rng i (j - i).toNat) S2 else False
    | _, _ => False := by
  show @wq _ (R.bind _ _) QI = _
  simp only [wp_bind]
  congr 1
  funext x S1
  congr 1
  funext y S2
  cases x <;> cases y <;> try rfl
  rename_i i j
  by_cases h : -(2 ^ 62) ≤ i ∧ i < 2 ^ 62 ∧ -(2 ^ 62) ≤ j ∧ j < 2 ^ 62 <;> simp [h]
theorem t_of' {e} (h : (ev F FK m e).tst = fun ls S => tru ((ev F FK m e).val ls S)) : @wq _ ((ev F FK m e).tst ls S) QB = wp ((ev F FK m e).val ls S) fun x S1 => @wq _ (opt (truD x S1) S1) QB := by
  rw [h]
  show @wq _ (tru _) QB = _
  unfold tru
  simp only [wp_bind]
@[simp] theorem t_v {i} : @wq _ ((ev F FK m (.v i)).tst ls S) QB = wp ((ev F FK m (.v i)).val ls S) fun x S1 => @wq _ (opt (truD x S1) S1) QB := t_of' rfl
@[simp] theorem t_bl {b} : @wq _ ((ev F FK m (.bl b)).tst ls S) QB = QB.f b S := (rfl)
@[simp] theorem t_call {f es} : @wq _ ((ev F FK m (.call f es)).tst ls S) QB = wp ((ev F FK m (.call f es)).val ls S) fun x S1 => @wq _ (opt (truD x S1) S1) QB := t_of' rfl
@[simp] theorem t_callk {f ks es eks} : @wq _ ((ev F FK m (.callk f ks es eks)).tst ls S) QB = wp ((ev F FK m (.callk f ks es eks)).val ls S) fun x S1 => @wq _ (opt (truD x S1) S1) QB := t_of' rfl
@[simp] theorem t_bi {f es} : @wq _ ((ev F FK m (.bi f es)).tst ls S) QB = wp ((ev F FK m (.bi f es)).val ls S) fun x S1 => @wq _ (opt (truD x S1) S1) QB := t_of' rfl
@[simp] theorem t_ix {a i} : @wq _ ((ev F FK m (.ix a i)).tst ls S) QB = wp ((ev F FK m (.ix a i)).val ls S) fun x S1 => @wq _ (opt (truD x S1) S1) QB := t_of' rfl
@[simp] theorem t_bin {o a i} : @wq _ ((ev F FK m (.bin o a i)).tst ls S) QB = wp ((ev F FK m (.bin o a i)).val ls S) fun x S1 => @wq _ (opt (truD x S1) S1) QB := t_of' rfl
@[simp] theorem t_lc {own t it c e} : @wq _ ((ev F FK m (.lc own t it c e)).tst ls S) QB = wp ((ev F FK m (.lc own t it c e)).val ls S) fun x S1 => @wq _ (opt (truD x S1) S1) QB := t_of' rfl
@[simp] theorem t_chn {o p a b c} : @wq _ ((ev F FK m (.chn o p a b c)).tst ls S) QB = wp ((ev F FK m (.chn o p a b c)).val ls S) fun x S1 => @wq _ (opt (truD x S1) S1) QB := t_of' rfl

@[simp] theorem k_nil : @wq _ ((ev F FK m .nil).cond ls S) QB = QB.f true S := (rfl)
@[simp] theorem k_cmp {o a b} : @wq _ ((ev F FK m (.cmp o a b)).cond ls S) QB = @wq _ ((ev F FK m (.cmp o a b)).tst ls S) QB := (rfl)
@[simp] theorem k_no {a} : @wq _ ((ev F FK m (.no a)).cond ls S) QB = @wq _ ((ev F FK m (.no a)).tst ls S) QB := (rfl)
@[simp] theorem k_bo {k es} : @wq _ ((ev F FK m (.bo k es)).cond ls S) QB = @wq _ ((ev F FK m (.bo k es)).tst ls S) QB := (rfl)
@[simp] theorem k_isi {t a} : @wq _ ((ev F FK m (.isi t a)).cond ls S) QB = @wq _ ((ev F FK m (.isi t a)).tst ls S) QB := (rfl)
@[simp] theorem k_call {f es} : @wq _ ((ev F FK m (.call f es)).cond ls S) QB = @wq _ ((ev F FK m (.call f es)).tst ls S) QB := (rfl)
@[simp] theorem k_chn {o p a b c} : @wq _ ((ev F FK m (.chn o p a b c)).cond ls S) QB = @wq _ ((ev F FK m (.chn o p a b c)).tst ls S) QB := (rfl)
@[simp] theorem k_v {i} : @wq _ ((ev F FK m (.v i)).cond ls S) QB = @wq _ ((ev F FK m (.v i)).tst ls S) QB := (rfl)
@[simp] theorem k_ix {a i} : @wq _ ((ev F FK m (.ix a i)).cond ls S) QB = @wq _ ((ev F FK m (.ix a i)).tst ls S) QB := (rfl)
@[simp] theorem k_bi {f es} : @wq _ ((ev F FK m (.bi f es)).cond ls S) QB = @wq _ ((ev F FK m (.bi f es)).tst ls S) QB := (rfl)
/-! statements -/
@[simp] theorem s_nil : @wq _ (exS F FK m .nil ls S) QF = QF.f (.next ls) S := (rfl)
@[simp] theorem s_cons {a r} : @wq _ (exS F FK m (.cons a r) ls S) QF = wp (exS F FK m a ls S) fun fl S' => match fl with
    | .next ls' => @wq _ (exS F FK m r ls' S') QF
    | q => QF.f q S' := by
  show @wq _ (match exS F FK m a ls S with | .ok (.next ls) S' => exS F FK m r ls S' | q => q) QF = _
  cases exS F FK m a ls S with
  | ok fl S' => cases fl <;> rfl
  | exc c ds S' => rfl
  | bad => rfl
@[simp] theorem s_ex {e} : @wq _ (exS F FK m (.ex e) ls S) QF = wp ((ev F FK m e).val ls S) fun _ S1 => QF.f (.next ls) S1 := by
  show @wq _ (R.bind _ _) QF = _
  simp only [wp_bind, wp_ok]
@[simp] theorem s_set {i e} : @wq _ (exS F FK m (.set i e) ls S) QF = wp ((ev F FK m e).val ls S) fun x S1 => QF.f (.next (ls.set i (some x))) S1 := by
  show @wq _ (R.bind _ _) QF = _
  simp only [wp_bind, wp_ok]
@[simp] theorem s_slc {i own t it c e} : @wq _ (exS F FK m (.slc i own t it c e) ls S) QF = wp ((ev F FK m (.lc own t it c e)).val ls S) fun x S1 => QF.f (.next (ls.set i (some x))) S1 := by
  show @wq _ (R.bind _ _) QF = _
  simp only [wp_bind, wp_ok]
@[simp] theorem s_asg {t e} : @wq _ (exS F FK m (.asg t e) ls S) QF = wp ((ev F FK m e).val ls S) fun x S1 => match asgT t x S1 ls with | some ls' => QF.f (.next ls') S1 | none => False := by
  show @wq _ (R.bind _ _) QF = _
  simp only [wp_bind]
  congr 1
  funext x S1
  cases asgT t x S1 ls <;> rfl
@[simp] theorem s_par2 {i j a b} : @wq _ (exS F FK m (.par2 i j a b) ls S) QF = wp ((ev F FK m a).val ls S) fun x S1 => wp ((ev F FK m b).val ls S1) fun y S2 => QF.f (.next ((ls.set i (some x)).set j (some y))) S2 := by
  show @wq _ (R.bind _ _) QF = _
  simp only [wp_bind, wp_ok]
@[simp] theorem s_par3 {i j l a b c} : @wq _ (exS F FK m (.par3 i j l a b c) ls S) QF = wp ((ev F FK m a).val ls S) fun x S1 => wp ((ev F FK m b).val ls S1) fun y S2 => wp ((ev F FK m c).val ls S2) fun z S3 => QF.f (.next (((ls.set i (some x)).set j (some y)).set l (some z))) S3 := by
  show @wq _ (R.bind _ _) QF = _
  simp only [wp_bind, wp_ok]
@[simp] theorem s_aug {i o e} : @wq _ (exS F FK m (.aug i o e) ls S) QF = match ls[i]? with
    | some (some x) => wp ((ev F FK m e).val ls S) fun y S1 => wp (opt (augD o x y) S1) fun z S2 => QF.f (.next (ls.set i (some z))) S2
    | _ => False := by
  show @wq _ (match ls[i]? with
    | some (some x) => (evE F FK m e ls S).bind fun y S1 => match o, x, y with
      | .add, .int a, .int b => .ok (.next (ls.set i (some (.int (a + b))))) S1
      | .sub, .int a, .int b => .ok (.next (ls.set i (some (.int (a - b))))) S1
      | _, _, _ => .bad
    | _ => .bad) QF = _
  split
  · rename_i x h
    simp only [wp_bind]
    congr 1
    funext y S1
    cases o <;> cases x <;> cases y <;> rfl
  · rfl
@[simp] theorem s_six {a i e} : @wq _ (exS F FK m (.six a i e) ls S) QF = wp ((ev F FK m e).val ls S) fun x S1 => wp ((ev F FK m a).val ls S1) fun y S2 => wp ((ev F FK m i).val ls S2) fun z S3 => wp (setIx y z x S3) fun _ S4 => QF.f (.next ls) S4 := by
  show @wq _ (R.bind _ _) QF = _
  simp only [wp_bind, wp_ok]
@[simp] theorem s_aix {a i o e} : @wq _ (exS F FK m (.aix a i o e) ls S) QF = wp ((ev F FK m a).val ls S) fun y S1 => wp ((ev F FK m i).val ls S1) fun z S2 => wp (opt (ixR y z S2) S2) fun x S2 => wp ((ev F FK m e).val ls S2) fun w S3 =>
    wp (opt (augD o x w) S3) fun u S3 => wp (setIx y z u S3) fun _ S4 => QF.f (.next ls) S4 := by
  show @wq _ (R.bind _ _) QF = _
  simp only [wp_bind]
  congr 1
  funext y S1
  congr 1
  funext z S2
  cases ixR y z S2 with
  | none => rfl
  | some x =>
    show wp (R.bind _ _) QF.f = wp (opt (some x) S2) _
    simp only [wb, wo]
    show _ = wp _ _
    congr 1
    funext w S3
    cases o <;> cases x <;> cases w <;> first | rfl | (simp only [augD, wo, wb]; rfl)
@[simp] theorem s_ite {c a b} : @wq _ (exS F FK m (.ite c a b) ls S) QF = wp ((ev F FK m c).tst ls S) fun k S1 => if k then @wq _ (exS F FK m a ls S1) QF else @wq _ (exS F FK m b ls S1) QF := by
  show @wq _ (R.bind _ _) QF = _
  simp only [wp_bind]
  congr 1
  funext k S1
  cases k <;> rfl
@[simp] theorem s_whl {c b} : @wq _ (exS F FK m (.whl c b) ls S) QF = @wq _ (whlL (fun ls S => (ev F FK m c).tst ls S) (fun ls S => exS F FK m b ls S) m ls S) QF := (rfl)
@[simp] theorem s_for {t it b} : @wq _ (exS F FK m (.for t it b) ls S) QF = wp ((ev F FK m it).itv ls S) fun J S1 => @wq _ (forL (fun d S ls => asgT t d S ls) (fun ls S => exS F FK m b ls S) J m 0 ls S1) QF := by
  show @wq _ (R.bind _ _) QF = _
  simp only [wp_bind]
@[simp] theorem s_ret {e} : @wq _ (exS F FK m (.ret e) ls S) QF = wp ((ev F FK m e).val ls S) fun x S1 => QF.f (.ret x) S1 := by
  show @wq _ (R.bind _ _) QF = _
  simp only [wp_bind, wp_ok]
@[simp] theorem s_retN : @wq _ (exS F FK m .retN ls S) QF = QF.f (.ret .non) S := (rfl)
@[simp] theorem s_brk : @wq _ (exS F FK m .brk ls S) QF = QF.f (.brk ls) S := (rfl)
@[simp] theorem s_cnt : @wq _ (exS F FK m .cnt ls S) QF = QF.f (.cont ls) S := (rfl)
@[simp] theorem s_pas : @wq _ (exS F FK m .pas ls S) QF = QF.f (.next ls) S := (rfl)
end
/-! ### loops -/
/-- a for: I before turn i; n turns at most -/
theorem wp_for {g : D → Store → Ls → Option Ls} {body : Ls → Store → R Fl} {J : ItV} {QF : Fl → Store → Prop} (I : Nat → Ls → Store → Prop) (n : Nat)
    (step : ∀ i ls S, I i ls S → (J.nxt i S = some none ∧ QF (.next ls) S) ∨ (i < n ∧ ∃ d ls1, J.nxt i S = some (some d) ∧ g d S ls = some ls1 ∧ wp (body ls1 S) fun fl S' => match fl with
      | .next ls' => I (i + 1) ls' S'
      | .cont ls' => I (i + 1) ls' S'
      | .brk ls' => QF (.next ls') S'
      | .ret d => QF (.ret d) S')) : ∀ (m i : Nat) (ls : Ls) (S : Store), n < m + i → I i ls S → i ≤ n → wp (forL g body J m i ls S) QF
  | 0, i, ls, S, hm, h, hi => by omega
  | m + 1, i, ls, S, hm, h, hi => by
    rcases step i ls S h with ⟨e, q⟩ | ⟨hn, d, ls1, e1, e2, q⟩
    · unfold forL
      rw [e]
      exact q
    · unfold forL
      rw [e1]
      simp only [e2]
      cases hb : body ls1 S with
      | ok fl S' =>
        rw [hb] at q
        cases fl with
        | next ls' => exact wp_for I n step m (i + 1) ls' S' (by omega) q (by omega)
        | cont ls' => exact wp_for I n step m (i + 1) ls' S' (by omega) q (by omega)
        | brk ls' => exact q
        | ret d => exact q
      | exc c ds S' => rw [hb] at q; exact q
      | bad => rw [hb] at q; exact q
/-- a while: I with what falls -/
theorem wp_whl {c : Ls → Store → R Bool} {body : Ls → Store → R Fl} {QF : Fl → Store → Prop} (I : Nat → Ls → Store → Prop)
    (step : ∀ k ls S, I k ls S → wp (c ls S) fun t S1 => if t = true then 0 < k ∧ wp (body ls S1) fun fl S' => match fl with
      | .next ls' => ∃ k', k' < k ∧ I k' ls' S'
      | .cont ls' => ∃ k', k' < k ∧ I k' ls' S'
      | .brk ls' => QF (.next ls') S'
      | .ret d => QF (.ret d) S' else QF (.next ls) S1) : ∀ (m k : Nat) (ls : Ls) (S : Store), k < m → I k ls S → wp (whlL c body m ls S) QF
  | 0, k, ls, S, hm, h => by omega
  | m + 1, k, ls, S, hm, h => by
    have q := step k ls S h
    unfold whlL
    cases hc : c ls S with
    | ok t S1 =>
      rw [hc] at q
      cases t with
      | true =>
        simp only [wk, if_true] at q
        obtain ⟨hk, q⟩ := q
        simp only
        cases hb : body ls S1 with
        | ok fl S' =>
          rw [hb] at q
          cases fl with
          | next ls' =>
            obtain ⟨k', h1, h2⟩ := q
            exact wp_whl I step m k' ls' S' (by omega) h2
          | cont ls' =>
            obtain ⟨k', h1, h2⟩ := q
            exact wp_whl I step m k' ls' S' (by omega) h2
          | brk ls' => exact q
          | ret d => exact q
        | exc c ds S' => rw [hb] at q; exact q
        | bad => rw [hb] at q; exact q
      | false =>
        simp only [wk, Bool.false_eq_true, if_false] at q
        exact q
    | exc c ds S' => rw [hc] at q; exact q
    | bad => rw [hc] at q; exact q
/-- a comprehension: I before turn i, the list so far beside -/
theorem wp_lc {g : D → Store → Ls → Option Ls} {c : Ls → Store → R Bool} {e : Ls → Store → R D} {J : ItV} {r : Nat} {w : Ls} {Q : D → Store → Prop} (I : Nat → Store → Prop) (n : Nat)
    (step : ∀ i S, I i S → (J.nxt i S = some none ∧ Q (.ref r) S) ∨ (i < n ∧ ∃ d ls1, J.nxt i S = some (some d) ∧ g d S w = some ls1 ∧ wp (c ls1 S) fun t S1 => if t = true then wp (e ls1 S1) fun y S2 => ∃ acc, S2[r]? = some (.lst acc) ∧ acc.length < sizeLine ∧ I (i + 1) (S2.set r (.lst (acc ++ [y])))
      else I (i + 1) S1)) : ∀ (m i : Nat) (S : Store), n < m + i → I i S → i ≤ n → wp (lcL g c e J r w m i S) Q
  | 0, i, S, hm, h, hi => by omega
  | m + 1, i, S, hm, h, hi => by
    rcases step i S h with ⟨e, q⟩ | ⟨hn, d, ls1, e1, e2, q⟩
    · unfold lcL
      rw [e]
      exact q
    · unfold lcL
      rw [e1]
      simp only [e2]
      cases hc : c ls1 S with
      | ok t S1 =>
        rw [hc] at q
        cases t with
        | true =>
          simp only [wk, if_true] at q
          simp only
          cases he : e ls1 S1 with
          | ok y S2 =>
            rw [he] at q
            obtain ⟨acc, a1, a2, a3⟩ := q
            simp only [a1, if_pos a2]
            exact wp_lc I n step m (i + 1) _ (by omega) a3 (by omega)
          | exc c ds S' => rw [he] at q; exact q
          | bad => rw [he] at q; exact q
        | false =>
          simp only [wk, Bool.false_eq_true, if_false] at q
          exact wp_lc I n step m (i + 1) _ (by omega) q (by omega)
      | exc c ds S' => rw [hc] at q; exact q
      | bad => rw [hc] at q; exact q

/-- over lo, lo + 1, .. -/
theorem wp_rng {v k : Nat} {lo : Int} {body : Ls → Store → R Fl} {QF : Kt Fl} {m : Nat} {ls : Ls} {S : Store} (I : Nat → Ls → Store → Prop) (hm : k < m) (h0 : I 0 ls S)
    (step : ∀ i ls S, i < k → I i ls S → wp (body (ls.set v (some (.int (lo + i)))) S) (turnQ (I (i + 1)) QF.f)) (fin : ∀ ls S, I k ls S → QF.f (.next ls) S) : @wq _ (forL (fun d _ ls => some (ls.set v (some d))) body (.rng lo k) m 0 ls S) QF := by
  refine wp_for (fun i ls S => i ≤ k ∧ I i ls S) k (fun i ls S ⟨hi, h⟩ => ?_) m 0 ls S (by omega) ⟨by omega, h0⟩ (by omega)
  by_cases c : i < k
  · refine .inr ⟨c, _, _, by rw [nx_rng, if_pos c], rfl, ?_⟩
    refine wp_mono (step i ls S c h) fun fl S' q => ?_
    cases fl with
    | next ls' => exact ⟨c, q⟩
    | cont ls' => exact ⟨c, q⟩
    | brk ls' => exact q
    | ret d => exact q
  · have e : i = k := by omega
    subst e
    exact .inl ⟨by rw [nx_rng, if_neg c], fin ls S h⟩
/-- over what never changes -/
theorem wp_seq {J : ItV} {ds : List D} {g : D → Store → Ls → Option Ls} {body : Ls → Store → R Fl} {QF : Kt Fl} {m : Nat} {ls : Ls} {S : Store} (hJ : J = .tup ds ∨ J = .rol ds) (I : Nat → Ls → Store → Prop) (hm : ds.length < m) (h0 : I 0 ls S)
    (step : ∀ i d ls S, ds[i]? = some d → I i ls S → ∃ ls1, g d S ls = some ls1 ∧ wp (body ls1 S) (turnQ (I (i + 1)) QF.f)) (fin : ∀ ls S, I ds.length ls S → QF.f (.next ls) S) : @wq _ (forL g body J m 0 ls S) QF := by
  have nx : ∀ i S, J.nxt i S = some ds[i]? := fun i S => by rcases hJ with rfl | rfl <;> rfl
  refine wp_for (fun i ls S => i ≤ ds.length ∧ I i ls S) ds.length (fun i ls S ⟨hi, h⟩ => ?_) m 0 ls S (by omega) ⟨by omega, h0⟩ (by omega)
  by_cases c : i < ds.length
  · have e := List.getElem?_eq_getElem c
    obtain ⟨ls1, e1, q⟩ := step i _ ls S e h
    refine .inr ⟨c, _, ls1, by rw [nx, e], e1, ?_⟩
    refine wp_mono q fun fl S' q => ?_
    cases fl with
    | next ls' => exact ⟨c, q⟩
    | cont ls' => exact ⟨c, q⟩
    | brk ls' => exact q
    | ret d => exact q
  · have e : i = ds.length := by omega
    subst e
    exact .inl ⟨by rw [nx, List.getElem?_eq_none (Nat.le_refl _)], fin ls S h⟩
/-- over a list that stands -/
theorem wp_obj {r : Nat} {ds : List D} {g : D → Store → Ls → Option Ls} {body : Ls → Store → R Fl} {QF : Kt Fl} {m : Nat} {ls : Ls} {S : Store} (I : Nat → Ls → Store → Prop) (hS : ∀ i ls S, I i ls S → S[r]? = some (.lst ds)) (hm : ds.length < m) (h0 : I 0 ls S)
    (step : ∀ i d ls S, ds[i]? = some d → I i ls S → ∃ ls1, g d S ls = some ls1 ∧ wp (body ls1 S) (turnQ (I (i + 1)) QF.f)) (fin : ∀ ls S, I ds.length ls S → QF.f (.next ls) S) : @wq _ (forL g body (.obj r) m 0 ls S) QF := by
  refine wp_for (fun i ls S => i ≤ ds.length ∧ I i ls S) ds.length (fun i ls S ⟨hi, h⟩ => ?_) m 0 ls S (by omega) ⟨by omega, h0⟩ (by omega)
  have nx : (ItV.obj r).nxt i S = some ds[i]? := by rw [nx_obj, hS i ls S h]
  by_cases c : i < ds.length
  · have e := List.getElem?_eq_getElem c
    obtain ⟨ls1, e1, q⟩ := step i _ ls S e h
    refine .inr ⟨c, _, ls1, by rw [nx, e], e1, ?_⟩
    refine wp_mono q fun fl S' q => ?_
    cases fl with
    | next ls' => exact ⟨c, q⟩
    | cont ls' => exact ⟨c, q⟩
    | brk ls' => exact q
    | ret d => exact q
  · have e : i = ds.length := by omega
    subst e
    exact .inl ⟨by rw [nx, List.getElem?_eq_none (Nat.le_refl _)], fin ls S h⟩
/-- how a turn of a comprehension goes: r its list -/
def lcTurn (r : Nat) (c : Ls → Store → R Bool) (e : Ls → Store → R D) (I : List D → Store → Prop) (acc : List D) (ls1 : Ls) (S : Store) : Prop :=
  wp (c ls1 S) fun t S1 => if t = true then wp (e ls1 S1) fun y S2 => S2[r]? = some (.lst acc) ∧ acc.length < sizeLine ∧ I (acc ++ [y]) (S2.set r (.lst (acc ++ [y]))) else S1[r]? = some (.lst acc) ∧ I acc S1
theorem wp_lcG {J : ItV} {k : Nat} {g : D → Store → Ls → Option Ls} {c : Ls → Store → R Bool} {e : Ls → Store → R D} {r : Nat} {w : Ls} {Q : Kt D} {m : Nat} {S : Store} (I : Nat → List D → Store → Prop) (hm : k < m) (h0 : I 0 [] S) (hr : S[r]? = some (.lst []))
    (nx : ∀ i acc S, i ≤ k → I i acc S → (i = k ∧ J.nxt i S = some none) ∨ ∃ d ls1, i < k ∧ J.nxt i S = some (some d) ∧ g d S w = some ls1 ∧ (S[r]? = some (.lst acc) → lcTurn r c e (I (i + 1)) acc ls1 S)) (fin : ∀ acc S, I k acc S → S[r]? = some (.lst acc) → Q.f (.ref r) S) : @wq _ (lcL g c e J r w m 0 S) Q := by
  refine wp_lc (fun i S => i ≤ k ∧ ∃ acc, S[r]? = some (.lst acc) ∧ I i acc S) k (fun i S ⟨hi, acc, ha, h⟩ => ?_) m 0 S (by omega) ⟨by omega, [], hr, h0⟩ (by omega)
  rcases nx i acc S hi h with ⟨rfl, e1⟩ | ⟨d, ls1, hk, e1, e2, q⟩
  · exact .inl ⟨e1, fin acc S h ha⟩
  · refine .inr ⟨hk, d, ls1, e1, e2, ?_⟩
    refine wp_mono (q ha) fun t S1 q => ?_
    cases t with
    | true =>
      rw [if_pos rfl] at q
      show (if true = true then _ else _)
      rw [if_pos rfl]
      refine wp_mono q fun y S2 ⟨a1, a2, a3⟩ => ⟨acc, a1, a2, hk, acc ++ [y], ?_, a3⟩
      exact List.getElem?_set_self (by
        rcases Nat.lt_or_ge r S2.length with z | z
        · exact z
        · rw [List.getElem?_eq_none z] at a1; cases a1)
    | false =>
      rw [if_neg Bool.false_ne_true] at q
      show (if false = true then _ else _)
      rw [if_neg Bool.false_ne_true]
      exact ⟨hk, acc, q.1, q.2⟩
theorem wp_lcR {v k : Nat} {lo : Int} {c : Ls → Store → R Bool} {e : Ls → Store → R D} {r : Nat} {w : Ls} {Q : Kt D} {m : Nat} {S : Store} (I : Nat → List D → Store → Prop) (hm : k < m) (h0 : I 0 [] S) (hr : S[r]? = some (.lst []))
    (step : ∀ i acc S, i < k → I i acc S → S[r]? = some (.lst acc) → lcTurn r c e (I (i + 1)) acc (w.set v (some (.int (lo + i)))) S) (fin : ∀ acc S, I k acc S → S[r]? = some (.lst acc) → Q.f (.ref r) S) : @wq _ (lcL (fun d _ ls => some (ls.set v (some d))) c e (.rng lo k) r w m 0 S) Q := by
  refine wp_lcG I hm h0 hr (fun i acc S hi h => ?_) fin
  by_cases c : i < k
  · exact .inr ⟨_, _, c, by rw [nx_rng, if_pos c], rfl, step i acc S c h⟩
  · exact .inl ⟨by omega, by rw [nx_rng, if_neg c]⟩
theorem wp_lcT {J : ItV} {ds : List D} {g : D → Store → Ls → Option Ls} {c : Ls → Store → R Bool} {e : Ls → Store → R D} {r : Nat} {w : Ls} {Q : Kt D} {m : Nat} {S : Store} (hJ : J = .tup ds ∨ J = .rol ds) (I : Nat → List D → Store → Prop) (hm : ds.length < m) (h0 : I 0 [] S) (hr : S[r]? = some (.lst []))
    (step : ∀ i d acc S, ds[i]? = some d → I i acc S → S[r]? = some (.lst acc) → ∃ ls1, g d S w = some ls1 ∧ lcTurn r c e (I (i + 1)) acc ls1 S) (fin : ∀ acc S, I ds.length acc S → S[r]? = some (.lst acc) → Q.f (.ref r) S) : @wq _ (lcL g c e J r w m 0 S) Q := by
  have nx : ∀ i S, J.nxt i S = some ds[i]? := fun i S => by rcases hJ with rfl | rfl <;> rfl
  -- the target is asked for before the list is known to stand
  refine wp_lc (fun i S => i ≤ ds.length ∧ ∃ acc, S[r]? = some (.lst acc) ∧ I i acc S) ds.length (fun i S ⟨hi, acc, ha, h⟩ => ?_) m 0 S (by omega) ⟨by omega, [], hr, h0⟩ (by omega)
  by_cases cc : i < ds.length
  · have e1 := List.getElem?_eq_getElem cc
    obtain ⟨ls1, e2, q⟩ := step i _ acc S e1 h ha
    refine .inr ⟨cc, _, ls1, by rw [nx, e1], e2, ?_⟩
    refine wp_mono q fun t S1 q => ?_
    cases t with
    | true =>
      rw [if_pos rfl] at q
      show (if true = true then _ else _)
      rw [if_pos rfl]
      refine wp_mono q fun y S2 ⟨a1, a2, a3⟩ => ⟨acc, a1, a2, cc, acc ++ [y], ?_, a3⟩
      exact List.getElem?_set_self (by
        rcases Nat.lt_or_ge r S2.length with z | z
        · exact z
        · rw [List.getElem?_eq_none z] at a1; cases a1)
    | false =>
      rw [if_neg Bool.false_ne_true] at q
      show (if false = true then _ else _)
      rw [if_neg Bool.false_ne_true]
      exact ⟨cc, acc, q.1, q.2⟩
  · have e : i = ds.length := by omega
    subst e
    exact .inl ⟨by rw [nx, List.getElem?_eq_none (Nat.le_refl _)], fin acc S h ha⟩
theorem wp_lcO {n : Nat} {ds : List D} {g : D → Store → Ls → Option Ls} {c : Ls → Store → R Bool} {e : Ls → Store → R D} {r : Nat} {w : Ls} {Q : Kt D} {m : Nat} {S : Store} (I : Nat → List D → Store → Prop) (hS : ∀ i acc S, I i acc S → S[n]? = some (.lst ds)) (hm : ds.length < m) (h0 : I 0 [] S) (hr : S[r]? = some (.lst []))
    (step : ∀ i d acc S, ds[i]? = some d → I i acc S → S[r]? = some (.lst acc) → ∃ ls1, g d S w = some ls1 ∧ lcTurn r c e (I (i + 1)) acc ls1 S) (fin : ∀ acc S, I ds.length acc S → S[r]? = some (.lst acc) → Q.f (.ref r) S) : @wq _ (lcL g c e (.obj n) r w m 0 S) Q := by
  refine wp_lc (fun i S => i ≤ ds.length ∧ ∃ acc, S[r]? = some (.lst acc) ∧ I i acc S) ds.length (fun i S ⟨hi, acc, ha, h⟩ => ?_) m 0 S (by omega) ⟨by omega, [], hr, h0⟩ (by omega)
  have nx : (ItV.obj n).nxt i S = some ds[i]? := by rw [nx_obj, hS i acc S h]
  by_cases cc : i < ds.length
  · have e1 := List.getElem?_eq_getElem cc
    obtain ⟨ls1, e2, q⟩ := step i _ acc S e1 h ha
    refine .inr ⟨cc, _, ls1, by rw [nx, e1], e2, ?_⟩
    refine wp_mono q fun t S1 q => ?_
    cases t with
    | true =>
      rw [if_pos rfl] at q
      show (if true = true then _ else _)
      rw [if_pos rfl]
      refine wp_mono q fun y S2 ⟨a1, a2, a3⟩ => ⟨acc, a1, a2, cc, acc ++ [y], ?_, a3⟩
      exact List.getElem?_set_self (by
        rcases Nat.lt_or_ge r S2.length with z | z
        · exact z
        · rw [List.getElem?_eq_none z] at a1; cases a1)
    | false =>
      rw [if_neg Bool.false_ne_true] at q
      show (if false = true then _ else _)
      rw [if_neg Bool.false_ne_true]
      exact ⟨cc, acc, q.1, q.2⟩
  · have e : i = ds.length := by omega
    subst e
    exact .inl ⟨by rw [nx, List.getElem?_eq_none (Nat.le_refl _)], fin acc S h ha⟩

/-- a call -/
theorem wp_callF {P : List Df} {m n f : Nat} {df : Df} {ds full : List D} {S : Store} {Q : D → Store → Prop} (h : P[f]? = some df) (hf : fill df ds = some full)
    (w : wp (exS (callF P m n) (callFK P m n) m df.body (startD df full) S) fun fl S' => match fl with
      | .next _ => Q .non S'
      | .ret d => Q d S'
      | _ => False) : wp (callF P m (n + 1) f ds S) Q := by
  unfold callF
  rw [h]
  simp only [hf]
  rw [runN_succ, h]
  have hl : full.length = df.np := by
    unfold fill at hf
    simp only at hf
    split at hf
    · rename_i c
      cases hf
      exact c.1
    · cases hf
  simp only [hl, if_true]
  revert w
  generalize exS (callF P m n) (callFK P m n) m df.body (startD df full) S = r
  intro w
  cases r with
  | ok fl S' => cases fl <;> exact w
  | exc c ds S' => exact w
  | bad => exact w
theorem wp_callFK {P : List Df} {m n f : Nat} {ks : List Str} {df : Df} {ds es full : List D} {S : Store} {Q : D → Store → Prop} (h : P[f]? = some df) (hf : fillK df ks ds es = some full)
    (w : wp (callF P m n f full S) Q) (hq : fill df full = some full) : wp (callFK P m n f ks ds es S) Q := by
  unfold callF at w
  unfold callFK
  rw [h] at w ⊢
  simp only [hf, hq] at w ⊢
  exact w
end Z

/-- the same as a structure: nothing unfolds it -/
structure wq {α : Type} (r : R α) [Q : Kt α] : Prop where
  run : @Z.wq α r Q
def wp {α : Type} (r : R α) (Q : α → Store → Prop) : Prop := @wq α r ⟨Q⟩
theorem wq_eq : @wq = @Z.wq := by
  funext α r Q
  exact propext ⟨fun h => @wq.run α r Q h, fun h => @wq.mk α r Q h⟩
theorem wp_eq : @wp = @Z.wp := by
  funext α r Q
  exact propext ⟨fun h => @wq.run α r ⟨Q⟩ h, fun h => @wq.mk α r ⟨Q⟩ h⟩
def lcTurn (r : Nat) (c : Ls → Store → R Bool) (e : Ls → Store → R D) (I : List D → Store → Prop) (acc : List D) (ls1 : Ls) (S : Store) : Prop :=
  wp (c ls1 S) fun t S1 => if t = true then wp (e ls1 S1) fun y S2 => S2[r]? = some (.lst acc) ∧ acc.length < sizeLine ∧ I (acc ++ [y]) (S2.set r (.lst (acc ++ [y]))) else S1[r]? = some (.lst acc) ∧ I acc S1
theorem lcTurn_eq : @lcTurn = @Z.lcTurn := by
  funext r c e I acc ls1 S
  unfold lcTurn Z.lcTurn
  rw [wp_eq]
section
variable {F : Nat → List D → Store → R D} {FK : Nat → List Str → List D → List D → Store → R D} {m : Nat} {ls : Ls} {S : Store}
@[simp] theorem p_nil : (ev F FK m .nil).part ls S = .ok none S := (rfl)
end
theorem wp_def {α : Type} {r : R α} {Q : α → Store → Prop} : wp r Q ↔ ∃ a S, r = .ok a S ∧ Q a S := by have hZ := @Z.wp_def; first | (rw [← wp_eq, ← wq_eq, ← lcTurn_eq] at hZ; first | exact hZ | (apply hZ <;> assumption)) | (rw [← wp_eq, ← lcTurn_eq] at hZ; first | exact hZ | (apply hZ <;> assumption)) | (rw [← wq_eq, ← lcTurn_eq] at hZ; first | exact hZ | (apply hZ <;> assumption)) | (rw [← wp_eq, ← wq_eq] at hZ; first | exact hZ | (apply hZ <;> assumption)) | (rw [← wq_eq] at hZ; first | exact hZ | (apply hZ <;> assumption)) | (rw [← wp_eq] at hZ; first | exact hZ | (apply hZ <;> assumption))
theorem wp_mono {α : Type} {r : R α} {Q : α → Store → Prop} {Q' : Kt α} (h : wp r Q) (k : ∀ a S, Q a S → Q'.f a S) : @wq α r Q' := by have hZ := @Z.wp_mono; first | (rw [← wp_eq, ← wq_eq, ← lcTurn_eq] at hZ; first | exact hZ | (apply hZ <;> assumption)) | (rw [← wp_eq, ← lcTurn_eq] at hZ; first | exact hZ | (apply hZ <;> assumption)) | (rw [← wq_eq, ← lcTurn_eq] at hZ; first | exact hZ | (apply hZ <;> assumption)) | (rw [← wp_eq, ← wq_eq] at hZ; first | exact hZ | (apply hZ <;> assumption)) | (rw [← wq_eq] at hZ; first | exact hZ | (apply hZ <;> assumption)) | (rw [← wp_eq] at hZ; first | exact hZ | (apply hZ <;> assumption))
@[simp] theorem wp_ok {α : Type} {a : α} {S : Store} {Q : Kt α} : @wq α (.ok a S) Q = Q.f a S := by have hZ := @Z.wp_ok; first | (rw [← wp_eq, ← wq_eq, ← lcTurn_eq] at hZ; first | exact hZ | (apply hZ <;> assumption)) | (rw [← wp_eq, ← lcTurn_eq] at hZ; first | exact hZ | (apply hZ <;> assumption)) | (rw [← wq_eq, ← lcTurn_eq] at hZ; first | exact hZ | (apply hZ <;> assumption)) | (rw [← wp_eq, ← wq_eq] at hZ; first | exact hZ | (apply hZ <;> assumption)) | (rw [← wq_eq] at hZ; first | exact hZ | (apply hZ <;> assumption)) | (rw [← wp_eq] at hZ; first | exact hZ | (apply hZ <;> assumption))
@[simp] theorem wp_bad {α : Type} {Q : Kt α} : @wq α .bad Q = False := by have hZ := @Z.wp_bad; first | (rw [← wp_eq, ← wq_eq, ← lcTurn_eq] at hZ; first | exact hZ | (apply hZ <;> assumption)) | (rw [← wp_eq, ← lcTurn_eq] at hZ; first | exact hZ | (apply hZ <;> assumption)) | (rw [← wq_eq, ← lcTurn_eq] at hZ; first | exact hZ | (apply hZ <;> assumption)) | (rw [← wp_eq, ← wq_eq] at hZ; first | exact hZ | (apply hZ <;> assumption)) | (rw [← wq_eq] at hZ; first | exact hZ | (apply hZ <;> assumption)) | (rw [← wp_eq] at hZ; first | exact hZ | (apply hZ <;> assumption))
@[simp] theorem wp_bind {α β : Type} {r : R α} {k : α → Store → R β} {Q : Kt β} : @wq β (r.bind k) Q = wp r fun a S => @wq β (k a S) Q := by have hZ := @Z.wp_bind; first | (rw [← wp_eq, ← wq_eq, ← lcTurn_eq] at hZ; first | exact hZ | (apply hZ <;> assumption)) | (rw [← wp_eq, ← lcTurn_eq] at hZ; first | exact hZ | (apply hZ <;> assumption)) | (rw [← wq_eq, ← lcTurn_eq] at hZ; first | exact hZ | (apply hZ <;> assumption)) | (rw [← wp_eq, ← wq_eq] at hZ; first | exact hZ | (apply hZ <;> assumption)) | (rw [← wq_eq] at hZ; first | exact hZ | (apply hZ <;> assumption)) | (rw [← wp_eq] at hZ; first | exact hZ | (apply hZ <;> assumption))
@[simp] theorem wp_opt {α : Type} {o : Option α} {S : Store} {Q : Kt α} : @wq α (opt o S) Q = match o with | some a => Q.f a S | none => False := by have hZ := @Z.wp_opt; first | (rw [← wp_eq, ← wq_eq, ← lcTurn_eq] at hZ; first | exact hZ | (apply hZ <;> assumption)) | (rw [← wp_eq, ← lcTurn_eq] at hZ; first | exact hZ | (apply hZ <;> assumption)) | (rw [← wq_eq, ← lcTurn_eq] at hZ; first | exact hZ | (apply hZ <;> assumption)) | (rw [← wp_eq, ← wq_eq] at hZ; first | exact hZ | (apply hZ <;> assumption)) | (rw [← wq_eq] at hZ; first | exact hZ | (apply hZ <;> assumption)) | (rw [← wp_eq] at hZ; first | exact hZ | (apply hZ <;> assumption))
@[simp] theorem wp_new {o : O} {S : Store} {Q : Kt D} : @wq D (new o S) Q = Q.f (.ref S.length) (S ++ [o]) := by have hZ := @Z.wp_new; first | (rw [← wp_eq, ← wq_eq, ← lcTurn_eq] at hZ; first | exact hZ | (apply hZ <;> assumption)) | (rw [← wp_eq, ← lcTurn_eq] at hZ; first | exact hZ | (apply hZ <;> assumption)) | (rw [← wq_eq, ← lcTurn_eq] at hZ; first | exact hZ | (apply hZ <;> assumption)) | (rw [← wp_eq, ← wq_eq] at hZ; first | exact hZ | (apply hZ <;> assumption)) | (rw [← wq_eq] at hZ; first | exact hZ | (apply hZ <;> assumption)) | (rw [← wp_eq] at hZ; first | exact hZ | (apply hZ <;> assumption))
@[simp] theorem wp_ite {α : Type} {c : Prop} [Decidable c] {a b : R α} {Q : Kt α} : @wq α (if c then a else b) Q = if c then @wq α a Q else @wq α b Q := by have hZ := @Z.wp_ite; first | (rw [← wp_eq, ← wq_eq, ← lcTurn_eq] at hZ; first | exact hZ | (apply hZ <;> assumption)) | (rw [← wp_eq, ← lcTurn_eq] at hZ; first | exact hZ | (apply hZ <;> assumption)) | (rw [← wq_eq, ← lcTurn_eq] at hZ; first | exact hZ | (apply hZ <;> assumption)) | (rw [← wp_eq, ← wq_eq] at hZ; first | exact hZ | (apply hZ <;> assumption)) | (rw [← wq_eq] at hZ; first | exact hZ | (apply hZ <;> assumption)) | (rw [← wp_eq] at hZ; first | exact hZ | (apply hZ <;> assumption))
section
variable {F : Nat → List D → Store → R D} {FK : Nat → List Str → List D → List D → Store → R D} {m : Nat} {ls : Ls} {S : Store} {Q : Kt D} {QB : Kt Bool} {QL : Kt (List D)} {QI : Kt ItV} {QF : Kt Fl}
@[simp] theorem e_non : @wq _ ((ev F FK m .non).val ls S) Q = Q.f .non S := by have hZ := @Z.e_non; first | (rw [← wp_eq, ← wq_eq, ← lcTurn_eq] at hZ; first | exact hZ | (apply hZ <;> assumption)) | (rw [← wp_eq, ← lcTurn_eq] at hZ; first | exact hZ | (apply hZ <;> assumption)) | (rw [← wq_eq, ← lcTurn_eq] at hZ; first | exact hZ | (apply hZ <;> assumption)) | (rw [← wp_eq, ← wq_eq] at hZ; first | exact hZ | (apply hZ <;> assumption)) | (rw [← wq_eq] at hZ; first | exact hZ | (apply hZ <;> assumption)) | (rw [← wp_eq] at hZ; first | exact hZ | (apply hZ <;> assumption))
@[simp] theorem e_bl {b} : @wq _ ((ev F FK m (.bl b)).val ls S) Q = Q.f (.bl b) S := by have hZ := @Z.e_bl; first | (rw [← wp_eq, ← wq_eq, ← lcTurn_eq] at hZ; first | exact hZ | (apply hZ <;> assumption)) | (rw [← wp_eq, ← lcTurn_eq] at hZ; first | exact hZ | (apply hZ <;> assumption)) | (rw [← wq_eq, ← lcTurn_eq] at hZ; first | exact hZ | (apply hZ <;> assumption)) | (rw [← wp_eq, ← wq_eq] at hZ; first | exact hZ | (apply hZ <;> assumption)) | (rw [← wq_eq] at hZ; first | exact hZ | (apply hZ <;> assumption)) | (rw [← wp_eq] at hZ; first | exact hZ | (apply hZ <;> assumption))
@[simp] theorem e_int {b} : @wq _ ((ev F FK m (.int b)).val ls S) Q = Q.f (.int b) S := by have hZ := @Z.e_int; first | (rw [← wp_eq, ← wq_eq, ← lcTurn_eq] at hZ; first | exact hZ | (apply hZ <;> assumption)) | (rw [← wp_eq, ← lcTurn_eq] at hZ; first | exact hZ | (apply hZ <;> assumption)) | (rw [← wq_eq, ← lcTurn_eq] at hZ; first | exact hZ | (apply hZ <;> assumption)) | (rw [← wp_eq, ← wq_eq] at hZ; first | exact hZ | (apply hZ <;> assumption)) | (rw [← wq_eq] at hZ; first | exact hZ | (apply hZ <;> assumption)) | (rw [← wp_eq] at hZ; first | exact hZ | (apply hZ <;> assumption))
@[simp] theorem e_str {b} : @wq _ ((ev F FK m (.str b)).val ls S) Q = Q.f (.str b) S := by have hZ := @Z.e_str; first | (rw [← wp_eq, ← wq_eq, ← lcTurn_eq] at hZ; first | exact hZ | (apply hZ <;> assumption)) | (rw [← wp_eq, ← lcTurn_eq] at hZ; first | exact hZ | (apply hZ <;> assumption)) | (rw [← wq_eq, ← lcTurn_eq] at hZ; first | exact hZ | (apply hZ <;> assumption)) | (rw [← wp_eq, ← wq_eq] at hZ; first | exact hZ | (apply hZ <;> assumption)) | (rw [← wq_eq] at hZ; first | exact hZ | (apply hZ <;> assumption)) | (rw [← wp_eq] at hZ; first | exact hZ | (apply hZ <;> assumption))
theorem e_v' {i} : @wq _ ((ev F FK m (.v i)).val ls S) Q = @wq _ (match ls[i]? with | some (some d) => .ok d S | _ => .bad) Q := by have hZ := @Z.e_v'; first | (rw [← wp_eq, ← wq_eq, ← lcTurn_eq] at hZ; first | exact hZ | (apply hZ <;> assumption)) | (rw [← wp_eq, ← lcTurn_eq] at hZ; first | exact hZ | (apply hZ <;> assumption)) | (rw [← wq_eq, ← lcTurn_eq] at hZ; first | exact hZ | (apply hZ <;> assumption)) | (rw [← wp_eq, ← wq_eq] at hZ; first | exact hZ | (apply hZ <;> assumption)) | (rw [← wq_eq] at hZ; first | exact hZ | (apply hZ <;> assumption)) | (rw [← wp_eq] at hZ; first | exact hZ | (apply hZ <;> assumption))
@[simp] theorem e_v {i} : @wq _ ((ev F FK m (.v i)).val ls S) Q = match ls[i]? with | some (some d) => Q.f d S | _ => False := by have hZ := @Z.e_v; first | (rw [← wp_eq, ← wq_eq, ← lcTurn_eq] at hZ; first | exact hZ | (apply hZ <;> assumption)) | (rw [← wp_eq, ← lcTurn_eq] at hZ; first | exact hZ | (apply hZ <;> assumption)) | (rw [← wq_eq, ← lcTurn_eq] at hZ; first | exact hZ | (apply hZ <;> assumption)) | (rw [← wp_eq, ← wq_eq] at hZ; first | exact hZ | (apply hZ <;> assumption)) | (rw [← wq_eq] at hZ; first | exact hZ | (apply hZ <;> assumption)) | (rw [← wp_eq] at hZ; first | exact hZ | (apply hZ <;> assumption))
@[simp] theorem e_bin {o a b} : @wq _ ((ev F FK m (.bin o a b)).val ls S) Q = wp ((ev F FK m a).val ls S) fun x S1 => wp ((ev F FK m b).val ls S1) fun y S2 => @wq _ (binD o x y S2) Q := by have hZ := @Z.e_bin; first | (rw [← wp_eq, ← wq_eq, ← lcTurn_eq] at hZ; first | exact hZ | (apply hZ <;> assumption)) | (rw [← wp_eq, ← lcTurn_eq] at hZ; first | exact hZ | (apply hZ <;> assumption)) | (rw [← wq_eq, ← lcTurn_eq] at hZ; first | exact hZ | (apply hZ <;> assumption)) | (rw [← wp_eq, ← wq_eq] at hZ; first | exact hZ | (apply hZ <;> assumption)) | (rw [← wq_eq] at hZ; first | exact hZ | (apply hZ <;> assumption)) | (rw [← wp_eq] at hZ; first | exact hZ | (apply hZ <;> assumption))
@[simp] theorem e_neg {a} : @wq _ ((ev F FK m (.neg a)).val ls S) Q = wp ((ev F FK m a).val ls S) fun x S1 => @wq _ (match x with | .int i => .ok (.int (-i)) S1 | _ => .bad) Q := by have hZ := @Z.e_neg; first | (rw [← wp_eq, ← wq_eq, ← lcTurn_eq] at hZ; first | exact hZ | (apply hZ <;> assumption)) | (rw [← wp_eq, ← lcTurn_eq] at hZ; first | exact hZ | (apply hZ <;> assumption)) | (rw [← wq_eq, ← lcTurn_eq] at hZ; first | exact hZ | (apply hZ <;> assumption)) | (rw [← wp_eq, ← wq_eq] at hZ; first | exact hZ | (apply hZ <;> assumption)) | (rw [← wq_eq] at hZ; first | exact hZ | (apply hZ <;> assumption)) | (rw [← wp_eq] at hZ; first | exact hZ | (apply hZ <;> assumption))
@[simp] theorem e_no {a} : @wq _ ((ev F FK m (.no a)).val ls S) Q = wp ((ev F FK m a).val ls S) fun x S1 => @wq _ (opt ((truD x S1).map fun k => .bl (!k)) S1) Q := by have hZ := @Z.e_no; first | (rw [← wp_eq, ← wq_eq, ← lcTurn_eq] at hZ; first | exact hZ | (apply hZ <;> assumption)) | (rw [← wp_eq, ← lcTurn_eq] at hZ; first | exact hZ | (apply hZ <;> assumption)) | (rw [← wq_eq, ← lcTurn_eq] at hZ; first | exact hZ | (apply hZ <;> assumption)) | (rw [← wp_eq, ← wq_eq] at hZ; first | exact hZ | (apply hZ <;> assumption)) | (rw [← wq_eq] at hZ; first | exact hZ | (apply hZ <;> assumption)) | (rw [← wp_eq] at hZ; first | exact hZ | (apply hZ <;> assumption))
@[simp] theorem t_no {a} : @wq _ ((ev F FK m (.no a)).tst ls S) QB = wp ((ev F FK m a).tst ls S) fun k S1 => QB.f (!k) S1 := by have hZ := @Z.t_no; first | (rw [← wp_eq, ← wq_eq, ← lcTurn_eq] at hZ; first | exact hZ | (apply hZ <;> assumption)) | (rw [← wp_eq, ← lcTurn_eq] at hZ; first | exact hZ | (apply hZ <;> assumption)) | (rw [← wq_eq, ← lcTurn_eq] at hZ; first | exact hZ | (apply hZ <;> assumption)) | (rw [← wp_eq, ← wq_eq] at hZ; first | exact hZ | (apply hZ <;> assumption)) | (rw [← wq_eq] at hZ; first | exact hZ | (apply hZ <;> assumption)) | (rw [← wp_eq] at hZ; first | exact hZ | (apply hZ <;> assumption))
@[simp] theorem e_bo {k es} : @wq _ ((ev F FK m (.bo k es)).val ls S) Q = @wq _ ((ev F FK m es).bov k ls S) Q := by have hZ := @Z.e_bo; first | (rw [← wp_eq, ← wq_eq, ← lcTurn_eq] at hZ; first | exact hZ | (apply hZ <;> assumption)) | (rw [← wp_eq, ← lcTurn_eq] at hZ; first | exact hZ | (apply hZ <;> assumption)) | (rw [← wq_eq, ← lcTurn_eq] at hZ; first | exact hZ | (apply hZ <;> assumption)) | (rw [← wp_eq, ← wq_eq] at hZ; first | exact hZ | (apply hZ <;> assumption)) | (rw [← wq_eq] at hZ; first | exact hZ | (apply hZ <;> assumption)) | (rw [← wp_eq] at hZ; first | exact hZ | (apply hZ <;> assumption))
@[simp] theorem t_bo {k es} : @wq _ ((ev F FK m (.bo k es)).tst ls S) QB = @wq _ ((ev F FK m es).bot k ls S) QB := by have hZ := @Z.t_bo; first | (rw [← wp_eq, ← wq_eq, ← lcTurn_eq] at hZ; first | exact hZ | (apply hZ <;> assumption)) | (rw [← wp_eq, ← lcTurn_eq] at hZ; first | exact hZ | (apply hZ <;> assumption)) | (rw [← wq_eq, ← lcTurn_eq] at hZ; first | exact hZ | (apply hZ <;> assumption)) | (rw [← wp_eq, ← wq_eq] at hZ; first | exact hZ | (apply hZ <;> assumption)) | (rw [← wq_eq] at hZ; first | exact hZ | (apply hZ <;> assumption)) | (rw [← wp_eq] at hZ; first | exact hZ | (apply hZ <;> assumption))
@[simp] theorem bv_one {k a} : @wq _ ((ev F FK m (.cons a .nil)).bov k ls S) Q = @wq _ ((ev F FK m a).val ls S) Q := by have hZ := @Z.bv_one; first | (rw [← wp_eq, ← wq_eq, ← lcTurn_eq] at hZ; first | exact hZ | (apply hZ <;> assumption)) | (rw [← wp_eq, ← lcTurn_eq] at hZ; first | exact hZ | (apply hZ <;> assumption)) | (rw [← wq_eq, ← lcTurn_eq] at hZ; first | exact hZ | (apply hZ <;> assumption)) | (rw [← wp_eq, ← wq_eq] at hZ; first | exact hZ | (apply hZ <;> assumption)) | (rw [← wq_eq] at hZ; first | exact hZ | (apply hZ <;> assumption)) | (rw [← wp_eq] at hZ; first | exact hZ | (apply hZ <;> assumption))
@[simp] theorem bt_one {k a} : @wq _ ((ev F FK m (.cons a .nil)).bot k ls S) QB = @wq _ ((ev F FK m a).tst ls S) QB := by have hZ := @Z.bt_one; first | (rw [← wp_eq, ← wq_eq, ← lcTurn_eq] at hZ; first | exact hZ | (apply hZ <;> assumption)) | (rw [← wp_eq, ← lcTurn_eq] at hZ; first | exact hZ | (apply hZ <;> assumption)) | (rw [← wq_eq, ← lcTurn_eq] at hZ; first | exact hZ | (apply hZ <;> assumption)) | (rw [← wp_eq, ← wq_eq] at hZ; first | exact hZ | (apply hZ <;> assumption)) | (rw [← wq_eq] at hZ; first | exact hZ | (apply hZ <;> assumption)) | (rw [← wp_eq] at hZ; first | exact hZ | (apply hZ <;> assumption))
@[simp] theorem bv_cons {k a b r} : @wq _ ((ev F FK m (.cons a (.cons b r))).bov k ls S) Q = wp ((ev F FK m a).val ls S) fun x S1 => @wq _ (match truD x S1 with | some t => if t = k then (ev F FK m (.cons b r)).bov k ls S1 else .ok x S1 | none => .bad) Q := by have hZ := @Z.bv_cons; first | (rw [← wp_eq, ← wq_eq, ← lcTurn_eq] at hZ; first | exact hZ | (apply hZ <;> assumption)) | (rw [← wp_eq, ← lcTurn_eq] at hZ; first | exact hZ | (apply hZ <;> assumption)) | (rw [← wq_eq, ← lcTurn_eq] at hZ; first | exact hZ | (apply hZ <;> assumption)) | (rw [← wp_eq, ← wq_eq] at hZ; first | exact hZ | (apply hZ <;> assumption)) | (rw [← wq_eq] at hZ; first | exact hZ | (apply hZ <;> assumption)) | (rw [← wp_eq] at hZ; first | exact hZ | (apply hZ <;> assumption))
@[simp] theorem bt_cons {k a b r} : @wq _ ((ev F FK m (.cons a (.cons b r))).bot k ls S) QB = wp ((ev F FK m a).tst ls S) fun t S1 => if t = k then @wq _ ((ev F FK m (.cons b r)).bot k ls S1) QB else QB.f t S1 := by have hZ := @Z.bt_cons; first | (rw [← wp_eq, ← wq_eq, ← lcTurn_eq] at hZ; first | exact hZ | (apply hZ <;> assumption)) | (rw [← wp_eq, ← lcTurn_eq] at hZ; first | exact hZ | (apply hZ <;> assumption)) | (rw [← wq_eq, ← lcTurn_eq] at hZ; first | exact hZ | (apply hZ <;> assumption)) | (rw [← wp_eq, ← wq_eq] at hZ; first | exact hZ | (apply hZ <;> assumption)) | (rw [← wq_eq] at hZ; first | exact hZ | (apply hZ <;> assumption)) | (rw [← wp_eq] at hZ; first | exact hZ | (apply hZ <;> assumption))
@[simp] theorem e_cmp {o a b} : @wq _ ((ev F FK m (.cmp o a b)).val ls S) Q = wp ((ev F FK m a).val ls S) fun x S1 => wp ((ev F FK m b).val ls S1) fun y S2 => @wq _ (opt ((cmpD o x y S2).map .bl) S2) Q := by have hZ := @Z.e_cmp; first | (rw [← wp_eq, ← wq_eq, ← lcTurn_eq] at hZ; first | exact hZ | (apply hZ <;> assumption)) | (rw [← wp_eq, ← lcTurn_eq] at hZ; first | exact hZ | (apply hZ <;> assumption)) | (rw [← wq_eq, ← lcTurn_eq] at hZ; first | exact hZ | (apply hZ <;> assumption)) | (rw [← wp_eq, ← wq_eq] at hZ; first | exact hZ | (apply hZ <;> assumption)) | (rw [← wq_eq] at hZ; first | exact hZ | (apply hZ <;> assumption)) | (rw [← wp_eq] at hZ; first | exact hZ | (apply hZ <;> assumption))
@[simp] theorem t_cmp {o a b} : @wq _ ((ev F FK m (.cmp o a b)).tst ls S) QB = wp ((ev F FK m a).val ls S) fun x S1 => wp ((ev F FK m b).val ls S1) fun y S2 => @wq _ (opt (cmpD o x y S2) S2) QB := by have hZ := @Z.t_cmp; first | (rw [← wp_eq, ← wq_eq, ← lcTurn_eq] at hZ; first | exact hZ | (apply hZ <;> assumption)) | (rw [← wp_eq, ← lcTurn_eq] at hZ; first | exact hZ | (apply hZ <;> assumption)) | (rw [← wq_eq, ← lcTurn_eq] at hZ; first | exact hZ | (apply hZ <;> assumption)) | (rw [← wp_eq, ← wq_eq] at hZ; first | exact hZ | (apply hZ <;> assumption)) | (rw [← wq_eq] at hZ; first | exact hZ | (apply hZ <;> assumption)) | (rw [← wp_eq] at hZ; first | exact hZ | (apply hZ <;> assumption))
@[simp] theorem e_chn {o p a b c} : @wq _ ((ev F FK m (.chn o p a b c)).val ls S) Q = wp ((ev F FK m a).val ls S) fun x S1 => wp ((ev F FK m b).val ls S1) fun y S2 => @wq _ (match cmpD o x y S2 with
    | some true => ((ev F FK m c).val ls S2).bind fun z S3 => opt ((cmpD p y z S3).map .bl) S3
    | some false => .ok (.bl false) S2
    | none => .bad) Q := by have hZ := @Z.e_chn; first | (rw [← wp_eq, ← wq_eq, ← lcTurn_eq] at hZ; first | exact hZ | (apply hZ <;> assumption)) | (rw [← wp_eq, ← lcTurn_eq] at hZ; first | exact hZ | (apply hZ <;> assumption)) | (rw [← wq_eq, ← lcTurn_eq] at hZ; first | exact hZ | (apply hZ <;> assumption)) | (rw [← wp_eq, ← wq_eq] at hZ; first | exact hZ | (apply hZ <;> assumption)) | (rw [← wq_eq] at hZ; first | exact hZ | (apply hZ <;> assumption)) | (rw [← wp_eq] at hZ; first | exact hZ | (apply hZ <;> assumption))
@[simp] theorem e_ite {c a b} : @wq _ ((ev F FK m (.ite c a b)).val ls S) Q = wp ((ev F FK m c).tst ls S) fun k S1 => if k then @wq _ ((ev F FK m a).val ls S1) Q else @wq _ ((ev F FK m b).val ls S1) Q := by have hZ := @Z.e_ite; first | (rw [← wp_eq, ← wq_eq, ← lcTurn_eq] at hZ; first | exact hZ | (apply hZ <;> assumption)) | (rw [← wp_eq, ← lcTurn_eq] at hZ; first | exact hZ | (apply hZ <;> assumption)) | (rw [← wq_eq, ← lcTurn_eq] at hZ; first | exact hZ | (apply hZ <;> assumption)) | (rw [← wp_eq, ← wq_eq] at hZ; first | exact hZ | (apply hZ <;> assumption)) | (rw [← wq_eq] at hZ; first | exact hZ | (apply hZ <;> assumption)) | (rw [← wp_eq] at hZ; first | exact hZ | (apply hZ <;> assumption))
@[simp] theorem e_tup {es} : @wq _ ((ev F FK m (.tup es)).val ls S) Q = wp ((ev F FK m es).lst ls S) fun ds S1 => if ds.length ≤ sizeLine then Q.f (.tup ds) S1 else False := by have hZ := @Z.e_tup; first | (rw [← wp_eq, ← wq_eq, ← lcTurn_eq] at hZ; first | exact hZ | (apply hZ <;> assumption)) | (rw [← wp_eq, ← lcTurn_eq] at hZ; first | exact hZ | (apply hZ <;> assumption)) | (rw [← wq_eq, ← lcTurn_eq] at hZ; first | exact hZ | (apply hZ <;> assumption)) | (rw [← wp_eq, ← wq_eq] at hZ; first | exact hZ | (apply hZ <;> assumption)) | (rw [← wq_eq] at hZ; first | exact hZ | (apply hZ <;> assumption)) | (rw [← wp_eq] at hZ; first | exact hZ | (apply hZ <;> assumption))
@[simp] theorem e_lst {es} : @wq _ ((ev F FK m (.lst es)).val ls S) Q = wp ((ev F FK m es).lst ls S) fun ds S1 => if ds.length ≤ sizeLine then Q.f (.ref S1.length) (S1 ++ [.lst ds]) else False := by have hZ := @Z.e_lst; first | (rw [← wp_eq, ← wq_eq, ← lcTurn_eq] at hZ; first | exact hZ | (apply hZ <;> assumption)) | (rw [← wp_eq, ← lcTurn_eq] at hZ; first | exact hZ | (apply hZ <;> assumption)) | (rw [← wq_eq, ← lcTurn_eq] at hZ; first | exact hZ | (apply hZ <;> assumption)) | (rw [← wp_eq, ← wq_eq] at hZ; first | exact hZ | (apply hZ <;> assumption)) | (rw [← wq_eq] at hZ; first | exact hZ | (apply hZ <;> assumption)) | (rw [← wp_eq] at hZ; first | exact hZ | (apply hZ <;> assumption))
@[simp] theorem l_nil : @wq _ ((ev F FK m .nil).lst ls S) QL = QL.f [] S := by have hZ := @Z.l_nil; first | (rw [← wp_eq, ← wq_eq, ← lcTurn_eq] at hZ; first | exact hZ | (apply hZ <;> assumption)) | (rw [← wp_eq, ← lcTurn_eq] at hZ; first | exact hZ | (apply hZ <;> assumption)) | (rw [← wq_eq, ← lcTurn_eq] at hZ; first | exact hZ | (apply hZ <;> assumption)) | (rw [← wp_eq, ← wq_eq] at hZ; first | exact hZ | (apply hZ <;> assumption)) | (rw [← wq_eq] at hZ; first | exact hZ | (apply hZ <;> assumption)) | (rw [← wp_eq] at hZ; first | exact hZ | (apply hZ <;> assumption))
@[simp] theorem l_cons {a r} : @wq _ ((ev F FK m (.cons a r)).lst ls S) QL = wp ((ev F FK m a).val ls S) fun x S1 => wp ((ev F FK m r).lst ls S1) fun xs S2 => QL.f (x :: xs) S2 := by have hZ := @Z.l_cons; first | (rw [← wp_eq, ← wq_eq, ← lcTurn_eq] at hZ; first | exact hZ | (apply hZ <;> assumption)) | (rw [← wp_eq, ← lcTurn_eq] at hZ; first | exact hZ | (apply hZ <;> assumption)) | (rw [← wq_eq, ← lcTurn_eq] at hZ; first | exact hZ | (apply hZ <;> assumption)) | (rw [← wp_eq, ← wq_eq] at hZ; first | exact hZ | (apply hZ <;> assumption)) | (rw [← wq_eq] at hZ; first | exact hZ | (apply hZ <;> assumption)) | (rw [← wp_eq] at hZ; first | exact hZ | (apply hZ <;> assumption))
@[simp] theorem e_ix {a i} : @wq _ ((ev F FK m (.ix a i)).val ls S) Q = wp ((ev F FK m a).val ls S) fun x S1 => wp ((ev F FK m i).val ls S1) fun y S2 => @wq _ (opt (ixD x y S2) S2) Q := by have hZ := @Z.e_ix; first | (rw [← wp_eq, ← wq_eq, ← lcTurn_eq] at hZ; first | exact hZ | (apply hZ <;> assumption)) | (rw [← wp_eq, ← lcTurn_eq] at hZ; first | exact hZ | (apply hZ <;> assumption)) | (rw [← wq_eq, ← lcTurn_eq] at hZ; first | exact hZ | (apply hZ <;> assumption)) | (rw [← wp_eq, ← wq_eq] at hZ; first | exact hZ | (apply hZ <;> assumption)) | (rw [← wq_eq] at hZ; first | exact hZ | (apply hZ <;> assumption)) | (rw [← wp_eq] at hZ; first | exact hZ | (apply hZ <;> assumption))
theorem part_val {e} (h : (ev F FK m e).nl = false) {QO : Kt (Option Int)} : @wq _ ((ev F FK m e).part ls S) QO = wp ((ev F FK m e).val ls S) fun x S1 => match x with | .int i => QO.f (some i) S1 | _ => False := by have hZ := @Z.part_val; first | (rw [← wp_eq, ← wq_eq, ← lcTurn_eq] at hZ; first | exact hZ | (apply hZ <;> assumption)) | (rw [← wp_eq, ← lcTurn_eq] at hZ; first | exact hZ | (apply hZ <;> assumption)) | (rw [← wq_eq, ← lcTurn_eq] at hZ; first | exact hZ | (apply hZ <;> assumption)) | (rw [← wp_eq, ← wq_eq] at hZ; first | exact hZ | (apply hZ <;> assumption)) | (rw [← wq_eq] at hZ; first | exact hZ | (apply hZ <;> assumption)) | (rw [← wp_eq] at hZ; first | exact hZ | (apply hZ <;> assumption))
@[simp] theorem p_v {i} {QO : Kt (Option Int)} : @wq _ ((ev F FK m (.v i)).part ls S) QO = wp ((ev F FK m (.v i)).val ls S) fun x S1 => match x with | .int i => QO.f (some i) S1 | _ => False := by have hZ := @Z.p_v; first | (rw [← wp_eq, ← wq_eq, ← lcTurn_eq] at hZ; first | exact hZ | (apply hZ <;> assumption)) | (rw [← wp_eq, ← lcTurn_eq] at hZ; first | exact hZ | (apply hZ <;> assumption)) | (rw [← wq_eq, ← lcTurn_eq] at hZ; first | exact hZ | (apply hZ <;> assumption)) | (rw [← wp_eq, ← wq_eq] at hZ; first | exact hZ | (apply hZ <;> assumption)) | (rw [← wq_eq] at hZ; first | exact hZ | (apply hZ <;> assumption)) | (rw [← wp_eq] at hZ; first | exact hZ | (apply hZ <;> assumption))
@[simp] theorem p_int {i} {QO : Kt (Option Int)} : @wq _ ((ev F FK m (.int i)).part ls S) QO = QO.f (some i) S := by have hZ := @Z.p_int; first | (rw [← wp_eq, ← wq_eq, ← lcTurn_eq] at hZ; first | exact hZ | (apply hZ <;> assumption)) | (rw [← wp_eq, ← lcTurn_eq] at hZ; first | exact hZ | (apply hZ <;> assumption)) | (rw [← wq_eq, ← lcTurn_eq] at hZ; first | exact hZ | (apply hZ <;> assumption)) | (rw [← wp_eq, ← wq_eq] at hZ; first | exact hZ | (apply hZ <;> assumption)) | (rw [← wq_eq] at hZ; first | exact hZ | (apply hZ <;> assumption)) | (rw [← wp_eq] at hZ; first | exact hZ | (apply hZ <;> assumption))
@[simp] theorem p_bin {o a b} {QO : Kt (Option Int)} : @wq _ ((ev F FK m (.bin o a b)).part ls S) QO = wp ((ev F FK m (.bin o a b)).val ls S) fun x S1 => match x with | .int i => QO.f (some i) S1 | _ => False := by have hZ := @Z.p_bin; first | (rw [← wp_eq, ← wq_eq, ← lcTurn_eq] at hZ; first | exact hZ | (apply hZ <;> assumption)) | (rw [← wp_eq, ← lcTurn_eq] at hZ; first | exact hZ | (apply hZ <;> assumption)) | (rw [← wq_eq, ← lcTurn_eq] at hZ; first | exact hZ | (apply hZ <;> assumption)) | (rw [← wp_eq, ← wq_eq] at hZ; first | exact hZ | (apply hZ <;> assumption)) | (rw [← wq_eq] at hZ; first | exact hZ | (apply hZ <;> assumption)) | (rw [← wp_eq] at hZ; first | exact hZ | (apply hZ <;> assumption))
@[simp] theorem p_call {f es} {QO : Kt (Option Int)} : @wq _ ((ev F FK m (.call f es)).part ls S) QO = wp ((ev F FK m (.call f es)).val ls S) fun x S1 => match x with | .int i => QO.f (some i) S1 | _ => False := by have hZ := @Z.p_call; first | (rw [← wp_eq, ← wq_eq, ← lcTurn_eq] at hZ; first | exact hZ | (apply hZ <;> assumption)) | (rw [← wp_eq, ← lcTurn_eq] at hZ; first | exact hZ | (apply hZ <;> assumption)) | (rw [← wq_eq, ← lcTurn_eq] at hZ; first | exact hZ | (apply hZ <;> assumption)) | (rw [← wp_eq, ← wq_eq] at hZ; first | exact hZ | (apply hZ <;> assumption)) | (rw [← wq_eq] at hZ; first | exact hZ | (apply hZ <;> assumption)) | (rw [← wp_eq] at hZ; first | exact hZ | (apply hZ <;> assumption))
@[simp] theorem p_bi {f es} {QO : Kt (Option Int)} : @wq _ ((ev F FK m (.bi f es)).part ls S) QO = wp ((ev F FK m (.bi f es)).val ls S) fun x S1 => match x with | .int i => QO.f (some i) S1 | _ => False := by have hZ := @Z.p_bi; first | (rw [← wp_eq, ← wq_eq, ← lcTurn_eq] at hZ; first | exact hZ | (apply hZ <;> assumption)) | (rw [← wp_eq, ← lcTurn_eq] at hZ; first | exact hZ | (apply hZ <;> assumption)) | (rw [← wq_eq, ← lcTurn_eq] at hZ; first | exact hZ | (apply hZ <;> assumption)) | (rw [← wp_eq, ← wq_eq] at hZ; first | exact hZ | (apply hZ <;> assumption)) | (rw [← wq_eq] at hZ; first | exact hZ | (apply hZ <;> assumption)) | (rw [← wp_eq] at hZ; first | exact hZ | (apply hZ <;> assumption))
@[simp] theorem e_sl {a lo hi} : @wq _ ((ev F FK m (.sl a lo hi)).val ls S) Q = wp ((ev F FK m a).val ls S) fun x S1 => wp ((ev F FK m lo).part ls S1) fun l S2 => wp ((ev F FK m hi).part ls S2) fun u S3 => @wq _ (slD x l u S3) Q := by have hZ := @Z.e_sl; first | (rw [← wp_eq, ← wq_eq, ← lcTurn_eq] at hZ; first | exact hZ | (apply hZ <;> assumption)) | (rw [← wp_eq, ← lcTurn_eq] at hZ; first | exact hZ | (apply hZ <;> assumption)) | (rw [← wq_eq, ← lcTurn_eq] at hZ; first | exact hZ | (apply hZ <;> assumption)) | (rw [← wp_eq, ← wq_eq] at hZ; first | exact hZ | (apply hZ <;> assumption)) | (rw [← wq_eq] at hZ; first | exact hZ | (apply hZ <;> assumption)) | (rw [← wp_eq] at hZ; first | exact hZ | (apply hZ <;> assumption))
@[simp] theorem e_dnew : @wq _ ((ev F FK m .dnew).val ls S) Q = Q.f (.ref S.length) (S ++ [.dct []]) := by have hZ := @Z.e_dnew; first | (rw [← wp_eq, ← wq_eq, ← lcTurn_eq] at hZ; first | exact hZ | (apply hZ <;> assumption)) | (rw [← wp_eq, ← lcTurn_eq] at hZ; first | exact hZ | (apply hZ <;> assumption)) | (rw [← wq_eq, ← lcTurn_eq] at hZ; first | exact hZ | (apply hZ <;> assumption)) | (rw [← wp_eq, ← wq_eq] at hZ; first | exact hZ | (apply hZ <;> assumption)) | (rw [← wq_eq] at hZ; first | exact hZ | (apply hZ <;> assumption)) | (rw [← wp_eq] at hZ; first | exact hZ | (apply hZ <;> assumption))
@[simp] theorem e_call {f es} : @wq _ ((ev F FK m (.call f es)).val ls S) Q = wp ((ev F FK m es).lst ls S) fun ds S1 => @wq _ (F f ds S1) Q := by have hZ := @Z.e_call; first | (rw [← wp_eq, ← wq_eq, ← lcTurn_eq] at hZ; first | exact hZ | (apply hZ <;> assumption)) | (rw [← wp_eq, ← lcTurn_eq] at hZ; first | exact hZ | (apply hZ <;> assumption)) | (rw [← wq_eq, ← lcTurn_eq] at hZ; first | exact hZ | (apply hZ <;> assumption)) | (rw [← wp_eq, ← wq_eq] at hZ; first | exact hZ | (apply hZ <;> assumption)) | (rw [← wq_eq] at hZ; first | exact hZ | (apply hZ <;> assumption)) | (rw [← wp_eq] at hZ; first | exact hZ | (apply hZ <;> assumption))
@[simp] theorem e_callk {f ks es eks} : @wq _ ((ev F FK m (.callk f ks es eks)).val ls S) Q = wp ((ev F FK m es).lst ls S) fun ds S1 => wp ((ev F FK m eks).lst ls S1) fun es S2 => @wq _ (FK f ks ds es S2) Q := by have hZ := @Z.e_callk; first | (rw [← wp_eq, ← wq_eq, ← lcTurn_eq] at hZ; first | exact hZ | (apply hZ <;> assumption)) | (rw [← wp_eq, ← lcTurn_eq] at hZ; first | exact hZ | (apply hZ <;> assumption)) | (rw [← wq_eq, ← lcTurn_eq] at hZ; first | exact hZ | (apply hZ <;> assumption)) | (rw [← wp_eq, ← wq_eq] at hZ; first | exact hZ | (apply hZ <;> assumption)) | (rw [← wq_eq] at hZ; first | exact hZ | (apply hZ <;> assumption)) | (rw [← wp_eq] at hZ; first | exact hZ | (apply hZ <;> assumption))
@[simp] theorem e_bi {f es} : @wq _ ((ev F FK m (.bi f es)).val ls S) Q = wp ((ev F FK m es).lst ls S) fun ds S1 => @wq _ (fbD f ds S1) Q := by have hZ := @Z.e_bi; first | (rw [← wp_eq, ← wq_eq, ← lcTurn_eq] at hZ; first | exact hZ | (apply hZ <;> assumption)) | (rw [← wp_eq, ← lcTurn_eq] at hZ; first | exact hZ | (apply hZ <;> assumption)) | (rw [← wq_eq, ← lcTurn_eq] at hZ; first | exact hZ | (apply hZ <;> assumption)) | (rw [← wp_eq, ← wq_eq] at hZ; first | exact hZ | (apply hZ <;> assumption)) | (rw [← wq_eq] at hZ; first | exact hZ | (apply hZ <;> assumption)) | (rw [← wp_eq] at hZ; first | exact hZ | (apply hZ <;> assumption))
@[simp] theorem e_isi {t a} : @wq _ ((ev F FK m (.isi t a)).val ls S) Q = wp ((ev F FK m a).val ls S) fun x S1 => @wq _ (opt ((isiD t x S1).map .bl) S1) Q := by have hZ := @Z.e_isi; first | (rw [← wp_eq, ← wq_eq, ← lcTurn_eq] at hZ; first | exact hZ | (apply hZ <;> assumption)) | (rw [← wp_eq, ← lcTurn_eq] at hZ; first | exact hZ | (apply hZ <;> assumption)) | (rw [← wq_eq, ← lcTurn_eq] at hZ; first | exact hZ | (apply hZ <;> assumption)) | (rw [← wp_eq, ← wq_eq] at hZ; first | exact hZ | (apply hZ <;> assumption)) | (rw [← wq_eq] at hZ; first | exact hZ | (apply hZ <;> assumption)) | (rw [← wp_eq] at hZ; first | exact hZ | (apply hZ <;> assumption))
@[simp] theorem t_isi {t a} : @wq _ ((ev F FK m (.isi t a)).tst ls S) QB = wp ((ev F FK m a).val ls S) fun x S1 => @wq _ (opt (isiD t x S1) S1) QB := by have hZ := @Z.t_isi; first | (rw [← wp_eq, ← wq_eq, ← lcTurn_eq] at hZ; first | exact hZ | (apply hZ <;> assumption)) | (rw [← wp_eq, ← lcTurn_eq] at hZ; first | exact hZ | (apply hZ <;> assumption)) | (rw [← wq_eq, ← lcTurn_eq] at hZ; first | exact hZ | (apply hZ <;> assumption)) | (rw [← wp_eq, ← wq_eq] at hZ; first | exact hZ | (apply hZ <;> assumption)) | (rw [← wq_eq] at hZ; first | exact hZ | (apply hZ <;> assumption)) | (rw [← wp_eq] at hZ; first | exact hZ | (apply hZ <;> assumption))
@[simp] theorem e_mt {k a es} : @wq _ ((ev F FK m (.mt k a es)).val ls S) Q = wp ((ev F FK m a).val ls S) fun x S1 => if mtTy k x S1 then wp ((ev F FK m es).lst ls S1) fun ds S2 => @wq _ (mtD k x ds S2) Q else False := by have hZ := @Z.e_mt; first | (rw [← wp_eq, ← wq_eq, ← lcTurn_eq] at hZ; first | exact hZ | (apply hZ <;> assumption)) | (rw [← wp_eq, ← lcTurn_eq] at hZ; first | exact hZ | (apply hZ <;> assumption)) | (rw [← wq_eq, ← lcTurn_eq] at hZ; first | exact hZ | (apply hZ <;> assumption)) | (rw [← wp_eq, ← wq_eq] at hZ; first | exact hZ | (apply hZ <;> assumption)) | (rw [← wq_eq] at hZ; first | exact hZ | (apply hZ <;> assumption)) | (rw [← wp_eq] at hZ; first | exact hZ | (apply hZ <;> assumption))
@[simp] theorem e_lc {own t it c e} : @wq _ ((ev F FK m (.lc own t it c e)).val ls S) Q = wp ((ev F FK m it).itv ls S) fun J S1 =>
    @wq _ (lcL (fun d S ls => asgT t d S ls) (fun ls S => (ev F FK m c).cond ls S) (fun ls S => (ev F FK m e).val ls S) J S1.length (wipeD ls (own.map (·.2))) m 0 (S1 ++ [.lst []])) Q := by have hZ := @Z.e_lc; first | (rw [← wp_eq, ← wq_eq, ← lcTurn_eq] at hZ; first | exact hZ | (apply hZ <;> assumption)) | (rw [← wp_eq, ← lcTurn_eq] at hZ; first | exact hZ | (apply hZ <;> assumption)) | (rw [← wq_eq, ← lcTurn_eq] at hZ; first | exact hZ | (apply hZ <;> assumption)) | (rw [← wp_eq, ← wq_eq] at hZ; first | exact hZ | (apply hZ <;> assumption)) | (rw [← wq_eq] at hZ; first | exact hZ | (apply hZ <;> assumption)) | (rw [← wp_eq] at hZ; first | exact hZ | (apply hZ <;> assumption))
@[simp] theorem i_q {a} : @wq _ ((ev F FK m (.q a)).itv ls S) QI = wp ((ev F FK m a).val ls S) fun x S1 => @wq _ (match x with
    | .tup ds => .ok (.tup ds) S1
    | .rol ds => .ok (.rol ds) S1
    | .ref n => match S1[n]? with
      | some (.lst _) => .ok (.obj n) S1
      | some (.dcl _) => .ok (.keys n) S1
      | _ => .bad
    | _ => .bad) QI := by have hZ := @Z.i_q; first | (rw [← wp_eq, ← wq_eq, ← lcTurn_eq] at hZ; first | exact hZ | (apply hZ <;> assumption)) | (rw [← wp_eq, ← lcTurn_eq] at hZ; first | exact hZ | (apply hZ <;> assumption)) | (rw [← wq_eq, ← lcTurn_eq] at hZ; first | exact hZ | (apply hZ <;> assumption)) | (rw [← wp_eq, ← wq_eq] at hZ; first | exact hZ | (apply hZ <;> assumption)) | (rw [← wq_eq] at hZ; first | exact hZ | (apply hZ <;> assumption)) | (rw [← wp_eq] at hZ; first | exact hZ | (apply hZ <;> assumption))
@[simp] theorem i_qr {a} : @wq _ ((ev F FK m (.qr a)).itv ls S) QI = wp ((ev F FK m a).val ls S) fun x S1 => match x with
    | .int i => if -(2 ^ 62) ≤ i ∧ i < 2 ^ 62 then QI.f (.rng 0 i.toNat) S1 else False
    | _ => False := by have hZ := @Z.i_qr; first | (rw [← wp_eq, ← wq_eq, ← lcTurn_eq] at hZ; first | exact hZ | (apply hZ <;> assumption)) | (rw [← wp_eq, ← lcTurn_eq] at hZ; first | exact hZ | (apply hZ <;> assumption)) | (rw [← wq_eq, ← lcTurn_eq] at hZ; first | exact hZ | (apply hZ <;> assumption)) | (rw [← wp_eq, ← wq_eq] at hZ; first | exact hZ | (apply hZ <;> assumption)) | (rw [← wq_eq] at hZ; first | exact hZ | (apply hZ <;> assumption)) | (rw [← wp_eq] at hZ; first | exact hZ | (apply hZ <;> assumption))
@[simp] theorem i_qr2 {a b} : @wq _ ((ev F FK m (.qr2 a b)).itv ls S) QI = wp ((ev F FK m a).val ls S) fun x S1 => wp ((ev F FK m b).val ls S1) fun y S2 => match x, y with
    | .int i, .int j => if -(2 ^ 62) ≤ i ∧ i < 2 ^ 62 ∧ -(2 ^ 62) ≤ j ∧ j < 2 ^ 62 then QI.f (.rng i (j - i).toNat) S2 else False
    | _, _ => False := by have hZ := @Z.i_qr2; first | (rw [← wp_eq, ← wq_eq, ← lcTurn_eq] at hZ; first | exact hZ | (apply hZ <;> assumption)) | (rw [← wp_eq, ← lcTurn_eq] at hZ; first | exact hZ | (apply hZ <;> assumption)) | (rw [← wq_eq, ← lcTurn_eq] at hZ; first | exact hZ | (apply hZ <;> assumption)) | (rw [← wp_eq, ← wq_eq] at hZ; first | exact hZ | (apply hZ <;> assumption)) | (rw [← wq_eq] at hZ; first | exact hZ | (apply hZ <;> assumption)) | (rw [← wp_eq] at hZ; first | exact hZ | (apply hZ <;> assumption))
theorem t_of' {e} (h : (ev F FK m e).tst = fun ls S => tru ((ev F FK m e).val ls S)) : @wq _ ((ev F FK m e).tst ls S) QB = wp ((ev F FK m e).val ls S) fun x S1 => @wq _ (opt (truD x S1) S1) QB := by have hZ := @Z.t_of'; first | (rw [← wp_eq, ← wq_eq, ← lcTurn_eq] at hZ; first | exact hZ | (apply hZ <;> assumption)) | (rw [← wp_eq, ← lcTurn_eq] at hZ; first | exact hZ | (apply hZ <;> assumption)) | (rw [← wq_eq, ← lcTurn_eq] at hZ; first | exact hZ | (apply hZ <;> assumption)) | (rw [← wp_eq, ← wq_eq] at hZ; first | exact hZ | (apply hZ <;> assumption)) | (rw [← wq_eq] at hZ; first | exact hZ | (apply hZ <;> assumption)) | (rw [← wp_eq] at hZ; first | exact hZ | (apply hZ <;> assumption))
@[simp] theorem t_v {i} : @wq _ ((ev F FK m (.v i)).tst ls S) QB = wp ((ev F FK m (.v i)).val ls S) fun x S1 => @wq _ (opt (truD x S1) S1) QB := by have hZ := @Z.t_v; first | (rw [← wp_eq, ← wq_eq, ← lcTurn_eq] at hZ; first | exact hZ | (apply hZ <;> assumption)) | (rw [← wp_eq, ← lcTurn_eq] at hZ; first | exact hZ | (apply hZ <;> assumption)) | (rw [← wq_eq, ← lcTurn_eq] at hZ; first | exact hZ | (apply hZ <;> assumption)) | (rw [← wp_eq, ← wq_eq] at hZ; first | exact hZ | (apply hZ <;> assumption)) | (rw [← wq_eq] at hZ; first | exact hZ | (apply hZ <;> assumption)) | (rw [← wp_eq] at hZ; first | exact hZ | (apply hZ <;> assumption))
@[simp] theorem t_bl {b} : @wq _ ((ev F FK m (.bl b)).tst ls S) QB = QB.f b S := by have hZ := @Z.t_bl; first | (rw [← wp_eq, ← wq_eq, ← lcTurn_eq] at hZ; first | exact hZ | (apply hZ <;> assumption)) | (rw [← wp_eq, ← lcTurn_eq] at hZ; first | exact hZ | (apply hZ <;> assumption)) | (rw [← wq_eq, ← lcTurn_eq] at hZ; first | exact hZ | (apply hZ <;> assumption)) | (rw [← wp_eq, ← wq_eq] at hZ; first | exact hZ | (apply hZ <;> assumption)) | (rw [← wq_eq] at hZ; first | exact hZ | (apply hZ <;> assumption)) | (rw [← wp_eq] at hZ; first | exact hZ | (apply hZ <;> assumption))
@[simp] theorem t_call {f es} : @wq _ ((ev F FK m (.call f es)).tst ls S) QB = wp ((ev F FK m (.call f es)).val ls S) fun x S1 => @wq _ (opt (truD x S1) S1) QB := by have hZ := @Z.t_call; first | (rw [← wp_eq, ← wq_eq, ← lcTurn_eq] at hZ; first | exact hZ | (apply hZ <;> assumption)) | (rw [← wp_eq, ← lcTurn_eq] at hZ; first | exact hZ | (apply hZ <;> assumption)) | (rw [← wq_eq, ← lcTurn_eq] at hZ; first | exact hZ | (apply hZ <;> assumption)) | (rw [← wp_eq, ← wq_eq] at hZ; first | exact hZ | (apply hZ <;> assumption)) | (rw [← wq_eq] at hZ; first | exact hZ | (apply hZ <;> assumption)) | (rw [← wp_eq] at hZ; first | exact hZ | (apply hZ <;> assumption))
@[simp] theorem t_callk {f ks es eks} : @wq _ ((ev F FK m (.callk f ks es eks)).tst ls S) QB = wp ((ev F FK m (.callk f ks es eks)).val ls S) fun x S1 => @wq _ (opt (truD x S1) S1) QB := by have hZ := @Z.t_callk; first | (rw [← wp_eq, ← wq_eq, ← lcTurn_eq] at hZ; first | exact hZ | (apply hZ <;> assumption)) | (rw [← wp_eq, ← lcTurn_eq] at hZ; first | exact hZ | (apply hZ <;> assumption)) | (rw [← wq_eq, ← lcTurn_eq] at hZ; first | exact hZ | (apply hZ <;> assumption)) | (rw [← wp_eq, ← wq_eq] at hZ; first | exact hZ | (apply hZ <;> assumption)) | (rw [← wq_eq] at hZ; first | exact hZ | (apply hZ <;> assumption)) | (rw [← wp_eq] at hZ; first | exact hZ | (apply hZ <;> assumption))
@[simp] theorem t_bi {f es} : @wq _ ((ev F FK m (.bi f es)).tst ls S) QB = wp ((ev F FK m (.bi f es)).val ls S) fun x S1 => @wq _ (opt (truD x S1) S1) QB := by have hZ := @Z.t_bi; first | (rw [← wp_eq, ← wq_eq, ← lcTurn_eq] at hZ; first | exact hZ | (apply hZ <;> assumption)) | (rw [← wp_eq, ← lcTurn_eq] at hZ; first | exact hZ | (apply hZ <;> assumption)) | (rw [← wq_eq, ← lcTurn_eq] at hZ; first | exact hZ | (apply hZ <;> assumption)) | (rw [← wp_eq, ← wq_eq] at hZ; first | exact hZ | (apply hZ <;> assumption)) | (rw [← wq_eq] at hZ; first | exact hZ | (apply hZ <;> assumption)) | (rw [← wp_eq] at hZ; first | exact hZ | (apply hZ <;> assumption))
@[simp] theorem t_ix {a i} : @wq _ ((ev F FK m (.ix a i)).tst ls S) QB = wp ((ev F FK m (.ix a i)).val ls S) fun x S1 => @wq _ (opt (truD x S1) S1) QB := by have hZ := @Z.t_ix; first | (rw [← wp_eq, ← wq_eq, ← lcTurn_eq] at hZ; first | exact hZ | (apply hZ <;> assumption)) | (rw [← wp_eq, ← lcTurn_eq] at hZ; first | exact hZ | (apply hZ <;> assumption)) | (rw [← wq_eq, ← lcTurn_eq] at hZ; first | exact hZ | (apply hZ <;> assumption)) | (rw [← wp_eq, ← wq_eq] at hZ; first | exact hZ | (apply hZ <;> assumption)) | (rw [← wq_eq] at hZ; first | exact hZ | (apply hZ <;> assumption)) | (rw [← wp_eq] at hZ; first | exact hZ | (apply hZ <;> assumption))
@[simp] theorem t_bin {o a i} : @wq _ ((ev F FK m (.bin o a i)).tst ls S) QB = wp ((ev F FK m (.bin o a i)).val ls S) fun x S1 => @wq _ (opt (truD x S1) S1) QB := by have hZ := @Z.t_bin; first | (rw [← wp_eq, ← wq_eq, ← lcTurn_eq] at hZ; first | exact hZ | (apply hZ <;> assumption)) | (rw [← wp_eq, ← lcTurn_eq] at hZ; first | exact hZ | (apply hZ <;> assumption)) | (rw [← wq_eq, ← lcTurn_eq] at hZ; first | exact hZ | (apply hZ <;> assumption)) | (rw [← wp_eq, ← wq_eq] at hZ; first | exact hZ | (apply hZ <;> assumption)) | (rw [← wq_eq] at hZ; first | exact hZ | (apply hZ <;> assumption)) | (rw [← wp_eq] at hZ; first | exact hZ | (apply hZ <;> assumption))
@[simp] theorem t_lc {own t it c e} : @wq _ ((ev F FK m (.lc own t it c e)).tst ls S) QB = wp ((ev F FK m (.lc own t it c e)).val ls S) fun x S1 => @wq _ (opt (truD x S1) S1) QB := by have hZ := @Z.t_lc; first | (rw [← wp_eq, ← wq_eq, ← lcTurn_eq] at hZ; first | exact hZ | (apply hZ <;> assumption)) | (rw [← wp_eq, ← lcTurn_eq] at hZ; first | exact hZ | (apply hZ <;> assumption)) | (rw [← wq_eq, ← lcTurn_eq] at hZ; first | exact hZ | (apply hZ <;> assumption)) | (rw [← wp_eq, ← wq_eq] at hZ; first | exact hZ | (apply hZ <;> assumption)) | (rw [← wq_eq] at hZ; first | exact hZ | (apply hZ <;> assumption)) | (rw [← wp_eq] at hZ; first | exact hZ | (apply hZ <;> assumption))
@[simp] theorem t_chn {o p a b c} : @wq _ ((ev F FK m (.chn o p a b c)).tst ls S) QB = wp ((ev F FK m (.chn o p a b c)).val ls S) fun x S1 => @wq _ (opt (truD x S1) S1) QB := by have hZ := @Z.t_chn; first | (rw [← wp_eq, ← wq_eq, ← lcTurn_eq] at hZ; first | exact hZ | (apply hZ <;> assumption)) | (rw [← wp_eq, ← lcTurn_eq] at hZ; first | exact hZ | (apply hZ <;> assumption)) | (rw [← wq_eq, ← lcTurn_eq] at hZ; first | exact hZ | (apply hZ <;> assumption)) | (rw [← wp_eq, ← wq_eq] at hZ; first | exact hZ | (apply hZ <;> assumption)) | (rw [← wq_eq] at hZ; first | exact hZ | (apply hZ <;> assumption)) | (rw [← wp_eq] at hZ; first | exact hZ | (apply hZ <;> assumption))
@[simp] theorem k_nil : @wq _ ((ev F FK m .nil).cond ls S) QB = QB.f true S := by have hZ := @Z.k_nil; first | (rw [← wp_eq, ← wq_eq, ← lcTurn_eq] at hZ; first | exact hZ | (apply hZ <;> assumption)) | (rw [← wp_eq, ← lcTurn_eq] at hZ; first | exact hZ | (apply hZ <;> assumption)) | (rw [← wq_eq, ← lcTurn_eq] at hZ; first | exact hZ | (apply hZ <;> assumption)) | (rw [← wp_eq, ← wq_eq] at hZ; first | exact hZ | (apply hZ <;> assumption)) | (rw [← wq_eq] at hZ; first | exact hZ | (apply hZ <;> assumption)) | (rw [← wp_eq] at hZ; first | exact hZ | (apply hZ <;> assumption))
@[simp] theorem k_cmp {o a b} : @wq _ ((ev F FK m (.cmp o a b)).cond ls S) QB = @wq _ ((ev F FK m (.cmp o a b)).tst ls S) QB := by have hZ := @Z.k_cmp; first | (rw [← wp_eq, ← wq_eq, ← lcTurn_eq] at hZ; first | exact hZ | (apply hZ <;> assumption)) | (rw [← wp_eq, ← lcTurn_eq] at hZ; first | exact hZ | (apply hZ <;> assumption)) | (rw [← wq_eq, ← lcTurn_eq] at hZ; first | exact hZ | (apply hZ <;> assumption)) | (rw [← wp_eq, ← wq_eq] at hZ; first | exact hZ | (apply hZ <;> assumption)) | (rw [← wq_eq] at hZ; first | exact hZ | (apply hZ <;> assumption)) | (rw [← wp_eq] at hZ; first | exact hZ | (apply hZ <;> assumption))
@[simp] theorem k_no {a} : @wq _ ((ev F FK m (.no a)).cond ls S) QB = @wq _ ((ev F FK m (.no a)).tst ls S) QB := by have hZ := @Z.k_no; first | (rw [← wp_eq, ← wq_eq, ← lcTurn_eq] at hZ; first | exact hZ | (apply hZ <;> assumption)) | (rw [← wp_eq, ← lcTurn_eq] at hZ; first | exact hZ | (apply hZ <;> assumption)) | (rw [← wq_eq, ← lcTurn_eq] at hZ; first | exact hZ | (apply hZ <;> assumption)) | (rw [← wp_eq, ← wq_eq] at hZ; first | exact hZ | (apply hZ <;> assumption)) | (rw [← wq_eq] at hZ; first | exact hZ | (apply hZ <;> assumption)) | (rw [← wp_eq] at hZ; first | exact hZ | (apply hZ <;> assumption))
@[simp] theorem k_bo {k es} : @wq _ ((ev F FK m (.bo k es)).cond ls S) QB = @wq _ ((ev F FK m (.bo k es)).tst ls S) QB := by have hZ := @Z.k_bo; first | (rw [← wp_eq, ← wq_eq, ← lcTurn_eq] at hZ; first | exact hZ | (apply hZ <;> assumption)) | (rw [← wp_eq, ← lcTurn_eq] at hZ; first | exact hZ | (apply hZ <;> assumption)) | (rw [← wq_eq, ← lcTurn_eq] at hZ; first | exact hZ | (apply hZ <;> assumption)) | (rw [← wp_eq, ← wq_eq] at hZ; first | exact hZ | (apply hZ <;> assumption)) | (rw [← wq_eq] at hZ; first | exact hZ | (apply hZ <;> assumption)) | (rw [← wp_eq] at hZ; first | exact hZ | (apply hZ <;> assumption))
@[simp] theorem k_isi {t a} : @wq _ ((ev F FK m (.isi t a)).cond ls S) QB = @wq _ ((ev F FK m (.isi t a)).tst ls S) QB := by have hZ := @Z.k_isi; first | (rw [← wp_eq, ← wq_eq, ← lcTurn_eq] at hZ; first | exact hZ | (apply hZ <;> assumption)) | (rw [← wp_eq, ← lcTurn_eq] at hZ; first | exact hZ | (apply hZ <;> assumption)) | (rw [← wq_eq, ← lcTurn_eq] at hZ; first | exact hZ | (apply hZ <;> assumption)) | (rw [← wp_eq, ← wq_eq] at hZ; first | exact hZ | (apply hZ <;> assumption)) | (rw [← wq_eq] at hZ; first | exact hZ | (apply hZ <;> assumption)) | (rw [← wp_eq] at hZ; first | exact hZ | (apply hZ <;> assumption))
@[simp] theorem k_call {f es} : @wq _ ((ev F FK m (.call f es)).cond ls S) QB = @wq _ ((ev F FK m (.call f es)).tst ls S) QB := by have hZ := @Z.k_call; first | (rw [← wp_eq, ← wq_eq, ← lcTurn_eq] at hZ; first | exact hZ | (apply hZ <;> assumption)) | (rw [← wp_eq, ← lcTurn_eq] at hZ; first | exact hZ | (apply hZ <;> assumption)) | (rw [← wq_eq, ← lcTurn_eq] at hZ; first | exact hZ | (apply hZ <;> assumption)) | (rw [← wp_eq, ← wq_eq] at hZ; first | exact hZ | (apply hZ <;> assumption)) | (rw [← wq_eq] at hZ; first | exact hZ | (apply hZ <;> assumption)) | (rw [← wp_eq] at hZ; first | exact hZ | (apply hZ <;> assumption))
@[simp] theorem k_chn {o p a b c} : @wq _ ((ev F FK m (.chn o p a b c)).cond ls S) QB = @wq _ ((ev F FK m (.chn o p a b c)).tst ls S) QB := by have hZ := @Z.k_chn; first | (rw [← wp_eq, ← wq_eq, ← lcTurn_eq] at hZ; first | exact hZ | (apply hZ <;> assumption)) | (rw [← wp_eq, ← lcTurn_eq] at hZ; first | exact hZ | (apply hZ <;> assumption)) | (rw [← wq_eq, ← lcTurn_eq] at hZ; first | exact hZ | (apply hZ <;> assumption)) | (rw [← wp_eq, ← wq_eq] at hZ; first | exact hZ | (apply hZ <;> assumption)) | (rw [← wq_eq] at hZ; first | exact hZ | (apply hZ <;> assumption)) | (rw [← wp_eq] at hZ; first | exact hZ | (apply hZ <;> assumption))
@[simp] theorem k_v {i} : @wq _ ((ev F FK m (.v i)).cond ls S) QB = @wq _ ((ev F FK m (.v i)).tst ls S) QB := by have hZ := @Z.k_v; first | (rw [← wp_eq, ← wq_eq, ← lcTurn_eq] at hZ; first | exact hZ | (apply hZ <;> assumption)) | (rw [← wp_eq, ← lcTurn_eq] at hZ; first | exact hZ | (apply hZ <;> assumption)) | (rw [← wq_eq, ← lcTurn_eq] at hZ; first | exact hZ | (apply hZ <;> assumption)) | (rw [← wp_eq, ← wq_eq] at hZ; first | exact hZ | (apply hZ <;> assumption)) | (rw [← wq_eq] at hZ; first | exact hZ | (apply hZ <;> assumption)) | (rw [← wp_eq] at hZ; first | exact hZ | (apply hZ <;> assumption))
@[simp] theorem k_ix {a i} : @wq _ ((ev F FK m (.ix a i)).cond ls S) QB = @wq _ ((ev F FK m (.ix a i)).tst ls S) QB := by have hZ := @Z.k_ix; first | (rw [← wp_eq, ← wq_eq, ← lcTurn_eq] at hZ; first | exact hZ | (apply hZ <;> assumption)) | (rw [← wp_eq, ← lcTurn_eq] at hZ; first | exact hZ | (apply hZ <;> assumption)) | (rw [← wq_eq, ← lcTurn_eq] at hZ; first | exact hZ | (apply hZ <;> assumption)) | (rw [← wp_eq, ← wq_eq] at hZ; first | exact hZ | (apply hZ <;> assumption)) | (rw [← wq_eq] at hZ; first | exact hZ | (apply hZ <;> assumption)) | (rw [← wp_eq] at hZ; first | exact hZ | (apply hZ <;> assumption))
@[simp] theorem k_bi {f es} : @wq _ ((ev F FK m (.bi f es)).cond ls S) QB = @wq _ ((ev F FK m (.bi f es)).tst ls S) QB := by have hZ := @Z.k_bi; first | (rw [← wp_eq, ← wq_eq, ← lcTurn_eq] at hZ; first | exact hZ | (apply hZ <;> assumption)) | (rw [← wp_eq, ← lcTurn_eq] at hZ; first | exact hZ | (apply hZ <;> assumption)) | (rw [← wq_eq, ← lcTurn_eq] at hZ; first | exact hZ | (apply hZ <;> assumption)) | (rw [← wp_eq, ← wq_eq] at hZ; first | exact hZ | (apply hZ <;> assumption)) | (rw [← wq_eq] at hZ; first | exact hZ | (apply hZ <;> assumption)) | (rw [← wp_eq] at hZ; first | exact hZ | (apply hZ <;> assumption))
/-! statements -/
@[simp] theorem s_nil : @wq _ (exS F FK m .nil ls S) QF = QF.f (.next ls) S := by have hZ := @Z.s_nil; first | (rw [← wp_eq, ← wq_eq, ← lcTurn_eq] at hZ; first | exact hZ | (apply hZ <;> assumption)) | (rw [← wp_eq, ← lcTurn_eq] at hZ; first | exact hZ | (apply hZ <;> assumption)) | (rw [← wq_eq, ← lcTurn_eq] at hZ; first | exact hZ | (apply hZ <;> assumption)) | (rw [← wp_eq, ← wq_eq] at hZ; first | exact hZ | (apply hZ <;> assumption)) | (rw [← wq_eq] at hZ; first | exact hZ | (apply hZ <;> assumption)) | (rw [← wp_eq] at hZ; first | exact hZ | (apply hZ <;> assumption))
@[simp] theorem s_cons {a r} : @wq _ (exS F FK m (.cons a r) ls S) QF = wp (exS F FK m a ls S) fun fl S' => match fl with
    | .next ls' => @wq _ (exS F FK m r ls' S') QF
    | q => QF.f q S' := by have hZ := @Z.s_cons; first | (rw [← wp_eq, ← wq_eq, ← lcTurn_eq] at hZ; first | exact hZ | (apply hZ <;> assumption)) | (rw [← wp_eq, ← lcTurn_eq] at hZ; first | exact hZ | (apply hZ <;> assumption)) | (rw [← wq_eq, ← lcTurn_eq] at hZ; first | exact hZ | (apply hZ <;> assumption)) | (rw [← wp_eq, ← wq_eq] at hZ; first | exact hZ | (apply hZ <;> assumption)) | (rw [← wq_eq] at hZ; first | exact hZ | (apply hZ <;> assumption)) | (rw [← wp_eq] at hZ; first | exact hZ | (apply hZ <;> assumption))
@[simp] theorem s_ex {e} : @wq _ (exS F FK m (.ex e) ls S) QF = wp ((ev F FK m e).val ls S) fun _ S1 => QF.f (.next ls) S1 := by have hZ := @Z.s_ex; first | (rw [← wp_eq, ← wq_eq, ← lcTurn_eq] at hZ; first | exact hZ | (apply hZ <;> assumption)) | (rw [← wp_eq, ← lcTurn_eq] at hZ; first | exact hZ | (apply hZ <;> assumption)) | (rw [← wq_eq, ← lcTurn_eq] at hZ; first | exact hZ | (apply hZ <;> assumption)) | (rw [← wp_eq, ← wq_eq] at hZ; first | exact hZ | (apply hZ <;> assumption)) | (rw [← wq_eq] at hZ; first | exact hZ | (apply hZ <;> assumption)) | (rw [← wp_eq] at hZ; first | exact hZ | (apply hZ <;> assumption))
@[simp] theorem s_set {i e} : @wq _ (exS F FK m (.set i e) ls S) QF = wp ((ev F FK m e).val ls S) fun x S1 => QF.f (.next (ls.set i (some x))) S1 := by have hZ := @Z.s_set; first | (rw [← wp_eq, ← wq_eq, ← lcTurn_eq] at hZ; first | exact hZ | (apply hZ <;> assumption)) | (rw [← wp_eq, ← lcTurn_eq] at hZ; first | exact hZ | (apply hZ <;> assumption)) | (rw [← wq_eq, ← lcTurn_eq] at hZ; first | exact hZ | (apply hZ <;> assumption)) | (rw [← wp_eq, ← wq_eq] at hZ; first | exact hZ | (apply hZ <;> assumption)) | (rw [← wq_eq] at hZ; first | exact hZ | (apply hZ <;> assumption)) | (rw [← wp_eq] at hZ; first | exact hZ | (apply hZ <;> assumption))
@[simp] theorem s_slc {i own t it c e} : @wq _ (exS F FK m (.slc i own t it c e) ls S) QF = wp ((ev F FK m (.lc own t it c e)).val ls S) fun x S1 => QF.f (.next (ls.set i (some x))) S1 := by have hZ := @Z.s_slc; first | (rw [← wp_eq, ← wq_eq, ← lcTurn_eq] at hZ; first | exact hZ | (apply hZ <;> assumption)) | (rw [← wp_eq, ← lcTurn_eq] at hZ; first | exact hZ | (apply hZ <;> assumption)) | (rw [← wq_eq, ← lcTurn_eq] at hZ; first | exact hZ | (apply hZ <;> assumption)) | (rw [← wp_eq, ← wq_eq] at hZ; first | exact hZ | (apply hZ <;> assumption)) | (rw [← wq_eq] at hZ; first | exact hZ | (apply hZ <;> assumption)) | (rw [← wp_eq] at hZ; first | exact hZ | (apply hZ <;> assumption))
@[simp] theorem s_asg {t e} : @wq _ (exS F FK m (.asg t e) ls S) QF = wp ((ev F FK m e).val ls S) fun x S1 => match asgT t x S1 ls with | some ls' => QF.f (.next ls') S1 | none => False := by have hZ := @Z.s_asg; first | (rw [← wp_eq, ← wq_eq, ← lcTurn_eq] at hZ; first | exact hZ | (apply hZ <;> assumption)) | (rw [← wp_eq, ← lcTurn_eq] at hZ; first | exact hZ | (apply hZ <;> assumption)) | (rw [← wq_eq, ← lcTurn_eq] at hZ; first | exact hZ | (apply hZ <;> assumption)) | (rw [← wp_eq, ← wq_eq] at hZ; first | exact hZ | (apply hZ <;> assumption)) | (rw [← wq_eq] at hZ; first | exact hZ | (apply hZ <;> assumption)) | (rw [← wp_eq] at hZ; first | exact hZ | (apply hZ <;> assumption))
@[simp] theorem s_par2 {i j a b} : @wq _ (exS F FK m (.par2 i j a b) ls S) QF = wp ((ev F FK m a).val ls S) fun x S1 => wp ((ev F FK m b).val ls S1) fun y S2 => QF.f (.next ((ls.set i (some x)).set j (some y))) S2 := by have hZ := @Z.s_par2; first | (rw [← wp_eq, ← wq_eq, ← lcTurn_eq] at hZ; first | exact hZ | (apply hZ <;> assumption)) | (rw [← wp_eq, ← lcTurn_eq] at hZ; first | exact hZ | (apply hZ <;> assumption)) | (rw [← wq_eq, ← lcTurn_eq] at hZ; first | exact hZ | (apply hZ <;> assumption)) | (rw [← wp_eq, ← wq_eq] at hZ; first | exact hZ | (apply hZ <;> assumption)) | (rw [← wq_eq] at hZ; first | exact hZ | (apply hZ <;> assumption)) | (rw [← wp_eq] at hZ; first | exact hZ | (apply hZ <;> assumption))
@[simp] theorem s_par3 {i j l a b c} : @wq _ (exS F FK m (.par3 i j l a b c) ls S) QF = wp ((ev F FK m a).val ls S) fun x S1 => wp ((ev F FK m b).val ls S1) fun y S2 => wp ((ev F FK m c).val ls S2) fun z S3 => QF.f (.next (((ls.set i (some x)).set j (some y)).set l (some z))) S3 := by have hZ := @Z.s_par3; first | (rw [← wp_eq, ← wq_eq, ← lcTurn_eq] at hZ; first | exact hZ | (apply hZ <;> assumption)) | (rw [← wp_eq, ← lcTurn_eq] at hZ; first | exact hZ | (apply hZ <;> assumption)) | (rw [← wq_eq, ← lcTurn_eq] at hZ; first | exact hZ | (apply hZ <;> assumption)) | (rw [← wp_eq, ← wq_eq] at hZ; first | exact hZ | (apply hZ <;> assumption)) | (rw [← wq_eq] at hZ; first | exact hZ | (apply hZ <;> assumption)) | (rw [← wp_eq] at hZ; first | exact hZ | (apply hZ <;> assumption))
@[simp] theorem s_aug {i o e} : @wq _ (exS F FK m (.aug i o e) ls S) QF = match ls[i]? with
    | some (some x) => wp ((ev F FK m e).val ls S) fun y S1 => wp (opt (augD o x y) S1) fun z S2 => QF.f (.next (ls.set i (some z))) S2
    | _ => False := by have hZ := @Z.s_aug; first | (rw [← wp_eq, ← wq_eq, ← lcTurn_eq] at hZ; first | exact hZ | (apply hZ <;> assumption)) | (rw [← wp_eq, ← lcTurn_eq] at hZ; first | exact hZ | (apply hZ <;> assumption)) | (rw [← wq_eq, ← lcTurn_eq] at hZ; first | exact hZ | (apply hZ <;> assumption)) | (rw [← wp_eq, ← wq_eq] at hZ; first | exact hZ | (apply hZ <;> assumption)) | (rw [← wq_eq] at hZ; first | exact hZ | (apply hZ <;> assumption)) | (rw [← wp_eq] at hZ; first | exact hZ | (apply hZ <;> assumption))
@[simp] theorem s_six {a i e} : @wq _ (exS F FK m (.six a i e) ls S) QF = wp ((ev F FK m e).val ls S) fun x S1 => wp ((ev F FK m a).val ls S1) fun y S2 => wp ((ev F FK m i).val ls S2) fun z S3 => wp (setIx y z x S3) fun _ S4 => QF.f (.next ls) S4 := by have hZ := @Z.s_six; first | (rw [← wp_eq, ← wq_eq, ← lcTurn_eq] at hZ; first | exact hZ | (apply hZ <;> assumption)) | (rw [← wp_eq, ← lcTurn_eq] at hZ; first | exact hZ | (apply hZ <;> assumption)) | (rw [← wq_eq, ← lcTurn_eq] at hZ; first | exact hZ | (apply hZ <;> assumption)) | (rw [← wp_eq, ← wq_eq] at hZ; first | exact hZ | (apply hZ <;> assumption)) | (rw [← wq_eq] at hZ; first | exact hZ | (apply hZ <;> assumption)) | (rw [← wp_eq] at hZ; first | exact hZ | (apply hZ <;> assumption))
@[simp] theorem s_aix {a i o e} : @wq _ (exS F FK m (.aix a i o e) ls S) QF = wp ((ev F FK m a).val ls S) fun y S1 => wp ((ev F FK m i).val ls S1) fun z S2 => wp (opt (ixR y z S2) S2) fun x S2 => wp ((ev F FK m e).val ls S2) fun w S3 =>
    wp (opt (augD o x w) S3) fun u S3 => wp (setIx y z u S3) fun _ S4 => QF.f (.next ls) S4 := by have hZ := @Z.s_aix; first | (rw [← wp_eq, ← wq_eq, ← lcTurn_eq] at hZ; first | exact hZ | (apply hZ <;> assumption)) | (rw [← wp_eq, ← lcTurn_eq] at hZ; first | exact hZ | (apply hZ <;> assumption)) | (rw [← wq_eq, ← lcTurn_eq] at hZ; first | exact hZ | (apply hZ <;> assumption)) | (rw [← wp_eq, ← wq_eq] at hZ; first | exact hZ | (apply hZ <;> assumption)) | (rw [← wq_eq] at hZ; first | exact hZ | (apply hZ <;> assumption)) | (rw [← wp_eq] at hZ; first | exact hZ | (apply hZ <;> assumption))
@[simp] theorem s_ite {c a b} : @wq _ (exS F FK m (.ite c a b) ls S) QF = wp ((ev F FK m c).tst ls S) fun k S1 => if k then @wq _ (exS F FK m a ls S1) QF else @wq _ (exS F FK m b ls S1) QF := by have hZ := @Z.s_ite; first | (rw [← wp_eq, ← wq_eq, ← lcTurn_eq] at hZ; first | exact hZ | (apply hZ <;> assumption)) | (rw [← wp_eq, ← lcTurn_eq] at hZ; first | exact hZ | (apply hZ <;> assumption)) | (rw [← wq_eq, ← lcTurn_eq] at hZ; first | exact hZ | (apply hZ <;> assumption)) | (rw [← wp_eq, ← wq_eq] at hZ; first | exact hZ | (apply hZ <;> assumption)) | (rw [← wq_eq] at hZ; first | exact hZ | (apply hZ <;> assumption)) | (rw [← wp_eq] at hZ; first | exact hZ | (apply hZ <;> assumption))
@[simp] theorem s_whl {c b} : @wq _ (exS F FK m (.whl c b) ls S) QF = @wq _ (whlL (fun ls S => (ev F FK m c).tst ls S) (fun ls S => exS F FK m b ls S) m ls S) QF := by have hZ := @Z.s_whl; first | (rw [← wp_eq, ← wq_eq, ← lcTurn_eq] at hZ; first | exact hZ | (apply hZ <;> assumption)) | (rw [← wp_eq, ← lcTurn_eq] at hZ; first | exact hZ | (apply hZ <;> assumption)) | (rw [← wq_eq, ← lcTurn_eq] at hZ; first | exact hZ | (apply hZ <;> assumption)) | (rw [← wp_eq, ← wq_eq] at hZ; first | exact hZ | (apply hZ <;> assumption)) | (rw [← wq_eq] at hZ; first | exact hZ | (apply hZ <;> assumption)) | (rw [← wp_eq] at hZ; first | exact hZ | (apply hZ <;> assumption))
@[simp] theorem s_for {t it b} : @wq _ (exS F FK m (.for t it b) ls S) QF = wp ((ev F FK m it).itv ls S) fun J S1 => @wq _ (forL (fun d S ls => asgT t d S ls) (fun ls S => exS F FK m b ls S) J m 0 ls S1) QF := by have hZ := @Z.s_for; first | (rw [← wp_eq, ← wq_eq, ← lcTurn_eq] at hZ; first | exact hZ | (apply hZ <;> assumption)) | (rw [← wp_eq, ← lcTurn_eq] at hZ; first | exact hZ | (apply hZ <;> assumption)) | (rw [← wq_eq, ← lcTurn_eq] at hZ; first | exact hZ | (apply hZ <;> assumption)) | (rw [← wp_eq, ← wq_eq] at hZ; first | exact hZ | (apply hZ <;> assumption)) | (rw [← wq_eq] at hZ; first | exact hZ | (apply hZ <;> assumption)) | (rw [← wp_eq] at hZ; first | exact hZ | (apply hZ <;> assumption))
@[simp] theorem s_ret {e} : @wq _ (exS F FK m (.ret e) ls S) QF = wp ((ev F FK m e).val ls S) fun x S1 => QF.f (.ret x) S1 := by have hZ := @Z.s_ret; first | (rw [← wp_eq, ← wq_eq, ← lcTurn_eq] at hZ; first | exact hZ | (apply hZ <;> assumption)) | (rw [← wp_eq, ← lcTurn_eq] at hZ; first | exact hZ | (apply hZ <;> assumption)) | (rw [← wq_eq, ← lcTurn_eq] at hZ; first | exact hZ | (apply hZ <;> assumption)) | (rw [← wp_eq, ← wq_eq] at hZ; first | exact hZ | (apply hZ <;> assumption)) | (rw [← wq_eq] at hZ; first | exact hZ | (apply hZ <;> assumption)) | (rw [← wp_eq] at hZ; first | exact hZ | (apply hZ <;> assumption))
@[simp] theorem s_retN : @wq _ (exS F FK m .retN ls S) QF = QF.f (.ret .non) S := by have hZ := @Z.s_retN; first | (rw [← wp_eq, ← wq_eq, ← lcTurn_eq] at hZ; first | exact hZ | (apply hZ <;> assumption)) | (rw [← wp_eq, ← lcTurn_eq] at hZ; first | exact hZ | (apply hZ <;> assumption)) | (rw [← wq_eq, ← lcTurn_eq] at hZ; first | exact hZ | (apply hZ <;> assumption)) | (rw [← wp_eq, ← wq_eq] at hZ; first | exact hZ | (apply hZ <;> assumption)) | (rw [← wq_eq] at hZ; first | exact hZ | (apply hZ <;> assumption)) | (rw [← wp_eq] at hZ; first | exact hZ | (apply hZ <;> assumption))
@[simp] theorem s_brk : @wq _ (exS F FK m .brk ls S) QF = QF.f (.brk ls) S := by have hZ := @Z.s_brk; first | (rw [← wp_eq, ← wq_eq, ← lcTurn_eq] at hZ; first | exact hZ | (apply hZ <;> assumption)) | (rw [← wp_eq, ← lcTurn_eq] at hZ; first | exact hZ | (apply hZ <;> assumption)) | (rw [← wq_eq, ← lcTurn_eq] at hZ; first | exact hZ | (apply hZ <;> assumption)) | (rw [← wp_eq, ← wq_eq] at hZ; first | exact hZ | (apply hZ <;> assumption)) | (rw [← wq_eq] at hZ; first | exact hZ | (apply hZ <;> assumption)) | (rw [← wp_eq] at hZ; first | exact hZ | (apply hZ <;> assumption))
@[simp] theorem s_cnt : @wq _ (exS F FK m .cnt ls S) QF = QF.f (.cont ls) S := by have hZ := @Z.s_cnt; first | (rw [← wp_eq, ← wq_eq, ← lcTurn_eq] at hZ; first | exact hZ | (apply hZ <;> assumption)) | (rw [← wp_eq, ← lcTurn_eq] at hZ; first | exact hZ | (apply hZ <;> assumption)) | (rw [← wq_eq, ← lcTurn_eq] at hZ; first | exact hZ | (apply hZ <;> assumption)) | (rw [← wp_eq, ← wq_eq] at hZ; first | exact hZ | (apply hZ <;> assumption)) | (rw [← wq_eq] at hZ; first | exact hZ | (apply hZ <;> assumption)) | (rw [← wp_eq] at hZ; first | exact hZ | (apply hZ <;> assumption))
@[simp] theorem s_pas : @wq _ (exS F FK m .pas ls S) QF = QF.f (.next ls) S := by have hZ := @Z.s_pas; first | (rw [← wp_eq, ← wq_eq, ← lcTurn_eq] at hZ; first | exact hZ | (apply hZ <;> assumption)) | (rw [← wp_eq, ← lcTurn_eq] at hZ; first | exact hZ | (apply hZ <;> assumption)) | (rw [← wq_eq, ← lcTurn_eq] at hZ; first | exact hZ | (apply hZ <;> assumption)) | (rw [← wp_eq, ← wq_eq] at hZ; first | exact hZ | (apply hZ <;> assumption)) | (rw [← wq_eq] at hZ; first | exact hZ | (apply hZ <;> assumption)) | (rw [← wp_eq] at hZ; first | exact hZ | (apply hZ <;> assumption))
end



@[simp↓] theorem wp_wq {α : Type} {r : R α} {Q : α → Store → Prop} : wp r Q = @wq α r ⟨Q⟩ := (rfl)


/-! ### loops -/
/-- a for: I before turn i; n turns at most -/
theorem wp_for {g : D → Store → Ls → Option Ls} {body : Ls → Store → R Fl} {J : ItV} {QF : Fl → Store → Prop} (I : Nat → Ls → Store → Prop) (n : Nat)
    (step : ∀ i ls S, I i ls S → (J.nxt i S = some none ∧ QF (.next ls) S) ∨ (i < n ∧ ∃ d ls1, J.nxt i S = some (some d) ∧ g d S ls = some ls1 ∧ wp (body ls1 S) fun fl S' => match fl with
      | .next ls' => I (i + 1) ls' S'
      | .cont ls' => I (i + 1) ls' S'
      | .brk ls' => QF (.next ls') S'
      | .ret d => QF (.ret d) S')) : ∀ (m i : Nat) (ls : Ls) (S : Store), n < m + i → I i ls S → i ≤ n → wp (forL g body J m i ls S) QF := by have hZ := @Z.wp_for; first | (rw [← wp_eq, ← wq_eq, ← lcTurn_eq] at hZ; first | exact hZ | (apply hZ <;> assumption)) | (rw [← wp_eq, ← lcTurn_eq] at hZ; first | exact hZ | (apply hZ <;> assumption)) | (rw [← wq_eq, ← lcTurn_eq] at hZ; first | exact hZ | (apply hZ <;> assumption)) | (rw [← wp_eq, ← wq_eq] at hZ; first | exact hZ | (apply hZ <;> assumption)) | (rw [← wq_eq] at hZ; first | exact hZ | (apply hZ <;> assumption)) | (rw [← wp_eq] at hZ; first | exact hZ | (apply hZ <;> assumption))
/-- a while: I with what falls -/
theorem wp_whl {c : Ls → Store → R Bool} {body : Ls → Store → R Fl} {QF : Fl → Store → Prop} (I : Nat → Ls → Store → Prop)
    (step : ∀ k ls S, I k ls S → wp (c ls S) fun t S1 => if t = true then 0 < k ∧ wp (body ls S1) fun fl S' => match fl with
      | .next ls' => ∃ k', k' < k ∧ I k' ls' S'
      | .cont ls' => ∃ k', k' < k ∧ I k' ls' S'
      | .brk ls' => QF (.next ls') S'
      | .ret d => QF (.ret d) S' else QF (.next ls) S1) : ∀ (m k : Nat) (ls : Ls) (S : Store), k < m → I k ls S → wp (whlL c body m ls S) QF := by have hZ := @Z.wp_whl; first | (rw [← wp_eq, ← wq_eq, ← lcTurn_eq] at hZ; first | exact hZ | (apply hZ <;> assumption)) | (rw [← wp_eq, ← lcTurn_eq] at hZ; first | exact hZ | (apply hZ <;> assumption)) | (rw [← wq_eq, ← lcTurn_eq] at hZ; first | exact hZ | (apply hZ <;> assumption)) | (rw [← wp_eq, ← wq_eq] at hZ; first | exact hZ | (apply hZ <;> assumption)) | (rw [← wq_eq] at hZ; first | exact hZ | (apply hZ <;> assumption)) | (rw [← wp_eq] at hZ; first | exact hZ | (apply hZ <;> assumption))
/-- a comprehension: I before turn i, the list so far beside -/
theorem wp_lc {g : D → Store → Ls → Option Ls} {c : Ls → Store → R Bool} {e : Ls → Store → R D} {J : ItV} {r : Nat} {w : Ls} {Q : D → Store → Prop} (I : Nat → Store → Prop) (n : Nat)
    (step : ∀ i S, I i S → (J.nxt i S = some none ∧ Q (.ref r) S) ∨ (i < n ∧ ∃ d ls1, J.nxt i S = some (some d) ∧ g d S w = some ls1 ∧ wp (c ls1 S) fun t S1 => if t = true then wp (e ls1 S1) fun y S2 => ∃ acc, S2[r]? = some (.lst acc) ∧ acc.length < sizeLine ∧ I (i + 1) (S2.set r (.lst (acc ++ [y])))
      else I (i + 1) S1)) : ∀ (m i : Nat) (S : Store), n < m + i → I i S → i ≤ n → wp (lcL g c e J r w m i S) Q := by have hZ := @Z.wp_lc; first | (rw [← wp_eq, ← wq_eq, ← lcTurn_eq] at hZ; first | exact hZ | (apply hZ <;> assumption)) | (rw [← wp_eq, ← lcTurn_eq] at hZ; first | exact hZ | (apply hZ <;> assumption)) | (rw [← wq_eq, ← lcTurn_eq] at hZ; first | exact hZ | (apply hZ <;> assumption)) | (rw [← wp_eq, ← wq_eq] at hZ; first | exact hZ | (apply hZ <;> assumption)) | (rw [← wq_eq] at hZ; first | exact hZ | (apply hZ <;> assumption)) | (rw [← wp_eq] at hZ; first | exact hZ | (apply hZ <;> assumption))
/-- over lo, lo + 1, .. -/
theorem wp_rng {v k : Nat} {lo : Int} {body : Ls → Store → R Fl} {QF : Kt Fl} {m : Nat} {ls : Ls} {S : Store} (I : Nat → Ls → Store → Prop) (hm : k < m) (h0 : I 0 ls S)
    (step : ∀ i ls S, i < k → I i ls S → wp (body (ls.set v (some (.int (lo + i)))) S) (turnQ (I (i + 1)) QF.f)) (fin : ∀ ls S, I k ls S → QF.f (.next ls) S) : @wq _ (forL (fun d _ ls => some (ls.set v (some d))) body (.rng lo k) m 0 ls S) QF := by have hZ := @Z.wp_rng; first | (rw [← wp_eq, ← wq_eq, ← lcTurn_eq] at hZ; first | exact hZ | (apply hZ <;> assumption)) | (rw [← wp_eq, ← lcTurn_eq] at hZ; first | exact hZ | (apply hZ <;> assumption)) | (rw [← wq_eq, ← lcTurn_eq] at hZ; first | exact hZ | (apply hZ <;> assumption)) | (rw [← wp_eq, ← wq_eq] at hZ; first | exact hZ | (apply hZ <;> assumption)) | (rw [← wq_eq] at hZ; first | exact hZ | (apply hZ <;> assumption)) | (rw [← wp_eq] at hZ; first | exact hZ | (apply hZ <;> assumption))
/-- over what never changes -/
theorem wp_seq {J : ItV} {ds : List D} {g : D → Store → Ls → Option Ls} {body : Ls → Store → R Fl} {QF : Kt Fl} {m : Nat} {ls : Ls} {S : Store} (hJ : J = .tup ds ∨ J = .rol ds) (I : Nat → Ls → Store → Prop) (hm : ds.length < m) (h0 : I 0 ls S)
    (step : ∀ i d ls S, ds[i]? = some d → I i ls S → ∃ ls1, g d S ls = some ls1 ∧ wp (body ls1 S) (turnQ (I (i + 1)) QF.f)) (fin : ∀ ls S, I ds.length ls S → QF.f (.next ls) S) : @wq _ (forL g body J m 0 ls S) QF := by have hZ := @Z.wp_seq; first | (rw [← wp_eq, ← wq_eq, ← lcTurn_eq] at hZ; first | exact hZ | (apply hZ <;> assumption)) | (rw [← wp_eq, ← lcTurn_eq] at hZ; first | exact hZ | (apply hZ <;> assumption)) | (rw [← wq_eq, ← lcTurn_eq] at hZ; first | exact hZ | (apply hZ <;> assumption)) | (rw [← wp_eq, ← wq_eq] at hZ; first | exact hZ | (apply hZ <;> assumption)) | (rw [← wq_eq] at hZ; first | exact hZ | (apply hZ <;> assumption)) | (rw [← wp_eq] at hZ; first | exact hZ | (apply hZ <;> assumption))
/-- over a list that stands -/
theorem wp_obj {r : Nat} {ds : List D} {g : D → Store → Ls → Option Ls} {body : Ls → Store → R Fl} {QF : Kt Fl} {m : Nat} {ls : Ls} {S : Store} (I : Nat → Ls → Store → Prop) (hS : ∀ i ls S, I i ls S → S[r]? = some (.lst ds)) (hm : ds.length < m) (h0 : I 0 ls S)
    (step : ∀ i d ls S, ds[i]? = some d → I i ls S → ∃ ls1, g d S ls = some ls1 ∧ wp (body ls1 S) (turnQ (I (i + 1)) QF.f)) (fin : ∀ ls S, I ds.length ls S → QF.f (.next ls) S) : @wq _ (forL g body (.obj r) m 0 ls S) QF := by have hZ := @Z.wp_obj; first | (rw [← wp_eq, ← wq_eq, ← lcTurn_eq] at hZ; first | exact hZ | (apply hZ <;> assumption)) | (rw [← wp_eq, ← lcTurn_eq] at hZ; first | exact hZ | (apply hZ <;> assumption)) | (rw [← wq_eq, ← lcTurn_eq] at hZ; first | exact hZ | (apply hZ <;> assumption)) | (rw [← wp_eq, ← wq_eq] at hZ; first | exact hZ | (apply hZ <;> assumption)) | (rw [← wq_eq] at hZ; first | exact hZ | (apply hZ <;> assumption)) | (rw [← wp_eq] at hZ; first | exact hZ | (apply hZ <;> assumption))
theorem wp_lcG {J : ItV} {k : Nat} {g : D → Store → Ls → Option Ls} {c : Ls → Store → R Bool} {e : Ls → Store → R D} {r : Nat} {w : Ls} {Q : Kt D} {m : Nat} {S : Store} (I : Nat → List D → Store → Prop) (hm : k < m) (h0 : I 0 [] S) (hr : S[r]? = some (.lst []))
    (nx : ∀ i acc S, i ≤ k → I i acc S → (i = k ∧ J.nxt i S = some none) ∨ ∃ d ls1, i < k ∧ J.nxt i S = some (some d) ∧ g d S w = some ls1 ∧ (S[r]? = some (.lst acc) → lcTurn r c e (I (i + 1)) acc ls1 S)) (fin : ∀ acc S, I k acc S → S[r]? = some (.lst acc) → Q.f (.ref r) S) : @wq _ (lcL g c e J r w m 0 S) Q := by have hZ := @Z.wp_lcG; first | (rw [← wp_eq, ← wq_eq, ← lcTurn_eq] at hZ; first | exact hZ | (apply hZ <;> assumption)) | (rw [← wp_eq, ← lcTurn_eq] at hZ; first | exact hZ | (apply hZ <;> assumption)) | (rw [← wq_eq, ← lcTurn_eq] at hZ; first | exact hZ | (apply hZ <;> assumption)) | (rw [← wp_eq, ← wq_eq] at hZ; first | exact hZ | (apply hZ <;> assumption)) | (rw [← wq_eq] at hZ; first | exact hZ | (apply hZ <;> assumption)) | (rw [← wp_eq] at hZ; first | exact hZ | (apply hZ <;> assumption))
theorem wp_lcR {v k : Nat} {lo : Int} {c : Ls → Store → R Bool} {e : Ls → Store → R D} {r : Nat} {w : Ls} {Q : Kt D} {m : Nat} {S : Store} (I : Nat → List D → Store → Prop) (hm : k < m) (h0 : I 0 [] S) (hr : S[r]? = some (.lst []))
    (step : ∀ i acc S, i < k → I i acc S → S[r]? = some (.lst acc) → lcTurn r c e (I (i + 1)) acc (w.set v (some (.int (lo + i)))) S) (fin : ∀ acc S, I k acc S → S[r]? = some (.lst acc) → Q.f (.ref r) S) : @wq _ (lcL (fun d _ ls => some (ls.set v (some d))) c e (.rng lo k) r w m 0 S) Q := by have hZ := @Z.wp_lcR; first | (rw [← wp_eq, ← wq_eq, ← lcTurn_eq] at hZ; first | exact hZ | (apply hZ <;> assumption)) | (rw [← wp_eq, ← lcTurn_eq] at hZ; first | exact hZ | (apply hZ <;> assumption)) | (rw [← wq_eq, ← lcTurn_eq] at hZ; first | exact hZ | (apply hZ <;> assumption)) | (rw [← wp_eq, ← wq_eq] at hZ; first | exact hZ | (apply hZ <;> assumption)) | (rw [← wq_eq] at hZ; first | exact hZ | (apply hZ <;> assumption)) | (rw [← wp_eq] at hZ; first | exact hZ | (apply hZ <;> assumption))
theorem wp_lcT {J : ItV} {ds : List D} {g : D → Store → Ls → Option Ls} {c : Ls → Store → R Bool} {e : Ls → Store → R D} {r : Nat} {w : Ls} {Q : Kt D} {m : Nat} {S : Store} (hJ : J = .tup ds ∨ J = .rol ds) (I : Nat → List D → Store → Prop) (hm : ds.length < m) (h0 : I 0 [] S) (hr : S[r]? = some (.lst []))
    (step : ∀ i d acc S, ds[i]? = some d → I i acc S → S[r]? = some (.lst acc) → ∃ ls1, g d S w = some ls1 ∧ lcTurn r c e (I (i + 1)) acc ls1 S) (fin : ∀ acc S, I ds.length acc S → S[r]? = some (.lst acc) → Q.f (.ref r) S) : @wq _ (lcL g c e J r w m 0 S) Q := by have hZ := @Z.wp_lcT; first | (rw [← wp_eq, ← wq_eq, ← lcTurn_eq] at hZ; first | exact hZ | (apply hZ <;> assumption)) | (rw [← wp_eq, ← lcTurn_eq] at hZ; first | exact hZ | (apply hZ <;> assumption)) | (rw [← wq_eq, ← lcTurn_eq] at hZ; first | exact hZ | (apply hZ <;> assumption)) | (rw [← wp_eq, ← wq_eq] at hZ; first | exact hZ | (apply hZ <;> assumption)) | (rw [← wq_eq] at hZ; first | exact hZ | (apply hZ <;> assumption)) | (rw [← wp_eq] at hZ; first | exact hZ | (apply hZ <;> assumption))
theorem wp_lcO {n : Nat} {ds : List D} {g : D → Store → Ls → Option Ls} {c : Ls → Store → R Bool} {e : Ls → Store → R D} {r : Nat} {w : Ls} {Q : Kt D} {m : Nat} {S : Store} (I : Nat → List D → Store → Prop) (hS : ∀ i acc S, I i acc S → S[n]? = some (.lst ds)) (hm : ds.length < m) (h0 : I 0 [] S) (hr : S[r]? = some (.lst []))
    (step : ∀ i d acc S, ds[i]? = some d → I i acc S → S[r]? = some (.lst acc) → ∃ ls1, g d S w = some ls1 ∧ lcTurn r c e (I (i + 1)) acc ls1 S) (fin : ∀ acc S, I ds.length acc S → S[r]? = some (.lst acc) → Q.f (.ref r) S) : @wq _ (lcL g c e (.obj n) r w m 0 S) Q := by have hZ := @Z.wp_lcO; first | (rw [← wp_eq, ← wq_eq, ← lcTurn_eq] at hZ; first | exact hZ | (apply hZ <;> assumption)) | (rw [← wp_eq, ← lcTurn_eq] at hZ; first | exact hZ | (apply hZ <;> assumption)) | (rw [← wq_eq, ← lcTurn_eq] at hZ; first | exact hZ | (apply hZ <;> assumption)) | (rw [← wp_eq, ← wq_eq] at hZ; first | exact hZ | (apply hZ <;> assumption)) | (rw [← wq_eq] at hZ; first | exact hZ | (apply hZ <;> assumption)) | (rw [← wp_eq] at hZ; first | exact hZ | (apply hZ <;> assumption))
section
variable {F : Nat → List D → Store → R D} {FK : Nat → List Str → List D → List D → Store → R D} {m : Nat} {ls : Ls} {S : Store} {Q : Kt D} {QF : Kt Fl}
@[simp] theorem e_lk {i : Nat} {e : E} : @wq _ ((ev F FK m (.lk i e)).val ls S) Q = match ls[i]? with
    | some (some (.ref n)) => match S[n]? with
      | some (.dct kvs) => wp ((ev F FK m e).val ls (S.set n (.dcl kvs))) fun d S1 => match S1[n]? with
        | some (.dcl kvs') => Q.f d (S1.set n (.dct kvs'))
        | _ => False
      | _ => False
    | _ => False := by
  have e1 : (ev F FK m (.lk i e)).val ls S = match ls[i]? with
    | some (some (.ref n)) => match S[n]? with
      | some (.dct kvs) => ((ev F FK m e).val ls (S.set n (.dcl kvs))).bind fun d S1 => match S1[n]? with
        | some (.dcl kvs') => .ok d (S1.set n (.dct kvs'))
        | _ => .bad
      | _ => .bad
    | _ => .bad := rfl
  rw [e1]
  split
  · rename_i n h1
    split
    · rename_i kvs h2
      rw [wp_bind]
      unfold wp
      congr 1
      congr 1
      funext d S1
      split
      · rw [wp_ok]
      · rw [wp_bad]
    · rw [wp_bad]
  · rw [wp_bad]
@[simp] theorem s_lks {i : Nat} {t : PV.S} : @wq _ (exS F FK m (.lks i t) ls S) QF = match ls[i]? with
    | some (some (.ref n)) => match S[n]? with
      | some (.dct kvs) => wp (exS F FK m t ls (S.set n (.dcl kvs))) fun d S1 => match S1[n]? with
        | some (.dcl kvs') => QF.f d (S1.set n (.dct kvs'))
        | _ => False
      | _ => False
    | _ => False := by
  have e1 : exS F FK m (.lks i t) ls S = match ls[i]? with
    | some (some (.ref n)) => match S[n]? with
      | some (.dct kvs) => (exS F FK m t ls (S.set n (.dcl kvs))).bind fun d S1 => match S1[n]? with
        | some (.dcl kvs') => .ok d (S1.set n (.dct kvs'))
        | _ => .bad
      | _ => .bad
    | _ => .bad := rfl
  rw [e1]
  split
  · rename_i n h1
    split
    · rename_i kvs h2
      rw [wp_bind]
      unfold wp
      congr 1
      congr 1
      funext d S1
      split
      · rw [wp_ok]
      · rw [wp_bad]
    · rw [wp_bad]
  · rw [wp_bad]
end
/-- a call -/
theorem wp_callF {P : List Df} {m n f : Nat} {df : Df} {ds full : List D} {S : Store} {Q : D → Store → Prop} (h : P[f]? = some df) (hf : fill df ds = some full)
    (w : wp (exS (callF P m n) (callFK P m n) m df.body (startD df full) S) fun fl S' => match fl with
      | .next _ => Q .non S'
      | .ret d => Q d S'
      | _ => False) : wp (callF P m (n + 1) f ds S) Q := by have hZ := @Z.wp_callF; first | (rw [← wp_eq, ← wq_eq, ← lcTurn_eq] at hZ; first | exact hZ | (apply hZ <;> assumption)) | (rw [← wp_eq, ← lcTurn_eq] at hZ; first | exact hZ | (apply hZ <;> assumption)) | (rw [← wq_eq, ← lcTurn_eq] at hZ; first | exact hZ | (apply hZ <;> assumption)) | (rw [← wp_eq, ← wq_eq] at hZ; first | exact hZ | (apply hZ <;> assumption)) | (rw [← wq_eq] at hZ; first | exact hZ | (apply hZ <;> assumption)) | (rw [← wp_eq] at hZ; first | exact hZ | (apply hZ <;> assumption))
theorem wp_callFK {P : List Df} {m n f : Nat} {ks : List Str} {df : Df} {ds es full : List D} {S : Store} {Q : D → Store → Prop} (h : P[f]? = some df) (hf : fillK df ks ds es = some full)
    (w : wp (callF P m n f full S) Q) (hq : fill df full = some full) : wp (callFK P m n f ks ds es S) Q := by have hZ := @Z.wp_callFK; first | (rw [← wp_eq, ← wq_eq, ← lcTurn_eq] at hZ; first | exact hZ | (apply hZ <;> assumption)) | (rw [← wp_eq, ← lcTurn_eq] at hZ; first | exact hZ | (apply hZ <;> assumption)) | (rw [← wq_eq, ← lcTurn_eq] at hZ; first | exact hZ | (apply hZ <;> assumption)) | (rw [← wp_eq, ← wq_eq] at hZ; first | exact hZ | (apply hZ <;> assumption)) | (rw [← wq_eq] at hZ; first | exact hZ | (apply hZ <;> assumption)) | (rw [← wp_eq] at hZ; first | exact hZ | (apply hZ <;> assumption))
end PV

set_option Elab.async false
set_option linter.all false
set_option maxRecDepth 100000
set_option maxHeartbeats 2000000
/-! PV: the head of a law. -/
namespace PV
open PySem PySem.Spec PyProof.Rows L2
def faOf (C : List Fc) : List He.Fa := (C.map fun c => He.Fa.glo c.x) ++ bNames.map He.Fa.free
theorem says_all {fa : List He.Fa} {fn : List He.DefD} {K : PySem.W.Frag} (c : He.SaysD fa fn K) {f : He.Fa} (h : f ∈ fa) : f.ok K = true := by
  obtain ⟨i, hi⟩ := List.getElem?_of_mem h
  exact c.fact i hi
/-- the law's function: how it is bound, what it is told, what it promises -/
structure LawF (C : List Fc) (m n f : Nat) (c : Fc) : Prop where
  at_ : C[f]? = some c
  x : c.x = "law"
  dfl : c.dfl = []
  ps : c.df.ps = (["script"] : List Str)
  np : c.df.np = 1
  bind : ∀ (kV doc pm : Value) (an : Option Addr) (cdv ct : Value) (us : List Value), us.length = (["script"] : List Str).length → bindArgs (PySem.W.fnOf c.x c.x c.params c.body c.sc .none kV doc pm an cdv ct) ⟨us, []⟩ = pure ((["script"] : List Str).zip us)
  walk : ∀ ns : List Int, wp (callF (C.map (·.df)) m n f [.rol (ns.map D.int)] []) fun d S' => d = .bl true
section
variable {C : List Fc} {KT : List (Nat × Nat × List Str)} {m n f : Nat} {c : Fc} {prog : Program} {w : World} {K : PySem.W.Frag} {h : Heap} {mg : Str → Option Value} {fa : Addr}
def gk (K : PySem.W.Frag) : Gb := ⟨K, fun _ => He.ga K "law"⟩
theorem rvs_int {G : Gb} {H : Hp} {b : List Addr} : ∀ ns : List Int, RVs G H b (ns.map D.int) (ns.map V.int)
  | [] => RVs.nil
  | n :: ns => RVs.cons (rv_int.mpr rfl) (rvs_int ns)
theorem law_head (L : LawF C m n f c) (hck : ∀ c ∈ C, c.ck (ftOf C) KT = true) (hB : ∀ c ∈ C, BindC c) (hKB : ∀ f n ks, (f, n, ks) ∈ KT → ∃ c, C[f]? = some c ∧ KBindC c n ks ∧ n ≤ c.df.ps.length)
    (X : K.In h) (G : h.Ns mainGlobals mg) (hfa : mg ("law" : Str) = some (.ref fa)) (says : He.SaysD (faOf C) (C.map Fc.d) K) :
    ∃ fd : FuncData, (∀ (s : Shared) (v : Value), BindsTo s fd ⟨[v], []⟩ [("script", v)]) ∧
      (∀ (H : Hp) (a : Addr) (ns : List Int), Only H → SqL K H a (ns.map V.int) → spN (gk K) (C.map (·.df)) m n f 1 [.ref a] H (fun v _ => v = .bl true) fun _ _ _ => False) ∧
      ∀ base : Heap, K.In base → base.Ns mainGlobals mg → FnOk prog w K mg base CX0 n fa fd ["script"] (spN (gk K) (C.map (·.df)) m n f 1) := by
  have hF : ∀ c ∈ C, ∃ fd, FunD (gk K).K c.x c.x c.params c.body c.sc (c.dfl.map (He.Dv.v (gk K).K)) [] (He.ga (gk K).K c.x) fd := fun c hc => by
    obtain ⟨i, hi⟩ := List.getElem?_of_mem hc
    exact says.def_ i (d := c.d) (by rw [List.getElem?_map, hi]; rfl)
  have hG : ∀ c ∈ C, mg c.x = some (.ref (He.ga (gk K).K c.x)) := fun c hc => He.glo_ok X G (says_all says (List.mem_append_left _ (List.mem_map.mpr ⟨c, hc, rfl⟩)))
  have hm : ∀ y ∈ bNames, mg y = none := fun y hy => He.free_ok X G (says_all says (List.mem_append_right _ (List.mem_map.mpr ⟨y, hy, rfl⟩)))
  have mc := List.mem_of_getElem? L.at_
  obtain ⟨fd, F⟩ := hF c mc
  have e := hfa.symm.trans (L.x ▸ hG c mc)
  have e2 : fa = He.ga K c.x := by rw [L.x]; exact Value.ref.inj (Option.some.inj e)
  refine ⟨fd, fun s v => ?_, fun H a ns hO hS => ?_, fun base _ _ => ?_⟩
  · have F' := F
    rw [L.dfl] at F'
    exact FunD.bindsA (ps := ["script"]) F' L.bind s [v] rfl
  · refine ⟨rfl, [], [], [.rol (ns.map D.int)], ⟨rfl, List.nodup_nil, fun n o a h _ => by simp at h⟩, RVs.cons ?_ RVs.nil, ?_⟩
    · refine ⟨a, ns.map V.int, rfl, ?_, rvs_int ns⟩
      rcases hS with q | q
      · rcases hO a with z | ⟨o, xs, z⟩
        · rcases q with q | ⟨o', q⟩ <;> (rw [z] at q; cases q)
        · rcases q with q | ⟨o', q⟩
          · rw [z] at q
            cases q
          · rw [z] at q
            cases q
            exact .inl ⟨o, z⟩
      · exact .inr q
    · obtain ⟨d, S', e, rfl⟩ := wp_def.mp (L.walk ns)
      have hp : (C.map (·.df))[f]? = some c.df := p_at L.at_
      have hf : fill c.df [.rol (ns.map D.int)] = some [.rol (ns.map D.int)] := by
        unfold fill
        have := L.np
        simp [this]
      unfold callF at e
      rw [hp] at e
      simp only [hf] at e
      rw [e]
      exact want_ok.mpr fun v H' b' p r => rv_bl.mp r
  · have r := fn_all (prog := prog) (w := w) (base := base) (m := m) hck hB hKB hF hG hm n f c fd L.at_ F
    rw [L.ps, L.np] at r
    rw [e2]
    exact r
end
end PV

set_option Elab.async false
set_option linter.all false
set_option maxRecDepth 100000
set_option maxHeartbeats 1000000
/-! The defs that every law of this row has, by PV. -/
namespace PV
open PySem

/-! ### stores that grow -/
/-- but for xs, what stood stands -/
structure Ext (xs : List Nat) (S S' : Store) : Prop where
  len : S.length ≤ S'.length
  at_ : ∀ j o, S[j]? = some o → j ∉ xs → S'[j]? = some o
theorem Ext.refl (xs : List Nat) (S : Store) : Ext xs S S := ⟨Nat.le_refl _, fun _ _ h _ => h⟩
theorem Ext.trans {xs : List Nat} {S S1 S2 : Store} (a : Ext xs S S1) (b : Ext xs S1 S2) : Ext xs S S2 := ⟨Nat.le_trans a.len b.len, fun j o h k => b.at_ j o (a.at_ j o h k) k⟩
theorem Ext.mono {xs ys : List Nat} {S S1 : Store} (a : Ext xs S S1) (h : ∀ x ∈ xs, x ∈ ys) : Ext ys S S1 := ⟨a.len, fun j o e k => a.at_ j o e fun z => k (h _ z)⟩
theorem Ext.push (xs : List Nat) (S : Store) (o : O) : Ext xs S (S ++ [o]) := ⟨by simp, fun j o' h _ => by
  rw [List.getElem?_append_left (by
    rcases Nat.lt_or_ge j S.length with q | q
    · exact q
    · rw [List.getElem?_eq_none q] at h; cases h)]
  exact h⟩
theorem Ext.set {xs : List Nat} (S : Store) {i : Nat} (h : i ∈ xs) (o : O) : Ext xs S (S.set i o) := ⟨by simp, fun j o' e k => by
  rw [List.getElem?_set_ne (fun q : i = j => k (by rw [← q]; exact h))]; exact e⟩
/-- what is newer than S0 may change too -/
theorem Ext.setN {xs : List Nat} {S0 S : Store} (a : Ext xs S0 S) {i : Nat} (h : S0.length ≤ i) (o : O) : Ext xs S0 (S.set i o) := ⟨by simpa using a.len, fun j o' e k => by
  have hj : j < S0.length := by
    rcases Nat.lt_or_ge j S0.length with q | q
    · exact q
    · rw [List.getElem?_eq_none q] at e; cases e
  rw [List.getElem?_set_ne (by omega)]
  exact a.at_ j o' e k⟩
theorem Ext.pushed {xs : List Nat} {S0 S : Store} (a : Ext xs S0 S) (o : O) : Ext xs S0 (S ++ [o]) := a.trans (Ext.push xs S o)
/-- back to where less stood -/
theorem Ext.less {xs : List Nat} {S0 S S' : Store} (a : Ext xs S0 S) (b : ∀ j o, j < S0.length → S[j]? = some o → j ∉ xs → S'[j]? = some o) (l : S0.length ≤ S'.length) : Ext xs S0 S' := ⟨l, fun j o e k => by
  have hj : j < S0.length := by
    rcases Nat.lt_or_ge j S0.length with q | q
    · exact q
    · rw [List.getElem?_eq_none q] at e; cases e
  exact b j o hj (a.at_ j o e k) k⟩
/-- changes of what is newer -/
theorem Ext.newer {xs ys : List Nat} {S0 S S' : Store} (a : Ext xs S0 S) (b : Ext ys S S') (h : ∀ y ∈ ys, S0.length ≤ y) : Ext xs S0 S' := ⟨Nat.le_trans a.len b.len, fun j o e k => by
  have hj : j < S0.length := by
    rcases Nat.lt_or_ge j S0.length with q | q
    · exact q
    · rw [List.getElem?_eq_none q] at e; cases e
  exact b.at_ j o (a.at_ j o e k) fun z => by have := h j z; omega⟩
theorem lt_of_some {α : Type} {l : List α} {i : Nat} {x : α} (h : l[i]? = some x) : i < l.length := by
  rcases Nat.lt_or_ge i l.length with q | q
  · exact q
  · rw [List.getElem?_eq_none q] at h; cases h
@[simp] theorem push_at {S : Store} {o : O} : (S ++ [o])[S.length]? = some o := by simp

/-- it stands there (simp is not to see it as a bound) -/
def Lt (j : Nat) (S : Store) : Prop := j < S.length
theorem Lt.of {S : Store} {j : Nat} {o : O} (h : S[j]? = some o) : Lt j S := lt_of_some h
section
variable {S t : Store} {i j k : Nat} {o o' : O}
@[simp] theorem ap_at0 : (S ++ t)[S.length]? = t[0]? := by rw [List.getElem?_append_right (Nat.le_refl _)]; simp
@[simp] theorem ap_at : (S ++ t)[S.length + k]? = t[k]? := by rw [List.getElem?_append_right (by omega)]; simp
@[simp] theorem ap_s0 : (S.set i o ++ t)[S.length]? = t[0]? := by rw [List.getElem?_append_right (by simp)]; simp
@[simp] theorem ap_s1 : (S.set i o ++ t)[S.length + k]? = t[k]? := by rw [List.getElem?_append_right (by simp)]; simp
@[simp] theorem ap_ss0 : ((S.set i o).set j o' ++ t)[S.length]? = t[0]? := by rw [List.getElem?_append_right (by simp)]; simp
@[simp] theorem ap_ss1 : ((S.set i o).set j o' ++ t)[S.length + k]? = t[k]? := by rw [List.getElem?_append_right (by simp)]; simp
@[simp] theorem ap_set0 : (S ++ t).set S.length o = S ++ t.set 0 o := by rw [List.set_append_right _ _ (Nat.le_refl _)]; simp
@[simp] theorem ap_set1 : (S ++ t).set (S.length + k) o = S ++ t.set k o := by rw [List.set_append_right _ _ (by omega)]; simp
@[simp] theorem ap_sset0 : (S.set i o' ++ t).set S.length o = S.set i o' ++ t.set 0 o := by rw [List.set_append_right _ _ (by simp)]; simp
@[simp] theorem ap_sset1 : (S.set i o' ++ t).set (S.length + k) o = S.set i o' ++ t.set k o := by rw [List.set_append_right _ _ (by simp)]; simp
theorem ap_lt (h : Lt j S) : (S ++ t)[j]? = S[j]? := List.getElem?_append_left h
theorem ap_slt (h : Lt j S) : (S.set i o ++ t)[j]? = (S.set i o)[j]? := List.getElem?_append_left (by rw [List.length_set]; exact h)
theorem set_lt (h : Lt j S) : (S ++ t).set j o = S.set j o ++ t := List.set_append_left _ _ h
theorem set_slt (h : Lt j S) : (S.set i o' ++ t).set j o = (S.set i o').set j o ++ t := List.set_append_left _ _ (by rw [List.length_set]; exact h)
theorem set_same (h : Lt j S) : (S.set j o)[j]? = some o := List.getElem?_set_self h
theorem set_ssame (h : Lt j S) : ((S.set i o').set j o)[j]? = some o := List.getElem?_set_self (by rw [List.length_set]; exact h)
theorem set_ne (h : i ≠ j) : (S.set i o)[j]? = S[j]? := List.getElem?_set_ne h
end
theorem ixN_ge {l : Nat} {i : Int} (h : 0 ≤ i) : L2.ixN l i = if i.toNat < l then some i.toNat else none := by
  unfold L2.ixN
  rw [if_pos h]
  by_cases c : i < l
  · rw [if_pos c, if_pos (by omega)]
  · rw [if_neg c, if_neg (by omega)]
theorem atI_ge {α : Type} {xs : List α} {i : Int} (h : 0 ≤ i) : L2.atI xs i = xs[i.toNat]? := by
  unfold L2.atI
  rw [ixN_ge h]
  by_cases c : i.toNat < xs.length
  · rw [if_pos c]; rfl
  · rw [if_neg c, List.getElem?_eq_none (by omega)]; rfl
@[simp] theorem atI_lit {α : Type} {xs : List α} {n : Nat} : L2.atI xs (no_index (OfNat.ofNat n)) = xs[n]? := atI_ge (i := (n : Int)) (by omega)
@[simp] theorem ixN_lit {l n : Nat} : L2.ixN l (no_index (OfNat.ofNat n)) = if n < l then some n else none := ixN_ge (i := (n : Int)) (by omega)
@[simp] theorem atI_natc {α : Type} {xs : List α} {n : Nat} : L2.atI xs (n : Int) = xs[n]? := atI_ge (i := (n : Int)) (by omega)
/-! ### the state that the draws come from -/
structure StOk (S : Store) (s k : Nat) : Prop where
  ex : ∃ (a b c sd e : Int) (cs : List Int), S[s]? = some (.lst [.int a, .int b, .int c, .int sd, .ref k, .int e]) ∧ S[k]? = some (.lst (cs.map D.int)) ∧ k ≠ s ∧ 0 ≤ a ∧ 0 ≤ b
theorem StOk.ext {S S' : Store} {s k : Nat} {xs : List Nat} (h : StOk S s k) (x : Ext xs S S') (n : s ∉ xs) (hk : k ∉ xs) : StOk S' s k := by
  obtain ⟨a, b, c, sd, e, cs, h1, h2, h3, h4, h5⟩ := h.ex
  exact ⟨a, b, c, sd, e, cs, x.at_ _ _ h1 n, x.at_ _ _ h2 hk, h3, h4, h5⟩
theorem StOk.push {S : Store} {s k : Nat} (h : StOk S s k) (o : O) : StOk (S ++ [o]) s k := h.ext (Ext.push [] S o) (by simp) (by simp)
theorem StOk.lt {S : Store} {s k : Nat} (h : StOk S s k) : s < S.length := by
  obtain ⟨a, b, c, sd, e, cs, h1, _⟩ := h.ex
  exact lt_of_some h1
theorem StOk.ltk {S : Store} {s k : Nat} (h : StOk S s k) : k < S.length := by
  obtain ⟨a, b, c, sd, e, cs, h1, h2, _⟩ := h.ex
  exact lt_of_some h2

def bMixed : S := .cons (.set 2 (.bin .mod (.bi .int (.cons (.bin .add (.bin .add (.bin .mul (.v 0) (.int 48271)) (.bin .mul (.v 1) (.int 69621))) (.int 97)) (.nil))) (.int 2147483647))) (.cons (.set 3 (.bin .mod (.bi .int (.cons (.bin .add (.bin .add (.bin .mul (.v 2) (.bin .add (.bin .add (.v 2) (.bin .mul (.int 2) (.v 1))) (.int 1))) (.bin .mul (.v 1) (.int 16807))) (.int 31)) (.nil))) (.int 2147483629))) (.cons (.ret (.bin .mod (.bi .int (.cons (.bin .add (.bin .mul (.v 3) (.int 40692)) (.v 2)) (.nil))) (.int 2147483587))) (.nil)))
def bTake (i : Nat) : S := .cons (.set 2 (.ix (.v 0) (.int 4))) (.cons (.aix (.v 0) (.int 2) .add (.int 1)) (.cons (.ite (.bo true (.cons (.cmp .eq (.ix (.v 0) (.int 0)) (.int 0)) (.cons (.cmp .lt (.ix (.v 0) (.int 1)) (.bi .len (.cons (.v 2) (.nil)))) (.nil)))) (.cons (.set 3 (.ix (.v 2) (.ix (.v 0) (.int 1)))) (.cons (.aix (.v 0) (.int 1) .add (.int 1)) (.cons (.ite (.cmp .lt (.bi .abs (.cons (.v 3) (.nil))) (.bin .pow (.int 10) (.int 18))) (.cons (.ret (.bin .mod (.bi .int (.cons (.call i (.cons (.v 3) (.cons (.ix (.v 0) (.int 2)) (.nil)))) (.nil))) (.v 1))) (.nil)) (.nil)) (.cons (.six (.v 0) (.int 0) (.bi .abs (.cons (.v 3) (.nil)))) (.cons (.six (.v 0) (.int 5) (.int 60)) (.nil)))))) (.nil)) (.cons (.ite (.cmp .eq (.ix (.v 0) (.int 0)) (.int 0)) (.cons (.ret (.bin .mod (.bi .int (.cons (.call i (.cons (.ix (.v 0) (.int 3)) (.cons (.ix (.v 0) (.int 2)) (.nil)))) (.nil))) (.v 1))) (.nil)) (.nil)) (.cons (.set 4 (.bin .mod (.bi .int (.cons (.ix (.v 0) (.int 0)) (.nil))) (.v 1))) (.cons (.aix (.v 0) (.int 5) .sub (.int 1)) (.cons (.six (.v 0) (.int 0) (.bin .mul (.bin .fdiv (.ix (.v 0) (.int 0)) (.v 1)) (.bi .int (.cons (.cmp .gt (.ix (.v 0) (.int 5)) (.int 0)) (.nil))))) (.cons (.ret (.v 4)) (.nil))))))))
section
variable {P : List Df} {m n : Nat} {ps : List Str}
theorem sp_mixed {f : Nat} (h : P[f]? = some ⟨2, 4, [], ps, bMixed⟩) (a b : Int) (S : Store) : wp (callF P m (n + 1) f [.int a, .int b] S) fun d S' => ∃ v, d = .int v ∧ S' = S := by
  refine wp_callF h rfl ?_
  simp [bMixed, startD]
  omega

theorem sp_take {f g : Nat} (h : P[f]? = some ⟨2, 5, [], ps, bTake g⟩) (hg : P[g]? = some ⟨2, 4, [], qs, bMixed⟩) {s k : Nat} {S : Store} (st : StOk S s k) {lim : Int} (h1 : 0 < lim) (h2 : lim < 1073741824) :
    wp (callF P m (n + 2) f [.ref s, .int lim] S) fun d S' => ∃ v, d = .int v ∧ 0 ≤ v ∧ v < lim ∧ StOk S' s k ∧ Ext [s] S S' := by
  obtain ⟨a, b, c, sd, e, cs, q1, q2, q3, q4, q5⟩ := st.ex
  refine wp_callF h rfl ?_
  have hs := lt_of_some q1
  have e1 : ∀ o, (S.set s o)[s]? = some o := fun o => List.getElem?_set_self hs
  have e2 : ∀ o, (S.set s o)[k]? = some (.lst (cs.map D.int)) := fun o => by rw [List.getElem?_set_ne q3.symm]; exact q2
  have stk : ∀ (a b c sd e : Int), 0 ≤ a → 0 ≤ b → StOk (S.set s (.lst [.int a, .int b, .int c, .int sd, .ref k, .int e])) s k := fun a b c sd e z1 z2 => ⟨a, b, c, sd, e, cs, e1 _, e2 _, q3, z1, z2⟩
  have ex : ∀ o, Ext [s] S (S.set s o) := fun o => Ext.set S (by simp) o
  have fin : ∀ (v a b c sd e : Int), 0 ≤ a → 0 ≤ b → 0 ≤ v % lim ∧ v % lim < lim ∧ StOk (S.set s (.lst [.int a, .int b, .int c, .int sd, .ref k, .int e])) s k ∧ Ext [s] S (S.set s (.lst [.int a, .int b, .int c, .int sd, .ref k, .int e])) :=
    fun v a b c sd e z1 z2 => ⟨Int.emod_nonneg _ (by omega), Int.emod_lt_of_pos _ h1, stk _ _ _ _ _ z1 z2, ex _⟩
  -- one draw of the state's number
  have tail : ∀ (a b c e : Int), 0 ≤ a → 0 ≤ b → (-18446744073709551616 < a / lim ∧ a / lim < 18446744073709551616 ∨ (-18446744073709551616 < if 1 < e then (1 : Int) else 0) ∧ (if 1 < e then (1 : Int) else 0) < 18446744073709551616) ∧ 0 ≤ a % lim ∧ a % lim < lim ∧ StOk (S.set s (.lst [.int (a / lim * (if 1 < e then 1 else 0)), .int b, .int c, .int sd, .ref k, .int (e - 1)])) s k ∧ Ext [s] S (S.set s (.lst [.int (a / lim * (if 1 < e then 1 else 0)), .int b, .int c, .int sd, .ref k, .int (e - 1)])) :=
    fun a b c e z1 z2 => ⟨.inr (by split <;> decide), fin a _ b c sd _ (Int.mul_nonneg (Int.ediv_nonneg z1 (by omega)) (by split <;> omega)) z2⟩
  simp [bTake, startD, q1, q2, e1, e2]
  by_cases ha : a = 0
  · subst ha
    simp only [if_true]
    by_cases hb : b < cs.length
    · rw [if_pos hb]
      have hb' : b.toNat < cs.length := by omega
      rw [atI_ge q5, List.getElem?_map, List.getElem?_eq_getElem hb']
      generalize cs[b.toNat] = cell
      simp [e1, e2, q2]
      by_cases hc : (if cell < 0 then -cell else cell) < 1000000000000000000
      · simp only [hc, if_true]
        refine wp_mono (sp_mixed hg _ _ _) ?_
        rintro _ _ ⟨v, rfl, rfl⟩
        simp [h1]
        exact fin v 0 (b + 1) (c + 1) sd e (by omega) (by omega)
      · simp only [hc, if_false]
        have hz : ¬ (if cell < 0 then -cell else cell) = 0 := by omega
        simp [e1, e2, q2, hz, h1, h2]
        exact fin _ _ (b + 1) _ sd _ (Int.ediv_nonneg (by split <;> omega) (by omega)) (by omega)
    · rw [if_neg hb]
      refine wp_mono (sp_mixed hg _ _ _) ?_
      rintro _ _ ⟨v, rfl, rfl⟩
      simp [h1]
      exact fin v 0 b (c + 1) sd e (by omega) (by omega)
  · simp [ha, e1, e2, q2, h1, h2]
    exact tail a b (c + 1) e q4 q5

def bPick (i : Nat) : S := .cons (.ret (.ix (.v 1) (.call i (.cons (.v 0) (.cons (.bi .len (.cons (.v 1) (.nil))) (.nil)))))) (.nil)
/-- the draws' defs stand at their places -/
structure Draws (P : List Df) (iM iT iP : Nat) : Prop where
  mix : ∃ ps, P[iM]? = some ⟨2, 4, [], ps, bMixed⟩
  take : ∃ ps, P[iT]? = some ⟨2, 5, [], ps, bTake iM⟩
  pick : ∃ ps, P[iP]? = some ⟨2, 2, [], ps, bPick iT⟩
/-- after a draw: k the list of the state's cells -/
structure Af (s k : Nat) (S S' : Store) : Prop where
  st : StOk S' s k
  ext : Ext [s] S S'
theorem Af.refl {s k : Nat} {S : Store} (h : StOk S s k) : Af s k S S := ⟨h, Ext.refl _ _⟩
theorem Af.trans {s k : Nat} {S S1 S2 : Store} (a : Af s k S S1) (b : Af s k S1 S2) : Af s k S S2 := ⟨b.st, a.ext.trans b.ext⟩
theorem Af.push {s k : Nat} {S S1 : Store} (a : Af s k S S1) (o : O) : Af s k S (S1 ++ [o]) := ⟨a.st.push o, a.ext.pushed o⟩
theorem Af.pushs {s k : Nat} {S S1 : Store} (a : Af s k S S1) : ∀ t : Store, Af s k S (S1 ++ t)
  | [] => by rw [List.append_nil]; exact a
  | o :: t => by
    have h := Af.pushs (a.push o) t
    rw [List.append_assoc] at h
    exact h
/-- a list that is newer than S may change -/
theorem Af.setN {s k : Nat} {S S1 : Store} (a : Af s k S S1) (st : StOk S s k) {i : Nat} (h : S.length ≤ i) (o : O) : Af s k S (S1.set i o) :=
  ⟨a.st.ext (xs := [i]) (Ext.set S1 (by simp) o) (by have := st.lt; simp; omega) (by have := st.ltk; simp; omega), a.ext.setN h o⟩
theorem Af.at_ {s k : Nat} {S S1 : Store} (a : Af s k S S1) {i : Nat} {o : O} (h : S[i]? = some o) (n : i ≠ s) : S1[i]? = some o := a.ext.at_ _ _ h (by simpa using n)
theorem Draws.tk {P : List Df} {iM iT iP m n : Nat} (d : Draws P iM iT iP) {s k : Nat} {S : Store} (st : StOk S s k) {lim : Int} (h1 : 0 < lim) (h2 : lim < 1073741824) :
    wp (callF P m (n + 2) iT [.ref s, .int lim] S) fun d S' => ∃ v, d = .int v ∧ 0 ≤ v ∧ v < lim ∧ Af s k S S' := by
  obtain ⟨_, h⟩ := d.mix
  obtain ⟨_, g⟩ := d.take
  exact wp_mono (sp_take g h st h1 h2) fun d S' ⟨v, e, a, b, c, x⟩ => ⟨v, e, a, b, c, x⟩
/-- one of a list's items -/
theorem Draws.pkL {P : List Df} {iM iT iP m n : Nat} (d : Draws P iM iT iP) {s k r : Nat} {S : Store} (st : StOk S s k) {ds : List D} (hk : S[r]? = some (.lst ds)) (hks : r ≠ s) (h1 : 0 < ds.length) (h2 : ds.length < 1073741824) :
    wp (callF P m (n + 3) iP [.ref s, .ref r] S) fun d S' => d ∈ ds ∧ Af s k S S' := by
  obtain ⟨_, h⟩ := d.pick
  refine wp_callF h rfl ?_
  simp [bPick, startD, hk]
  refine wp_mono (d.tk st (by omega) (by omega)) ?_
  rintro _ S' ⟨v, rfl, a, b, c⟩
  have e := c.at_ hk hks
  have hv : v.toNat < ds.length := by omega
  simp [e, atI_ge a, List.getElem?_eq_getElem hv]
  exact c
theorem Draws.pkT {P : List Df} {iM iT iP m n : Nat} (d : Draws P iM iT iP) {s k : Nat} {S : Store} (st : StOk S s k) {ds : List D} (h1 : 0 < ds.length) (h2 : ds.length < 1073741824) :
    wp (callF P m (n + 3) iP [.ref s, .tup ds] S) fun d S' => d ∈ ds ∧ Af s k S S' := by
  obtain ⟨_, h⟩ := d.pick
  refine wp_callF h rfl ?_
  simp [bPick, startD]
  refine wp_mono (d.tk st (by omega) (by omega)) ?_
  rintro _ S' ⟨v, rfl, a, b, c⟩
  have hv : v.toNat < ds.length := by omega
  simp [atI_ge a, List.getElem?_eq_getElem hv]
  exact c

def bShuf (i : Nat) : S := .cons (.set 2 (.bi .list (.cons (.v 1) (.nil)))) (.cons (.set 3 (.lst (.nil))) (.cons (.for (.nm 4) (.qr (.bi .len (.cons (.v 1) (.nil)))) (.cons (.set 5 (.call i (.cons (.v 0) (.cons (.bi .len (.cons (.v 2) (.nil))) (.nil))))) (.cons (.ex (.mt .append (.v 3) (.cons (.ix (.v 2) (.v 5)) (.nil)))) (.cons (.set 2 (.bin .add (.sl (.v 2) .nil (.v 5)) (.sl (.v 2) (.bin .add (.v 5) (.int 1)) .nil))) (.nil))))) (.cons (.ret (.v 3)) (.nil))))
theorem big : sizeLine = 16777216 := sizeLine_eq
theorem sp_shuf {P : List Df} {iM iT iP m n f : Nat} (d : Draws P iM iT iP) (h : P[f]? = some ⟨2, 6, [], ps, bShuf iT⟩) {s k : Nat} {S : Store} (st : StOk S s k) {a : D} {ds : List D} (ha : (a = .tup ds) ∨ (∃ k, a = .ref k ∧ k ≠ s ∧ S[k]? = some (.lst ds)))
    (h2 : ds.length < 10000) (hm : 10000 < m) : wp (callF P m (n + 3) f [.ref s, a] S) fun d S' => ∃ r es, d = .ref r ∧ S'[r]? = some (.lst es) ∧ es.Perm ds ∧ S.length ≤ r ∧ Af s k S S' := by
  have hs := st.lt
  have hb := big
  refine wp_callF h rfl ?_
  have hsq : seqD a S = some ds := by
    rcases ha with rfl | ⟨k, rfl, _, e⟩
    · rfl
    · simp [e]
  have lenA : ∀ t : Store, fbD .len [a] (S ++ t) = .ok (.int ds.length) (S ++ t) := fun t => by
    rcases ha with rfl | ⟨k, rfl, ks, e⟩
    · rfl
    · simp [ap_lt (Lt.of e), e]
  simp [bShuf, startD, hsq, lenA]
  refine ⟨by omega, ?_⟩
  refine wp_rng (fun i ls S' => ∃ l x y ls' fs, ls = [some (.ref s), some a, some (.ref l), some (.ref (S.length + 1)), x, y] ∧ S'[l]? = some (.lst ls') ∧ S'[S.length + 1]? = some (.lst fs) ∧ (fs ++ ls').Perm ds ∧ fs.length = i ∧ l ≠ S.length + 1 ∧ S.length ≤ l ∧ Af s k S S') (by omega) ?_ ?_ ?_
  · refine ⟨_, _, _, ds, [], rfl, ?_, ?_, by simp, rfl, by omega, by omega, ?_⟩
    · simp
    · simp
    · simpa using ((Af.refl st).push (.lst ds)).push (.lst [])
  · rintro i ls S' hi ⟨l, x, y, ls', fs, rfl, q1, q2, q3, q4, q5, q6, q8⟩
    have hpl := q3.length_eq
    rw [List.length_append] at hpl
    simp [q1]
    refine wp_mono (d.tk q8.st (lim := ls'.length) (by omega) (by omega)) ?_
    rintro _ S1 ⟨v, rfl, v1, v2, af⟩
    have hls : l ≠ s := by omega
    have hrs : S.length + 1 ≠ s := by omega
    have a1 := af.at_ q1 hls
    have a2 := af.at_ q2 hrs
    have hv : v.toNat < ls'.length := by omega
    have af2 := q8.trans af
    have e1 : (v + 1).toNat = v.toNat + 1 := by omega
    simp [a1, a2, atI_ge v1, List.getElem?_eq_getElem hv, set_ne q5.symm, ap_slt (Lt.of a1), ap_slt (Lt.of a2), set_same (Lt.of a2), cut_hi v1, cut_lo (i := v + 1) (by omega)]
    refine ⟨by omega, by omega, ?_, by omega, by have := lt_of_some a2; omega, by have := lt_of_some a2; omega, (af2.setN st (by omega) _).pushs _⟩
    rw [e1]
    refine List.Perm.trans ?_ q3
    refine List.Perm.append_left fs ?_
    have := (List.getElem_cons_drop hv).symm
    exact (List.perm_middle (a := ls'[v.toNat]) (l₁ := ls'.take v.toNat) (l₂ := ls'.drop (v.toNat + 1))).symm.trans (by rw [List.getElem_cons_drop hv, List.take_append_drop])
  · rintro ls S' ⟨l, x, y, ls', fs, rfl, q1, q2, q3, q4, q5, q6, q8⟩
    have hpl := q3.length_eq
    rw [List.length_append] at hpl
    simp
    have : ls' = [] := List.eq_nil_of_length_eq_zero (by omega)
    subst this
    exact ⟨fs, q2, by simpa using q3, q8⟩

def bStart (i : Nat) : S := .cons (.set 1 (.bi .len (.cons (.v 0) (.nil)))) (.cons (.for (.nm 2) (.q (.sl (.v 0) .nil (.int 63))) (.cons (.set 1 (.call i (.cons (.bin .add (.v 1) (.v 2)) (.cons (.int 5) (.nil))))) (.nil))) (.cons (.ret (.lst (.cons (.int 0) (.cons (.int 0) (.cons (.int 0) (.cons (.v 1) (.cons (.bi .list (.cons (.sl (.v 0) .nil (.int 63)) (.nil))) (.cons (.int 0) (.nil))))))))) (.nil)))
theorem sp_start {P : List Df} {iM m n f : Nat} (h : P[f]? = some ⟨1, 3, [], ps, bStart iM⟩) (hM : P[iM]? = some ⟨2, 4, [], qs, bMixed⟩) (ns : List Int) (S : Store) (hm : 10000 < m) :
    wp (callF P m (n + 2) f [.rol (ns.map D.int)] S) fun d S' => ∃ s k, d = .ref s ∧ StOk S' s k ∧ S.length ≤ s ∧ Ext [] S S' := by
  have hb := big
  refine wp_callF h rfl ?_
  simp [bStart, startD]
  refine wp_obj (ds := (ns.map D.int).take 63) (fun i ls S' => ∃ (seed : Int) (x : Option D), ls = [some (.rol (ns.map D.int)), some (.int seed), x] ∧ S' = S ++ [.lst ((ns.map D.int).take 63)]) ?_ ?_ ?_ ?_ ?_
  · rintro i ls S' ⟨seed, x, rfl, rfl⟩
    simp
  · rw [List.length_take]; omega
  · exact ⟨_, _, rfl, by simp⟩
  · rintro i d ls S' hd ⟨seed, x, rfl, rfl⟩
    obtain ⟨c, hc⟩ : ∃ c : Int, d = .int c := by
      rw [List.getElem?_take] at hd
      split at hd
      · rw [List.getElem?_map] at hd
        obtain ⟨c, _, rfl⟩ := Option.map_eq_some_iff.mp hd
        exact ⟨c, rfl⟩
      · cases hd
    subst hc
    refine ⟨_, rfl, ?_⟩
    simp
    refine wp_mono (sp_mixed hM _ _ _) ?_
    rintro _ _ ⟨v, rfl, rfl⟩
    simp
  · rintro ls S' ⟨seed, x, rfl, rfl⟩
    simp
    refine ⟨by omega, ⟨S.length + 2, ?_⟩, ?_⟩
    · refine ⟨0, 0, 0, seed, 0, ns.take 63, ?_, ?_, by omega, by omega, by omega⟩
      · simp
      · simp [List.map_take]
    · have := ((((Ext.refl [] S).pushed (.lst ((ns.map D.int).take 63))).pushed (.lst ((ns.map D.int).take 63))).pushed (.lst ((ns.map D.int).take 63))).pushed (.lst [.int 0, .int 0, .int 0, .int seed, .ref (S.length + 2), .int 0])
      simpa [List.map_take] using this

/-! ### alike -/
mutual
def dep : D → Nat
  | .tup ds => deps ds + 1
  | _ => 0
def deps : List D → Nat
  | [] => 0
  | d :: ds => max (dep d) (deps ds)
end
mutual
/-- plain values -/
def Pl : D → Prop
  | .non => True | .bl _ => True | .int _ => True | .str _ => True
  | .tup ds => ds.length < 10000 ∧ Pls ds
  | _ => False
def Pls : List D → Prop
  | [] => True
  | d :: ds => Pl d ∧ Pls ds
end
theorem deps_at : ∀ {ds : List D} {i : Nat} {d : D}, ds[i]? = some d → dep d ≤ deps ds
  | [], i, d, h => by simp at h
  | e :: ds, 0, d, h => by
    simp at h; subst h
    simp only [deps]; omega
  | e :: ds, i + 1, d, h => by
    simp at h
    have := deps_at h
    simp only [deps]; omega
theorem pls_at : ∀ {ds : List D} {i : Nat} {d : D}, Pls ds → ds[i]? = some d → Pl d
  | [], i, d, _, h => by simp at h
  | e :: ds, 0, d, p, h => by
    simp at h; subst h
    simp only [Pls] at p; exact p.1
  | e :: ds, i + 1, d, p, h => by
    simp at h
    simp only [Pls] at p
    exact pls_at p.2 h
def bSame (i : Nat) : S := .cons (.ite (.cmp .is (.v 1) (.non)) (.cons (.ret (.cmp .is (.v 0) (.non))) (.nil)) (.nil)) (.cons (.ite (.isi .bool (.v 1)) (.cons (.ret (.bo true (.cons (.isi .bool (.v 0)) (.cons (.cmp .eq (.v 0) (.v 1)) (.nil))))) (.nil)) (.nil)) (.cons (.ite (.isi .int (.v 1)) (.cons (.ret (.bo true (.cons (.isi .int (.v 0)) (.cons (.no (.isi .bool (.v 0))) (.cons (.cmp .eq (.v 0) (.v 1)) (.nil)))))) (.nil)) (.nil)) (.cons (.ite (.isi .str (.v 1)) (.cons (.ret (.bo true (.cons (.isi .str (.v 0)) (.cons (.cmp .eq (.v 0) (.v 1)) (.nil))))) (.nil)) (.nil)) (.cons (.ite (.bo false (.cons (.no (.isi .tuple (.v 0))) (.cons (.cmp .ne (.bi .len (.cons (.v 0) (.nil))) (.bi .len (.cons (.v 1) (.nil)))) (.nil)))) (.cons (.ret (.bl false)) (.nil)) (.nil)) (.cons (.for (.nm 2) (.qr (.bi .len (.cons (.v 1) (.nil)))) (.cons (.ite (.no (.call i (.cons (.ix (.v 0) (.v 2)) (.cons (.ix (.v 1) (.v 2)) (.nil))))) (.cons (.ret (.bl false)) (.nil)) (.nil)) (.nil))) (.cons (.ret (.bl true)) (.nil)))))))
theorem sp_same {P : List Df} {m f : Nat} (h : P[f]? = some ⟨2, 3, [], ps, bSame f⟩) (hm : 10000 < m) (S : Store) : ∀ (n : Nat) (d : D), dep d ≤ n → Pl d → wp (callF P m (n + 1) f [d, d] S) fun r S' => r = .bl true ∧ S' = S := by
  intro n
  induction n with
  | zero =>
    intro d hd hp
    refine wp_callF h rfl ?_
    cases d with
    | tup ds => simp [dep] at hd
    | rol ds => simp [Pl] at hp
    | ref k => simp [Pl] at hp
    | _ => simp [bSame, startD]
  | succ n ih =>
    intro d hd hp
    refine wp_callF h rfl ?_
    cases d with
    | rol ds => simp [Pl] at hp
    | ref k => simp [Pl] at hp
    | tup ds =>
      simp only [Pl] at hp
      simp only [dep] at hd
      simp [bSame, startD]
      refine ⟨by omega, ?_⟩
      refine wp_rng (fun i ls S' => ∃ x, ls = [some (.tup ds), some (.tup ds), x] ∧ S' = S) (by omega) ⟨_, rfl, rfl⟩ ?_ ?_
      · rintro i ls S' hi ⟨x, rfl, rfl⟩
        have e := List.getElem?_eq_getElem hi
        simp [e]
        refine wp_mono (ih _ (by have := deps_at e; omega) (pls_at hp.2 e)) ?_
        rintro _ _ ⟨rfl, rfl⟩
        simp
      · rintro ls S' ⟨x, rfl, rfl⟩
        simp
    | _ => simp [bSame, startD]
end
end PV

set_option Elab.async false
set_option linter.all false
set_option maxRecDepth 100000
set_option maxHeartbeats 1000000
/-! Names, by PV. -/
namespace PV
open PySem

@[simp] theorem asInts_map (ns : List Int) : asInts (ns.map D.int) = some ns := by
  induction ns with
  | nil => rfl
  | cons n ns ih => simp [asInts, ih]
@[simp] theorem asStrs_map (ns : List Str) : asStrs (ns.map D.str) = some ns := by
  induction ns with
  | nil => rfl
  | cons n ns ih => simp [asStrs, ih]
theorem sortD_strs {xs : List Str} (h : xs.length < 64) : sortD (xs.map D.str) = some ((isort leS xs).map D.str) := by
  unfold sortD
  rw [if_pos (by simpa using h)]
  cases xs with
  | nil => rfl
  | cons x xs =>
    have e : asInts ((x :: xs).map D.str) = none := rfl
    rw [e, asStrs_map]
theorem sortD_ints {xs : List Int} (h : xs.length < 64) : sortD (xs.map D.int) = some ((isort leI xs).map D.int) := by
  unfold sortD
  rw [if_pos (by simpa using h), asInts_map]
theorem isortS_sorted (xs : List Str) : (isort leS xs).Pairwise (fun a b => leS a b = true) := isort_sorted leS_trans leS_total xs

def sgn : List Nat := [97, 98, 99, 100, 101, 102, 103, 104, 105, 106, 107, 108, 109, 110, 111, 112, 113, 114, 115, 116, 117, 118, 119, 120, 121, 122, 48, 49, 50, 51, 52, 53, 54, 55, 56, 57, 46]
theorem sgn_eq : (Str.ofString "abcdefghijklmnopqrstuvwxyz0123456789.").cps.toList = sgn := by decide +kernel
theorem sgn_nodup : sgn.Nodup := by decide
theorem S_tl (l : List Nat) : (SX.S l).cps.toList = l := rfl
theorem join0 (ys : List (List Nat)) : (Txt.join (Str.ofString "") (ys.map SX.S)) = SX.S ys.flatten := by
  have e : Str.ofString "" = SX.S [] := by decide +kernel
  rw [e, SX.join_S]
  congr 1
  have key : ∀ ys : List (List Nat), TL.joinL [] ys = ys.flatten := by
    intro ys
    induction ys with
    | nil => rfl
    | cons p r ih =>
      cases r with
      | nil => simp [TL.joinL]
      | cons q r => simp only [TL.joinL, ih]; simp
  exact key ys
theorem cutS_hi {w : List Nat} {i : Int} (h : 0 ≤ i) : L2.cutS (SX.S w) none (some i) = SX.S (w.take i.toNat) := by
  unfold L2.cutS HT.sIx
  have l : (SX.S w).length = w.length := SX.S_len w
  simp only [List.drop_zero]
  rw [if_neg (by omega), l, Nat.sub_zero, ← List.take_eq_take_min]
def bNames_ (i : Nat) : S := .cons (.set 2 (.str "abcdefghijklmnopqrstuvwxyz0123456789.")) (.cons (.set 3 (.mt .join (.str "") (.cons (.lc [("k", 4)] (.nm 4) (.qr (.int 10)) .nil (.ix (.v 2) (.call i (.cons (.v 0) (.cons (.int 37) (.nil)))))) (.nil)))) (.cons (.set 5 (.call i (.cons (.v 0) (.cons (.int 37) (.nil))))) (.cons (.set 6 (.lst (.nil))) (.cons (.for (.nm 4) (.qr (.v 1)) (.cons (.set 7 (.call i (.cons (.v 0) (.cons (.int 11) (.nil))))) (.cons (.ex (.mt .append (.v 6) (.cons (.bin .add (.bin .add (.sl (.v 3) .nil (.v 7)) (.ix (.v 2) (.bin .mod (.bi .int (.cons (.bin .add (.v 5) (.v 4)) (.nil))) (.int 37)))) (.bin .mul (.ix (.v 2) (.bin .fdiv (.v 4) (.int 37))) (.bi .int (.cons (.cmp .gt (.v 1) (.int 37)) (.nil))))) (.nil)))) (.nil)))) (.cons (.ret (.bi .tuple (.cons (.bi .sorted (.cons (.v 6) (.nil))) (.nil)))) (.nil))))))
theorem getD_lt {α : Type} {l : List α} {i : Nat} {d : α} (h : i < l.length) : l.getD i d = l[i] := by simp [List.getD, List.getElem?_eq_getElem h]
theorem flat1 {α : Type} : ∀ ys : List α, (ys.map fun c => [c]).flatten = ys
  | [] => rfl
  | y :: ys => by simp [flat1 ys]
def sg (i : Nat) : Nat := sgn.getD i 0
theorem sg_lt {i : Nat} (h : i < sgn.length) : sg i = sgn[i] := getD_lt h
/-- how the k-th of many names ends -/
def suf (st many k : Nat) : List Nat := sg ((st + k) % 37) :: (if 37 < many then [sg (k / 37)] else [])
theorem suf_inj {st many k j : Nat} (hk : k < many) (hj : j < many) (hm : many ≤ 1000) (h : suf st many k = suf st many j) : k = j := by
  have l : sgn.length = 37 := rfl
  have e1 : (st + k) % 37 = (st + j) % 37 := by
    have := (List.cons.inj h).1
    have b1 : (st + k) % 37 < sgn.length := by omega
    have b2 : (st + j) % 37 < sgn.length := by omega
    rw [sg_lt b1, sg_lt b2] at this
    exact (List.getElem_inj sgn_nodup).mp this
  have t := (List.cons.inj h).2
  by_cases c : 37 < many
  · rw [if_pos c, if_pos c] at t
    have := (List.cons.inj t).1
    have b1 : k / 37 < sgn.length := by omega
    have b2 : j / 37 < sgn.length := by omega
    rw [sg_lt b1, sg_lt b2] at this
    have := (List.getElem_inj sgn_nodup).mp this
    omega
  · omega
section
variable {P : List Df} {iM iT iP m n f : Nat} {ps : List Str}
theorem sp_names (d : Draws P iM iT iP) (h : P[f]? = some ⟨2, 8, [], ps, bNames_ iT⟩) {s k : Nat} {S : Store} (st : StOk S s k) {many : Nat} (h2 : many < 64) (hm : 10000 < m) :
    wp (callF P m (n + 3) f [.ref s, .int many] S) fun d S' => ∃ xs : List Str, d = .tup (xs.map D.str) ∧ xs.length = many ∧ xs.Nodup ∧ xs.Pairwise (fun a b => leS a b = true) ∧ (∀ x ∈ xs, x.length ≤ 12) ∧ Af s k S S' := by
  have hb := big
  refine wp_callF h rfl ?_
  simp [bNames_, startD]
  refine wp_lcR (fun i acc S' => ∃ ys : List Nat, acc = ys.map (fun c => .str (SX.S [c])) ∧ ys.length = i ∧ Af s k S S') (by omega) ⟨[], rfl, rfl, (Af.refl st).push _⟩ (by simp) ?_ ?_
  · rintro i acc S' hi ⟨ys, rfl, hy, af⟩ hr
    unfold lcTurn
    simp
    refine wp_mono (d.tk af.st (by decide) (by decide)) ?_
    rintro _ S1 ⟨v, rfl, v1, v2, af1⟩
    have hv : v.toNat < sgn.length := by show v.toNat < 37; omega
    simp [sgn_eq, atI_ge v1, List.getElem?_eq_getElem hv]
    have hs := st.lt
    have e := af1.at_ hr (by omega)
    refine ⟨e, by omega, ys ++ [sgn[v.toNat]], by simp, by simp [hy], (af.trans af1).setN st (Nat.le_refl _) _⟩
  · rintro acc S' ⟨ys, rfl, hy, af⟩ hr
    have em : ys.map (fun c => D.str (SX.S [c])) = ((ys.map fun c => [c]).map SX.S).map D.str := by simp
    simp [hr]
    rw [em, asStrs_map]
    simp only [join0]
    rw [flat1]
    have e0 : (Str.ofString "").length = 0 := by decide +kernel
    have e1 : ∀ ys : List Nat, (ys.map fun _ => 1).sum = ys.length := fun ys => by
      induction ys with
      | nil => rfl
      | cons y ys ih => rw [List.map_cons, List.sum_cons, ih, List.length_cons]; omega
    simp [SX.S_len, Function.comp_def, e0, e1]
    refine ⟨by omega, ?_⟩
    refine wp_mono (d.tk af.st (by decide) (by decide)) ?_
    intro d1 S1 hh
    clear e0 e1 em hr
    obtain ⟨v, rfl, v1, v2, af1⟩ := hh
    simp
    refine ⟨by omega, ?_⟩
    have af2 := af.trans af1
    refine wp_rng (fun i ls S' => ∃ (x y : Option D) (xs : List Str), ls = [some (.ref s), some (.int many), some (.str (Str.ofString "abcdefghijklmnopqrstuvwxyz0123456789.")), some (.str (SX.S ys)), x, some (.int v), some (.ref S1.length), y] ∧
        S'[S1.length]? = some (.lst (xs.map D.str)) ∧ xs.length = i ∧ (∀ (j : Nat) (x : Str), xs[j]? = some x → ∃ p : List Nat, p.length ≤ 10 ∧ x = SX.S (p ++ suf v.toNat many j)) ∧ Af s k S S') (by omega) ?_ ?_ ?_
    · exact ⟨_, _, [], rfl, by simp, rfl, by simp, by simpa using af2.push _⟩
    · rintro i ls S2 hi ⟨x, y, xs, rfl, q1, q2, q3, q4⟩
      simp
      refine wp_mono (d.tk q4.st (by decide) (by decide)) ?_
      rintro _ S3 ⟨w, rfl, w1, w2, af3⟩
      have hn : S1.length ≠ s := by have := st.lt; have := af2.ext.len; omega
      have e := af3.at_ q1 hn
      have l37 : sgn.length = 37 := rfl
      have b1 : ((v + (i : Int)) % 37).toNat < sgn.length := by omega
      have b0 : 0 ≤ (v + (i : Int)) % 37 := by omega
      have b2 : ((i : Int) / 37).toNat < sgn.length := by omega
      have b3 : 0 ≤ (i : Int) / 37 := by omega
      have g1 : sgn[((v + (i : Int)) % 37).toNat] = sg ((v.toNat + i) % 37) := by
        rw [sg_lt (by omega)]
        congr 1
        omega
      have g2 : sgn[((i : Int) / 37).toNat] = sg (i / 37) := by
        rw [sg_lt (by omega)]
        congr 1
      have g3 : ∀ c : Nat, (⟨#[c]⟩ : Str) = SX.S [c] := fun c => rfl
      have fin : ∀ p : List Nat, p = ys.take w.toNat ++ suf v.toNat many i → (∃ zs : List Str, xs.map D.str ++ [D.str (SX.S p)] = zs.map D.str ∧ zs.length = i + 1 ∧
          (∀ (j : Nat) (x : Str), zs[j]? = some x → ∃ p : List Nat, p.length ≤ 10 ∧ x = SX.S (p ++ suf v.toNat many j)) ∧ Af s k S (S3.set S1.length (.lst (xs.map D.str ++ [D.str (SX.S p)])))) := fun p hp => by
        refine ⟨xs ++ [SX.S p], by simp, by simp [q2], fun j x hx => ?_, (q4.trans af3).setN st (by have := af2.ext.len; omega) _⟩
        rcases Nat.lt_trichotomy j xs.length with c | c | c
        · rw [List.getElem?_append_left c] at hx
          exact q3 j x hx
        · rw [c, List.getElem?_append_right (Nat.le_refl _)] at hx
          simp at hx
          exact ⟨ys.take w.toNat, by simp; omega, by rw [← hx, hp, c, q2]⟩
        · rw [List.getElem?_append_right (by omega)] at hx
          have : j - xs.length = (j - xs.length - 1) + 1 := by omega
          rw [this] at hx
          simp at hx
      simp [sgn_eq, cutS_hi w1, atI_ge b0, atI_ge b3, List.getElem?_eq_getElem b1, List.getElem?_eq_getElem b2, e, g1, g2, g3, SX.S_len]
      refine ⟨by omega, ?_⟩
      by_cases c : 37 < many
      · have ci : (37 : Int) < many := by omega
        have hm1 : Txt.mul (SX.S [sg (i / 37)]) 1 = SX.S [sg (i / 37)] := rfl
        have hc := fin (ys.take w.toNat ++ [sg ((v.toNat + i) % 37), sg (i / 37)]) (by simp [suf, c])
        simp [ci, SX.S_len, hm1, str_len, e, SX.S_cat, set_same (Lt.of e)]
        refine ⟨by omega, by omega, ?_⟩
        simpa using hc
      · have ci : ¬ (37 : Int) < many := by omega
        have hm1 : Txt.mul (SX.S [sg (i / 37)]) 0 = SX.S [] := rfl
        have hc := fin (ys.take w.toNat ++ [sg ((v.toNat + i) % 37)]) (by simp [suf, c])
        simp [ci, SX.S_len, hm1, str_len, e, SX.S_cat, set_same (Lt.of e)]
        refine ⟨by omega, by omega, ?_⟩
        simpa using hc
    · rintro ls S2 ⟨x, y, xs, rfl, q1, q2, q3, q4⟩
      simp [q1]
      rw [sortD_strs (by omega)]
      simp
      have pm := isort_perm leS xs
      refine ⟨_, rfl, by rw [pm.length_eq, q2], ?_, isortS_sorted xs, fun x hx => ?_, q4.push _⟩
      · refine pm.nodup_iff.mpr ?_
        show List.Pairwise (fun a b => a ≠ b) xs
        rw [List.pairwise_iff_getElem]
        intro a b ha2 hb2 hab e
        have ha := List.getElem?_eq_getElem ha2
        have hb3 := List.getElem?_eq_getElem hb2
        obtain ⟨p, p1, p2⟩ := q3 a _ ha
        obtain ⟨p', p1', p2'⟩ := q3 b _ hb3
        rw [p2, p2'] at e
        have e2 := SX.S_inj e
        have l : (suf v.toNat many a).length = (suf v.toNat many b).length := by
          unfold suf
          by_cases c : 37 < many
          · rw [if_pos c, if_pos c]; rfl
          · rw [if_neg c, if_neg c]; rfl
        have := suf_inj (by omega) (by omega) (by omega) (List.append_inj' e2 l).2
        omega
      · obtain ⟨i, hi⟩ := List.mem_iff_getElem?.mp (pm.mem_iff.mp hx)
        obtain ⟨p, p1, rfl⟩ := q3 i x hi
        rw [SX.S_len, List.length_append]
        have : (suf v.toNat many i).length ≤ 2 := by
          unfold suf
          by_cases c : 37 < many
          · rw [if_pos c]; exact Nat.le_refl _
          · rw [if_neg c]; simp
        omega
end
end PV

set_option Elab.async false
set_option linter.all false
set_option maxRecDepth 100000
set_option maxHeartbeats 1000000
/-! Trees, by PV. -/
namespace PV
open PySem

inductive T where
  | leaf (c : Str) | node (n : Str) (ps : List T)
namespace T
mutual
def d : T → D
  | .leaf c => .str c
  | .node n ps => .tup [.str n, .tup (dL ps)]
def dL : List T → List D
  | [] => []
  | t :: ts => t.d :: dL ts
end
mutual
def sz : T → Nat
  | .leaf _ => 1
  | .node _ ps => szL ps + 1
def szL : List T → Nat
  | [] => 0
  | t :: ts => t.sz + szL ts
end
mutual
def dpt : T → Nat
  | .leaf _ => 0
  | .node _ ps => dptL ps + 1
def dptL : List T → Nat
  | [] => 0
  | t :: ts => max t.dpt (dptL ts)
end
mutual
/-- its knots, each with the one above -/
def kn : T → Option Str → List (Str × Option Str)
  | .leaf _, _ => []
  | .node n ps, ab => (n, ab) :: knL ps (some n)
def knL : List T → Option Str → List (Str × Option Str)
  | [], _ => []
  | t :: ts, ab => t.kn ab ++ knL ts ab
end
mutual
/-- its leaves -/
def lv : T → List Str
  | .leaf c => [c]
  | .node _ ps => lvL ps
def lvL : List T → List Str
  | [] => []
  | t :: ts => t.lv ++ lvL ts
end
mutual
/-- its leaves, each with the knot that holds it -/
def hd : T → Str → List (Str × Str)
  | .leaf c, n => [(c, n)]
  | .node n ps, _ => hdL ps n
def hdL : List T → Str → List (Str × Str)
  | [], _ => []
  | t :: ts, n => t.hd n ++ hdL ts n
end
mutual
/-- its knots, each with the one above and the leaves under it -/
def lo : T → Option Str → List (Str × List Str × Option Str)
  | .leaf _, _ => []
  | .node n ps, ab => (n, lvL ps, ab) :: loL ps (some n)
def loL : List T → Option Str → List (Str × List Str × Option Str)
  | [], _ => []
  | t :: ts, ab => t.lo ab ++ loL ts ab
end
def isNode : T → Bool
  | .leaf _ => false
  | .node _ _ => true
theorem dL_map : ∀ ts : List T, dL ts = ts.map d
  | [] => rfl
  | t :: ts => by rw [dL, dL_map ts]; rfl
theorem knL_app (ab : Option Str) : ∀ a b : List T, knL (a ++ b) ab = knL a ab ++ knL b ab
  | [], b => rfl
  | t :: ts, b => by rw [List.cons_append, knL, knL_app ab ts b, knL, List.append_assoc]
theorem lvL_app : ∀ a b : List T, lvL (a ++ b) = lvL a ++ lvL b
  | [], b => rfl
  | t :: ts, b => by rw [List.cons_append, lvL, lvL_app ts b, lvL, List.append_assoc]
theorem hdL_app (n : Str) : ∀ a b : List T, hdL (a ++ b) n = hdL a n ++ hdL b n
  | [], b => rfl
  | t :: ts, b => by rw [List.cons_append, hdL, hdL_app n ts b, hdL, List.append_assoc]
theorem loL_app (ab : Option Str) : ∀ a b : List T, loL (a ++ b) ab = loL a ab ++ loL b ab
  | [], b => rfl
  | t :: ts, b => by rw [List.cons_append, loL, loL_app ab ts b, loL, List.append_assoc]
theorem szL_app : ∀ a b : List T, szL (a ++ b) = szL a + szL b
  | [], b => by simp [szL]
  | t :: ts, b => by rw [List.cons_append, szL, szL_app ts b, szL]; omega
theorem dptL_at : ∀ {ts : List T} {i : Nat} {t : T}, ts[i]? = some t → t.dpt ≤ dptL ts
  | [], i, t, h => by simp at h
  | e :: ts, 0, t, h => by
    simp at h; subst h
    simp only [dptL]; omega
  | e :: ts, i + 1, t, h => by
    simp at h
    have := dptL_at h
    simp only [dptL]; omega
theorem szL_at : ∀ {ts : List T} {i : Nat} {t : T}, ts[i]? = some t → t.sz ≤ szL ts
  | [], i, t, h => by simp at h
  | e :: ts, 0, t, h => by
    simp at h; subst h
    simp only [szL]; omega
  | e :: ts, i + 1, t, h => by
    simp at h
    have := szL_at h
    simp only [szL]; omega
theorem szL_len : ∀ ts : List T, ts.length ≤ szL ts
  | [] => Nat.le_refl _
  | t :: ts => by
    have := szL_len ts
    have h : 1 ≤ t.sz := by cases t <;> simp [sz]
    simp only [szL, List.length_cons]; omega
theorem szL_take : ∀ (ts : List T) (i : Nat), szL (ts.take i) ≤ szL ts
  | [], i => by simp
  | t :: ts, 0 => by simp [szL]
  | t :: ts, i + 1 => by
    have := szL_take ts i
    simp only [List.take_succ_cons, szL]; omega
mutual
theorem kn_len : ∀ (t : T) (ab : Option Str), (t.kn ab).length ≤ t.sz
  | .leaf _, _ => by simp [kn]
  | .node n ps, ab => by
    have := knL_len ps (some n)
    simp only [kn, sz, List.length_cons]; omega
theorem knL_len : ∀ (ts : List T) (ab : Option Str), (knL ts ab).length ≤ szL ts
  | [], _ => by simp [knL]
  | t :: ts, ab => by
    have h1 := kn_len t ab
    have h2 := knL_len ts ab
    simp only [knL, szL, List.length_append]; omega
end
end T
def oD : Option Str → D
  | none => .non
  | some x => .str x
def kD (p : Str × Option Str) : D := .tup [.str p.1, oD p.2]
theorem take_at {α : Type} {l : List α} {i : Nat} {x : α} (h : l[i]? = some x) : l.take (i + 1) = l.take i ++ [x] := by
  rw [List.take_add_one, h]; rfl
theorem dL_at {ps : List T} {i : Nat} {d : D} (h : (T.dL ps)[i]? = some d) : ∃ t, ps[i]? = some t ∧ d = t.d := by
  rw [T.dL_map, List.getElem?_map] at h
  obtain ⟨t, h1, h2⟩ := Option.map_eq_some_iff.mp h
  exact ⟨t, h1, h2.symm⟩
@[simp] theorem dL_len (ps : List T) : (T.dL ps).length = ps.length := by rw [T.dL_map, List.length_map]
@[simp] theorem isi_T (t : T) (S : Store) : isiD .tuple t.d S = some t.isNode := by cases t <;> simp [T.d, T.isNode]
@[simp] theorem isi_S (t : T) (S : Store) : isiD .str t.d S = some (!t.isNode) := by cases t <;> simp [T.d, T.isNode]

def bKnotsOf (i : Nat) : S := .cons (.set 2 (.lst (.cons (.tup (.cons (.ix (.v 0) (.int 0)) (.cons (.v 1) (.nil)))) (.nil)))) (.cons (.for (.nm 3) (.q (.ix (.v 0) (.int 1))) (.cons (.ite (.isi .tuple (.v 3)) (.cons (.ex (.mt .extend (.v 2) (.cons (.call i (.cons (.v 3) (.cons (.ix (.v 0) (.int 0)) (.nil)))) (.nil)))) (.nil)) (.nil)) (.nil))) (.cons (.ret (.v 2)) (.nil)))
section
variable {P : List Df} {m f : Nat} {ps : List Str}
theorem sp_knots (h : P[f]? = some ⟨2, 4, [.non], ps, bKnotsOf f⟩) (hm : 10000 < m) : ∀ (n : Nat) (t : T) (ab : Option Str) (S : Store), t.isNode = true → t.dpt ≤ n → t.sz ≤ 5000 →
    wp (callF P m (n + 1) f [t.d, oD ab] S) fun d S' => ∃ r, d = .ref r ∧ S'[r]? = some (.lst ((t.kn ab).map kD)) ∧ S.length ≤ r ∧ Ext [] S S' := by
  have hb := big
  intro n
  induction n with
  | zero =>
    intro t ab S ht hd _
    cases t with
    | leaf c => cases ht
    | node n ps => simp [T.dpt] at hd
  | succ n ih =>
    intro t ab S ht hd hz
    cases t with
    | leaf c => cases ht
    | node nm qs =>
      simp only [T.dpt] at hd
      simp only [T.sz] at hz
      have hl := T.szL_len qs
      refine wp_callF h rfl ?_
      simp [bKnotsOf, startD, T.d]
      refine ⟨by omega, by omega, ?_⟩
      refine wp_seq (ds := T.dL qs) (.inl rfl) (fun i ls S' => ∃ x, ls = [some (.tup [.str nm, .tup (T.dL qs)]), some (oD ab), some (.ref S.length), x] ∧ S'[S.length]? = some (.lst (kD (nm, ab) :: (T.knL (qs.take i) (some nm)).map kD)) ∧ Ext [] S S') (by rw [dL_len]; omega) ?_ ?_ ?_
      · exact ⟨_, rfl, by simp [T.knL, kD], Ext.push _ _ _⟩
      · rintro i d ls S' hd' ⟨x, rfl, q1, q2⟩
        obtain ⟨t, e, rfl⟩ := dL_at hd'
        refine ⟨_, rfl, ?_⟩
        have ta := take_at e
        have hs := T.szL_at e
        have hdp := T.dptL_at e
        simp [q1]
        cases t with
        | leaf c =>
          simp [T.isNode, ta, T.knL_app, T.knL, T.kn]
          exact q2
        | node nm2 qs2 =>
          simp [T.isNode]
          refine wp_mono (ih (.node nm2 qs2) (some nm) S' rfl (by omega) (by omega)) ?_
          rintro _ S1 ⟨r, rfl, r1, r2, r3⟩
          have e1 := r3.at_ _ _ q1 (by simp)
          have l1 := T.knL_len (qs.take i) (some nm)
          have l2 := T.szL_take qs i
          have l3 := T.kn_len (.node nm2 qs2) (some nm)
          simp [e1, r1, set_same (Lt.of e1)]
          refine ⟨by omega, ?_, (q2.trans r3).setN (Nat.le_refl _) _⟩
          simp [ta, T.knL_app, T.knL]
      · rintro ls S' ⟨x, rfl, q1, q2⟩
        simp
        refine ⟨?_, q2⟩
        rw [q1]
        simp [T.kn]

theorem valG_put {α : Type} {kvs : List (L2.Key × α)} {k k' : L2.Key} {v : α} : valG (putG kvs k v) k' = if k' = k then some v else valG kvs k' := by
  unfold putG
  by_cases c : (kvs.any fun kv => decide (kv.1 = k)) = true
  · rw [if_pos c]
    unfold valG
    induction kvs with
    | nil => simp at c
    | cons p r ih =>
      obtain ⟨a, b⟩ := p
      by_cases ha : a = k
      · subst ha
        by_cases hk : k' = a
        · subst hk; simp
        · have hk' : ¬ a = k' := fun e => hk e.symm
          simp only [List.map_cons, if_true, List.find?_cons, decide_eq_false hk', hk, if_false]
          have key : ∀ r : List (L2.Key × α), ((r.map fun kv => if kv.1 = a then (kv.1, v) else kv).find? fun kv => decide (kv.1 = k')).map (·.2) = (r.find? fun kv => decide (kv.1 = k')).map (·.2) := by
            intro r
            induction r with
            | nil => rfl
            | cons q r ih2 =>
              obtain ⟨x, y⟩ := q
              by_cases hx : x = a
              · simp only [List.map_cons, List.find?_cons, hx, if_true, decide_eq_false hk', ih2]
              · by_cases hx2 : x = k'
                · simp only [List.map_cons, List.find?_cons, if_neg hx, decide_eq_true hx2]
                · simp only [List.map_cons, List.find?_cons, if_neg hx, decide_eq_false hx2, ih2]
          exact key r
      · have c' : (r.any fun kv => decide (kv.1 = k)) = true := by simpa [ha] using c
        by_cases hk : a = k'
        · subst hk
          simp [ha]
        · simp only [List.map_cons, if_neg ha, List.find?_cons, decide_eq_false hk]
          exact ih c'
  · rw [if_neg c]
    unfold valG
    rw [List.find?_append]
    by_cases hk : k' = k
    · subst hk
      have : kvs.find? (fun kv => decide (kv.1 = k')) = none := by
        rw [List.find?_eq_none]
        intro x hx
        have := fun q => c (List.any_eq_true.mpr ⟨x, hx, q⟩)
        exact this
      rw [this]; simp
    · have hk' : ¬ k = k' := fun e => hk e.symm
      simp [hk, hk']
theorem putG_len {α : Type} {kvs : List (L2.Key × α)} {k : L2.Key} {v : α} : (putG kvs k v).length ≤ kvs.length + 1 := by
  unfold putG
  split
  · rw [List.length_map]; omega
  · simp
theorem drop_at {α : Type} {l : List α} {i : Nat} {x : α} (h : l[i]? = some x) : l.drop i = x :: l.drop (i + 1) := by
  have hi := lt_of_some h
  rw [List.drop_eq_getElem_cons hi]
  rw [List.getElem?_eq_getElem hi] at h
  rw [Option.some.inj h]
theorem T.hd_node {t : T} (h : t.isNode = true) (a b : Str) : t.hd a = t.hd b := by
  cases t with
  | leaf c => cases h
  | node n ps => rfl
/-- what is known of holders: H all, ws what waits, rs what waits of the knot n's parts -/
structure HInv (H : List (Str × Str)) (ws : List T) (n : Str) (rs : List T) (kvs : List (L2.Key × D)) : Prop where
  nodes : ∀ w ∈ ws, w.isNode = true
  all : ∀ c h, (c, h) ∈ H → (c, h) ∈ T.hdL ws n ∨ (c, h) ∈ T.hdL rs n ∨ valG kvs (.inr c) = some (.str h)
  sub : ∀ p, p ∈ T.hdL ws n ∨ p ∈ T.hdL rs n → p ∈ H
  ks : ∀ p ∈ kvs, ∃ c, p.1 = .inr c
theorem HInv.leaf {H : List (Str × Str)} {ws rs : List T} {n c : Str} {kvs : List (L2.Key × D)} (fn : ∀ c h h', (c, h) ∈ H → (c, h') ∈ H → h = h') (i : HInv H ws n (.leaf c :: rs) kvs) : HInv H ws n rs (putG kvs (.inr c) (.str n)) := by
  refine ⟨i.nodes, fun c' h hh => ?_, fun p hp => i.sub p (hp.imp id fun q => by simp only [T.hdL]; exact List.mem_append_right _ q), fun p hp => ?_⟩
  · rw [valG_put]
    by_cases e : c' = c
    · subst e
      have := fn c' h n hh (i.sub (c', n) (.inr (by simp [T.hdL, T.hd])))
      subst this
      simp
    · have e2 : ¬ (Sum.inr c' : L2.Key) = .inr c := fun q => e (Sum.inr.inj q)
      rw [if_neg e2]
      rcases i.all c' h hh with q | q | q
      · exact .inl q
      · simp only [T.hdL, T.hd, List.cons_append, List.nil_append, List.mem_cons, Prod.mk.injEq] at q
        rcases q with ⟨q, _⟩ | q
        · exact absurd q e
        · exact .inr (.inl q)
      · exact .inr (.inr q)
  · unfold putG at hp
    split at hp
    · obtain ⟨q, hq, e⟩ := List.mem_map.mp hp
      obtain ⟨x, hx⟩ := i.ks q hq
      split at e
      · exact ⟨x, by rw [← e]; exact hx⟩
      · exact ⟨x, by rw [← e]; exact hx⟩
    · rcases List.mem_append.mp hp with hq | hq
      · exact i.ks p hq
      · simp at hq
        exact ⟨c, by rw [hq]⟩
theorem HInv.node {H : List (Str × Str)} {ws rs : List T} {n : Str} {t : T} {kvs : List (L2.Key × D)} (ht : t.isNode = true) (i : HInv H ws n (t :: rs) kvs) : HInv H (ws ++ [t]) n rs kvs := by
  refine ⟨fun w hw => ?_, fun c h hh => ?_, fun p hp => ?_, i.ks⟩
  · rcases List.mem_append.mp hw with q | q
    · exact i.nodes w q
    · simp at q; subst q; exact ht
  · rcases i.all c h hh with q | q | q
    · exact .inl (by rw [T.hdL_app]; exact List.mem_append_left _ q)
    · simp only [T.hdL] at q
      rcases List.mem_append.mp q with q | q
      · exact .inl (by rw [T.hdL_app]; simp only [T.hdL]; exact List.mem_append_right _ (List.mem_append_left _ q))
      · exact .inr (.inl q)
    · exact .inr (.inr q)
  · refine i.sub p ?_
    rw [T.hdL_app] at hp
    simp only [T.hdL, List.append_nil] at hp ⊢
    rcases hp with q | q
    · rcases List.mem_append.mp q with q | q
      · exact .inl q
      · exact .inr (List.mem_append_left _ q)
    · exact .inr (List.mem_append_right _ q)
theorem HInv.name {H : List (Str × Str)} {ws : List T} {n : Str} {kvs : List (L2.Key × D)} (i : HInv H ws n [] kvs) (n' : Str) : HInv H ws n' [] kvs := by
  have e : T.hdL ws n = T.hdL ws n' := by
    have nd := i.nodes
    clear i
    induction ws with
    | nil => rfl
    | cons w ws ih =>
      simp only [T.hdL]
      rw [ih (fun x hx => nd x (List.mem_cons_of_mem _ hx)), T.hd_node (nd w List.mem_cons_self) n n']
  exact ⟨i.nodes, fun c h hh => by rw [← e]; exact i.all c h hh, fun p hp => i.sub p (by rw [e]; exact hp), i.ks⟩
/-- the last is taken -/
theorem HInv.pop {H : List (Str × Str)} {ws : List T} {n n' : Str} {qs : List T} {kvs : List (L2.Key × D)} (i : HInv H (ws ++ [.node n qs]) n' [] kvs) : HInv H ws n qs kvs := by
  have i := i.name n
  refine ⟨fun w hw => i.nodes w (List.mem_append_left _ hw), fun c h hh => ?_, fun p hp => ?_, i.ks⟩
  · rcases i.all c h hh with q | q | q
    · rw [T.hdL_app] at q
      simp only [T.hdL, T.hd, List.append_nil] at q
      exact (List.mem_append.mp q).imp id .inl
    · simp [T.hdL] at q
    · exact .inr (.inr q)
  · refine i.sub p (.inl ?_)
    rw [T.hdL_app]
    simp only [T.hdL, T.hd, List.append_nil]
    exact List.mem_append.mpr hp

def bHolders : S := .cons (.set 1 (.dnew)) (.cons (.set 2 (.lst (.cons (.v 0) (.nil)))) (.cons (.whl (.v 2) (.cons (.asg (.tup (.cons (.nm 3) (.cons (.nm 4) (.nil)))) (.mt .pop (.v 2) (.nil))) (.cons (.for (.nm 5) (.q (.v 4)) (.cons (.ite (.isi .tuple (.v 5)) (.cons (.ex (.mt .append (.v 2) (.cons (.v 5) (.nil)))) (.nil)) (.cons (.six (.v 1) (.v 5) (.v 3)) (.nil))) (.nil))) (.nil)))) (.cons (.ret (.v 1)) (.nil))))
theorem sp_holders {n : Nat} (h : P[f]? = some ⟨1, 6, [], ps, bHolders⟩) (hm : 10000 < m) (t : T) (S : Store) (ht : t.isNode = true) (hz : t.sz ≤ 5000) (fn : ∀ c h h', (c, h) ∈ t.hd Str.empty → (c, h') ∈ t.hd Str.empty → h = h') :
    wp (callF P m (n + 1) f [t.d] S) fun d S' => ∃ r kvs, d = .ref r ∧ S'[r]? = some (.dct kvs) ∧ (∀ c h, (c, h) ∈ t.hd Str.empty → valG kvs (.inr c) = some (.str h)) ∧ S.length ≤ r ∧ Ext [] S S' := by
  have hb := big
  refine wp_callF h rfl ?_
  simp [bHolders, startD]
  refine ⟨by omega, ?_⟩
  refine wp_whl (fun k ls S' => ∃ x y z ws kvs, ls = [some t.d, some (.ref S.length), some (.ref (S.length + 1)), x, y, z] ∧ S'[S.length]? = some (.dct kvs) ∧ S'[S.length + 1]? = some (.lst (T.dL ws)) ∧ HInv (t.hd Str.empty) ws Str.empty [] kvs ∧ k = T.szL ws ∧ kvs.length + T.szL ws ≤ t.sz ∧ Ext [] S S') ?_ m t.sz _ _ (by omega) ?_
  · rintro k ls S' ⟨x, y, z, ws, kvs, rfl, q1, q2, q3, rfl, q5, q6⟩
    simp [q2]
    by_cases hw : ws = []
    · subst hw
      simp [T.dL]
      refine ⟨_, q1, fun c h hh => ?_, q6⟩
      rcases q3.all c h hh with q | q | q
      · simp [T.hdL] at q
      · simp [T.hdL] at q
      · exact q
    · obtain ⟨ws', w, rfl⟩ : ∃ ws' w, ws = ws' ++ [w] := ⟨ws.dropLast, ws.getLast hw, (List.dropLast_concat_getLast hw).symm⟩
      have hn : w.isNode = true := q3.nodes w (by simp)
      cases w with
      | leaf c => cases hn
      | node nm qs =>
        have hsz : T.szL (ws' ++ [.node nm qs]) = T.szL ws' + (T.szL qs + 1) := by rw [T.szL_app]; simp [T.szL, T.sz]
        have e1 : (T.dL (ws' ++ [T.node nm qs])) = T.dL ws' ++ [(T.node nm qs).d] := by simp [T.dL_map]
        rw [hsz] at q5 ⊢
        have l1 := T.szL_len qs
        simp [e1, q2, T.d]
        refine ⟨by omega, ?_⟩
        have hne : ∀ o, (S'.set (S.length + 1) o)[S.length]? = some (.dct kvs) := fun o => by rw [set_ne (by omega)]; exact q1
        obtain ⟨I, hI⟩ : ∃ I : Nat → Ls → Store → Prop, ∀ i ls S2, I i ls S2 ↔ ∃ z ws2 kvs2, ls = [some t.d, some (.ref S.length), some (.ref (S.length + 1)), some (.str nm), some (.tup (T.dL qs)), z] ∧ S2[S.length]? = some (.dct kvs2) ∧ S2[S.length + 1]? = some (.lst (T.dL ws2)) ∧ HInv (t.hd Str.empty) ws2 nm (qs.drop i) kvs2 ∧ T.szL ws2 + T.szL (qs.drop i) ≤ T.szL ws' + T.szL qs ∧ kvs2.length + T.szL ws2 + T.szL (qs.drop i) ≤ t.sz ∧ Ext [] S S2 := ⟨_, fun _ _ _ => Iff.rfl⟩
        refine wp_seq (ds := T.dL qs) (.inl rfl) I (by rw [dL_len]; omega) ?_ ?_ ?_
        · exact (hI _ _ _).mpr ⟨_, ws', kvs, rfl, hne _, set_same (Lt.of q2), q3.pop, by simp, by simp; omega, q6.setN (by omega) _⟩
        · intro i d ls S2 hd' hi
          obtain ⟨z, ws2, kvs2, rfl, p1, p2, p3, p4, p5, p6⟩ := (hI _ _ _).mp hi
          obtain ⟨u, e, rfl⟩ := dL_at hd'
          refine ⟨_, rfl, ?_⟩
          have da := drop_at e
          rw [da] at p3 p4 p5
          simp only [T.szL] at p4 p5
          have l2 := T.szL_len ws2
          cases u with
          | leaf c =>
            simp [T.isNode, T.d, p1]
            simp only [T.sz] at p4 p5
            refine ⟨by omega, (hI _ _ _).mpr ⟨_, ws2, _, rfl, set_same (Lt.of p1), ?_, p3.leaf fn, by omega, ?_, p6.setN (Nat.le_refl _) _⟩⟩
            · rw [set_ne (by omega)]; exact p2
            · have := putG_len (kvs := kvs2) (k := .inr c) (v := D.str nm); omega
          | node n2 q2' =>
            simp [T.isNode, p2]
            refine ⟨by omega, (hI _ _ _).mpr ⟨_, ws2 ++ [.node n2 q2'], kvs2, rfl, ?_, ?_, p3.node rfl, ?_, ?_, p6.setN (i := S.length + 1) (by omega) _⟩⟩
            · rw [set_ne (by omega)]; exact p1
            · rw [set_same (Lt.of p2)]; simp [T.dL_map]
            · rw [T.szL_app]; simp only [T.szL]; omega
            · rw [T.szL_app]; simp only [T.szL]; omega
        · intro ls S2 hi
          obtain ⟨z, ws2, kvs2, rfl, p1, p2, p3, p4, p5, p6⟩ := (hI _ _ _).mp hi
          rw [dL_len, List.drop_length] at p3 p4 p5
          simp only [T.szL] at p4 p5
          dsimp only
          rw [s_nil]
          dsimp only
          refine ⟨T.szL ws2, by omega, _, _, _, ws2, kvs2, rfl, p1, p2, p3.name _, rfl, by omega, p6⟩
  · refine ⟨_, _, _, [t], [], rfl, by simp, by simp [T.dL], ⟨by simpa using ht, fun c h hh => .inl (by simpa [T.hdL] using hh), fun p hp => by simpa [T.hdL] using hp, by simp⟩, by simp [T.szL], by simp [T.szL], ?_⟩
    simpa using ((Ext.refl [] S).pushed (.dct [])).pushed (.lst [t.d])

def bAbove : S := .cons (.par2 1 2 (.dnew) (.lst (.cons (.v 0) (.nil)))) (.cons (.for (.nm 3) (.qr (.int 10000)) (.cons (.ite (.cmp .eq (.v 2) (.lst (.nil))) (.cons (.brk) (.nil)) (.nil)) (.cons (.asg (.tup (.cons (.nm 4) (.cons (.nm 5) (.nil)))) (.mt .pop (.v 2) (.nil))) (.cons (.for (.nm 6) (.q (.v 5)) (.cons (.ite (.isi .str (.v 6)) (.cons (.six (.v 1) (.v 6) (.v 4)) (.nil)) (.cons (.ex (.mt .append (.v 2) (.cons (.v 6) (.nil)))) (.nil))) (.nil))) (.nil))))) (.cons (.ret (.v 1)) (.nil)))
theorem sp_above {n : Nat} (h : P[f]? = some ⟨1, 7, [], ps, bAbove⟩) (hm : 10000 < m) (t : T) (S : Store) (ht : t.isNode = true) (hz : t.sz ≤ 5000) (fn : ∀ c h h', (c, h) ∈ t.hd Str.empty → (c, h') ∈ t.hd Str.empty → h = h') :
    wp (callF P m (n + 1) f [t.d] S) fun d S' => ∃ r kvs, d = .ref r ∧ S'[r]? = some (.dct kvs) ∧ (∀ c h, (c, h) ∈ t.hd Str.empty → valG kvs (.inr c) = some (.str h)) ∧ S.length ≤ r ∧ Ext [] S S' := by
  have hb := big
  refine wp_callF h rfl ?_
  simp [bAbove, startD]
  refine ⟨by omega, ?_⟩
  obtain ⟨J, hJ⟩ : ∃ J : Nat → Ls → Store → Prop, ∀ i ls S', J i ls S' ↔ ∃ w x y z ws kvs, ls = [some t.d, some (.ref S.length), some (.ref (S.length + 1)), w, x, y, z] ∧ S'[S.length]? = some (.dct kvs) ∧ S'[S.length + 1]? = some (.lst (T.dL ws)) ∧ HInv (t.hd Str.empty) ws Str.empty [] kvs ∧ T.szL ws + i ≤ t.sz ∧ kvs.length + T.szL ws ≤ t.sz ∧ Ext [] S S' := ⟨_, fun _ _ _ => Iff.rfl⟩
  refine wp_rng J (by omega) ?_ ?_ ?_
  · refine (hJ _ _ _).mpr ⟨_, _, _, _, [t], [], rfl, by simp, by simp [T.dL], ⟨by simpa using ht, fun c h hh => .inl (by simpa [T.hdL] using hh), fun p hp => by simpa [T.hdL] using hp, by simp⟩, by simp [T.szL], by simp [T.szL], ?_⟩
    simpa using ((Ext.refl [] S).pushed (.dct [])).pushed (.lst [t.d])
  · intro k ls S' hk hj
    obtain ⟨w, x, y, z, ws, kvs, rfl, q1, q2, q3, q4, q5, q6⟩ := (hJ _ _ _).mp hj
    have he : eqD (.ref (S.length + 1)) (.ref S'.length) (S' ++ [.lst []]) = some ws.isEmpty := by
      rw [eq_nil (ds := T.dL ws) (by rw [ap_lt (Lt.of q2)]; exact q2) (by simp)]
      cases ws <;> rfl
    simp [he, ap_lt (Lt.of q2), q2]
    by_cases hw : ws = []
    · subst hw
      simp [T.dL]
      refine ⟨_, by rw [ap_lt (Lt.of q1)]; exact q1, fun c h hh => ?_, q6.pushed _⟩
      rcases q3.all c h hh with q | q | q
      · simp [T.hdL] at q
      · simp [T.hdL] at q
      · exact q
    · obtain ⟨ws', w, rfl⟩ : ∃ ws' w, ws = ws' ++ [w] := ⟨ws.dropLast, ws.getLast hw, (List.dropLast_concat_getLast hw).symm⟩
      have hn : w.isNode = true := q3.nodes w (by simp)
      cases w with
      | leaf c => cases hn
      | node nm qs =>
        have hsz : T.szL (ws' ++ [.node nm qs]) = T.szL ws' + (T.szL qs + 1) := by rw [T.szL_app]; simp [T.szL, T.sz]
        have e1 : (T.dL (ws' ++ [T.node nm qs])) = T.dL ws' ++ [(T.node nm qs).d] := by simp [T.dL_map]
        rw [hsz] at q5 q4
        have l1 := T.szL_len qs
        simp [hw, e1, T.d, set_lt (Lt.of q2)]
        obtain ⟨I, hI⟩ : ∃ I : Nat → Ls → Store → Prop, ∀ i ls S2, I i ls S2 ↔ ∃ z ws2 kvs2, ls = [some t.d, some (.ref S.length), some (.ref (S.length + 1)), some (.int k), some (.str nm), some (.tup (T.dL qs)), z] ∧ S2[S.length]? = some (.dct kvs2) ∧ S2[S.length + 1]? = some (.lst (T.dL ws2)) ∧ HInv (t.hd Str.empty) ws2 nm (qs.drop i) kvs2 ∧ T.szL ws2 + T.szL (qs.drop i) ≤ T.szL ws' + T.szL qs ∧ kvs2.length + T.szL ws2 + T.szL (qs.drop i) ≤ t.sz ∧ Ext [] S S2 := ⟨_, fun _ _ _ => Iff.rfl⟩
        refine wp_seq (ds := T.dL qs) (.inl rfl) I (by rw [dL_len]; omega) ?_ ?_ ?_
        · refine (hI _ _ _).mpr ⟨_, ws', kvs, rfl, ?_, ?_, q3.pop, by simp, by simp; omega, (q6.setN (by omega) _).pushed _⟩
          · rw [ap_slt (Lt.of q1), set_ne (by omega)]; exact q1
          · rw [ap_slt (Lt.of q2), set_same (Lt.of q2)]
        · intro i d ls S2 hd' hi
          obtain ⟨z, ws2, kvs2, rfl, p1, p2, p3, p4, p5, p6⟩ := (hI _ _ _).mp hi
          obtain ⟨u, e, rfl⟩ := dL_at hd'
          refine ⟨_, rfl, ?_⟩
          have da := drop_at e
          rw [da] at p3 p4 p5
          simp only [T.szL] at p4 p5
          have l2 := T.szL_len ws2
          cases u with
          | leaf c =>
            simp [T.isNode, T.d, p1]
            simp only [T.sz] at p4 p5
            refine ⟨by omega, (hI _ _ _).mpr ⟨_, ws2, _, rfl, set_same (Lt.of p1), ?_, p3.leaf fn, by omega, ?_, p6.setN (Nat.le_refl _) _⟩⟩
            · rw [set_ne (by omega)]; exact p2
            · have := putG_len (kvs := kvs2) (k := .inr c) (v := D.str nm); omega
          | node n2 q2' =>
            simp [T.isNode, p2]
            refine ⟨by omega, (hI _ _ _).mpr ⟨_, ws2 ++ [.node n2 q2'], kvs2, rfl, ?_, ?_, p3.node rfl, ?_, ?_, p6.setN (i := S.length + 1) (by omega) _⟩⟩
            · rw [set_ne (by omega)]; exact p1
            · rw [set_same (Lt.of p2)]; simp [T.dL_map]
            · rw [T.szL_app]; simp only [T.szL]; omega
            · rw [T.szL_app]; simp only [T.szL]; omega
        · intro ls S2 hi
          obtain ⟨z, ws2, kvs2, rfl, p1, p2, p3, p4, p5, p6⟩ := (hI _ _ _).mp hi
          rw [dL_len, List.drop_length] at p3 p4 p5
          simp only [T.szL] at p4 p5
          simp
          exact (hJ _ _ _).mpr ⟨_, _, _, _, ws2, kvs2, rfl, p1, p2, p3.name _, by omega, by omega, p6⟩
  · intro ls S' hj
    obtain ⟨w, x, y, z, ws, kvs, rfl, q1, q2, q3, q4, q5, q6⟩ := (hJ _ _ _).mp hj
    omega
end
end PV

set_option Elab.async false
set_option linter.all false
set_option maxRecDepth 100000
set_option maxHeartbeats 1000000
/-! A tree's knots with their leaves, by PV. -/
namespace PV
open PySem

theorem Lt.set {j i : Nat} {S : Store} {o : O} (h : Lt j S) : Lt j (S.set i o) := by unfold Lt at *; rw [List.length_set]; exact h
theorem Lt.app {j : Nat} {S t : Store} (h : Lt j S) : Lt j (S ++ t) := by unfold Lt at *; rw [List.length_append]; omega
/-- an entry that tells of a knot -/
def KE (S : Store) (bad : List Nat) (q : Str × List Str × Option Str) (d : D) : Prop :=
  ∃ (e c : Nat) (cs : List Str), d = .ref e ∧ S[e]? = some (.lst [.str q.1, .ref c, oD q.2.2]) ∧ S[c]? = some (.lst (cs.map D.str)) ∧ cs.Perm q.2.1 ∧ e ∉ bad ∧ c ∉ bad
inductive KN (S : Store) (bad : List Nat) : List (Str × List Str × Option Str) → List D → Prop where
  | nil : KN S bad [] []
  | cons {q d qs ds} : KE S bad q d → KN S bad qs ds → KN S bad (q :: qs) (d :: ds)
theorem KE.mono {S S' : Store} {bad bad' xs : List Nat} {q : Str × List Str × Option Str} {d : D} (h : KE S bad q d) (x : Ext xs S S') (hx : ∀ i ∈ xs, i ∈ bad) (hb : ∀ i ∈ bad', i ∈ bad ∨ S.length ≤ i) : KE S' bad' q d := by
  obtain ⟨e, c, cs, h1, h2, h3, h4, h5, h6⟩ := h
  have l1 := lt_of_some h2
  have l2 := lt_of_some h3
  exact ⟨e, c, cs, h1, x.at_ _ _ h2 fun z => h5 (hx _ z), x.at_ _ _ h3 fun z => h6 (hx _ z), h4, fun z => (hb _ z).elim h5 (by omega), fun z => (hb _ z).elim h6 (by omega)⟩
theorem KN.mono {S S' : Store} {bad bad' xs : List Nat} (x : Ext xs S S') (hx : ∀ i ∈ xs, i ∈ bad) (hb : ∀ i ∈ bad', i ∈ bad ∨ S.length ≤ i) : ∀ {qs : List (Str × List Str × Option Str)} {ds : List D}, KN S bad qs ds → KN S' bad' qs ds
  | _, _, .nil => .nil
  | _, _, .cons a b => .cons (a.mono x hx hb) (b.mono x hx hb)
theorem KN.app {S : Store} {bad : List Nat} : ∀ {qs rs : List (Str × List Str × Option Str)} {ds es : List D}, KN S bad qs ds → KN S bad rs es → KN S bad (qs ++ rs) (ds ++ es)
  | _, _, _, _, .nil, h => h
  | _, _, _, _, .cons a b, h => .cons a (b.app h)
theorem KN.len {S : Store} {bad : List Nat} : ∀ {qs : List (Str × List Str × Option Str)} {ds : List D}, KN S bad qs ds → qs.length = ds.length
  | _, _, .nil => rfl
  | _, _, .cons a b => by rw [List.length_cons, List.length_cons, b.len]
/-- what waits -/
def wD (p : T × Option Str) : D := .tup [p.1.d, oD p.2]
def loW (ws : List (T × Option Str)) : List (Str × List Str × Option Str) := ws.flatMap fun p => p.1.lo p.2
def szW (ws : List (T × Option Str)) : Nat := (ws.map fun p => p.1.sz).sum
theorem loW_filter (n : Str) : ∀ ps : List T, loW ((ps.filter T.isNode).map fun p => (p, some n)) = T.loL ps (some n)
  | [] => rfl
  | t :: ts => by
    have ih := loW_filter n ts
    cases t with
    | leaf c => simp only [List.filter_cons, T.isNode, T.loL, T.lo]; exact ih
    | node a b =>
      simp only [List.filter_cons, T.isNode, if_true, List.map_cons, T.loL]
      unfold loW at ih ⊢
      rw [List.flatMap_cons, ih]
theorem szW_filter (n : Str) : ∀ ps : List T, szW ((ps.filter T.isNode).map fun p => (p, some n)) ≤ T.szL ps
  | [] => Nat.le_refl _
  | t :: ts => by
    have ih := szW_filter n ts
    cases t with
    | leaf c => simp only [List.filter_cons, T.isNode, T.szL]; exact Nat.le_trans ih (by omega)
    | node a b =>
      simp only [List.filter_cons, T.isNode, if_true, List.map_cons, T.szL]
      unfold szW at ih ⊢
      rw [List.map_cons, List.sum_cons]
      dsimp only
      omega
theorem szW_len : ∀ ws : List (T × Option Str), ws.length ≤ szW ws
  | [] => Nat.le_refl _
  | w :: ws => by
    have ih := szW_len ws
    have h : 1 ≤ w.1.sz := by cases w.1 <;> simp [T.sz]
    unfold szW at ih ⊢
    rw [List.map_cons, List.sum_cons, List.length_cons]; omega
theorem loW_app (a b : List (T × Option Str)) : loW (a ++ b) = loW a ++ loW b := by unfold loW; rw [List.flatMap_append]
theorem szW_app (a b : List (T × Option Str)) : szW (a ++ b) = szW a + szW b := by unfold szW; rw [List.map_append, List.sum_append]

def bKnots : S := .cons (.par2 1 2 (.lst (.nil)) (.lst (.cons (.tup (.cons (.v 0) (.cons (.non) (.nil)))) (.nil)))) (.cons (.for (.nm 3) (.qr (.int 10000)) (.cons (.ite (.cmp .eq (.v 2) (.lst (.nil))) (.cons (.brk) (.nil)) (.nil)) (.cons (.asg (.tup (.cons (.tup (.cons (.nm 4) (.cons (.nm 5) (.nil)))) (.cons (.nm 6) (.nil)))) (.mt .popAt (.v 2) (.cons (.int 0) (.nil)))) (.cons (.par2 7 8 (.lst (.nil)) (.bi .list (.cons (.v 5) (.nil)))) (.cons (.for (.nm 9) (.qr (.int 10000)) (.cons (.ite (.cmp .eq (.v 8) (.lst (.nil))) (.cons (.brk) (.nil)) (.nil)) (.cons (.set 10 (.mt .pop (.v 8) (.nil))) (.cons (.ite (.isi .str (.v 10)) (.cons (.ex (.mt .append (.v 7) (.cons (.v 10) (.nil)))) (.nil)) (.cons (.set 8 (.bin .add (.v 8) (.bi .list (.cons (.ix (.v 10) (.int 1)) (.nil))))) (.nil))) (.nil))))) (.cons (.ex (.mt .append (.v 1) (.cons (.lst (.cons (.v 4) (.cons (.v 7) (.cons (.v 6) (.nil))))) (.nil)))) (.cons (.set 2 (.bin .add (.lc [("part", 10)] (.nm 10) (.q (.v 5)) (.no (.isi .str (.v 10))) (.tup (.cons (.v 10) (.cons (.v 4) (.nil))))) (.v 2))) (.nil)))))))) (.cons (.ret (.v 1)) (.nil)))
section
variable {P : List Df} {m f n : Nat} {ps : List Str}
theorem sp_lawknots (h : P[f]? = some ⟨1, 11, [], ps, bKnots⟩) (hm : 10000 < m) (t : T) (S : Store) (ht : t.isNode = true) (hz : t.sz ≤ 5000) (bad : List Nat) (hbad : ∀ b ∈ bad, b < S.length) :
    wp (callF P m (n + 1) f [t.d] S) fun d S' => ∃ r ds, d = .ref r ∧ S'[r]? = some (.lst ds) ∧ KN S' (r :: bad) (t.lo none) ds ∧ S.length ≤ r ∧ Ext [] S S' := by
  have hb := big
  refine wp_callF h rfl ?_
  simp [bKnots, startD]
  refine ⟨by omega, by omega, ?_⟩
  obtain ⟨J, hJ⟩ : ∃ J : Nat → Ls → Store → Prop, ∀ i ls S', J i ls S' ↔ ∃ l x3 x4 x5 x6 x7 x8 x9 x10 ws qs ds, ls = [some t.d, some (.ref S.length), some (.ref l), x3, x4, x5, x6, x7, x8, x9, x10] ∧ S'[S.length]? = some (.lst ds) ∧ S'[l]? = some (.lst (ws.map wD)) ∧ KN S' (S.length :: l :: bad) qs ds ∧ qs ++ loW ws = t.lo none ∧ szW ws + i ≤ t.sz ∧ ds.length + szW ws ≤ t.sz ∧ (∀ w ∈ ws, w.1.isNode = true) ∧ l ≠ S.length ∧ S.length ≤ l ∧ Ext [] S S' := ⟨_, fun _ _ _ => Iff.rfl⟩
  refine wp_rng J (by omega) ?_ ?_ ?_
  · refine (hJ _ _ _).mpr ⟨_, _, _, _, _, _, _, _, _, [(t, none)], [], [], rfl, by simp, by simp [wD, oD], .nil, by simp [loW], by simp [szW], by simp [szW], by simpa using ht, by omega, by omega, ?_⟩
    simpa using ((Ext.refl [] S).pushed (.lst [])).pushed (.lst [.tup [t.d, .non]])
  · intro k ls S' hk hj
    obtain ⟨l, x3, x4, x5, x6, x7, x8, x9, x10, ws, qs, ds, rfl, q1, q2, q3, q4, q5, q6, q7, q8, q9, q10⟩ := (hJ _ _ _).mp hj
    have he : eqD (.ref l) (.ref S'.length) (S' ++ [.lst []]) = some ws.isEmpty := by
      rw [eq_nil (ds := ws.map wD) (by rw [ap_lt (Lt.of q2)]; exact q2) (by simp)]
      cases ws <;> rfl
    cases ws with
    | nil =>
      simp [he]
      refine ⟨ds, by rw [ap_lt (Lt.of q1)]; exact q1, ?_, q10.pushed _⟩
      have : qs = t.lo none := by simpa [loW] using q4
      rw [← this]
      exact q3.mono (Ext.push [] S' (.lst [])) (by simp) (fun i hi => .inl ((List.mem_cons.mp hi).elim (fun z => by simp [z]) fun z => by simp [z]))
    | cons w ws =>
      obtain ⟨w, ab⟩ := w
      have hn : w.isNode = true := q7 (w, ab) List.mem_cons_self
      cases w with
      | leaf c => cases hn
      | node nm cs =>
        have l1 := T.szL_len cs
        have hsz : szW ((T.node nm cs, ab) :: ws) = T.szL cs + 1 + szW ws := by simp [szW, T.sz]
        rw [hsz] at q5 q6
        simp [he, ap_lt (Lt.of q2), q2, wD, T.d, set_lt (Lt.of q2)]
        generalize hS1 : S'.set l (.lst (ws.map wD)) = S1
        have a1 : S1[S.length]? = some (.lst ds) := by rw [← hS1, set_ne q8]; exact q1
        have a2 : S1[l]? = some (.lst (ws.map wD)) := by rw [← hS1]; exact set_same (Lt.of q2)
        have a3 : KN S1 (S.length :: l :: bad) qs ds := q3.mono (xs := [l]) (by rw [← hS1]; exact Ext.set S' (by simp) _) (by simp) (fun i hi => .inl hi)
        have a4 : Ext [] S S1 := by rw [← hS1]; exact q10.setN q9 _
        have a5 : S1.length = S'.length := by rw [← hS1, List.length_set]
        rw [← a5]
        have f1 := lt_of_some a1
        have f2 := lt_of_some a2
        obtain ⟨I, hI⟩ : ∃ I : Nat → Ls → Store → Prop, ∀ i ls S2, I i ls S2 ↔ ∃ N x9 x10 es ts, ls = [some t.d, some (.ref S.length), some (.ref l), some (.int k), some (.str nm), some (.tup (T.dL cs)), some (oD ab), some (.ref (S1.length + 1)), some (.ref N), x9, x10] ∧ S2[S1.length + 1]? = some (.lst (es.map D.str)) ∧ S2[N]? = some (.lst (T.dL ts)) ∧ (es ++ T.lvL ts).Perm (T.lvL cs) ∧ T.szL ts + i ≤ T.szL cs ∧ es.length + T.szL ts ≤ T.szL cs ∧ N ≠ S1.length + 1 ∧ S1.length ≤ N ∧ Ext [] S1 S2 := ⟨_, fun _ _ _ => Iff.rfl⟩
        refine wp_rng I (by omega) ?_ ?_ ?_
        · refine (hI _ _ _).mpr ⟨_, _, _, [], cs, rfl, by simp, by simp, by simp, by simp, by simp, by omega, by omega, ?_⟩
          simpa using (((Ext.refl [] S1).pushed (.lst [])).pushed (.lst [])).pushed (.lst (T.dL cs))
        · intro i ls S2 hi hj2
          obtain ⟨N, x9, x10, es, ts, rfl, b1, b2, b3, b4, b5, b6, b7, b8⟩ := (hI _ _ _).mp hj2
          have he : eqD (.ref N) (.ref S2.length) (S2 ++ [.lst []]) = some ts.isEmpty := by
            rw [eq_nil (ds := T.dL ts) (by rw [ap_lt (Lt.of b2)]; exact b2) (by simp)]
            cases ts <;> rfl
          have g1 := b8.at_ _ _ a1 (by simp)
          have g2 := b8.at_ _ _ a2 (by simp)
          by_cases hts : ts = []
          · subst hts
            simp [he, ap_lt (Lt.of g1), g1, set_lt (Lt.of g1)]
            obtain ⟨S3, hS3⟩ : ∃ S3 : Store, S3 = S2.set S.length (O.lst (ds ++ [D.ref (S2.length + 1)])) ++ [O.lst [], O.lst [D.str nm, D.ref (S1.length + 1), oD ab]] := ⟨_, rfl⟩
            have p0 : S3.length = S2.length + 2 := by rw [hS3]; simp
            have x3 : Ext [S.length] S2 S3 := by
              rw [hS3]
              have := ((Ext.set S2 (xs := [S.length]) (i := S.length) (by simp) (.lst (ds ++ [.ref (S2.length + 1)]))).pushed (.lst [])).pushed (.lst [.str nm, .ref (S1.length + 1), oD ab])
              simpa using this
            have c1 : S3[S.length]? = some (.lst (ds ++ [.ref (S2.length + 1)])) := by rw [hS3, ap_lt (Lt.of g1).set, set_same (Lt.of g1)]
            have c2 : S3[l]? = some (.lst (ws.map wD)) := x3.at_ _ _ g2 (by simpa using q8)
            have c3 : S3[S2.length + 1]? = some (.lst [.str nm, .ref (S1.length + 1), oD ab]) := by rw [hS3]; simp
            have c4 : S3[S1.length + 1]? = some (.lst (es.map D.str)) := x3.at_ _ _ b1 (by simp; omega)
            have hlb := b8.len
            have es_le : es.Perm (T.lvL cs) := by simpa [T.lvL] using b3
            have hSS : S2.set S.length (.lst (ds ++ [.ref (S2.length + 1)])) ++ [.lst [], .lst [.str nm, .ref (S1.length + 1), oD ab], .lst []] = S3 ++ [.lst []] := by rw [hS3]; simp
            rw [hSS, ← p0]
            have a4l := a4.len
            have nb : ∀ i, i ≠ S.length → i ≠ l → S.length ≤ i → i ∉ S.length :: l :: bad := fun i z1 z2 z3 z => by
              rcases List.mem_cons.mp z with q | q
              · exact z1 q
              · rcases List.mem_cons.mp q with q | q
                · exact z2 q
                · have := hbad i q; omega
            have k3 : KN S3 (S.length :: l :: bad) (qs ++ [(nm, T.lvL cs, ab)]) (ds ++ [.ref (S2.length + 1)]) :=
              (a3.mono (xs := [S.length]) ((b8.mono (by simp)).trans x3) (by simp) (fun i hi => .inl hi)).app (.cons ⟨_, _, es, rfl, c3, c4, es_le, nb _ (by omega) (by omega) (by omega), nb _ (by omega) (by omega) (by omega)⟩ .nil)
            refine ⟨by omega, by omega, ?_⟩
            obtain ⟨I2, hI2⟩ : ∃ I2 : Nat → List D → Store → Prop, ∀ i acc S4, I2 i acc S4 ↔ acc = (((cs.take i).filter T.isNode).map fun p => (p, some nm)).map wD ∧ Ext [] S3 S4 := ⟨_, fun _ _ _ => Iff.rfl⟩
            refine wp_lcT (ds := T.dL cs) (.inl rfl) I2 (by rw [dL_len]; omega) ((hI2 _ _ _).mpr ⟨by simp, Ext.push _ _ _⟩) (by simp) ?_ ?_
            · intro i2 d acc S4 hd hi2 hr
              obtain ⟨rfl, y1⟩ := (hI2 _ _ _).mp hi2
              obtain ⟨u, eu, rfl⟩ := dL_at hd
              refine ⟨_, rfl, ?_⟩
              unfold lcTurn
              have tu := take_at eu
              have hn := List.length_filter_le T.isNode (cs.take i2)
              rw [List.length_take] at hn
              cases u with
              | leaf c =>
                simp [T.isNode]
                refine ⟨by simpa using hr, (hI2 _ _ _).mpr ⟨?_, y1⟩⟩
                rw [tu]; simp [List.filter_cons, T.isNode]
              | node n3 q3' =>
                simp [T.isNode]
                refine ⟨by omega, by simpa using hr, by omega, (hI2 _ _ _).mpr ⟨?_, y1.setN (by omega) _⟩⟩
                rw [tu]; simp [List.filter_cons, T.isNode, wD, oD]
            · intro acc S4 hi2 hr
              obtain ⟨rfl, y1⟩ := (hI2 _ _ _).mp hi2
              rw [dL_len, List.take_length] at hr
              have hn := List.length_filter_le T.isNode cs
              have d2 := y1.at_ _ _ c2 (by simp)
              have d1 := y1.at_ _ _ c1 (by simp)
              have lw := szW_len ws
              simp [hr, d2]
              have e4 : Ext [] S S4 := (((a4.trans b8).newer x3 (by simp)).newer y1 (by simp))
              have lo2 := loW_filter nm cs
              have sz2 := szW_filter nm cs
              have len3 := x3.len
              have len4 := y1.len
              have kb : ∀ i ∈ S.length :: S4.length :: bad, i ∈ S.length :: l :: bad ∨ S3.length ≤ i := fun i hi => by
                rcases List.mem_cons.mp hi with q | q
                · exact .inl (by simp [q])
                · rcases List.mem_cons.mp q with q | q
                  · exact .inr (by omega)
                  · exact .inl (by simp [q])
              refine ⟨by omega, (hJ _ _ _).mpr ⟨S4.length, _, _, _, _, _, _, _, _, ((cs.filter T.isNode).map fun p => (p, some nm)) ++ ws, _, _, rfl, ?_, ?_, k3.mono (xs := []) (y1.pushed _) (by simp) kb, ?_, ?_, ?_, ?_, by omega, by omega, e4.pushed _⟩⟩
              · rw [ap_lt (Lt.of d1)]; exact d1
              · simp
              · rw [loW_app, lo2, ← q4]
                simp [loW, T.lo]
              · rw [szW_app]; omega
              · rw [szW_app, List.length_append]; simp; omega
              · intro w hw
                rcases List.mem_append.mp hw with z | z
                · obtain ⟨p, hp, rfl⟩ := List.mem_map.mp z
                  exact (List.mem_filter.mp hp).2
                · exact q7 w (List.mem_cons_of_mem _ z)
          · obtain ⟨ts', w, rfl⟩ : ∃ ts' w, ts = ts' ++ [w] := ⟨ts.dropLast, ts.getLast hts, (List.dropLast_concat_getLast hts).symm⟩
            have e1 : T.dL (ts' ++ [w]) = T.dL ts' ++ [w.d] := by simp [T.dL_map]
            rw [T.szL_app] at b4 b5
            rw [T.lvL_app] at b3
            simp only [T.szL, T.lvL, List.append_nil] at b3 b4 b5
            have l3 := T.szL_len ts'
            simp [he, ap_lt (Lt.of b2), b2, e1, set_lt (Lt.of b2)]
            cases w with
            | leaf c =>
              simp only [T.sz, T.lv] at b3 b4 b5
              simp [T.isNode, T.d, ap_slt (Lt.of b1), set_ne b6, b1, set_slt (Lt.of b1)]
              refine ⟨by omega, (hI _ _ _).mpr ⟨N, _, _, es ++ [c], ts', rfl, ?_, ?_, ?_, by omega, by simp; omega, b6, b7, ((b8.setN b7 _).setN (by omega) _).pushed _⟩⟩
              · rw [ap_lt (Lt.of b1).set.set, set_same (Lt.of b1).set]; simp
              · rw [ap_lt (Lt.of b2).set.set, set_ne (by omega), set_same (Lt.of b2)]
              · refine List.Perm.trans ?_ b3
                rw [List.append_assoc]
                exact List.Perm.append_left es List.perm_append_comm
            | node n2 q2' =>
              simp only [T.sz, T.lv] at b3 b4 b5
              simp [T.isNode, T.d, ap_slt (Lt.of b2), set_same (Lt.of b2)]
              have lq := T.szL_len q2'
              have hlb := b8.len
              have bl := lt_of_some b1
              refine ⟨by omega, (hI _ _ _).mpr ⟨S2.length + 2, _, _, es, ts' ++ q2', rfl, ?_, ?_, ?_, by rw [T.szL_app]; omega, by rw [T.szL_app]; omega, by omega, by omega, ?_⟩⟩
              · rw [ap_lt (Lt.of b1).set, set_ne b6]; exact b1
              · rw [ap_s1]; simp [T.dL_map]
              · rw [T.lvL_app]; exact b3
              · simpa using (((b8.setN b7 (.lst (T.dL ts'))).pushed (.lst [])).pushed (.lst (T.dL q2'))).pushed (.lst (T.dL ts' ++ T.dL q2'))
        · intro ls S2 hj2
          obtain ⟨N, x9, x10, es, ts, rfl, b1, b2, b3, b4, b5, b6, b7, b8⟩ := (hI _ _ _).mp hj2
          omega
  · intro ls S' hj
    obtain ⟨l, x3, x4, x5, x6, x7, x8, x9, x10, ws, qs, ds, rfl, q1, q2, q3, q4, q5, q6, q7, q8, q9, q10⟩ := (hJ _ _ _).mp hj
    omega
end
end PV

set_option Elab.async false
set_option linter.all false
set_option maxRecDepth 100000
set_option maxHeartbeats 1000000
/-! Lots, by PV. -/
namespace PV
open PySem

theorem putG_new {α : Type} {kvs : List (L2.Key × α)} {k : L2.Key} {v : α} (h : k ∉ kvs.map (·.1)) : putG kvs k v = kvs ++ [(k, v)] := by
  unfold putG
  rw [if_neg]
  intro c
  obtain ⟨x, hx, e⟩ := List.any_eq_true.mp c
  exact h (List.mem_map.mpr ⟨x, hx, of_decide_eq_true e⟩)
/-- the lots of a dict: L what they are, in order -/
structure LK (S0 S : Store) (r : Nat) (kvs : List (L2.Key × D)) (L : List (Str × List Str)) : Prop where
  keys : kvs.map (·.1) = L.map fun q => (Sum.inr q.1 : L2.Key)
  at_ : ∀ x ls, (x, ls) ∈ L → ∃ (l : Nat) (es : List Str), valG kvs (.inr x) = some (.ref l) ∧ S[l]? = some (.lst (es.map D.str)) ∧ es.Perm ls ∧ S0.length ≤ l ∧ l ≠ r
theorem LK.mono {S0 S S' : Store} {r : Nat} {kvs : List (L2.Key × D)} {L : List (Str × List Str)} (h : LK S0 S r kvs L) {xs : List Nat} (x : Ext xs S S') (hx : ∀ i ∈ xs, i = r ∨ i < S0.length) : LK S0 S' r kvs L :=
  ⟨h.keys, fun y ls hy => by
    obtain ⟨l, es, h1, h2, h3, h4, h5⟩ := h.at_ y ls hy
    refine ⟨l, es, h1, x.at_ _ _ h2 fun z => ?_, h3, h4, h5⟩
    rcases hx l z with q | q
    · exact h5 q
    · omega⟩
theorem LK.put {S0 S : Store} {r l : Nat} {kvs : List (L2.Key × D)} {L : List (Str × List Str)} (h : LK S0 S r kvs L) {x : Str} {es ls : List Str} (hn : x ∉ L.map (·.1)) (hl : S[l]? = some (.lst (es.map D.str))) (hp : es.Perm ls) (h0 : S0.length ≤ l) (hr : l ≠ r) :
    LK S0 S r (putG kvs (.inr x) (.ref l)) (L ++ [(x, ls)]) := by
  have nk : (Sum.inr x : L2.Key) ∉ kvs.map (·.1) := by
    rw [h.keys]
    intro z
    obtain ⟨q, hq, e⟩ := List.mem_map.mp z
    exact hn (List.mem_map.mpr ⟨q, hq, Sum.inr.inj e⟩)
  refine ⟨?_, fun y ls' hy => ?_⟩
  · rw [putG_new nk, List.map_append, h.keys, List.map_append]; rfl
  · rw [valG_put]
    rcases List.mem_append.mp hy with z | z
    · have ne : y ≠ x := fun e => hn (List.mem_map.mpr ⟨(y, ls'), z, e⟩)
      rw [if_neg fun e => ne (Sum.inr.inj e)]
      exact h.at_ y ls' z
    · simp only [List.mem_singleton, Prod.mk.injEq] at z
      obtain ⟨rfl, rfl⟩ := z
      rw [if_pos rfl]
      exact ⟨l, es, rfl, hl, hp, h0, hr⟩
/-- an office's lots: the cells, the knots of both trees -/
def lotsOf (cs : List Str) (t1 t2 : T) : List (Str × List Str) := cs.map (fun c => (c, [c])) ++ (t1.lo none ++ t2.lo none).map fun q => (q.1, q.2.1)
theorem KN.at_ {S : Store} {bad : List Nat} : ∀ {qs : List (Str × List Str × Option Str)} {ds : List D}, KN S bad qs ds → ∀ {i : Nat} {d : D}, ds[i]? = some d → ∃ q, qs[i]? = some q ∧ KE S bad q d
  | _, _, .nil, i, d, h => by simp at h
  | _, _, .cons a b, 0, d, h => by simp at h; subst h; exact ⟨_, by simp, a⟩
  | _, _, .cons a b, i + 1, d, h => by
    simp at h
    obtain ⟨q, h1, h2⟩ := b.at_ h
    exact ⟨q, by simpa using h1, h2⟩

def bLots (i : Nat) : S := .cons (.set 1 (.dnew)) (.cons (.for (.nm 2) (.q (.ix (.v 0) (.int 0))) (.cons (.six (.v 1) (.v 2) (.lst (.cons (.v 2) (.nil)))) (.nil))) (.cons (.for (.tup (.cons (.nm 3) (.cons (.nm 4) (.cons (.nm 5) (.nil))))) (.q (.bin .add (.call i (.cons (.ix (.v 0) (.int 1)) (.nil))) (.call i (.cons (.ix (.v 0) (.int 2)) (.nil))))) (.cons (.six (.v 1) (.v 3) (.v 4)) (.nil))) (.cons (.ret (.v 1)) (.nil))))
section
variable {P : List Df} {m f g n : Nat} {ps qs : List Str}
mutual
theorem lo_len : ∀ (t : T) (ab : Option Str), (t.lo ab).length ≤ t.sz
  | .leaf _, _ => by simp [T.lo]
  | .node n ps, ab => by
    have := loLs_len ps (some n)
    simp only [T.lo, T.sz, List.length_cons]; omega
theorem loLs_len : ∀ (ts : List T) (ab : Option Str), (T.loL ts ab).length ≤ T.szL ts
  | [], _ => by simp [T.loL]
  | t :: ts, ab => by
    have h1 := lo_len t ab
    have h2 := loLs_len ts ab
    simp only [T.loL, T.szL, List.length_append]; omega
end
theorem sp_lots (h : P[f]? = some ⟨1, 6, [], ps, bLots g⟩) (hg : P[g]? = some ⟨1, 11, [], qs, bKnots⟩) (hm : 10000 < m) (cs : List Str) (t1 t2 : T) (rest : List D) (S : Store) (n1 : t1.isNode = true) (n2 : t2.isNode = true) (z0 : cs.length ≤ 4000) (z1 : t1.sz ≤ 4000) (z2 : t2.sz ≤ 4000)
    (nd : ((lotsOf cs t1 t2).map (·.1)).Nodup) :
    wp (callF P m (n + 2) f [.tup (.tup (cs.map D.str) :: t1.d :: t2.d :: rest)] S) fun d S' => ∃ r kvs, d = .ref r ∧ S'[r]? = some (.dct kvs) ∧ LK S S' r kvs (lotsOf cs t1 t2) ∧ S.length ≤ r ∧ Ext [] S S' := by
  have hb := big
  refine wp_callF h rfl ?_
  simp [bLots, startD]
  have ndt : ∀ i x ls, (lotsOf cs t1 t2)[i]? = some (x, ls) → x ∉ ((lotsOf cs t1 t2).take i).map (·.1) := fun i x ls hi z => by
    have h1 := take_at hi
    have h2 : ((lotsOf cs t1 t2).take (i + 1)).map (·.1) = ((lotsOf cs t1 t2).take i).map (·.1) ++ [x] := by rw [h1]; simp
    have h3 : (((lotsOf cs t1 t2).take (i + 1)).map (·.1)).Nodup := by
      rw [List.map_take]
      exact nd.sublist (List.take_sublist _ _)
    rw [h2] at h3
    have := List.nodup_append.mp h3
    exact this.2.2 x z x (by simp) rfl
  obtain ⟨I, hI⟩ : ∃ I : Nat → Ls → Store → Prop, ∀ i ls S2, I i ls S2 ↔ ∃ x kvs, ls = [some (.tup (.tup (cs.map D.str) :: t1.d :: t2.d :: rest)), some (.ref S.length), x, none, none, none] ∧ S2[S.length]? = some (.dct kvs) ∧ LK S S2 S.length kvs ((lotsOf cs t1 t2).take i) ∧ kvs.length ≤ i ∧ Ext [] S S2 := ⟨_, fun _ _ _ => Iff.rfl⟩
  have lc : (cs.map fun c => (c, [c])).length = cs.length := by simp
  refine wp_seq (ds := cs.map D.str) (.inl rfl) I (by simp; omega) ?_ ?_ ?_
  · exact (hI _ _ _).mpr ⟨_, [], rfl, by simp, ⟨by simp, by simp⟩, by simp, Ext.push _ _ _⟩
  · intro i d ls S2 hd hi
    obtain ⟨x, kvs, rfl, q1, q2, q3, q4⟩ := (hI _ _ _).mp hi
    rw [List.getElem?_map] at hd
    obtain ⟨c, hc, rfl⟩ := Option.map_eq_some_iff.mp hd
    have hl := lt_of_some hc
    have e1 : (lotsOf cs t1 t2)[i]? = some (c, [c]) := by
      unfold lotsOf
      rw [List.getElem?_append_left (by simpa using hl), List.getElem?_map, hc]; rfl
    refine ⟨_, rfl, ?_⟩
    simp [ap_lt (Lt.of q1), q1, set_lt (Lt.of q1)]
    have x1 : Ext [] S2 (S2 ++ [.lst [.str c]]) := Ext.push _ _ _
    have l2 := lt_of_some q1
    have k1 := ((q2.mono x1 (by simp)).put (x := c) (es := [c]) (ls := [c]) (ndt i c [c] e1) (l := S2.length) (by simp) (List.Perm.refl _) (by have := q4.len; omega) (by omega))
    rw [← take_at e1] at k1
    have x2 : Ext [S.length] (S2 ++ [.lst [.str c]]) (S2.set S.length (.dct (putG kvs (.inr c) (.ref S2.length))) ++ [.lst [.str c]]) := by
      rw [← set_lt (Lt.of q1)]; exact Ext.set _ (by simp) _
    refine ⟨by omega, by omega, (hI _ _ _).mpr ⟨_, _, rfl, by rw [ap_lt (Lt.of q1).set, set_same (Lt.of q1)], k1.mono x2 (by simp), ?_, (q4.setN (Nat.le_refl _) _).pushed _⟩⟩
    have := putG_len (kvs := kvs) (k := .inr c) (v := D.ref S2.length); omega
  · intro ls S2 hi
    obtain ⟨x, kvs, rfl, q1, q2, q3, q4⟩ := (hI _ _ _).mp hi
    rw [List.length_map] at q2 q3
    simp
    have f1 := lt_of_some q1
    refine wp_mono (sp_lawknots hg hm t1 S2 n1 (by omega) (List.range (S.length + 1)) (by intro b hb; rw [List.mem_range] at hb; omega)) ?_
    rintro _ S3 ⟨r1, d1, rfl, a1, a2, a3, a4⟩
    simp
    refine wp_mono (sp_lawknots hg hm t2 S3 n2 (by omega) (List.range (S.length + 1)) (by intro b hb; rw [List.mem_range] at hb; have := a4.len; omega)) ?_
    rintro _ S4 ⟨r2, d2, rfl, b1, b2, b3, b4⟩
    have c1 := b4.at_ _ _ a1 (by simp)
    have la := a2.len
    have lb := b2.len
    have lla := lo_len t1 none
    have llb := lo_len t2 none
    simp [b1, c1]
    refine ⟨by omega, ?_⟩
    have kk : KN S4 (List.range (S.length + 1)) (t1.lo none ++ t2.lo none) (d1 ++ d2) := (a2.mono b4 (by simp) (fun i hi => .inl (List.mem_cons_of_mem _ hi))).app (b2.mono (Ext.refl [] S4) (by simp) (fun i hi => .inl (List.mem_cons_of_mem _ hi)))
    have hd4 := b4.at_ _ _ (a4.at_ _ _ q1 (by simp)) (by simp)
    obtain ⟨S5, hS5⟩ : ∃ S5 : Store, S5 = S4 ++ [O.lst (d1 ++ d2)] := ⟨_, rfl⟩
    rw [← hS5]
    have x5 : Ext [] S4 S5 := by rw [hS5]; exact Ext.push _ _ _
    have kk5 : KN S5 (List.range (S.length + 1)) (t1.lo none ++ t2.lo none) (d1 ++ d2) := kk.mono x5 (by simp) (fun i hi => .inl hi)
    have e05 : Ext [] S S5 := ((q4.trans a4).trans b4).trans x5
    have hr5 : S5[S4.length]? = some (.lst (d1 ++ d2)) := by rw [hS5]; simp
    have fl : S.length < S4.length := by have := a4.len; have := b4.len; omega
    obtain ⟨I2, hI2⟩ : ∃ I2 : Nat → Ls → Store → Prop, ∀ i ls S6, I2 i ls S6 ↔ ∃ x3 x4 x5 kvs, ls = [some (.tup (.tup (cs.map D.str) :: t1.d :: t2.d :: rest)), some (.ref S.length), x, x3, x4, x5] ∧ S6[S.length]? = some (.dct kvs) ∧ LK S S6 S.length kvs ((lotsOf cs t1 t2).take (cs.length + i)) ∧ kvs.length ≤ cs.length + i ∧ Ext [S.length] S5 S6 ∧ Ext [] S S6 := ⟨_, fun _ _ _ => Iff.rfl⟩
    refine wp_obj (ds := d1 ++ d2) I2 ?_ (by rw [List.length_append]; omega) ?_ ?_ ?_
    · intro i ls S6 hi
      obtain ⟨x3, x4, x5, kvs, rfl, p1, p2, p3, p4, p5⟩ := (hI2 _ _ _).mp hi
      exact p4.at_ _ _ hr5 (by simp; omega)
    · exact (hI2 _ _ _).mpr ⟨_, _, _, kvs, rfl, x5.at_ _ _ hd4 (by simp), (q2.mono (a4.trans (b4.trans x5)) (by simp)), by omega, Ext.refl _ _, e05⟩
    · intro i d ls S6 hd hi
      obtain ⟨x3, x4, x5, kvs, rfl, p1, p2, p3, p4, p5⟩ := (hI2 _ _ _).mp hi
      obtain ⟨q, hq, e, c, es, rfl, y1, y2, y3, y4, y5⟩ := kk5.at_ hd
      rw [List.mem_range] at y4 y5
      have w1 := p4.at_ _ _ y1 (by simp; omega)
      have w2 := p4.at_ _ _ y2 (by simp; omega)
      have li := lt_of_some hd
      rw [List.length_append] at li
      have e1 : (lotsOf cs t1 t2)[cs.length + i]? = some (q.1, q.2.1) := by
        unfold lotsOf
        rw [List.getElem?_append_right (by simp)]
        simp only [List.length_map, Nat.add_sub_cancel_left, List.getElem?_map, hq]; rfl
      refine ⟨_, by simp [w1]; rfl, ?_⟩
      simp [p1]
      have k1 := p2.put (x := q.1) (es := es) (ls := q.2.1) (ndt _ q.1 q.2.1 e1) w2 y3 (by omega) (by omega)
      rw [← take_at e1] at k1
      refine ⟨by omega, (hI2 _ _ _).mpr ⟨_, _, _, _, rfl, set_same (Lt.of p1), k1.mono (Ext.set (xs := [S.length]) S6 (by simp) _) (by simp), ?_, p4.trans (Ext.set (xs := [S.length]) S6 (by simp) _), p5.setN (Nat.le_refl _) _⟩⟩
      have := putG_len (kvs := kvs) (k := .inr q.1) (v := D.ref c); omega
    · intro ls S6 hi
      obtain ⟨x3, x4, x5, kvs, rfl, p1, p2, p3, p4, p5⟩ := (hI2 _ _ _).mp hi
      simp
      refine ⟨kvs, p1, ?_, p5⟩
      rw [List.take_of_length_le] at p2
      · exact p2
      · unfold lotsOf
        simp
        omega
end
end PV

set_option Elab.async false
set_option linter.all false
set_option maxRecDepth 100000
set_option maxHeartbeats 1000000
/-! Trees drawn, by PV. -/
namespace PV
open PySem

namespace T
mutual
/-- its knots' names -/
def nm : T → List Str
  | .leaf _ => []
  | .node n ps => n :: nmL ps
def nmL : List T → List Str
  | [] => []
  | t :: ts => t.nm ++ nmL ts
end
theorem nmL_app : ∀ a b : List T, nmL (a ++ b) = nmL a ++ nmL b
  | [], b => rfl
  | t :: ts, b => by rw [List.cons_append, nmL, nmL_app ts b, nmL, List.append_assoc]
mutual
theorem lo_nm : ∀ (t : T) (ab : Option Str), (t.lo ab).map (·.1) = t.nm
  | .leaf _, _ => rfl
  | .node n ps, ab => by simp only [lo, nm, List.map_cons, loL_nm ps (some n)]
theorem loL_nm : ∀ (ts : List T) (ab : Option Str), (loL ts ab).map (·.1) = nmL ts
  | [], _ => rfl
  | t :: ts, ab => by simp only [loL, nmL, List.map_append, lo_nm t ab, loL_nm ts ab]
end
mutual
theorem kn_nm : ∀ (t : T) (ab : Option Str), (t.kn ab).map (·.1) = t.nm
  | .leaf _, _ => rfl
  | .node n ps, ab => by simp only [kn, nm, List.map_cons, knL_nm ps (some n)]
theorem knL_nm : ∀ (ts : List T) (ab : Option Str), (knL ts ab).map (·.1) = nmL ts
  | [], _ => rfl
  | t :: ts, ab => by simp only [knL, nmL, List.map_append, kn_nm t ab, knL_nm ts ab]
end
mutual
theorem sz_eq : ∀ t : T, t.sz = t.nm.length + t.lv.length
  | .leaf _ => rfl
  | .node n ps => by simp only [sz, nm, lv, List.length_cons, szL_eq ps]; omega
theorem szL_eq : ∀ ts : List T, szL ts = (nmL ts).length + (lvL ts).length
  | [] => rfl
  | t :: ts => by simp only [szL, nmL, lvL, List.length_append, sz_eq t, szL_eq ts]; omega
end
theorem dptL_app : ∀ a b : List T, dptL (a ++ b) = max (dptL a) (dptL b)
  | [], b => by simp [dptL]
  | t :: ts, b => by rw [List.cons_append, dptL, dptL_app ts b, dptL]; omega
theorem lvL_leaf (l : List Str) : lvL (l.map leaf) = l := by
  induction l with
  | nil => rfl
  | cons x l ih => simp only [List.map_cons, lvL, lv, ih]; rfl
theorem nmL_leaf (l : List Str) : nmL (l.map leaf) = [] := by
  induction l with
  | nil => rfl
  | cons x l ih => simp only [List.map_cons, nmL, nm, ih]; rfl
theorem dptL_leaf (l : List Str) : dptL (l.map leaf) = 0 := by
  induction l with
  | nil => rfl
  | cons x l ih => simp only [List.map_cons, dptL, dpt, ih]; rfl
theorem dL_app (a b : List T) : dL (a ++ b) = dL a ++ dL b := by simp [dL_map]
theorem dL_leaf (l : List Str) : dL (l.map leaf) = l.map D.str := by rw [dL_map, List.map_map]; rfl
end T

def bTree (i f : Nat) : S := .cons (.par3 4 5 6 (.mt .pop (.v 2) (.nil)) (.bi .list (.cons (.v 1) (.nil))) (.lst (.nil))) (.cons (.for (.nm 7) (.qr (.bi .len (.cons (.v 1) (.nil)))) (.cons (.ite (.cmp .ne (.v 5) (.lst (.nil))) (.cons (.set 8 (.bin .add (.int 1) (.call i (.cons (.v 0) (.cons (.bi .len (.cons (.v 5) (.nil))) (.nil)))))) (.cons (.par2 9 5 (.sl (.v 5) .nil (.v 8)) (.sl (.v 5) (.v 8) .nil)) (.cons (.ite (.bo true (.cons (.cmp .gt (.v 3) (.int 0)) (.cons (.cmp .gt (.bi .len (.cons (.v 2) (.nil))) (.int 4)) (.cons (.cmp .gt (.call i (.cons (.v 0) (.cons (.int 3) (.nil)))) (.int 0)) (.nil))))) (.cons (.ex (.mt .append (.v 6) (.cons (.call f (.cons (.v 0) (.cons (.v 9) (.cons (.v 2) (.cons (.bin .sub (.v 3) (.int 1)) (.nil)))))) (.nil)))) (.nil)) (.cons (.set 6 (.bin .add (.v 6) (.v 9))) (.nil))) (.nil)))) (.nil)) (.nil))) (.cons (.ret (.tup (.cons (.v 4) (.cons (.bi .tuple (.cons (.v 6) (.nil))) (.nil))))) (.nil)))
/-- what drawing a tree leaves -/
structure TreeD (s k sp : Nat) (S S' : Store) (ss ss' : List Str) (cs : List Str) (deep : Nat) (t : T) : Prop where
  node : t.isNode = true
  spr : S'[sp]? = some (.lst (ss'.map D.str))
  used : ∃ us, ss = ss' ++ us ∧ us.Perm t.nm
  lv : t.lv.Perm cs
  dpt : t.dpt ≤ deep + 1
  left : min 4 (ss.length - 1) ≤ ss'.length
  st : StOk S' s k
  ext : Ext [s, sp] S S'
section
variable {P : List Df} {iM iT iP m f n : Nat} {ps : List Str}
theorem ne_of_obj {S : Store} {i j : Nat} {a b : O} (h : S[i]? = some a) (k : S[j]? = some b) (n : a ≠ b) : i ≠ j := fun e => by
  subst e; rw [h] at k; exact n (Option.some.inj k)
theorem tree_step (dr : Draws P iM iT iP) (h : P[f]? = some ⟨4, 10, [], ps, bTree iT f⟩) (hm : 10000 < m) (deep n : Nat) (S : Store) (s k c sp : Nat) (cs ss : List Str) (st : StOk S s k) (hc : S[c]? = some (.lst (cs.map D.str))) (hsp : S[sp]? = some (.lst (ss.map D.str))) (hss : ss ≠ [])
    (ncs : c ≠ s) (ncsp : c ≠ sp) (nsps : sp ≠ s) (z1 : cs.length ≤ 3000) (z2 : ss.length ≤ 1000)
    (ih : ∀ deep' : Nat, deep = deep' + 1 → ∀ (S : Store) (c : Nat) (cs ss : List Str), StOk S s k → S[c]? = some (.lst (cs.map D.str)) → S[sp]? = some (.lst (ss.map D.str)) → ss ≠ [] → c ≠ s → c ≠ sp → cs.length ≤ 3000 → ss.length ≤ 1000 →
      wp (callF P m (n + 2) f [.ref s, .ref c, .ref sp, .int deep'] S) fun d S' => ∃ t ss', d = T.d t ∧ TreeD s k sp S S' ss ss' cs deep' t) :
    wp (callF P m (n + 3) f [.ref s, .ref c, .ref sp, .int deep] S) fun d S' => ∃ t ss', d = T.d t ∧ TreeD s k sp S S' ss ss' cs deep t := by
  have hb := big
  refine wp_callF h rfl ?_
  obtain ⟨ss0, nm, rfl⟩ : ∃ ss0 nm, ss = ss0 ++ [nm] := ⟨ss.dropLast, ss.getLast hss, (List.dropLast_concat_getLast hss).symm⟩
  simp [bTree, startD, hsp, hc, set_ne ncsp.symm, ap_lt (Lt.of hc).set]
  refine ⟨by omega, ?_⟩
  have nspk : sp ≠ k := fun e => by
    obtain ⟨a, b, c', sd, e', cc, g1, g2, _⟩ := st.ex
    subst e
    rw [hsp] at g2
    have := O.lst.inj (Option.some.inj g2)
    cases cc with
    | nil => simp at this
    | cons x xs => cases ss0 <;> simp at this
  have lsp := lt_of_some hsp
  have ls0 := st.lt
  have lk0 := st.ltk
  obtain ⟨J, hJ⟩ : ∃ J : Nat → Ls → Store → Prop, ∀ i ls S', J i ls S' ↔ ∃ l p x7 x8 x9 ls' ts ss' us, ls = [some (.ref s), some (.ref c), some (.ref sp), some (.int deep), some (.str nm), some (.ref l), some (.ref p), x7, x8, x9] ∧ S'[l]? = some (.lst (ls'.map D.str)) ∧ S'[p]? = some (.lst (T.dL ts)) ∧ S'[sp]? = some (.lst (ss'.map D.str)) ∧
      ss0 = ss' ++ us ∧ us.Perm (T.nmL ts) ∧ (T.lvL ts ++ ls').Perm cs ∧ ls'.length + i ≤ cs.length ∧ ts.length + ls'.length ≤ cs.length ∧ T.dptL ts ≤ deep ∧ min 4 ss0.length ≤ ss'.length ∧ l ≠ p ∧ S.length ≤ l ∧ S.length ≤ p ∧ StOk S' s k ∧ Ext [s, sp] S S' := ⟨_, fun _ _ _ => Iff.rfl⟩
  refine wp_rng J (by omega) ?_ ?_ ?_
  · refine (hJ _ _ _).mpr ⟨S.length, S.length + 1, _, _, _, cs, [], ss0, [], rfl, by simp, by simp [T.dL], ?_, by simp, by simp [T.nmL], by simp [T.lvL], by omega, by simp, by simp [T.dptL], by omega, by omega, by omega, by omega, ?_, ?_⟩
    · rw [ap_lt (Lt.of hsp).set, set_same (Lt.of hsp)]
    · have := (((st.ext (xs := [sp]) (Ext.set S (i := sp) (by simp) (.lst (ss0.map D.str))) (by simpa using fun e => nsps e.symm) (by simpa using fun e => nspk e.symm))).push (.lst (cs.map D.str))).push (.lst [])
      simpa using this
    · have := ((Ext.set S (xs := [s, sp]) (i := sp) (by simp) (.lst (ss0.map D.str))).pushed (.lst (cs.map D.str))).pushed (.lst [])
      simpa using this
  · intro i ls S' hi hj
    obtain ⟨l, p, x7, x8, x9, ls', ts, ss', us, rfl, q1, q2, q3, q4, q5, q6, q7, q7', q8, q9, q10, q11, q12, q13, q14⟩ := (hJ _ _ _).mp hj
    have he : eqD (.ref l) (.ref S'.length) (S' ++ [.lst []]) = some ls'.isEmpty := by
      rw [eq_nil (ds := ls'.map D.str) (by rw [ap_lt (Lt.of q1)]; exact q1) (by simp)]
      cases ls' <;> rfl
    cases ls' with
    | nil =>
      simp [he]
      refine (hJ _ _ _).mpr ⟨l, p, _, _, _, [], ts, ss', us, rfl, by rw [ap_lt (Lt.of q1)]; exact q1, by rw [ap_lt (Lt.of q2)]; exact q2, by rw [ap_lt (Lt.of q3)]; exact q3, q4, q5, q6, by simp; omega, q7', q8, q9, q10, q11, q12, q13.push _, q14.pushed _⟩
    | cons z zs =>
      simp [he, ap_lt (Lt.of q1), q1]
      simp only [List.length_cons] at q7 q7'
      refine wp_mono (dr.tk (q13.push _) (lim := (zs.length : Int) + 1) (by omega) (by omega)) ?_
      rintro _ S2 ⟨v, rfl, v1, v2, af⟩
      have a1 := af.at_ (by rw [ap_lt (Lt.of q1)]; exact q1) (by omega)
      have a2 := af.at_ (by rw [ap_lt (Lt.of q2)]; exact q2) (by omega)
      have a3 := af.at_ (by rw [ap_lt (Lt.of q3)]; exact q3) nsps
      have la1 := lt_of_some a1
      have la2 := lt_of_some a2
      have la3 := lt_of_some a3
      have e2 : Ext [s, sp] S S2 := (q14.pushed (.lst [])).trans (af.ext.mono (by simp))
      generalize hL : z :: zs = zl at *
      have hzl : zl.length = zs.length + 1 := by rw [← hL]; rfl
      simp [a1, a2, a3, ap_lt (Lt.of a1), ap_lt (Lt.of a2), ap_lt (Lt.of a3), cut_hi (i := 1 + v) (by omega), cut_lo (i := 1 + v) (by omega)]
      obtain ⟨w, hw⟩ : ∃ w, w = (1 + v).toNat := ⟨_, rfl⟩
      rw [← hw]
      have w1 : 1 ≤ w := by omega
      have w2 : w ≤ zl.length := by omega
      obtain ⟨S3, hS3⟩ : ∃ S3 : Store, S3 = S2 ++ [O.lst ((zl.take w).map D.str), O.lst ((zl.drop w).map D.str)] := ⟨_, rfl⟩
      have hS3' : S2 ++ [O.lst (List.take w (List.map D.str zl)), O.lst (List.drop w (List.map D.str zl))] = S3 := by rw [hS3]; simp
      have l3 : S3.length = S2.length + 2 := by rw [hS3]; simp
      have x3 : Ext [] S2 S3 := by
        rw [hS3]
        have := ((Ext.refl [] S2).pushed (.lst ((zl.take w).map D.str))).pushed (.lst ((zl.drop w).map D.str))
        simpa using this
      have st3 : StOk S3 s k := af.st.ext x3 (by simp) (by simp)
      have g1 : S3[S2.length]? = some (.lst ((zl.take w).map D.str)) := by rw [hS3]; simp
      have g2 : S3[S2.length + 1]? = some (.lst ((zl.drop w).map D.str)) := by rw [hS3]; simp
      have g3 := x3.at_ _ _ a2 (by simp)
      have g4 := x3.at_ _ _ a3 (by simp)
      have e3 : Ext [s, sp] S S3 := e2.trans (x3.mono (by simp))
      -- the group is laid as it is
      have plain : ∀ (S4 : Store), Af s k S3 S4 → ts.length + min w zl.length ≤ sizeLine ∧ J (i + 1) [some (.ref s), some (.ref c), some (.ref sp), some (.int deep), some (.str nm), some (.ref (S2.length + 1)), some (.ref S4.length), some (.int i), some (.int (1 + v)), some (.ref S2.length)] (S4 ++ [.lst (T.dL ts ++ List.take w (List.map D.str zl))]) := fun S4 af4 => by
        have h2 := af4.at_ g2 (by omega)
        have h4 := af4.at_ g4 nsps
        have l4 := af4.ext.len
        refine ⟨by omega, (hJ _ _ _).mpr ⟨_, _, _, _, _, zl.drop w, ts ++ (zl.take w).map T.leaf, ss', us, rfl, by rw [ap_lt (Lt.of h2)]; exact h2, ?_, by rw [ap_lt (Lt.of h4)]; exact h4, q4, ?_, ?_, ?_, ?_, ?_, q9, by omega, by omega, by omega, af4.st.push _, (e3.trans (af4.ext.mono (by simp))).pushed _⟩⟩
        · have : T.dL (ts ++ (zl.take w).map T.leaf) = T.dL ts ++ (zl.take w).map D.str := by rw [T.dL_app, T.dL_leaf]
          rw [this]; simp
        · rw [T.nmL_app, T.nmL_leaf, List.append_nil]; exact q5
        · rw [T.lvL_app, T.lvL_leaf, List.append_assoc, List.take_append_drop]; exact q6
        · rw [List.length_drop]; omega
        · simp; omega
        · rw [T.dptL_app, T.dptL_leaf]; omega
      have pl3 := plain S3 ⟨st3, Ext.refl _ _⟩
      have pl3' : ts.length + min w zl.length ≤ sizeLine ∧ J (i + 1) [some (.ref s), some (.ref c), some (.ref sp), some (.int deep), some (.str nm), some (.ref (S2.length + 1)), some (.ref (S2.length + 2)), some (.int i), some (.int (1 + v)), some (.ref S2.length)]
          (S2 ++ [O.lst (List.take w (List.map D.str zl)), O.lst (List.drop w (List.map D.str zl)), O.lst (T.dL ts ++ List.take w (List.map D.str zl))]) := by
        rw [l3, ← hS3'] at pl3
        simpa using pl3
      rw [hS3']
      by_cases hd : 0 < deep
      · rw [if_pos hd]
        by_cases h4 : (4 : Int) < ss'.length
        · rw [if_pos h4]
          refine wp_mono (dr.tk st3 (by decide) (by decide)) ?_
          rintro _ S4 ⟨v3, rfl, _, _, af4⟩
          have b1 := af4.at_ g1 (by omega)
          have b2 := af4.at_ g2 (by omega)
          have b3 := af4.at_ g3 (by omega)
          have b4 := af4.at_ g4 nsps
          by_cases hv3 : 0 < v3
          · simp [hv3, b3]
            obtain ⟨deep', hdd⟩ : ∃ deep', deep = deep' + 1 := ⟨deep - 1, by omega⟩
            have hdi : (deep : Int) - 1 = deep' := by omega
            rw [hdi]
            have l4 := af4.ext.len
            have hne : ss' ≠ [] := fun e => by rw [e] at h4; simp at h4
            have hl2 : ss'.length ≤ 1000 := by
              have : ss0.length = ss'.length + us.length := by rw [q4]; simp
              simp at z2; omega
            refine wp_mono (ih deep' hdd S4 S2.length (zl.take w) ss' af4.st b1 b4 hne (by omega) (by omega) (by simp; omega) hl2) ?_
            rintro _ S5 ⟨t, ss2, rfl, td⟩
            obtain ⟨us2, hu1, hu2⟩ := td.used
            have c2 := td.ext.at_ _ _ b2 (by simp; omega)
            have c3 := td.ext.at_ _ _ b3 (by simp; omega)
            have l5 := td.ext.len
            simp [c3]
            refine ⟨by omega, (hJ _ _ _).mpr ⟨_, _, _, _, _, zl.drop w, ts ++ [t], ss2, us2 ++ us, rfl, ?_, ?_, ?_, ?_, ?_, ?_, ?_, ?_, ?_, ?_, by omega, by omega, by omega, ?_, ?_⟩⟩
            · rw [set_ne (by omega)]; exact c2
            · rw [set_same (Lt.of c3)]; simp [T.dL_map]
            · rw [set_ne (by omega)]; exact td.spr
            · rw [q4, hu1, List.append_assoc]
            · rw [T.nmL_app]
              simp only [T.nmL, List.append_nil]
              exact (List.perm_append_comm).trans (List.Perm.append q5 hu2)
            · rw [T.lvL_app]
              simp only [T.lvL, List.append_nil]
              refine List.Perm.trans ?_ q6
              rw [List.append_assoc]
              refine List.Perm.append_left _ ?_
              exact (List.Perm.append_right _ td.lv).trans (by rw [List.take_append_drop])
            · rw [List.length_drop]; omega
            · simp; omega
            · rw [T.dptL_app]
              have := td.dpt
              simp only [T.dptL]; omega
            · have := td.left; omega
            · exact td.st.ext (xs := [p]) (Ext.set _ (by simp) _) (by simp; omega) (by simp; omega)
            · exact ((e3.trans (af4.ext.mono (by simp))).trans (td.ext)).setN (by omega) _
          · simp [hv3, b1, b3]
            exact plain S4 af4
        · rw [if_neg h4, if_neg h4]
          exact pl3'
      · rw [if_neg hd, if_neg hd]
        exact pl3'
  · intro ls S' hj
    obtain ⟨l, p, x7, x8, x9, ls', ts, ss', us, rfl, q1, q2, q3, q4, q5, q6, q7, q7', q8, q9, q10, q11, q12, q13, q14⟩ := (hJ _ _ _).mp hj
    have : ls' = [] := List.eq_nil_of_length_eq_zero (by omega)
    subst this
    simp [q2]
    refine ⟨by omega, .node nm ts, rfl, ss', rfl, q3, ⟨us ++ [nm], by rw [q4]; simp, ?_⟩, by simpa [T.lv] using q6, by simp only [T.dpt]; omega, by simp; omega, q13, q14⟩
    simp only [T.nm]
    exact (List.perm_append_comm).trans (List.Perm.cons nm q5)
theorem sp_tree (dr : Draws P iM iT iP) (h : P[f]? = some ⟨4, 10, [], ps, bTree iT f⟩) (hm : 10000 < m) {s k sp : Nat} (nsps : sp ≠ s) : ∀ (deep n : Nat) (S : Store) (c : Nat) (cs ss : List Str), StOk S s k → S[c]? = some (.lst (cs.map D.str)) → S[sp]? = some (.lst (ss.map D.str)) → ss ≠ [] → c ≠ s → c ≠ sp → cs.length ≤ 3000 → ss.length ≤ 1000 →
    wp (callF P m (n + deep + 3) f [.ref s, .ref c, .ref sp, .int deep] S) fun d S' => ∃ t ss', d = T.d t ∧ TreeD s k sp S S' ss ss' cs deep t := by
  intro deep
  induction deep with
  | zero =>
    intro n S c cs ss st hc hsp hss ncs ncsp z1 z2
    exact tree_step dr h hm 0 n S s k c sp cs ss st hc hsp hss ncs ncsp nsps z1 z2 fun _ e => by omega
  | succ deep ih =>
    intro n S c cs ss st hc hsp hss ncs ncsp z1 z2
    refine tree_step dr h hm (deep + 1) (n + deep + 1) S s k c sp cs ss st hc hsp hss ncs ncsp nsps z1 z2 fun deep' e => ?_
    obtain rfl : deep' = deep := by omega
    intro S c cs ss st hc hsp hss ncs ncsp z1 z2
    have := ih n S c cs ss st hc hsp hss ncs ncsp z1 z2
    rw [show n + deep' + 1 + 2 = n + deep' + 3 by omega]
    exact this
end
end PV

set_option Elab.async false
set_option linter.all false
set_option maxRecDepth 100000
set_option maxHeartbeats 1000000
/-! Mixes and offices drawn, by PV. -/
namespace PV
open PySem

def mD (p : Str × Int) : D := .tup [.str p.1, .int p.2]
def bMix (iS iT iP : Nat) : S := .cons (.set 3 (.sl (.call iS (.cons (.v 0) (.cons (.v 1) (.nil)))) .nil (.call iT (.cons (.v 0) (.cons (.bin .add (.v 2) (.int 1)) (.nil)))))) (.cons (.ret (.bi .tuple (.cons (.lc [("name", 4)] (.nm 4) (.q (.bi .sorted (.cons (.v 3) (.nil)))) .nil (.tup (.cons (.v 4) (.cons (.call iP (.cons (.v 0) (.cons (.lst (.cons (.int 1) (.cons (.int 1) (.cons (.neg (.int 1)) (.cons (.int 2) (.cons (.neg (.int 2)) (.cons (.int 3) (.nil)))))))) (.nil)))) (.nil))))) (.nil)))) (.nil))
/-- a mix of names among xs -/
structure MixOk (xs : List Str) (ys : List (Str × Int)) : Prop where
  mem : ∀ y ∈ ys, y.1 ∈ xs ∧ y.2 ∈ [1, -1, 2, -2, (3 : Int)]
  up : (ys.map (·.1)).Pairwise (fun a b => leS a b = true)
  nd : xs.Nodup → (ys.map (·.1)).Nodup
section
variable {P : List Df} {iM iT iP iS m f n : Nat} {ps qs : List Str}
theorem map_of_perm {xs : List Str} {es : List D} (h : es.Perm (xs.map D.str)) : ∃ ys : List Str, es = ys.map D.str ∧ ys.Perm xs := by
  have hs : ∀ e ∈ es, ∃ x, e = D.str x := fun e he => by
    obtain ⟨x, _, rfl⟩ := List.mem_map.mp (h.mem_iff.mp he)
    exact ⟨x, rfl⟩
  have : ∃ ys : List Str, es = ys.map D.str := by
    clear h
    induction es with
    | nil => exact ⟨[], rfl⟩
    | cons e es ih =>
      obtain ⟨x, rfl⟩ := hs e List.mem_cons_self
      obtain ⟨ys, rfl⟩ := ih fun e he => hs e (List.mem_cons_of_mem _ he)
      exact ⟨x :: ys, rfl⟩
  obtain ⟨ys, rfl⟩ := this
  refine ⟨ys, rfl, ?_⟩
  have h2 := h.map (fun d => match d with | D.str x => x | _ => Str.empty)
  simpa [Function.comp_def] using h2
theorem sp_mix (dr : Draws P iM iT iP) (hS : P[iS]? = some ⟨2, 6, [], qs, bShuf iT⟩) (h : P[f]? = some ⟨3, 5, [], ps, bMix iS iT iP⟩) (hm : 10000 < m) {s k r : Nat} {S : Store} (st : StOk S s k) {xs : List Str} (hr : S[r]? = some (.lst (xs.map D.str))) (hrs : r ≠ s) (hx : xs.length < 64) {most : Int} (h0 : 0 ≤ most) (h1 : most < 1000000) :
    wp (callF P m (n + 4) f [.ref s, .ref r, .int most] S) fun d S' => ∃ ys, d = .tup (ys.map mD) ∧ MixOk xs ys ∧ ys.length ≤ most ∧ Af s k S S' := by
  have hb := big
  refine wp_callF h rfl ?_
  simp [bMix, startD]
  refine wp_mono (sp_shuf dr hS st (.inr ⟨r, rfl, hrs, hr⟩) (by simp; omega) hm) ?_
  rintro _ S1 ⟨r1, es, rfl, a1, a2, a3, a4⟩
  obtain ⟨ys, rfl, hp⟩ := map_of_perm a2
  simp
  refine wp_mono (dr.tk a4.st (by omega) (by omega)) ?_
  rintro _ S2 ⟨v, rfl, v1, v2, af⟩
  have hs := st.lt
  have b1 := af.at_ a1 (by omega)
  have af2 := a4.trans af
  have hl := hp.length_eq
  have l2 := af2.ext.len
  simp [b1, cut_hi v1]
  rw [← List.map_take, sortD_strs (by simp; omega)]
  have pm := isort_perm leS (ys.take v.toNat)
  have srt := isortS_sorted (ys.take v.toNat)
  generalize isort leS (ys.take v.toNat) = zs at pm srt
  have lz := pm.length_eq
  simp at lz
  simp
  obtain ⟨S3, hS3⟩ : ∃ S3 : Store, S3 = S2 ++ [O.lst (ys.take v.toNat |>.map D.str), O.lst (zs.map D.str)] := ⟨_, rfl⟩
  have e3 : S3[S2.length + 1]? = some (.lst (zs.map D.str)) := by rw [hS3]; simp
  have af3 : Af s k S S3 := by rw [hS3]; exact af2.pushs _
  have l3 : S3.length = S2.length + 2 := by rw [hS3]; simp
  have hS3' : S2 ++ [O.lst (List.take v.toNat (List.map D.str ys)), O.lst (zs.map D.str), O.lst []] = S3 ++ [O.lst []] := by rw [hS3]; simp
  rw [hS3', ← l3]
  obtain ⟨I, hI⟩ : ∃ I : Nat → List D → Store → Prop, ∀ i acc S4, I i acc S4 ↔ ∃ ws : List (Str × Int), acc = ws.map mD ∧ ws.map (·.1) = zs.take i ∧ (∀ w ∈ ws, w.2 ∈ [1, -1, 2, -2, (3 : Int)]) ∧ Af s k S3 S4 := ⟨_, fun _ _ _ => Iff.rfl⟩
  have hs3 : s < S3.length := af3.st.lt
  refine wp_lcO (ds := zs.map D.str) I ?_ (by simp; omega) ((hI _ _ _).mpr ⟨[], rfl, by simp, by simp, (Af.refl af3.st).push _⟩) (by simp) ?_ ?_
  · intro i acc S4 hi
    obtain ⟨ws, rfl, w1, w2, w3⟩ := (hI _ _ _).mp hi
    exact w3.at_ e3 (by omega)
  · intro i d acc S4 hd hi hr4
    obtain ⟨ws, rfl, w1, w2, w3⟩ := (hI _ _ _).mp hi
    rw [List.getElem?_map] at hd
    obtain ⟨z, hz, rfl⟩ := Option.map_eq_some_iff.mp hd
    refine ⟨_, rfl, ?_⟩
    unfold lcTurn
    simp
    refine ⟨by omega, ?_⟩
    refine wp_mono (dr.pkL (r := S4.length) (w3.st.push _) (by simp; rfl) (by have := w3.st.lt; omega) (by decide) (by decide)) ?_
    rintro d S5 ⟨hd5, af5⟩
    obtain ⟨c, hc, rfl⟩ : ∃ c ∈ [1, -1, 2, -2, (3 : Int)], d = .int c := by
      simp at hd5
      rcases hd5 with rfl | rfl | rfl | rfl | rfl <;> exact ⟨_, by simp, rfl⟩
    have hr5 := af5.at_ (by rw [ap_lt (Lt.of hr4)]; exact hr4) (by omega)
    have lws : ws.length = min i zs.length := by
      have := congrArg List.length w1
      simpa using this
    simp
    refine ⟨by omega, by simpa using hr5, by omega, (hI _ _ _).mpr ⟨ws ++ [(z, c)], by simp [mD], by rw [List.map_append, w1, take_at hz]; rfl, ?_, ?_⟩⟩
    · intro w hw
      rcases List.mem_append.mp hw with q | q
      · exact w2 w q
      · simp at q; subst q; exact hc
    · exact ((w3.push _).trans af5).setN af3.st (Nat.le_refl _) _
  · intro acc S4 hi hr4
    obtain ⟨ws, rfl, w1, w2, w3⟩ := (hI _ _ _).mp hi
    rw [List.length_map, List.take_length] at w1
    simp [hr4]
    refine ⟨ws, rfl, ⟨fun y hy => ⟨?_, w2 y hy⟩, by rw [w1]; exact srt, fun nd => by rw [w1]; exact pm.nodup_iff.mpr ((hp.nodup_iff.mpr nd).sublist (List.take_sublist _ _))⟩, ?_, af3.trans w3⟩
    · have : y.1 ∈ zs := by rw [← w1]; exact List.mem_map.mpr ⟨y, hy, rfl⟩
      exact hp.mem_iff.mp (List.mem_of_mem_take (pm.mem_iff.mp this))
    · have := congrArg List.length w1
      simp at this
      omega

def hiD : Option Int → D
  | none => .non
  | some x => .int x
def bD (b : Str × Int × Option Int) : D := .tup [.str b.1, .int b.2.1, hiD b.2.2]
def wiD (w : List (Str × Int) × Int × Int × Int) : D := .tup [.tup (w.1.map mD), .int w.2.1, .int w.2.2.1, .int w.2.2.2]
structure Off where
  cs : List Str
  t1 : T
  t2 : T
  q : Int
  bs : List (Str × Int × Option Int)
  ws : List (List (Str × Int) × Int × Int × Int)
def Off.d (o : Off) : D := .tup [.tup (o.cs.map D.str), o.t1.d, o.t2.d, .int o.q, .tup (o.bs.map bD), .tup (o.ws.map wiD)]
/-- the names of an office -/
def Off.every (o : Off) : List Str := isort leS ((lotsOf o.cs o.t1 o.t2).map (·.1))
/-- a drawn office of so many cells -/
structure OffOk (many : Nat) (most : Int) (o : Off) : Prop where
  n1 : o.t1.isNode = true
  n2 : o.t2.isNode = true
  len : o.cs.length = many
  up : o.cs.Pairwise (fun a b => leS a b = true)
  nd : (o.cs ++ (o.t1.nm ++ o.t2.nm)).Nodup
  l1 : o.t1.lv.Perm o.cs
  l2 : o.t2.lv.Perm o.cs
  k1 : o.t1.nm.length + o.t2.nm.length ≤ 12
  d1 : o.t1.dpt ≤ 4
  d2 : o.t2.dpt ≤ 4
  short : ∀ x ∈ o.cs ++ (o.t1.nm ++ o.t2.nm), x.length ≤ 12
  q0 : 0 ≤ o.q ∧ o.q ≤ most
  bsub : (o.bs.map (·.1)).Sublist o.every
  bok : ∀ b ∈ o.bs, (b.2.1 = 0 ∨ b.2.1 = 1) ∧ (b.2.2 = none ∨ b.2.2 = some 1000000 ∨ ∃ x, 0 ≤ x ∧ x ≤ most ∧ b.2.2 = some (b.2.1 + x))
  wlen : o.ws.length ≤ 3
  wok : ∀ w ∈ o.ws, MixOk o.every w.1 ∧ w.1.length ≤ 3 ∧ (w.2.1, w.2.2.1) ∈ [(1, 1), (0, 1), (1, 0), (9, 10), ((100 : Int), (100 : Int))] ∧ -4 ≤ w.2.2.2 ∧ w.2.2.2 ≤ 4
theorem Off.lots_nd {many : Nat} {most : Int} {o : Off} (h : OffOk many most o) : ((lotsOf o.cs o.t1 o.t2).map (·.1)).Nodup := by
  unfold lotsOf
  have e : (List.map (fun q : Str × List Str × Option Str => (q.1, q.2.1)) (o.t1.lo none ++ o.t2.lo none)).map (·.1) = o.t1.nm ++ o.t2.nm := by
    rw [List.map_map, List.map_append, ← T.lo_nm o.t1 none, ← T.lo_nm o.t2 none]; rfl
  rw [List.map_append, e, List.map_map]
  have e2 : o.cs.map ((fun q : Str × List Str => q.1) ∘ fun c => (c, [c])) = o.cs := by simp [Function.comp_def]
  rw [e2]
  exact h.nd
def bOffice (iS iN iT iTr iL iP iMx : Nat) : S := .cons (.set 3 (.call iS (.cons (.v 0) (.cons (.call iN (.cons (.v 0) (.cons (.bin .add (.v 1) (.int 12)) (.nil)))) (.nil))))) (.cons (.set 4 (.bi .tuple (.cons (.bi .sorted (.cons (.sl (.v 3) .nil (.v 1)) (.nil))) (.nil)))) (.cons (.set 5 (.sl (.v 3) (.v 1) .nil)) (.cons (.set 6 (.call iTr (.cons (.v 0) (.cons (.call iS (.cons (.v 0) (.cons (.v 4) (.nil)))) (.cons (.v 5) (.cons (.call iT (.cons (.v 0) (.cons (.int 4) (.nil)))) (.nil))))))) (.cons (.set 7 (.call iTr (.cons (.v 0) (.cons (.call iS (.cons (.v 0) (.cons (.v 4) (.nil)))) (.cons (.v 5) (.cons (.call iT (.cons (.v 0) (.cons (.int 4) (.nil)))) (.nil))))))) (.cons (.set 8 (.tup (.cons (.v 4) (.cons (.v 6) (.cons (.v 7) (.cons (.call iT (.cons (.v 0) (.cons (.bin .add (.v 2) (.int 1)) (.nil)))) (.cons (.tup (.nil)) (.cons (.tup (.nil)) (.nil))))))))) (.cons (.set 9 (.bi .sorted (.cons (.call iL (.cons (.v 8) (.nil))) (.nil)))) (.cons (.par2 10 11 (.lst (.nil)) (.lst (.nil))) (.cons (.for (.nm 12) (.q (.v 9)) (.cons (.ite (.cmp .eq (.call iT (.cons (.v 0) (.cons (.int 4) (.nil)))) (.int 0)) (.cons (.set 13 (.call iP (.cons (.v 0) (.cons (.lst (.cons (.int 0) (.cons (.int 0) (.cons (.int 0) (.cons (.int 1) (.nil)))))) (.nil))))) (.cons (.ex (.mt .append (.v 10) (.cons (.tup (.cons (.v 12) (.cons (.v 13) (.cons (.call iP (.cons (.v 0) (.cons (.lst (.cons (.non) (.cons (.bin .add (.v 13) (.call iT (.cons (.v 0) (.cons (.bin .add (.v 2) (.int 1)) (.nil))))) (.cons (.int 1000000) (.nil))))) (.nil)))) (.nil))))) (.nil)))) (.nil))) (.nil)) (.nil))) (.cons (.for (.nm 14) (.qr (.call iT (.cons (.v 0) (.cons (.int 4) (.nil))))) (.cons (.set 15 (.call iP (.cons (.v 0) (.cons (.lst (.cons (.tup (.cons (.int 1) (.cons (.int 1) (.nil)))) (.cons (.tup (.cons (.int 0) (.cons (.int 1) (.nil)))) (.cons (.tup (.cons (.int 1) (.cons (.int 0) (.nil)))) (.cons (.tup (.cons (.int 9) (.cons (.int 10) (.nil)))) (.cons (.tup (.cons (.int 100) (.cons (.int 100) (.nil)))) (.nil))))))) (.nil))))) (.cons (.ex (.mt .append (.v 11) (.cons (.bin .add (.bin .add (.tup (.cons (.call iMx (.cons (.v 0) (.cons (.v 9) (.cons (.int 3) (.nil))))) (.nil))) (.v 15)) (.tup (.cons (.bin .sub (.call iT (.cons (.v 0) (.cons (.int 9) (.nil)))) (.int 4)) (.nil)))) (.nil)))) (.nil)))) (.cons (.ret (.bin .add (.sl (.v 8) .nil (.int 4)) (.tup (.cons (.bi .tuple (.cons (.v 10) (.nil))) (.cons (.bi .tuple (.cons (.v 11) (.nil))) (.nil)))))) (.nil)))))))))))
/-- where the office's defs stand -/
structure OffP (P : List Df) (iM iT iP iS iN iTr iK iL iMx f : Nat) : Prop where
  dr : Draws P iM iT iP
  shuf : ∃ ps, P[iS]? = some ⟨2, 6, [], ps, bShuf iT⟩
  names : ∃ ps, P[iN]? = some ⟨2, 8, [], ps, bNames_ iT⟩
  tree : ∃ ps, P[iTr]? = some ⟨4, 10, [], ps, bTree iT iTr⟩
  knots : ∃ ps, P[iK]? = some ⟨1, 11, [], ps, bKnots⟩
  lots : ∃ ps, P[iL]? = some ⟨1, 6, [], ps, bLots iK⟩
  mix : ∃ ps, P[iMx]? = some ⟨3, 5, [], ps, bMix iS iT iP⟩
  off : ∃ ps, P[f]? = some ⟨3, 16, [], ps, bOffice iS iN iT iTr iL iP iMx⟩
theorem Ext.newer2 {xs ys : List Nat} {S0 S S' : Store} (a : Ext xs S0 S) (b : Ext ys S S') (h : ∀ y ∈ ys, y ∈ xs ∨ S0.length ≤ y) : Ext xs S0 S' := ⟨Nat.le_trans a.len b.len, fun j o e k => by
  have hj := lt_of_some e
  exact b.at_ j o (a.at_ j o e k) fun z => (h j z).elim k (by omega)⟩
theorem sp_office {iN iTr iK iL iMx : Nat} (op : OffP P iM iT iP iS iN iTr iK iL iMx f) (hm : 10000 < m) {s k : Nat} {S : Store} (st : StOk S s k) {many : Nat} {most : Int} (hmany : 0 < many) (hmany2 : many ≤ 50) (h0 : 0 ≤ most) (h1 : most < 100000) :
    wp (callF P m (n + 8) f [.ref s, .int many, .int most] S) fun d S' => ∃ o, d = Off.d o ∧ OffOk many most o ∧ Af s k S S' := by
  have hb := big
  have dr := op.dr
  obtain ⟨_, hS⟩ := op.shuf
  obtain ⟨_, hN⟩ := op.names
  obtain ⟨_, hTr⟩ := op.tree
  obtain ⟨_, hK⟩ := op.knots
  obtain ⟨_, hL⟩ := op.lots
  obtain ⟨_, hMx⟩ := op.mix
  obtain ⟨_, h⟩ := op.off
  have ls0 := st.lt
  refine wp_callF h rfl ?_
  simp [bOffice, startD]
  have e12 : (many : Int) + 12 = ((many + 12 : Nat) : Int) := by omega
  rw [e12]
  refine wp_mono (sp_names (n := n + 4) dr hN st (many := many + 12) (by omega) hm) ?_
  rintro _ S1 ⟨xs, rfl, x1, x2, x3, x4, af1⟩
  simp
  refine wp_mono (sp_shuf (n := n + 4) dr hS af1.st (.inl rfl) (by simp; omega) hm) ?_
  rintro _ S2 ⟨r2, es, rfl, a1, a2, a3, af2⟩
  obtain ⟨ns, rfl, hp⟩ := map_of_perm a2
  have hln := hp.length_eq
  simp [a1, cut_hi_n]
  rw [← List.map_take, sortD_strs (by simp; omega)]
  have pm := isort_perm leS (ns.take many)
  have srt := isortS_sorted (ns.take many)
  obtain ⟨cs, hcs⟩ : ∃ cs, cs = isort leS (ns.take many) := ⟨_, rfl⟩
  rw [← hcs] at pm srt ⊢
  have lcs : cs.length = many := by rw [pm.length_eq]; simp; omega
  have e2 : ∀ t : Store, (S2 ++ t)[r2]? = some (.lst (ns.map D.str)) := fun t => by rw [ap_lt (Lt.of a1)]; exact a1
  simp [e2]
  obtain ⟨S3, hS3⟩ : ∃ S3 : Store, S3 = S2 ++ [O.lst ((ns.take many).map D.str), O.lst (cs.map D.str), O.lst ((ns.drop many).map D.str)] := ⟨_, rfl⟩
  have hS3' : S2 ++ [O.lst (List.take many (List.map D.str ns)), O.lst (List.map D.str cs), O.lst (List.drop many (List.map D.str ns))] = S3 := by rw [hS3]; simp
  rw [hS3']
  have f3 : S3[S2.length + 2]? = some (.lst ((ns.drop many).map D.str)) := by rw [hS3]; simp
  have af3 : Af s k S S3 := by rw [hS3]; exact (af1.trans af2).pushs _
  have l2 : s < S2.length := (af1.trans af2).st.lt
  generalize hsp : S2.length + 2 = sp at *
  refine wp_mono (sp_shuf (n := n + 4) dr hS af3.st (.inl rfl) (by simp; omega) hm) ?_
  rintro _ S4 ⟨r4, es4, rfl, b1, b2, b3, af4⟩
  obtain ⟨c4, rfl, hp4⟩ := map_of_perm b2
  have f4 := af4.at_ f3 (by omega)
  simp
  refine wp_mono (dr.tk (n := n + 5) af4.st (by decide) (by decide)) ?_
  rintro _ S5 ⟨v5, rfl, v5a, v5b, af5⟩
  have lsp := lt_of_some f3
  have g5 := af5.at_ b1 (by have := af3.st.lt; omega)
  have f5 := af5.at_ f4 (by omega)
  simp
  obtain ⟨k5, hk5⟩ : ∃ k5 : Nat, v5 = k5 := ⟨v5.toNat, by omega⟩
  subst hk5
  obtain ⟨n5, hn5⟩ : ∃ n5, n + 7 = n5 + k5 + 3 := ⟨n + 4 - k5, by omega⟩
  rw [hn5]
  have ldrop : (ns.drop many).length = 12 := by simp; omega
  refine wp_mono (sp_tree dr hTr hm (sp := sp) (by omega) k5 n5 S5 r4 c4 (ns.drop many) af5.st g5 f5 (by intro e; rw [e] at ldrop; simp at ldrop) (by have := af3.st.lt; omega) (by omega) (by rw [hp4.length_eq]; omega) (by omega)) ?_
  rintro _ S6 ⟨t1, ss1, rfl, td1⟩
  rw [← hn5]
  obtain ⟨us1, hu1, pu1⟩ := td1.used
  have lS := (af1.trans af2).ext.len
  have af6 : Af s k S S6 := ⟨td1.st, ((af3.trans af4).trans af5).ext.newer2 td1.ext (by simp; omega)⟩
  have hd12 : (ns.drop many).length = ss1.length + us1.length := by rw [hu1]; simp
  simp
  refine wp_mono (sp_shuf (n := n + 4) dr hS td1.st (.inl rfl) (by simp; omega) hm) ?_
  rintro _ S7 ⟨r7, es7, rfl, d1, d2, d3, af7⟩
  obtain ⟨c7, rfl, hp7⟩ := map_of_perm d2
  have f7 := af7.at_ td1.spr (by omega)
  simp
  refine wp_mono (dr.tk (n := n + 5) af7.st (by decide) (by decide)) ?_
  rintro _ S8 ⟨v8, rfl, v8a, v8b, af8⟩
  have lsp6 := lt_of_some td1.spr
  have g8 := af8.at_ d1 (by have := td1.st.lt; omega)
  have f8 := af8.at_ f7 (by omega)
  simp
  obtain ⟨k8, hk8⟩ : ∃ k8 : Nat, v8 = k8 := ⟨v8.toNat, by omega⟩
  subst hk8
  obtain ⟨n8, hn8⟩ : ∃ n8, n + 7 = n8 + k8 + 3 := ⟨n + 4 - k8, by omega⟩
  rw [hn8]
  have left1 := td1.left
  refine wp_mono (sp_tree dr hTr hm (sp := sp) (by omega) k8 n8 S8 r7 c7 ss1 af8.st g8 f8 (by intro e; rw [e] at left1; simp at left1; omega) (by have := td1.st.lt; omega) (by omega) (by rw [hp7.length_eq]; omega) (by omega)) ?_
  rintro _ S9 ⟨t2, ss2, rfl, td2⟩
  rw [← hn8]
  obtain ⟨us2, hu2, pu2⟩ := td2.used
  have af9 : Af s k S S9 := ⟨td2.st, ((af6.trans af7).trans af8).ext.newer2 td2.ext (by simp; omega)⟩
  have hd12' : ss1.length = ss2.length + us2.length := by rw [hu2]; simp
  simp
  refine wp_mono (dr.tk (n := n + 5) af9.st (by omega) (by omega)) ?_
  rintro _ S10 ⟨q, rfl, q1, q2, af10⟩
  simp
  -- the names
  have pns : ((ns.take many ++ (us1 ++ us2)) ++ ss2).Perm ns := by
    have e1 : ns = ns.take many ++ ((ss2 ++ us2) ++ us1) := by
      rw [← hu2, ← hu1, List.take_append_drop]
    refine List.Perm.trans ?_ (List.Perm.of_eq e1.symm)
    rw [List.append_assoc]
    refine List.Perm.append_left _ ?_
    have : ((us1 ++ us2) ++ ss2).Perm (ss2 ++ (us1 ++ us2)) := List.perm_append_comm
    refine this.trans ?_
    rw [List.append_assoc]
    exact List.Perm.append_left _ List.perm_append_comm
  have pall : (cs ++ (t1.nm ++ t2.nm)).Perm (ns.take many ++ (us1 ++ us2)) := List.Perm.append pm (List.Perm.append pu1.symm pu2.symm)
  have nd : (cs ++ (t1.nm ++ t2.nm)).Nodup := by
    refine pall.nodup_iff.mpr ?_
    have : ((ns.take many ++ (us1 ++ us2)) ++ ss2).Nodup := pns.nodup_iff.mpr (hp.nodup_iff.mpr x2)
    exact this.sublist (List.sublist_append_left _ _)
  have hshort : ∀ x ∈ cs ++ (t1.nm ++ t2.nm), x.length ≤ 12 := fun x hx => by
    have h1 := pall.mem_iff.mp hx
    have h2 : x ∈ (ns.take many ++ (us1 ++ us2)) ++ ss2 := List.mem_append_left _ h1
    exact x4 x (hp.mem_iff.mp (pns.mem_iff.mp h2))
  have lnm1 := pu1.length_eq
  have lnm2 := pu2.length_eq
  have lv1 : t1.lv.Perm cs := td1.lv.trans hp4
  have lv2 : t2.lv.Perm cs := td2.lv.trans hp7
  have sz1 := T.sz_eq t1
  have sz2 := T.sz_eq t2
  have ll1 := lv1.length_eq
  have ll2 := lv2.length_eq
  have lnd : ((lotsOf cs t1 t2).map (·.1)).Nodup := by
    unfold lotsOf
    have e : (List.map (fun q : Str × List Str × Option Str => (q.1, q.2.1)) (t1.lo none ++ t2.lo none)).map (·.1) = t1.nm ++ t2.nm := by
      rw [List.map_map, List.map_append, ← T.lo_nm t1 none, ← T.lo_nm t2 none]; rfl
    rw [List.map_append, e, List.map_map]
    have e2 : cs.map ((fun q : Str × List Str => q.1) ∘ fun c => (c, [c])) = cs := by simp [Function.comp_def]
    rw [e2]
    exact nd
  refine ⟨by omega, ?_⟩
  refine wp_mono (sp_lots (n := n + 5) hL hK hm cs t1 t2 _ S10 td1.node td2.node (by omega) (by omega) (by omega) lnd) ?_
  rintro _ S11 ⟨r11, kvs, rfl, h11, lk, hr11, x11⟩
  obtain ⟨nms, hnms⟩ : ∃ nms : List Str, nms = (lotsOf cs t1 t2).map (·.1) := ⟨_, rfl⟩
  have lnms : nms.length ≤ 62 := by
    have h2 : (t1.lo none).length = t1.nm.length := by rw [← T.lo_nm t1 none, List.length_map]
    have h3 : (t2.lo none).length = t2.nm.length := by rw [← T.lo_nm t2 none, List.length_map]
    rw [hnms]; unfold lotsOf; simp; omega
  have keys : kvs.map (fun p => dOfKey p.1) = nms.map D.str := by
    have : kvs.map (fun p => dOfKey p.1) = (kvs.map (·.1)).map dOfKey := by rw [List.map_map]; rfl
    rw [this, lk.keys, hnms, List.map_map, List.map_map]; rfl
  have ar : Af s k S S11 := by
    refine ⟨?_, ((af9.trans af10).ext.trans (x11.mono (by simp)))⟩
    exact (af9.trans af10).st.ext x11 (by simp) (by simp)
  simp [h11, keys]
  rw [sortD_strs (by omega)]
  simp
  obtain ⟨ev, hev⟩ : ∃ ev, ev = isort leS nms := ⟨_, rfl⟩
  rw [← hev]
  have lev : ev.length ≤ 62 := by rw [hev, (isort_perm leS nms).length_eq]; exact lnms
  have ndev : ev.Nodup := by rw [hev]; refine (isort_perm leS nms).nodup_iff.mpr ?_; rw [hnms]; exact lnd
  obtain ⟨S12, hS12⟩ : ∃ S12 : Store, S12 = S11 ++ [O.lst (ev.map D.str), O.lst [], O.lst []] := ⟨_, rfl⟩
  rw [← hS12]
  have ar12 : Af s k S S12 := by rw [hS12]; exact ar.pushs _
  have hev12 : S12[S11.length]? = some (.lst (ev.map D.str)) := by rw [hS12]; simp
  have hB12 : S12[S11.length + 1]? = some (.lst []) := by rw [hS12]; simp
  have hW12 : S12[S11.length + 2]? = some (.lst []) := by rw [hS12]; simp
  have l11 := ar.ext.len
  generalize hE : S11.length = iE at *
  have od : ∃ od : D, od = D.tup [D.tup (cs.map D.str), t1.d, t2.d, .int q, .tup [], .tup []] := ⟨_, rfl⟩
  obtain ⟨od, hod⟩ := od
  rw [← hod]
  obtain ⟨I, hI⟩ : ∃ I : Nat → Ls → Store → Prop, ∀ i ls S', I i ls S' ↔ ∃ (x12 x13 x14 x15 : Option D) (bs : List (Str × Int × Option Int)), ls = [some (.ref s), some (.int many), some (.int most), some (.ref r2), some (.tup (cs.map D.str)), some (.ref sp), some t1.d, some t2.d, some od, some (.ref iE), some (.ref (iE + 1)), some (.ref (iE + 2)), x12, x13, x14, x15] ∧
      S'[iE]? = some (.lst (ev.map D.str)) ∧ S'[iE + 1]? = some (.lst (bs.map bD)) ∧ S'[iE + 2]? = some (.lst []) ∧ (bs.map (·.1)).Sublist (ev.take i) ∧
      (∀ b ∈ bs, (b.2.1 = 0 ∨ b.2.1 = 1) ∧ (b.2.2 = none ∨ b.2.2 = some 1000000 ∨ ∃ x, 0 ≤ x ∧ x ≤ most ∧ b.2.2 = some (b.2.1 + x))) ∧ Af s k S S' := ⟨_, fun _ _ _ => Iff.rfl⟩
  refine wp_obj (ds := ev.map D.str) I ?_ (by simp; omega) ?_ ?_ ?_
  · intro i ls S' hi
    obtain ⟨x12, x13, x14, x15, bs, rfl, p1, p2, p3, p4, p5, p6⟩ := (hI _ _ _).mp hi
    exact p1
  · exact (hI _ _ _).mpr ⟨_, _, _, _, [], rfl, hev12, hB12, hW12, by simp, by simp, ar12⟩
  · intro i d ls S' hd hi
    obtain ⟨x12, x13, x14, x15, bs, rfl, p1, p2, p3, p4, p5, p6⟩ := (hI _ _ _).mp hi
    rw [List.getElem?_map] at hd
    obtain ⟨nm, hnm, rfl⟩ := Option.map_eq_some_iff.mp hd
    refine ⟨_, rfl, ?_⟩
    have hln2 := lt_of_some hnm
    have lbs := p4.length_le
    simp at lbs
    simp
    refine wp_mono (dr.tk (n := n + 5) p6.st (by decide) (by decide)) ?_
    rintro _ S13 ⟨v, rfl, _, _, ag1⟩
    have c1 := ag1.at_ p1 (by omega)
    have c2 := ag1.at_ p2 (by omega)
    have c3 := ag1.at_ p3 (by omega)
    have at1 := take_at hnm
    by_cases hv : v = 0
    · simp [hv]
      refine ⟨by omega, ?_⟩
      refine wp_mono (dr.pkL (n := n + 4) (r := S13.length) (ds := [.int 0, .int 0, .int 0, .int 1]) (ag1.st.push (.lst [.int 0, .int 0, .int 0, .int 1])) (by simp) (by have := ag1.st.lt; omega) (by decide) (by decide)) ?_
      rintro d S14 ⟨hd14, ag2⟩
      obtain ⟨lo, hlo, rfl⟩ : ∃ lo : Int, (lo = 0 ∨ lo = 1) ∧ d = .int lo := by
        simp at hd14
        rcases hd14 with rfl | rfl
        · exact ⟨0, by simp, rfl⟩
        · exact ⟨1, by simp, rfl⟩
      have y1 := ag2.at_ (by rw [ap_lt (Lt.of c1)]; exact c1) (by omega)
      have y2 := ag2.at_ (by rw [ap_lt (Lt.of c2)]; exact c2) (by omega)
      have y3 := ag2.at_ (by rw [ap_lt (Lt.of c3)]; exact c3) (by omega)
      simp [y2]
      refine wp_mono (dr.tk (n := n + 5) ag2.st (by omega) (by omega)) ?_
      rintro _ S15 ⟨v15, rfl, v15a, v15b, ag3⟩
      have z1 := ag3.at_ y1 (by omega)
      have z2 := ag3.at_ y2 (by omega)
      have z3 := ag3.at_ y3 (by omega)
      simp
      refine ⟨by omega, ?_⟩
      refine wp_mono (dr.pkL (n := n + 4) (r := S15.length) (ds := [.non, .int (lo + v15), .int 1000000]) (ag3.st.push (.lst [.non, .int (lo + v15), .int 1000000])) (by simp) (by have := ag3.st.lt; omega) (by simp) (by simp)) ?_
      rintro d S16 ⟨hd16, ag4⟩
      have u1 := ag4.at_ (by rw [ap_lt (Lt.of z1)]; exact z1) (by omega)
      have u2 := ag4.at_ (by rw [ap_lt (Lt.of z2)]; exact z2) (by omega)
      have u3 := ag4.at_ (by rw [ap_lt (Lt.of z3)]; exact z3) (by omega)
      have ag : Af s k S S16 := (((((p6.trans ag1).push _).trans ag2).trans ag3).push _).trans ag4
      obtain ⟨hi2, hhi, rfl⟩ : ∃ hi2 : Option Int, (hi2 = none ∨ hi2 = some 1000000 ∨ ∃ x, 0 ≤ x ∧ x ≤ most ∧ hi2 = some (lo + x)) ∧ d = hiD hi2 := by
        simp at hd16
        rcases hd16 with rfl | rfl | rfl
        · exact ⟨none, .inl rfl, rfl⟩
        · exact ⟨some (lo + v15), .inr (.inr ⟨v15, v15a, by omega, rfl⟩), rfl⟩
        · exact ⟨some 1000000, .inr (.inl rfl), rfl⟩
      simp [u2]
      refine ⟨by omega, by omega, (hI _ _ _).mpr ⟨_, _, _, _, bs ++ [(nm, lo, hi2)], rfl, ?_, ?_, ?_, ?_, ?_, ag.setN st (by omega) _⟩⟩
      · rw [set_ne (by omega)]; exact u1
      · rw [set_same (Lt.of u2)]; simp [bD]
      · rw [set_ne (by omega)]; exact u3
      · rw [at1, List.map_append]
        exact List.Sublist.append p4 (List.Sublist.refl _)
      · intro b hb2
        rcases List.mem_append.mp hb2 with z | z
        · exact p5 b z
        · simp at z; subst z; exact ⟨hlo, hhi⟩
    · simp [hv]
      refine (hI _ _ _).mpr ⟨_, _, _, _, bs, rfl, c1, c2, c3, ?_, p5, p6.trans ag1⟩
      rw [at1]
      exact p4.trans (List.sublist_append_left _ _)
  · intro ls S' hi
    obtain ⟨x12, x13, x14, x15, bs, rfl, p1, p2, p3, p4, p5, p6⟩ := (hI _ _ _).mp hi
    rw [List.length_map, List.take_length] at p4
    simp
    refine wp_mono (dr.tk (n := n + 5) p6.st (by decide) (by decide)) ?_
    rintro _ S13 ⟨v, rfl, v1, v2, ag1⟩
    have c1 := ag1.at_ p1 (by omega)
    have c2 := ag1.at_ p2 (by omega)
    have c3 := ag1.at_ p3 (by omega)
    have ag := p6.trans ag1
    simp
    refine ⟨by omega, ?_⟩
    obtain ⟨J, hJ⟩ : ∃ J : Nat → Ls → Store → Prop, ∀ i ls S', J i ls S' ↔ ∃ (x12 x13 x14 x15 : Option D) (ws : List (List (Str × Int) × Int × Int × Int)), ls = [some (.ref s), some (.int many), some (.int most), some (.ref r2), some (.tup (cs.map D.str)), some (.ref sp), some t1.d, some t2.d, some od, some (.ref iE), some (.ref (iE + 1)), some (.ref (iE + 2)), x12, x13, x14, x15] ∧
        S'[iE]? = some (.lst (ev.map D.str)) ∧ S'[iE + 1]? = some (.lst (bs.map bD)) ∧ S'[iE + 2]? = some (.lst (ws.map wiD)) ∧ ws.length = i ∧
        (∀ w ∈ ws, MixOk ev w.1 ∧ w.1.length ≤ 3 ∧ (w.2.1, w.2.2.1) ∈ [(1, 1), (0, 1), (1, 0), (9, 10), ((100 : Int), (100 : Int))] ∧ -4 ≤ w.2.2.2 ∧ w.2.2.2 ≤ 4) ∧ Af s k S S' := ⟨_, fun _ _ _ => Iff.rfl⟩
    refine wp_rng J (by omega) ?_ ?_ ?_
    · exact (hJ _ _ _).mpr ⟨_, _, _, _, [], rfl, c1, c2, c3, rfl, by simp, ag⟩
    · intro i ls S' hi hj
      obtain ⟨x12, x13, x14, x15, ws, rfl, p1, p2, p3, p4, p5, p6⟩ := (hJ _ _ _).mp hj
      simp
      refine ⟨by omega, by omega, ?_⟩
      refine wp_mono (dr.pkL (n := n + 4) (r := S'.length) (ds := [.tup [.int 1, .int 1], .tup [.int 0, .int 1], .tup [.int 1, .int 0], .tup [.int 9, .int 10], .tup [.int 100, .int 100]]) (p6.st.push (.lst [.tup [.int 1, .int 1], .tup [.int 0, .int 1], .tup [.int 1, .int 0], .tup [.int 9, .int 10], .tup [.int 100, .int 100]])) (by simp) (by have := p6.st.lt; omega) (by decide) (by decide)) ?_
      rintro d S14 ⟨hd14, ag2⟩
      obtain ⟨a, b, hab, rfl⟩ : ∃ a b : Int, (a, b) ∈ [(1, 1), (0, 1), (1, 0), (9, 10), ((100 : Int), (100 : Int))] ∧ d = .tup [.int a, .int b] := by
        simp at hd14
        rcases hd14 with rfl | rfl | rfl | rfl | rfl <;> exact ⟨_, _, by simp, rfl⟩
      have y1 := ag2.at_ (by rw [ap_lt (Lt.of p1)]; exact p1) (by omega)
      have y2 := ag2.at_ (by rw [ap_lt (Lt.of p2)]; exact p2) (by omega)
      have y3 := ag2.at_ (by rw [ap_lt (Lt.of p3)]; exact p3) (by omega)
      simp [y3]
      refine wp_mono (sp_mix (n := n + 3) dr hS hMx hm ag2.st y1 (by omega) (by omega) (by decide) (by decide)) ?_
      rintro _ S15 ⟨ys, rfl, mok, lys, ag3⟩
      have z1 := ag3.at_ y1 (by omega)
      have z2 := ag3.at_ y2 (by omega)
      have z3 := ag3.at_ y3 (by omega)
      simp
      refine ⟨by omega, by omega, ?_⟩
      refine wp_mono (dr.tk (n := n + 5) ag3.st (by decide) (by decide)) ?_
      rintro _ S16 ⟨v16, rfl, v16a, v16b, ag4⟩
      have u1 := ag4.at_ z1 (by omega)
      have u2 := ag4.at_ z2 (by omega)
      have u3 := ag4.at_ z3 (by omega)
      simp [u3]
      have agg : Af s k S S16 := ((((p6.push _).trans ag2).trans ag3).trans ag4)
      refine ⟨by omega, by omega, by omega, (hJ _ _ _).mpr ⟨_, _, _, _, ws ++ [(ys, a, b, v16 - 4)], rfl, ?_, ?_, ?_, ?_, ?_, agg.setN st (by omega) _⟩⟩
      · rw [set_ne (by omega)]; exact u1
      · rw [set_ne (by omega)]; exact u2
      · rw [set_same (Lt.of u3)]; simp [wiD]
      · simp [p4]
      · intro w hw
        rcases List.mem_append.mp hw with z | z
        · exact p5 w z
        · simp at z; subst z; exact ⟨mok, by show ys.length ≤ 3; omega, hab, by show -4 ≤ v16 - 4; omega, by show v16 - 4 ≤ 4; omega⟩
    · intro ls S' hj
      obtain ⟨x12, x13, x14, x15, ws, rfl, p1, p2, p3, p4', p5', p6'⟩ := (hJ _ _ _).mp hj
      simp [hod, p2, p3]
      refine ⟨by omega, by omega, ⟨cs, t1, t2, q, bs, ws⟩, rfl, ?_, p6'⟩
      have hevery : Off.every ⟨cs, t1, t2, q, bs, ws⟩ = ev := by unfold Off.every; rw [hev, hnms]
      exact { n1 := td1.node, n2 := td2.node, len := lcs, up := srt, nd := nd, l1 := lv1, l2 := lv2, k1 := by show t1.nm.length + t2.nm.length ≤ 12; omega,
              d1 := by have := td1.dpt; show t1.dpt ≤ 4; omega, d2 := by have := td2.dpt; show t2.dpt ≤ 4; omega, short := hshort, q0 := ⟨q1, by show q ≤ most; omega⟩,
              bsub := by rw [hevery]; exact p4, bok := p5, wlen := by show ws.length ≤ 3; omega, wok := by rw [hevery]; exact p5' }
end
end PV

set_option Elab.async false
set_option linter.all false
set_option maxRecDepth 100000
set_option maxHeartbeats 1000000
/-! Arcs, by PV. -/
namespace PV
open PySem

def root : T → Str
  | .node n _ => n
  | .leaf c => c
/-- the knot that holds a leaf -/
def hOf (t : T) (c : Str) : Str := (((t.hd Str.empty).find? fun p => decide (p.1 = c)).map (·.2)).getD Str.empty
namespace T
mutual
theorem hd_lv : ∀ (t : T) (n : Str), (t.hd n).map (·.1) = t.lv
  | .leaf _, _ => rfl
  | .node _ ps, _ => by simp only [hd, lv, hdL_lv ps]
theorem hdL_lv : ∀ (ts : List T) (n : Str), (hdL ts n).map (·.1) = lvL ts
  | [], _ => rfl
  | t :: ts, n => by simp only [hdL, lvL, List.map_append, hd_lv t n, hdL_lv ts n]
end
mutual
theorem lo_kn : ∀ (t : T) (ab : Option Str), (t.lo ab).map (fun q => (q.1, q.2.2)) = t.kn ab
  | .leaf _, _ => rfl
  | .node n ps, ab => by simp only [lo, kn, List.map_cons, loL_knL ps (some n)]
theorem loL_knL : ∀ (ts : List T) (ab : Option Str), (loL ts ab).map (fun q => (q.1, q.2.2)) = knL ts ab
  | [], _ => rfl
  | t :: ts, ab => by simp only [loL, knL, List.map_append, lo_kn t ab, loL_knL ts ab]
end
mutual
theorem kn_some : ∀ (t : T) (ab : Option Str), ab.isSome = true → ∀ p ∈ t.kn ab, p.2.isSome = true
  | .leaf _, _, _ => by simp [kn]
  | .node n ps, ab, h => fun p hp => by
    simp only [kn] at hp
    rcases List.mem_cons.mp hp with rfl | hp
    · exact h
    · exact knL_some ps (some n) rfl p hp
theorem knL_some : ∀ (ts : List T) (ab : Option Str), ab.isSome = true → ∀ p ∈ knL ts ab, p.2.isSome = true
  | [], _, _ => by simp [knL]
  | t :: ts, ab, h => fun p hp => by
    simp only [knL] at hp
    rcases List.mem_append.mp hp with hp | hp
    · exact kn_some t ab h p hp
    · exact knL_some ts ab h p hp
end
end T
theorem fn_of_nodup {t : T} (h : t.lv.Nodup) : ∀ c a b, (c, a) ∈ t.hd Str.empty → (c, b) ∈ t.hd Str.empty → a = b := by
  rw [← T.hd_lv t Str.empty] at h
  have key : ∀ l : List (Str × Str), (l.map (·.1)).Nodup → ∀ c a b, (c, a) ∈ l → (c, b) ∈ l → a = b := by
    intro l
    induction l with
    | nil => intro _ c a b h; cases h
    | cons p l ih =>
      intro hn c a b h1 h2
      rw [List.map_cons, List.nodup_cons] at hn
      rcases List.mem_cons.mp h1 with e1 | h1 <;> rcases List.mem_cons.mp h2 with e2 | h2
      · rw [← e1] at e2; exact (Prod.mk.inj e2).2.symm
      · exact absurd (List.mem_map.mpr ⟨(c, b), h2, by rw [← e1]⟩) hn.1
      · exact absurd (List.mem_map.mpr ⟨(c, a), h1, by rw [← e2]⟩) hn.1
      · exact ih hn.2 c a b h1 h2
  exact key _ h
theorem hOf_mem {t : T} {c : Str} (h : c ∈ t.lv) : (c, hOf t c) ∈ t.hd Str.empty := by
  rw [← T.hd_lv t Str.empty] at h
  obtain ⟨p, hp, rfl⟩ := List.mem_map.mp h
  unfold hOf
  cases q : (t.hd Str.empty).find? fun x => decide (x.1 = p.1) with
  | none =>
    rw [List.find?_eq_none] at q
    exact absurd (decide_eq_true rfl) (q p hp)
  | some x =>
    have h1 := List.mem_of_find?_eq_some q
    have h2 : x.1 = p.1 := by
      have := List.find?_some q
      exact of_decide_eq_true this
    show (p.1, x.2) ∈ _
    rw [← h2]
    exact h1
/-- the arcs of an office -/
def k1 (t : T) : List (Str × Str × Str) := (t.kn none).tail.map fun p => (p.1, p.2.getD Str.empty, p.1)
def k2 (t : T) : List (Str × Str × Str) := (t.kn none).tail.map fun p => (p.1, p.1, p.2.getD Str.empty)
def arcsOf (cs : List Str) (t1 t2 : T) : List (Str × Str × Str) := (root t1, root t2, root t1) :: (k1 t1 ++ (k2 t2 ++ cs.map fun c => (c, hOf t1 c, hOf t2 c)))
def aD (a : Str × Str × Str) : D := .tup [.str a.1, .str a.2.1, .str a.2.2]

theorem callF_fill {P : List Df} {m n f : Nat} {df : Df} {ds full : List D} {S : Store} (h : P[f]? = some df) (h1 : fill df ds = some full) (h2 : fill df full = some full) : callF P m n f ds S = callF P m n f full S := by
  unfold callF
  rw [h]
  simp only [h1, h2]
def bArcs (iK iH : Nat) : S := .cons (.par3 1 2 3 (.ix (.v 0) (.int 0)) (.ix (.v 0) (.int 1)) (.ix (.v 0) (.int 2))) (.cons (.set 4 (.lst (.cons (.tup (.cons (.ix (.v 2) (.int 0)) (.cons (.ix (.v 3) (.int 0)) (.cons (.ix (.v 2) (.int 0)) (.nil))))) (.nil)))) (.cons (.ex (.mt .extend (.v 4) (.cons (.lc [("name", 5), ("above", 6)] (.tup (.cons (.nm 5) (.cons (.nm 6) (.nil)))) (.q (.sl (.call iK (.cons (.v 2) (.nil))) (.int 1) .nil)) .nil (.tup (.cons (.v 5) (.cons (.v 6) (.cons (.v 5) (.nil)))))) (.nil)))) (.cons (.ex (.mt .extend (.v 4) (.cons (.lc [("name", 5), ("above", 6)] (.tup (.cons (.nm 5) (.cons (.nm 6) (.nil)))) (.q (.sl (.call iK (.cons (.v 3) (.nil))) (.int 1) .nil)) .nil (.tup (.cons (.v 5) (.cons (.v 5) (.cons (.v 6) (.nil)))))) (.nil)))) (.cons (.set 7 (.call iH (.cons (.v 2) (.nil)))) (.cons (.set 8 (.call iH (.cons (.v 3) (.nil)))) (.cons (.ex (.mt .extend (.v 4) (.cons (.lc [("cell", 9)] (.nm 9) (.q (.v 1)) .nil (.tup (.cons (.v 9) (.cons (.ix (.v 7) (.v 9)) (.cons (.ix (.v 8) (.v 9)) (.nil)))))) (.nil)))) (.cons (.ret (.bi .tuple (.cons (.v 4) (.nil)))) (.nil))))))))
section
variable {P : List Df} {m f n : Nat} {ps qs rs : List Str}
/-- what arcs_of is told: both trees' leaves are the cells -/
structure ArcIn (cs : List Str) (t1 t2 : T) : Prop where
  n1 : t1.isNode = true
  n2 : t2.isNode = true
  d1 : t1.lv.Nodup
  d2 : t2.lv.Nodup
  l1 : ∀ c ∈ cs, c ∈ t1.lv
  l2 : ∀ c ∈ cs, c ∈ t2.lv
  z0 : cs.length ≤ 3000
  z1 : t1.sz ≤ 3000
  z2 : t2.sz ≤ 3000
theorem sp_arcs {iK iH : Nat} (hK : P[iK]? = some ⟨2, 4, [.non], ps, bKnotsOf iK⟩) (hH : P[iH]? = some ⟨1, 6, [], qs, bHolders⟩) (h : P[f]? = some ⟨1, 10, [], rs, bArcs iK iH⟩) (hm : 10000 < m) {cs : List Str} {t1 t2 : T} (a : ArcIn cs t1 t2) (rest : List D) (S : Store) (hd1 : t1.dpt ≤ n) (hd2 : t2.dpt ≤ n) :
    wp (callF P m (n + 2) f [.tup (.tup (cs.map D.str) :: t1.d :: t2.d :: rest)] S) fun d S' => d = .tup ((arcsOf cs t1 t2).map aD) ∧ Ext [] S S' := by
  have hb := big
  refine wp_callF h rfl ?_
  obtain ⟨n1, p1, rfl⟩ : ∃ n p, t1 = .node n p := by
    have := a.n1
    cases t1 with
    | leaf c => cases this
    | node n p => exact ⟨n, p, rfl⟩
  obtain ⟨n2, p2, rfl⟩ : ∃ n p, t2 = .node n p := by
    have := a.n2
    cases t2 with
    | leaf c => cases this
    | node n p => exact ⟨n, p, rfl⟩
  simp [bArcs, startD, T.d]
  have l1 := T.szL_len p1
  have l2 := T.szL_len p2
  have z1 := a.z1
  have z2 := a.z2
  have z0 := a.z0
  simp only [T.sz] at z1 z2
  have k1l := T.knL_len p1 (some n1)
  have k2l := T.knL_len p2 (some n2)
  refine ⟨by omega, by omega, ?_⟩
  have ct : ∀ (nm : Str) (p : List T) (S' : Store), callF P m (n + 1) iK [.tup [.str nm, .tup (T.dL p)]] S' = callF P m (n + 1) iK [T.d (.node nm p), oD none] S' := fun nm p S' => callF_fill hK rfl rfl
  obtain ⟨S1, hS1⟩ : ∃ S1 : Store, S1 = S ++ [O.lst [D.tup [D.str n1, D.str n2, D.str n1]]] := ⟨_, rfl⟩
  rw [← hS1, ct]
  have e1 : S1[S.length]? = some (.lst [D.tup [D.str n1, D.str n2, D.str n1]]) := by rw [hS1]; simp
  have x1 : Ext [] S S1 := by rw [hS1]; exact Ext.push _ _ _
  have f1 := lt_of_some e1
  refine wp_mono (sp_knots hK hm n (.node n1 p1) none S1 rfl hd1 (by simp only [T.sz]; omega)) ?_
  rintro _ S2 ⟨r2, rfl, a1, a2, a3⟩
  have e2 := a3.at_ _ _ e1 (by simp)
  have kn1 : ((T.node n1 p1).kn none).map kD = kD (n1, none) :: (T.knL p1 (some n1)).map kD := rfl
  rw [kn1] at a1
  simp [e2, a1]
  obtain ⟨S3, hS3⟩ : ∃ S3 : Store, S3 = S2 ++ [O.lst ((T.knL p1 (some n1)).map kD)] := ⟨_, rfl⟩
  have hS3' : S2 ++ [O.lst (List.map kD (T.knL p1 (some n1))), O.lst []] = S3 ++ [O.lst []] := by rw [hS3]; simp
  have l3 : S3.length = S2.length + 1 := by rw [hS3]; simp
  rw [hS3', ← l3]
  have x3 : Ext [] S S3 := by rw [hS3]; exact (x1.trans a3).pushed _
  have e3 : S3[S2.length]? = some (.lst ((T.knL p1 (some n1)).map kD)) := by rw [hS3]; simp
  have g3 : S3[S.length]? = some (.lst [D.tup [D.str n1, D.str n2, D.str n1]]) := by rw [hS3, ap_lt (Lt.of e2)]; exact e2
  obtain ⟨I, hI⟩ : ∃ I : Nat → List D → Store → Prop, ∀ i acc S4, I i acc S4 ↔ acc = ((T.knL p1 (some n1)).take i).map (fun p => aD (p.1, p.2.getD Str.empty, p.1)) ∧ Ext [] S3 S4 := ⟨_, fun _ _ _ => Iff.rfl⟩
  refine wp_lcO (ds := (T.knL p1 (some n1)).map kD) I (fun i acc S4 hi => ((hI _ _ _).mp hi).2.at_ _ _ e3 (by simp)) (by simp; omega) ((hI _ _ _).mpr ⟨by simp, Ext.push _ _ _⟩) (by simp) ?_ ?_
  · intro i d acc S4 hd hi hr
    obtain ⟨rfl, y⟩ := (hI _ _ _).mp hi
    rw [List.getElem?_map] at hd
    obtain ⟨⟨x, ab⟩, hz, rfl⟩ := Option.map_eq_some_iff.mp hd
    have hsome := T.knL_some p1 (some n1) rfl (x, ab) (List.mem_of_getElem? hz)
    have hl := lt_of_some hz
    cases ab with
    | none => cases hsome
    | some y2 =>
      refine ⟨_, by simp [kD, oD]; rfl, ?_⟩
      unfold lcTurn
      simp
      refine ⟨by omega, by simpa using hr, by omega, (hI _ _ _).mpr ⟨?_, y.setN (Nat.le_refl _) _⟩⟩
      rw [take_at hz]
      simp [aD]
  intro acc S4 hi hr4
  obtain ⟨rfl, y4⟩ := (hI _ _ _).mp hi
  rw [List.length_map, List.take_length] at hr4
  have g4 := y4.at_ _ _ g3 (by simp)
  have hk1 : k1 (.node n1 p1) = (T.knL p1 (some n1)).map fun p => (p.1, p.2.getD Str.empty, p.1) := rfl
  have hr4' : S4[S3.length]? = some (.lst ((k1 (.node n1 p1)).map aD)) := by rw [hr4, hk1, List.map_map]; rfl
  have lk1 : (k1 (.node n1 p1)).length ≤ 3000 := by rw [hk1, List.length_map]; omega
  simp [hr4', g4, set_same (Lt.of g4)]
  refine ⟨by omega, ?_⟩
  obtain ⟨S5, hS5⟩ : ∃ S5 : Store, S5 = S4.set S.length (O.lst (D.tup [D.str n1, D.str n2, D.str n1] :: (k1 (.node n1 p1)).map aD)) := ⟨_, rfl⟩
  rw [← hS5, ct]
  have x5 : Ext [] S S5 := by rw [hS5]; exact (x3.trans y4).setN (Nat.le_refl _) _
  have e5 : S5[S.length]? = some (.lst (D.tup [D.str n1, D.str n2, D.str n1] :: (k1 (.node n1 p1)).map aD)) := by rw [hS5, set_same (Lt.of g4)]
  refine wp_mono (sp_knots hK hm n (.node n2 p2) none S5 rfl hd2 (by simp only [T.sz]; omega)) ?_
  rintro _ S6 ⟨r6, rfl, b1, b2, b3⟩
  have e6 := b3.at_ _ _ e5 (by simp)
  have kn2 : ((T.node n2 p2).kn none).map kD = kD (n2, none) :: (T.knL p2 (some n2)).map kD := rfl
  rw [kn2] at b1
  simp [e6, b1]
  obtain ⟨S7, hS7⟩ : ∃ S7 : Store, S7 = S6 ++ [O.lst ((T.knL p2 (some n2)).map kD)] := ⟨_, rfl⟩
  have hS7' : S6 ++ [O.lst (List.map kD (T.knL p2 (some n2))), O.lst []] = S7 ++ [O.lst []] := by rw [hS7]; simp
  have l7 : S7.length = S6.length + 1 := by rw [hS7]; simp
  rw [hS7', ← l7]
  have x7 : Ext [] S S7 := by rw [hS7]; exact (x5.trans b3).pushed _
  have e7 : S7[S6.length]? = some (.lst ((T.knL p2 (some n2)).map kD)) := by rw [hS7]; simp
  have g7 : S7[S.length]? = some (.lst (D.tup [D.str n1, D.str n2, D.str n1] :: (k1 (.node n1 p1)).map aD)) := by rw [hS7, ap_lt (Lt.of e6)]; exact e6
  obtain ⟨I2, hI2⟩ : ∃ I2 : Nat → List D → Store → Prop, ∀ i acc S8, I2 i acc S8 ↔ acc = ((T.knL p2 (some n2)).take i).map (fun p => aD (p.1, p.1, p.2.getD Str.empty)) ∧ Ext [] S7 S8 := ⟨_, fun _ _ _ => Iff.rfl⟩
  refine wp_lcO (ds := (T.knL p2 (some n2)).map kD) I2 (fun i acc S8 hi => ((hI2 _ _ _).mp hi).2.at_ _ _ e7 (by simp)) (by simp; omega) ((hI2 _ _ _).mpr ⟨by simp, Ext.push _ _ _⟩) (by simp) ?_ ?_
  · intro i d acc S8 hd hi hr
    obtain ⟨rfl, y⟩ := (hI2 _ _ _).mp hi
    rw [List.getElem?_map] at hd
    obtain ⟨⟨x, ab⟩, hz, rfl⟩ := Option.map_eq_some_iff.mp hd
    have hsome := T.knL_some p2 (some n2) rfl (x, ab) (List.mem_of_getElem? hz)
    have hl := lt_of_some hz
    cases ab with
    | none => cases hsome
    | some y2 =>
      refine ⟨_, by simp [kD, oD]; rfl, ?_⟩
      unfold lcTurn
      simp
      refine ⟨by omega, by simpa using hr, by omega, (hI2 _ _ _).mpr ⟨?_, y.setN (Nat.le_refl _) _⟩⟩
      rw [take_at hz]
      simp [aD]
  intro acc S8 hi hr8
  obtain ⟨rfl, y8⟩ := (hI2 _ _ _).mp hi
  rw [List.length_map, List.take_length] at hr8
  have g8 := y8.at_ _ _ g7 (by simp)
  have hk2 : k2 (.node n2 p2) = (T.knL p2 (some n2)).map fun p => (p.1, p.1, p.2.getD Str.empty) := rfl
  have hr8' : S8[S7.length]? = some (.lst ((k2 (.node n2 p2)).map aD)) := by rw [hr8, hk2, List.map_map]; rfl
  have lk2 : (k2 (.node n2 p2)).length ≤ 3000 := by rw [hk2, List.length_map]; omega
  simp [hr8', g8, set_same (Lt.of g8)]
  refine ⟨by omega, ?_⟩
  obtain ⟨S9, hS9⟩ : ∃ S9 : Store, S9 = S8.set S.length (O.lst (D.tup [D.str n1, D.str n2, D.str n1] :: ((k1 (.node n1 p1)).map aD ++ (k2 (.node n2 p2)).map aD))) := ⟨_, rfl⟩
  rw [← hS9]
  have x9 : Ext [] S S9 := by rw [hS9]; exact (x7.trans y8).setN (Nat.le_refl _) _
  have e9 : S9[S.length]? = some (.lst (D.tup [D.str n1, D.str n2, D.str n1] :: ((k1 (.node n1 p1)).map aD ++ (k2 (.node n2 p2)).map aD))) := by rw [hS9, set_same (Lt.of g8)]
  have td : ∀ (nm : Str) (p : List T), D.tup [.str nm, .tup (T.dL p)] = T.d (.node nm p) := fun nm p => rfl
  rw [td n1 p1, td n2 p2]
  refine wp_mono (sp_holders (n := n) hH hm (.node n1 p1) S9 rfl (by simp only [T.sz]; omega) (fn_of_nodup a.d1)) ?_
  rintro _ S10 ⟨h1, kv1, rfl, c1, c2, c3, c4⟩
  simp
  refine wp_mono (sp_holders (n := n) hH hm (.node n2 p2) S10 rfl (by simp only [T.sz]; omega) (fn_of_nodup a.d2)) ?_
  rintro _ S11 ⟨h2, kv2, rfl, d1, d2, d3, d4⟩
  have c11 := d4.at_ _ _ c1 (by simp)
  have e11 := d4.at_ _ _ (c4.at_ _ _ e9 (by simp)) (by simp)
  have x11 := (x9.trans c4).trans d4
  simp [e11]
  obtain ⟨I3, hI3⟩ : ∃ I3 : Nat → List D → Store → Prop, ∀ i acc S12, I3 i acc S12 ↔ acc = (cs.take i).map (fun c => aD (c, hOf (.node n1 p1) c, hOf (.node n2 p2) c)) ∧ Ext [] S11 S12 := ⟨_, fun _ _ _ => Iff.rfl⟩
  refine wp_lcT (ds := cs.map D.str) (.inl rfl) I3 (by simp; omega) ((hI3 _ _ _).mpr ⟨by simp, Ext.push _ _ _⟩) (by simp) ?_ ?_
  · intro i d acc S12 hd hi hr
    obtain ⟨rfl, y⟩ := (hI3 _ _ _).mp hi
    rw [List.getElem?_map] at hd
    obtain ⟨c, hz, rfl⟩ := Option.map_eq_some_iff.mp hd
    have hl := lt_of_some hz
    have hc := List.mem_of_getElem? hz
    have w1 := c2 c _ (hOf_mem (a.l1 c hc))
    have w2 := d2 c _ (hOf_mem (a.l2 c hc))
    have q1 := y.at_ _ _ c11 (by simp)
    have q2 := y.at_ _ _ d1 (by simp)
    refine ⟨_, rfl, ?_⟩
    unfold lcTurn
    simp [q1, q2, w1, w2]
    refine ⟨by omega, by simpa using hr, by omega, (hI3 _ _ _).mpr ⟨?_, y.setN (Nat.le_refl _) _⟩⟩
    rw [take_at hz]
    simp [aD]
  intro acc S12 hi hr12
  obtain ⟨rfl, y12⟩ := (hI3 _ _ _).mp hi
  rw [List.length_map, List.take_length] at hr12
  have g12 := y12.at_ _ _ e11 (by simp)
  simp [hr12, g12, set_same (Lt.of g12)]
  refine ⟨by omega, ?_, (x11.trans y12).setN (Nat.le_refl _) _⟩
  simp [arcsOf, aD, root]
end
end PV

set_option Elab.async false
set_option linter.all false
set_option maxRecDepth 100000
set_option maxHeartbeats 1000000
/-! The law's arcs, by PV. -/
namespace PV
open PySem

theorem lo_tail (t : T) (ht : t.isNode = true) (g : Str → Str → Str × Str × Str) : (t.lo none).filterMap (fun q => q.2.2.map fun a => aD (g q.1 a)) = ((t.kn none).tail.map fun p => g p.1 (p.2.getD Str.empty)).map aD := by
  have e : (t.lo none).filterMap (fun q => q.2.2.map fun a => aD (g q.1 a)) = ((t.lo none).map fun q => (q.1, q.2.2)).filterMap (fun p => p.2.map fun a => aD (g p.1 a)) := by
    rw [List.filterMap_map]; rfl
  rw [e, T.lo_kn]
  cases t with
  | leaf c => cases ht
  | node n ps =>
    have hs := T.knL_some ps (some n) rfl
    simp only [T.kn, List.filterMap_cons, Option.map_none, List.tail_cons]
    generalize T.knL ps (some n) = l at hs
    induction l with
    | nil => rfl
    | cons p l ih =>
      obtain ⟨x, ab⟩ := p
      cases ab with
      | none => exact absurd (hs (x, none) List.mem_cons_self) (by simp)
      | some y =>
        have := ih fun p hp => hs p (List.mem_cons_of_mem _ hp)
        simp only [List.filterMap_cons, Option.map_some, List.map_cons, this]; rfl
def bLawArcs (iK iA : Nat) : S := .cons (.par2 1 2 (.call iK (.cons (.ix (.v 0) (.int 1)) (.nil))) (.call iK (.cons (.ix (.v 0) (.int 2)) (.nil)))) (.cons (.set 3 (.lst (.cons (.tup (.cons (.ix (.ix (.v 0) (.int 1)) (.int 0)) (.cons (.ix (.ix (.v 0) (.int 2)) (.int 0)) (.cons (.ix (.ix (.v 0) (.int 1)) (.int 0)) (.nil))))) (.nil)))) (.cons (.set 3 (.bin .add (.v 3) (.lc [("name", 4), ("cells", 5), ("above", 6)] (.tup (.cons (.nm 4) (.cons (.nm 5) (.cons (.nm 6) (.nil))))) (.q (.v 1)) (.cmp .isn (.v 6) (.non)) (.tup (.cons (.v 4) (.cons (.v 6) (.cons (.v 4) (.nil)))))))) (.cons (.set 3 (.bin .add (.v 3) (.lc [("name", 4), ("cells", 5), ("above", 6)] (.tup (.cons (.nm 4) (.cons (.nm 5) (.cons (.nm 6) (.nil))))) (.q (.v 2)) (.cmp .isn (.v 6) (.non)) (.tup (.cons (.v 4) (.cons (.v 4) (.cons (.v 6) (.nil)))))))) (.cons (.asg (.tup (.cons (.nm 7) (.cons (.nm 8) (.nil)))) (.tup (.cons (.call iA (.cons (.ix (.v 0) (.int 1)) (.nil))) (.cons (.call iA (.cons (.ix (.v 0) (.int 2)) (.nil))) (.nil))))) (.cons (.ret (.bi .tuple (.cons (.bin .add (.v 3) (.lc [("cell", 9)] (.nm 9) (.q (.ix (.v 0) (.int 0))) .nil (.tup (.cons (.v 9) (.cons (.ix (.v 7) (.v 9)) (.cons (.ix (.v 8) (.v 9)) (.nil))))))) (.nil)))) (.nil))))))
section
variable {P : List Df} {m f n : Nat} {ps qs rs : List Str}
/-- entries of knots, one turn: what stands at d -/
theorem KE.get {S : Store} {bad : List Nat} {q : Str × List Str × Option Str} {d : D} (h : KE S bad q d) : ∃ e c, d = .ref e ∧ S[e]? = some (.lst [.str q.1, .ref c, oD q.2.2]) := by
  obtain ⟨e, c, cs, h1, h2, _⟩ := h
  exact ⟨e, c, h1, h2⟩
theorem sp_lawarcs {iK iA : Nat} (hK : P[iK]? = some ⟨1, 11, [], ps, bKnots⟩) (hA : P[iA]? = some ⟨1, 7, [], qs, bAbove⟩) (h : P[f]? = some ⟨1, 10, [], rs, bLawArcs iK iA⟩) (hm : 10000 < m) {cs : List Str} {t1 t2 : T} (a : ArcIn cs t1 t2) (rest : List D) (S : Store) :
    wp (callF P m (n + 2) f [.tup (.tup (cs.map D.str) :: t1.d :: t2.d :: rest)] S) fun d S' => d = .tup ((arcsOf cs t1 t2).map aD) ∧ Ext [] S S' := by
  have hb := big
  have z1 := a.z1
  have z2 := a.z2
  have z0 := a.z0
  have k1l := lo_len t1 none
  have k2l := lo_len t2 none
  refine wp_callF h rfl ?_
  simp [bLawArcs, startD]
  refine wp_mono (sp_lawknots (n := n) hK hm t1 S a.n1 (by omega) [] (by simp)) ?_
  rintro _ S1 ⟨r1, d1, rfl, a1, a2, a3, a4⟩
  simp
  refine wp_mono (sp_lawknots (n := n) hK hm t2 S1 a.n2 (by omega) [] (by simp)) ?_
  rintro _ S2 ⟨r2, d2, rfl, b1, b2, b3, b4⟩
  have c1 := b4.at_ _ _ a1 (by simp)
  have kA : KN S2 [] (t1.lo none) d1 := a2.mono b4 (by simp) (by simp)
  have kB : KN S2 [] (t2.lo none) d2 := b2.mono (Ext.refl [] S2) (by simp) (by simp)
  obtain ⟨n1, p1, h1⟩ : ∃ n p, t1 = .node n p := by
    have := a.n1
    cases t1 with
    | leaf c => cases this
    | node n p => exact ⟨n, p, rfl⟩
  obtain ⟨n2, p2, h2⟩ : ∃ n p, t2 = .node n p := by
    have := a.n2
    cases t2 with
    | leaf c => cases this
    | node n p => exact ⟨n, p, rfl⟩
  have r1d : t1.d = .tup [.str (root t1), .tup (T.dL p1)] := by rw [h1]; rfl
  have r2d : t2.d = .tup [.str (root t2), .tup (T.dL p2)] := by rw [h2]; rfl
  have x2 : Ext [] S S2 := a4.trans b4
  have lA := kA.len
  have lB := kB.len
  obtain ⟨od, hod⟩ : ∃ od : D, od = D.tup (D.tup (cs.map D.str) :: t1.d :: t2.d :: rest) := ⟨_, rfl⟩
  have o0 : ∀ S, ixD od (.int 0) S = some (D.tup (cs.map D.str)) := fun S => by rw [hod]; simp
  have o1 : ∀ S, ixD od (.int 1) S = some t1.d := fun S => by rw [hod]; simp
  have o2 : ∀ S, ixD od (.int 2) S = some t2.d := fun S => by rw [hod]; simp
  have t10 : ∀ S, ixD t1.d (.int 0) S = some (D.str (root t1)) := fun S => by rw [r1d]; simp
  have t20 : ∀ S, ixD t2.d (.int 0) S = some (D.str (root t2)) := fun S => by rw [r2d]; simp
  rw [← hod]
  simp [o1, o2, t10, t20]
  refine ⟨by omega, by omega, ?_⟩
  obtain ⟨S3, hS3⟩ : ∃ S3 : Store, S3 = S2 ++ [O.lst [D.tup [D.str (root t1), D.str (root t2), D.str (root t1)]]] := ⟨_, rfl⟩
  have x3 : Ext [] S2 S3 := by rw [hS3]; exact Ext.push _ _ _
  have l3 : S3.length = S2.length + 1 := by rw [hS3]; simp
  have e3 : S3[S2.length]? = some (.lst [D.tup [D.str (root t1), D.str (root t2), D.str (root t1)]]) := by rw [hS3]; simp
  have c3 := x3.at_ _ _ c1 (by simp)
  have b3' := x3.at_ _ _ b1 (by simp)
  rw [← hS3, c3]
  simp
  obtain ⟨I, hI⟩ : ∃ I : Nat → List D → Store → Prop, ∀ i acc S4, I i acc S4 ↔ acc = ((t1.lo none).take i).filterMap (fun q => q.2.2.map fun a => aD (q.1, a, q.1)) ∧ Ext [] S3 S4 := ⟨_, fun _ _ _ => Iff.rfl⟩
  have flen : ∀ (l : List (Str × List Str × Option Str)) (g : Str → Str → Str × Str × Str) (i : Nat), l.length ≤ 3000 → ((l.take i).filterMap (fun q => q.2.2.map fun a => aD (g q.1 a))).length ≤ 3000 := fun l g i hl => by
    refine Nat.le_trans (List.length_filterMap_le _ _) ?_
    rw [List.length_take]; omega
  refine wp_lcO (ds := d1) I (fun i acc S4 hi => ((hI _ _ _).mp hi).2.at_ _ _ c3 (by simp)) (by omega) ((hI _ _ _).mpr ⟨by simp, Ext.push _ _ _⟩) (by simp) ?_ ?_
  · intro i d acc S4 hd hi hr
    obtain ⟨rfl, y⟩ := (hI _ _ _).mp hi
    obtain ⟨q, hq, ke⟩ := kA.at_ hd
    obtain ⟨e, c, rfl, w1⟩ := ke.get
    have w2 := y.at_ _ _ (x3.at_ _ _ w1 (by simp)) (by simp)
    refine ⟨_, by simp [w2]; rfl, ?_⟩
    have hfl := flen (t1.lo none) (fun x a => (x, a, x)) i (by omega)
    unfold lcTurn
    obtain ⟨nm, cc, ab⟩ := q
    cases ab with
    | none =>
      simp [oD]
      refine ⟨by simpa using hr, (hI _ _ _).mpr ⟨?_, y⟩⟩
      rw [take_at hq]; simp [List.filterMap_append]
    | some a =>
      simp [oD]
      refine ⟨by omega, by simpa using hr, by omega, (hI _ _ _).mpr ⟨?_, y.setN (Nat.le_refl _) _⟩⟩
      rw [take_at hq]; simp [List.filterMap_append, aD]
  intro acc S4 hi hr4
  obtain ⟨rfl, y4⟩ := (hI _ _ _).mp hi
  rw [← lA, List.take_length, lo_tail t1 a.n1 (fun x a => (x, a, x))] at hr4
  have hk1 : ((t1.kn none).tail.map fun p => (p.1, p.2.getD Str.empty, p.1)) = k1 t1 := rfl
  rw [hk1] at hr4
  have lk1 : (k1 t1).length ≤ 3000 := by
    have := T.kn_len t1 none
    unfold k1; simp; omega
  have e4 := y4.at_ _ _ e3 (by simp)
  have b4' := y4.at_ _ _ b3' (by simp)
  simp [hr4, e4, ap_lt (Lt.of b4'), b4']
  refine ⟨by omega, ?_⟩
  obtain ⟨S5, hS5⟩ : ∃ S5 : Store, S5 = S4 ++ [O.lst (D.tup [D.str (root t1), D.str (root t2), D.str (root t1)] :: (k1 t1).map aD)] := ⟨_, rfl⟩
  have hS5' : S4 ++ [O.lst (D.tup [D.str (root t1), D.str (root t2), D.str (root t1)] :: List.map aD (k1 t1)), O.lst []] = S5 ++ [O.lst []] := by rw [hS5]; simp
  have l5 : S5.length = S4.length + 1 := by rw [hS5]; simp
  have x5 : Ext [] S4 S5 := by rw [hS5]; exact Ext.push _ _ _
  have e5 : S5[S4.length]? = some (.lst (D.tup [D.str (root t1), D.str (root t2), D.str (root t1)] :: (k1 t1).map aD)) := by rw [hS5]; simp
  have x25 : Ext [] S2 S5 := (x3.trans y4).trans x5
  have b5 := x5.at_ _ _ b4' (by simp)
  rw [hS5', ← l5]
  obtain ⟨I2, hI2⟩ : ∃ I2 : Nat → List D → Store → Prop, ∀ i acc S6, I2 i acc S6 ↔ acc = ((t2.lo none).take i).filterMap (fun q => q.2.2.map fun a => aD (q.1, q.1, a)) ∧ Ext [] S5 S6 := ⟨_, fun _ _ _ => Iff.rfl⟩
  refine wp_lcO (ds := d2) I2 (fun i acc S6 hi => ((hI2 _ _ _).mp hi).2.at_ _ _ b5 (by simp)) (by omega) ((hI2 _ _ _).mpr ⟨by simp, Ext.push _ _ _⟩) (by simp) ?_ ?_
  · intro i d acc S6 hd hi hr
    obtain ⟨rfl, y⟩ := (hI2 _ _ _).mp hi
    obtain ⟨q, hq, ke⟩ := kB.at_ hd
    obtain ⟨e, c, rfl, w1⟩ := ke.get
    have w2 := y.at_ _ _ (x25.at_ _ _ w1 (by simp)) (by simp)
    refine ⟨_, by simp [w2]; rfl, ?_⟩
    have hfl := flen (t2.lo none) (fun x a => (x, x, a)) i (by omega)
    unfold lcTurn
    obtain ⟨nm, cc, ab⟩ := q
    cases ab with
    | none =>
      simp [oD]
      refine ⟨by simpa using hr, (hI2 _ _ _).mpr ⟨?_, y⟩⟩
      rw [take_at hq]; simp [List.filterMap_append]
    | some a =>
      simp [oD]
      refine ⟨by omega, by simpa using hr, by omega, (hI2 _ _ _).mpr ⟨?_, y.setN (Nat.le_refl _) _⟩⟩
      rw [take_at hq]; simp [List.filterMap_append, aD]
  intro acc S6 hi hr6
  obtain ⟨rfl, y6⟩ := (hI2 _ _ _).mp hi
  rw [← lB, List.take_length, lo_tail t2 a.n2 (fun x a => (x, x, a))] at hr6
  have hk2 : ((t2.kn none).tail.map fun p => (p.1, p.1, p.2.getD Str.empty)) = k2 t2 := rfl
  rw [hk2] at hr6
  have lk2 : (k2 t2).length ≤ 3000 := by
    have := T.kn_len t2 none
    unfold k2; simp; omega
  have e6 := y6.at_ _ _ e5 (by simp)
  simp [hr6, e6, o1, o2]
  refine ⟨by omega, ?_⟩
  obtain ⟨S7, hS7⟩ : ∃ S7 : Store, S7 = S6 ++ [O.lst (D.tup [D.str (root t1), D.str (root t2), D.str (root t1)] :: ((k1 t1).map aD ++ (k2 t2).map aD))] := ⟨_, rfl⟩
  rw [← hS7]
  have x7 : Ext [] S6 S7 := by rw [hS7]; exact Ext.push _ _ _
  have e7 : S7[S6.length]? = some (.lst (D.tup [D.str (root t1), D.str (root t2), D.str (root t1)] :: ((k1 t1).map aD ++ (k2 t2).map aD))) := by rw [hS7]; simp
  have x07 : Ext [] S S7 := (x2.trans x25).trans (y6.trans x7)
  refine wp_mono (sp_above (n := n) hA hm t1 S7 a.n1 (by omega) (fn_of_nodup a.d1)) ?_
  rintro _ S8 ⟨h1', kv1, rfl, f1, f2, f3, f4⟩
  simp [o2]
  refine wp_mono (sp_above (n := n) hA hm t2 S8 a.n2 (by omega) (fn_of_nodup a.d2)) ?_
  rintro _ S9 ⟨h2', kv2, rfl, g1, g2, g3, g4⟩
  have f9 := g4.at_ _ _ f1 (by simp)
  have e9 := g4.at_ _ _ (f4.at_ _ _ e7 (by simp)) (by simp)
  simp [o0]
  refine ⟨by omega, ?_⟩
  obtain ⟨I3, hI3⟩ : ∃ I3 : Nat → List D → Store → Prop, ∀ i acc S10, I3 i acc S10 ↔ acc = (cs.take i).map (fun c => aD (c, hOf t1 c, hOf t2 c)) ∧ Ext [] S9 S10 := ⟨_, fun _ _ _ => Iff.rfl⟩
  refine wp_lcT (ds := cs.map D.str) (.inl rfl) I3 (by simp; omega) ((hI3 _ _ _).mpr ⟨by simp, Ext.push _ _ _⟩) (by simp) ?_ ?_
  · intro i d acc S10 hd hi hr
    obtain ⟨rfl, y⟩ := (hI3 _ _ _).mp hi
    rw [List.getElem?_map] at hd
    obtain ⟨c, hz, rfl⟩ := Option.map_eq_some_iff.mp hd
    have hl := lt_of_some hz
    have hc := List.mem_of_getElem? hz
    have w1 := f2 c _ (hOf_mem (a.l1 c hc))
    have w2 := g2 c _ (hOf_mem (a.l2 c hc))
    have q1 := y.at_ _ _ f9 (by simp)
    have q2 := y.at_ _ _ g1 (by simp)
    refine ⟨_, rfl, ?_⟩
    unfold lcTurn
    simp [q1, q2, w1, w2]
    refine ⟨by omega, by simpa using hr, by omega, (hI3 _ _ _).mpr ⟨?_, y.setN (Nat.le_refl _) _⟩⟩
    rw [take_at hz]
    simp [aD]
  intro acc S10 hi hr10
  obtain ⟨rfl, y10⟩ := (hI3 _ _ _).mp hi
  rw [List.length_map, List.take_length] at hr10
  have e10 := y10.at_ _ _ e9 (by simp)
  simp [hr10, e10]
  refine ⟨by omega, ?_, (((x07.trans f4).trans g4).trans y10).pushed _⟩
  simp [arcsOf, aD]
end
end PV

set_option Elab.async false
set_option linter.all false
set_option maxRecDepth 100000
set_option maxHeartbeats 1000000
/-! Sums and flows, by PV. -/
namespace PV
open PySem

def sumOf (cs : List Str) (ws : List Int) (ls : List Str) : Int := (((cs.zip ws).filter fun p => decide (p.1 ∈ ls)).map (·.2)).sum
theorem in_strs {S : Store} {l : Nat} {es : List Str} {x : Str} (h : S[l]? = some (.lst (es.map D.str))) : inD (.str x) (.ref l) S = some (decide (x ∈ es)) := by
  simp only [inD, h]
  have e1 : flatD (.str x) = true := rfl
  have e2 : (es.map D.str).all flatD = true := by simp [flatD]
  rw [e1, e2]
  simp only [Bool.and_self, if_true]
  congr 1
  induction es with
  | nil => rfl
  | cons e es ih =>
    rw [List.map_cons, List.any_cons]
    have ih' : (List.map D.str es).any (fun y => eqF y (D.str x)) = decide (x ∈ es) := by
      clear h ih e2
      induction es with
      | nil => rfl
      | cons a es ih2 =>
        rw [List.map_cons, List.any_cons, ih2]
        simp only [eqF]
        by_cases q : a = x
        · subst q; simp
        · have q2 : ¬ x = a := fun e => q e.symm
          have q3 : (a == x) = false := by simpa using q
          rw [q3]; simp [q2]
    rw [ih']
    simp only [eqF]
    by_cases q : e = x
    · subst q; simp
    · have q2 : ¬ x = e := fun e => q e.symm
      have q3 : (e == x) = false := by simpa using q
      rw [q3]; simp [q2]
def bSum : S := .cons (.ret (.bi .sum (.cons (.lc [("k", 4)] (.nm 4) (.qr (.bi .len (.cons (.v 2) (.nil)))) (.cmp .isin (.ix (.ix (.v 0) (.int 0)) (.v 4)) (.ix (.v 1) (.v 3))) (.ix (.v 2) (.v 4))) (.nil)))) (.nil)
section
variable {P : List Df} {m f n : Nat} {ps qs rs : List Str}
theorem sp_sum (h : P[f]? = some ⟨4, 5, [], ps, bSum⟩) (hm : 10000 < m) {cs : List Str} {ws : List Int} (hw : ws.length = cs.length) (hz : cs.length ≤ 3000) (rest : List D) {S : Store} {r l : Nat} {kvs : List (L2.Key × D)} {nm : Str} {es ls : List Str} (hr : S[r]? = some (.dct kvs)) (hv : valG kvs (.inr nm) = some (.ref l)) (hl : S[l]? = some (.lst (es.map D.str))) (hp : es.Perm ls) :
    wp (callF P m (n + 1) f [.tup (.tup (cs.map D.str) :: rest), .ref r, .tup (ws.map D.int), .str nm] S) fun d S' => d = .int (sumOf cs ws ls) ∧ Ext [] S S' := by
  have hb := big
  refine wp_callF h rfl ?_
  simp [bSum, startD]
  refine ⟨by omega, ?_⟩
  obtain ⟨I, hI⟩ : ∃ I : Nat → List D → Store → Prop, ∀ i acc S4, I i acc S4 ↔ acc = ((((cs.zip ws).take i).filter fun p => decide (p.1 ∈ ls)).map (·.2)).map D.int ∧ Ext [] S S4 := ⟨_, fun _ _ _ => Iff.rfl⟩
  refine wp_lcR I (by omega) ((hI _ _ _).mpr ⟨by simp, Ext.push _ _ _⟩) (by simp) ?_ ?_
  · intro i acc S4 hi hi2 hr4
    obtain ⟨rfl, y⟩ := (hI _ _ _).mp hi2
    have w1 := y.at_ _ _ hr (by simp)
    have w2 := y.at_ _ _ hl (by simp)
    have hic : i < cs.length := by omega
    have c1 := List.getElem?_eq_getElem hic
    have c2 := List.getElem?_eq_getElem hi
    have hzip : (cs.zip ws)[i]? = some (cs[i], ws[i]) := by rw [List.getElem?_zip_eq_some]; exact ⟨c1, c2⟩
    have fl : (((cs.zip ws).take i).filter fun p => decide (p.1 ∈ ls)).length ≤ 3000 := by
      refine Nat.le_trans (List.length_filter_le _ _) ?_
      rw [List.length_take, List.length_zip]; omega
    unfold lcTurn
    simp [c1, c2, w1, hv, in_strs w2]
    have hmem : (cs[i] ∈ es) ↔ (cs[i] ∈ ls) := hp.mem_iff
    by_cases q : cs[i] ∈ ls
    · simp [hmem.mpr q]
      refine ⟨by simpa using hr4, by omega, (hI _ _ _).mpr ⟨?_, y.setN (Nat.le_refl _) _⟩⟩
      rw [take_at hzip]
      simp [List.filter_append, q]
    · simp [mt hmem.mp q]
      refine ⟨by simpa using hr4, (hI _ _ _).mpr ⟨?_, y⟩⟩
      rw [take_at hzip]
      simp [List.filter_append, q]
  · intro acc S4 hi hr4
    obtain ⟨rfl, y⟩ := (hI _ _ _).mp hi
    have hl2 : (cs.zip ws).take ws.length = cs.zip ws := List.take_of_length_le (by rw [List.length_zip]; omega)
    rw [hl2] at hr4
    simp
    rw [hr4]
    simp only [asInts_map]
    rw [wp_ok]
    exact ⟨rfl, y⟩

theorem in_dct {S : Store} {r : Nat} {kvs : List (L2.Key × D)} {x : Str} (h : S[r]? = some (.dct kvs)) : inD (.str x) (.ref r) S = some (valG kvs (.inr x)).isSome := by
  simp only [inD, h, keyOf]
def valI (kvs : List (L2.Key × D)) (x : Str) : Int := match valG kvs (.inr x) with
  | some (.int v) => v
  | _ => 0
/-- keys are texts, values numbers -/
def IntD (kvs : List (L2.Key × D)) : Prop := ∀ p ∈ kvs, ∃ (x : Str) (v : Int), p = (.inr x, .int v)
theorem IntD.val {kvs : List (L2.Key × D)} (h : IntD kvs) {x : Str} {d : D} (e : valG kvs (.inr x) = some d) : d = .int (valI kvs x) := by
  unfold valI
  rw [e]
  unfold valG at e
  obtain ⟨p, hp, rfl⟩ := Option.map_eq_some_iff.mp e
  obtain ⟨y, v, rfl⟩ := h p (List.mem_of_find?_eq_some hp)
  rfl
theorem IntD.none {kvs : List (L2.Key × D)} {x : Str} (e : valG kvs (.inr x) = none) : valI kvs x = 0 := by unfold valI; rw [e]
theorem IntD.put {kvs : List (L2.Key × D)} (h : IntD kvs) (x : Str) (v : Int) : IntD (putG kvs (.inr x) (.int v)) := fun p hp => by
  unfold putG at hp
  split at hp
  · obtain ⟨q, hq, rfl⟩ := List.mem_map.mp hp
    obtain ⟨y, w, rfl⟩ := h q hq
    dsimp only
    split
    · exact ⟨y, v, rfl⟩
    · exact ⟨y, w, rfl⟩
  · rcases List.mem_append.mp hp with hq | hq
    · exact h p hq
    · simp at hq; exact ⟨x, v, hq⟩
theorem valI_put {kvs : List (L2.Key × D)} {x y : Str} {v : Int} : valI (putG kvs (.inr x) (.int v)) y = if y = x then v else valI kvs y := by
  unfold valI
  rw [valG_put]
  by_cases q : y = x
  · subst q; simp
  · have : ¬ (Sum.inr y : L2.Key) = .inr x := fun e => q (Sum.inr.inj e)
    rw [if_neg this, if_neg q]
/-- what has come to x -/
def bal (A : List ((Str × Str × Str) × Int)) (x : Str) : Int := (A.map fun a => (if x = a.1.2.2 then a.2 else 0) - (if x = a.1.2.1 then a.2 else 0)).sum
theorem bal_app (A B : List ((Str × Str × Str) × Int)) (x : Str) : bal (A ++ B) x = bal A x + bal B x := by unfold bal; rw [List.map_append, List.sum_append]
def bFlows (iS : Nat) : S := .cons (.set 4 (.dnew)) (.cons (.for (.tup (.cons (.nm 5) (.cons (.nm 6) (.cons (.nm 7) (.nil))))) (.q (.v 2)) (.cons (.set 8 (.call iS (.cons (.v 0) (.cons (.v 1) (.cons (.v 3) (.cons (.v 5) (.nil))))))) (.cons (.six (.v 4) (.v 6) (.bin .sub (.ite (.cmp .isin (.v 6) (.v 4)) (.ix (.v 4) (.v 6)) (.int 0)) (.v 8))) (.cons (.six (.v 4) (.v 7) (.bin .add (.ite (.cmp .isin (.v 7) (.v 4)) (.ix (.v 4) (.v 7)) (.int 0)) (.v 8))) (.nil))))) (.cons (.ret (.cmp .eq (.bi .len (.cons (.lk 4 (.lc [("knot", 9)] (.nm 9) (.q (.v 4)) (.cmp .ne (.ix (.v 4) (.v 9)) (.int 0)) (.v 9))) (.nil))) (.int 0))) (.nil)))
theorem sp_flows {iS : Nat} (hS : P[iS]? = some ⟨4, 5, [], ps, bSum⟩) (h : P[f]? = some ⟨4, 10, [], qs, bFlows iS⟩) (hm : 10000 < m) {cs : List Str} {ws : List Int} (hw : ws.length = cs.length) (hz : cs.length ≤ 3000) (rest : List D) {S0 S : Store} {r : Nat} {kvs : List (L2.Key × D)} {L : List (Str × List Str)} (hr : S[r]? = some (.dct kvs)) (lk : LK S0 S r kvs L)
    (AL : List ((Str × Str × Str) × List Str)) (hal : AL.length ≤ 3000) (hAL : ∀ a ∈ AL, (a.1.1, a.2) ∈ L) (hb0 : ∀ x, bal (AL.map fun a => (a.1, sumOf cs ws a.2)) x = 0) :
    wp (callF P m (n + 2) f [.tup (.tup (cs.map D.str) :: rest), .ref r, .tup ((AL.map (·.1)).map aD), .tup (ws.map D.int)] S) fun d S' => d = .bl true ∧ Ext [] S S' := by
  have hb := big
  refine wp_callF h rfl ?_
  simp only [bFlows, startD]
  simp
  obtain ⟨od, hod⟩ : ∃ od : D, od = D.tup (D.tup (cs.map D.str) :: rest) := ⟨_, rfl⟩
  obtain ⟨ad, had⟩ : ∃ ad : D, ad = D.tup (AL.map (aD ∘ (·.1))) := ⟨_, rfl⟩
  rw [← hod]
  obtain ⟨NL, hNL⟩ : ∃ NL : List ((Str × Str × Str) × Int), NL = AL.map fun a => (a.1, sumOf cs ws a.2) := ⟨_, rfl⟩
  rw [← hNL] at hb0
  obtain ⟨I, hI⟩ : ∃ I : Nat → Ls → Store → Prop, ∀ i ls S', I i ls S' ↔ ∃ (x5 x6 x7 x8 : Option D) (kv : List (L2.Key × D)), ls = [some od, some (.ref r), some (.tup (AL.map (aD ∘ fun x => x.1))), some (.tup (ws.map D.int)), some (.ref S.length), x5, x6, x7, x8, none] ∧ S'[S.length]? = some (.dct kv) ∧ IntD kv ∧ (∀ x, valI kv x = bal (NL.take i) x) ∧ kv.length ≤ 2 * i ∧ Ext [] S S' := ⟨_, fun _ _ _ => Iff.rfl⟩
  refine wp_seq (ds := AL.map (aD ∘ fun x => x.1)) (.inl rfl) I (by simp; omega) ?_ ?_ ?_
  · exact (hI _ _ _).mpr ⟨_, _, _, _, [], rfl, by simp, (fun p hp => by cases hp), fun x => by simp [valI, valG, bal], by simp, Ext.push _ _ _⟩
  · intro i d ls S' hd hi
    obtain ⟨x5, x6, x7, x8, kv, rfl, q1, q2, q3, q4, q5⟩ := (hI _ _ _).mp hi
    rw [List.getElem?_map] at hd
    obtain ⟨⟨⟨nm, st, en⟩, ls⟩, hzi, rfl⟩ := Option.map_eq_some_iff.mp hd
    have hil := lt_of_some hzi
    obtain ⟨l, es, v1, v2, v3, v4, v5⟩ := lk.at_ nm ls (hAL _ (List.mem_of_getElem? hzi))
    refine ⟨_, by simp [aD]; rfl, ?_⟩
    simp
    rw [hod]
    refine wp_mono (sp_sum (n := n) hS hm hw hz rest (q5.at_ _ _ hr (by simp)) v1 (q5.at_ _ _ v2 (by simp)) v3) ?_
    rintro _ S2 ⟨rfl, y2⟩
    rw [← hod]
    obtain ⟨N, hN⟩ : ∃ N, N = sumOf cs ws ls := ⟨_, rfl⟩
    rw [← hN]
    have g2 := y2.at_ _ _ q1 (by simp)
    have tk : NL.take (i + 1) = NL.take i ++ [((nm, st, en), N)] := by
      refine take_at ?_
      rw [hNL, List.getElem?_map, hzi, hN]; rfl
    have bl : ∀ x, bal (NL.take (i + 1)) x = bal (NL.take i) x + ((if x = en then N else 0) - (if x = st then N else 0)) := fun x => by
      rw [tk, bal_app]; simp [bal]
    have i1 : IntD (putG kv (.inr st) (.int (valI kv st - N))) := q2.put st _
    have val1 : ∀ x, valI (putG kv (.inr st) (.int (valI kv st - N))) x = if x = st then valI kv st - N else valI kv x := fun x => valI_put
    have len1 := putG_len (kvs := kv) (k := .inr st) (v := D.int (valI kv st - N))
    generalize hk1 : putG kv (.inr st) (.int (valI kv st - N)) = kv1 at i1 val1 len1
    have i2 : IntD (putG kv1 (.inr en) (.int (valI kv1 en + N))) := i1.put en _
    have val2 : ∀ x, valI (putG kv1 (.inr en) (.int (valI kv1 en + N))) x = if x = en then valI kv1 en + N else valI kv1 x := fun x => valI_put
    have len2 := putG_len (kvs := kv1) (k := .inr en) (v := D.int (valI kv1 en + N))
    have vfin : ∀ x, valI (putG kv1 (.inr en) (.int (valI kv1 en + N))) x = bal (NL.take (i + 1)) x := fun x => by
      rw [val2, val1, val1, bl, ← q3, ]
      by_cases h1 : x = en
      · subst h1
        by_cases h2 : x = st
        · subst h2; simp
        · simp [h2]
      · by_cases h2 : x = st
        · subst h2; simp [h1, Int.sub_eq_add_neg]
        · simp [h1, h2]
    have goal2 : ∀ S3 : Store, S3[S.length]? = some (.dct kv1) → Ext [] S S3 → kv1.length < sizeLine ∧ I (i + 1) [some od, some (.ref r), some (.tup (AL.map (aD ∘ fun x => x.1))), some (.tup (ws.map D.int)), some (.ref S.length), some (.str nm), some (.str st), some (.str en), some (.int N), none] (S3.set S.length (.dct (putG kv1 (.inr en) (.int (valI kv1 en + N))))) := fun S3 h3 x3 =>
      ⟨by omega, (hI _ _ _).mpr ⟨_, _, _, _, _, rfl, set_same (Lt.of h3), i2, vfin, by omega, x3.setN (Nat.le_refl _) _⟩⟩
    have g3 := goal2 (S2.set S.length (.dct kv1)) (set_same (Lt.of g2)) ((q5.trans y2).setN (Nat.le_refl _) _)
    have s3 : ∀ o, (S2.set S.length o)[S.length]? = some o := fun o => set_same (Lt.of g2)
    cases e1 : valG kv (.inr st) with
    | none =>
      have z := IntD.none e1
      rw [z] at hk1
      have hk1' : putG kv (.inr st) (.int (-N)) = kv1 := by simpa using hk1
      simp [in_dct g2, g2, e1, hk1', s3, in_dct (s3 _)]
      refine ⟨by omega, ?_⟩
      cases e2 : valG kv1 (.inr en) with
      | none =>
        have z2 := IntD.none e2
        rw [z2] at g3
        simpa using g3
      | some d =>
        have z2 := i1.val e2
        rw [z2]
        simpa [s3] using g3
    | some d =>
      have z := q2.val e1
      rw [z] at e1
      simp [in_dct g2, g2, e1, hk1, s3, in_dct (s3 _)]
      refine ⟨by omega, ?_⟩
      cases e2 : valG kv1 (.inr en) with
      | none =>
        have z2 := IntD.none e2
        rw [z2] at g3
        simpa using g3
      | some d =>
        have z2 := i1.val e2
        rw [z2]
        simpa [s3] using g3
  · intro ls S' hi
    obtain ⟨x5, x6, x7, x8, kv, rfl, q1, q2, q3, q4, q5⟩ := (hI _ _ _).mp hi
    have hlen : NL.take AL.length = NL := by rw [hNL, List.take_of_length_le (by simp)]
    have q3' : ∀ x, valI kv x = 0 := fun x => by
      have := q3 x
      rw [List.length_map, hlen, hb0] at this
      exact this
    have ql : kv.length ≤ 6000 := by rw [List.length_map] at q4; omega
    simp [q1, set_same (Lt.of q1)]
    obtain ⟨S3, hS3⟩ : ∃ S3 : Store, S3 = S'.set S.length (O.dcl kv) := ⟨_, rfl⟩
    rw [← hS3]
    have e3 : S3[S.length]? = some (.dcl kv) := by rw [hS3]; exact set_same (Lt.of q1)
    have x3 : Ext [] S S3 := by rw [hS3]; exact q5.setN (Nat.le_refl _) _
    have l3 : S3.length = S'.length := by rw [hS3]; simp
    have f3 := lt_of_some e3
    rw [← l3]
    obtain ⟨J, hJ⟩ : ∃ J : Nat → List D → Store → Prop, ∀ i acc S4, J i acc S4 ↔ acc = [] ∧ Ext [] S3 S4 := ⟨_, fun _ _ _ => Iff.rfl⟩
    refine wp_lcG (k := kv.length) J (by omega) ((hJ _ _ _).mpr ⟨rfl, Ext.push _ _ _⟩) (by simp) ?_ ?_
    · intro i acc S4 hi hj
      obtain ⟨rfl, y⟩ := (hJ _ _ _).mp hj
      have w1 := y.at_ _ _ e3 (by simp)
      by_cases c : i < kv.length
      · have hp := List.getElem?_eq_getElem c
        obtain ⟨x, v, hxv⟩ := q2 _ (List.mem_of_getElem? hp)
        refine .inr ⟨.str x, _, c, by simp [w1, hp, hxv, dOfKey], rfl, fun hr => ?_⟩
        have hg : valG kv (.inr x) = some (.int 0) := by
          cases e : valG kv (.inr x) with
          | none =>
            unfold valG at e
            rw [Option.map_eq_none_iff, List.find?_eq_none] at e
            exact absurd (decide_eq_true (by rw [hxv])) (e _ (List.mem_of_getElem? hp))
          | some d => rw [q2.val e, q3' x]
        unfold lcTurn
        simp [w1, hg]
        exact ⟨by simpa using hr, (hJ _ _ _).mpr ⟨rfl, y⟩⟩
      · exact .inl ⟨by omega, by simp [w1]; omega⟩
    · intro acc S4 hj hr4
      obtain ⟨rfl, y⟩ := (hJ _ _ _).mp hj
      have w1 := y.at_ _ _ e3 (by simp)
      have hne : S.length ≠ S3.length := by omega
      simp [w1, hr4, set_ne hne]
      exact (x3.trans y).setN (Nat.le_refl _) _
end
end PV

set_option Elab.async false
set_option linter.all false
set_option maxRecDepth 100000
set_option maxHeartbeats 1000000
/-! What flows in flows out. -/
namespace PV
open PySem

def zsum (Z : List (Str × Int)) (ls : List Str) : Int := ((Z.filter fun p => decide (p.1 ∈ ls)).map (·.2)).sum
theorem hit_sum {a : Str} {v : Int} : ∀ {ls : List Str}, ls.Nodup → (ls.map fun c => if a = c then v else 0).sum = if a ∈ ls then v else 0
  | [], _ => rfl
  | c :: ls, h => by
    rw [List.nodup_cons] at h
    rw [List.map_cons, List.sum_cons, hit_sum h.2]
    by_cases q : a = c
    · subst q; simp [h.1]
    · simp [q]
theorem sum_add {α : Type} {f g : α → Int} : ∀ l : List α, (l.map fun x => f x + g x).sum = (l.map f).sum + (l.map g).sum
  | [] => rfl
  | x :: l => by simp only [List.map_cons, List.sum_cons, sum_add l]; omega
theorem perm_sum {a b : List Int} (h : a.Perm b) : a.sum = b.sum := by
  induction h with
  | nil => rfl
  | cons x _ ih => rw [List.sum_cons, List.sum_cons, ih]
  | swap x y l => simp only [List.sum_cons]; omega
  | trans _ _ ih1 ih2 => rw [ih1, ih2]
theorem sum_zero {α : Type} : ∀ l : List α, (l.map fun _ => (0 : Int)).sum = 0
  | [] => rfl
  | x :: l => by simp only [List.map_cons, List.sum_cons, sum_zero l]; rfl
theorem zsum_each {ls : List Str} (h : ls.Nodup) : ∀ Z : List (Str × Int), zsum Z ls = (ls.map fun c => zsum Z [c]).sum
  | [] => by simp only [zsum, List.filter_nil, List.map_nil, List.sum_nil]; rw [sum_zero]
  | (a, v) :: Z => by
    have e : ∀ ms : List Str, zsum ((a, v) :: Z) ms = (if a ∈ ms then v else 0) + zsum Z ms := fun ms => by
      unfold zsum
      rw [List.filter_cons]
      by_cases q : a ∈ ms
      · simp [q]
      · simp [q]
    rw [e, zsum_each h Z]
    have : (ls.map fun c => zsum ((a, v) :: Z) [c]).sum = (ls.map fun c => (if a = c then v else 0) + zsum Z [c]).sum := by
      congr 1
      refine List.map_congr_left fun c _ => ?_
      rw [e]; simp
    rw [this, sum_add, hit_sum h]
section
variable (w : Str → Int)
def wsum (ls : List Str) : Int := (ls.map w).sum
def at1 (x a : Str) (v : Int) : Int := if x = a then v else 0
def lsum (l : List (Str × List Str × Option Str)) (x : Str) : Int := (l.map fun q => at1 x q.1 (wsum w q.2.1) - (match q.2.2 with | some a => at1 x a (wsum w q.2.1) | none => 0)).sum
def hsum (l : List (Str × Str)) (x : Str) : Int := (l.map fun p => at1 x p.2 (w p.1)).sum
variable {w}
theorem wsum_app (a b : List Str) : wsum w (a ++ b) = wsum w a + wsum w b := by unfold wsum; rw [List.map_append, List.sum_append]
theorem lsum_app (a b : List (Str × List Str × Option Str)) (x : Str) : lsum w (a ++ b) x = lsum w a x + lsum w b x := by unfold lsum; rw [List.map_append, List.sum_append]
theorem hsum_app (a b : List (Str × Str)) (x : Str) : hsum w (a ++ b) x = hsum w a x + hsum w b x := by unfold hsum; rw [List.map_append, List.sum_append]
theorem at1_add (x a : Str) (u v : Int) : at1 x a (u + v) = at1 x a u + at1 x a v := by unfold at1; split <;> omega
mutual
theorem keeps1 : ∀ (t : T) (n x : Str), lsum w (t.lo (some n)) x - hsum w (t.hd n) x = - at1 x n (wsum w t.lv)
  | .leaf c, n, x => by simp [T.lo, T.hd, T.lv, lsum, hsum, wsum]
  | .node m ps, n, x => by
    have := keepsL ps m x
    simp only [T.lo, T.hd, T.lv]
    have e : lsum w ((m, T.lvL ps, some n) :: T.loL ps (some m)) x = at1 x m (wsum w (T.lvL ps)) - at1 x n (wsum w (T.lvL ps)) + lsum w (T.loL ps (some m)) x := by
      simp only [lsum, List.map_cons, List.sum_cons]
    rw [e]; omega
theorem keepsL : ∀ (ts : List T) (n x : Str), lsum w (T.loL ts (some n)) x - hsum w (T.hdL ts n) x = - at1 x n (wsum w (T.lvL ts))
  | [], n, x => by
    simp only [T.loL, T.hdL, T.lvL, lsum, hsum, wsum, List.map_nil, List.sum_nil]
    unfold at1
    split <;> rfl
  | t :: ts, n, x => by
    have h1 := keeps1 t n x
    have h2 := keepsL ts n x
    simp only [T.loL, T.hdL, T.lvL, lsum_app, hsum_app, wsum_app, at1_add]
    omega
end
theorem keeps0 (t : T) (ht : t.isNode = true) (n x : Str) : lsum w (t.lo none) x = hsum w (t.hd n) x := by
  cases t with
  | leaf c => cases ht
  | node m ps =>
    have := keepsL (w := w) ps m x
    simp only [T.lo, T.hd]
    have e : lsum w ((m, T.lvL ps, none) :: T.loL ps (some m)) x = at1 x m (wsum w (T.lvL ps)) + lsum w (T.loL ps (some m)) x := by
      simp only [lsum, List.map_cons, List.sum_cons]; omega
    rw [e]; omega
end
mutual
theorem lo_nodup : ∀ (t : T) (ab : Option Str), t.lv.Nodup → ∀ q ∈ t.lo ab, q.2.1.Nodup
  | .leaf _, _, _ => by simp [T.lo]
  | .node n ps, ab, h => fun q hq => by
    simp only [T.lo] at hq
    rcases List.mem_cons.mp hq with rfl | hq
    · exact h
    · exact loL_nodup ps (some n) h q hq
theorem loL_nodup : ∀ (ts : List T) (ab : Option Str), (T.lvL ts).Nodup → ∀ q ∈ T.loL ts ab, q.2.1.Nodup
  | [], _, _ => by simp [T.loL]
  | t :: ts, ab, h => fun q hq => by
    simp only [T.loL] at hq
    simp only [T.lvL] at h
    rw [List.nodup_append] at h
    rcases List.mem_append.mp hq with hq | hq
    · exact lo_nodup t ab h.1 q hq
    · exact loL_nodup ts ab h.2.1 q hq
end
/-- the arcs, each with its lot -/
def arcL (cs : List Str) (t1 t2 : T) : List ((Str × Str × Str) × List Str) :=
  ((root t1, root t2, root t1), t1.lv) :: ((t1.lo none).filterMap (fun q => q.2.2.map fun a => ((q.1, a, q.1), q.2.1)) ++ ((t2.lo none).filterMap (fun q => q.2.2.map fun a => ((q.1, q.1, a), q.2.1)) ++ cs.map fun c => ((c, hOf t1 c, hOf t2 c), [c])))
theorem fm_map {α β γ : Type} {f : α → Option β} {g : β → γ} : ∀ l : List α, (l.filterMap f).map g = l.filterMap fun x => (f x).map g
  | [] => rfl
  | x :: l => by
    rw [List.filterMap_cons, List.filterMap_cons, ← fm_map l]
    cases f x <;> rfl
theorem lo_tail' (t : T) (ht : t.isNode = true) (g : Str → Str → Str × Str × Str) : (t.lo none).filterMap (fun q => q.2.2.map fun a => g q.1 a) = (t.kn none).tail.map fun p => g p.1 (p.2.getD Str.empty) := by
  have e : (t.lo none).filterMap (fun q => q.2.2.map fun a => g q.1 a) = ((t.lo none).map fun q => (q.1, q.2.2)).filterMap (fun p => p.2.map fun a => g p.1 a) := by
    rw [List.filterMap_map]; rfl
  rw [e, T.lo_kn]
  cases t with
  | leaf c => cases ht
  | node n ps =>
    have hs := T.knL_some ps (some n) rfl
    simp only [T.kn, List.filterMap_cons, Option.map_none, List.tail_cons]
    generalize T.knL ps (some n) = l at hs
    induction l with
    | nil => rfl
    | cons p l ih =>
      obtain ⟨x, ab⟩ := p
      cases ab with
      | none => exact absurd (hs (x, none) List.mem_cons_self) (by simp)
      | some y =>
        have := ih fun p hp => hs p (List.mem_cons_of_mem _ hp)
        simp only [List.filterMap_cons, Option.map_some, List.map_cons, this]; rfl
theorem arcL_arcs {cs : List Str} {t1 t2 : T} (n1 : t1.isNode = true) (n2 : t2.isNode = true) : (arcL cs t1 t2).map (·.1) = arcsOf cs t1 t2 := by
  unfold arcL arcsOf
  rw [List.map_cons, List.map_append, List.map_append, fm_map, fm_map, List.map_map]
  have e1 : (t1.lo none).filterMap (fun q => (q.2.2.map fun a => ((q.1, a, q.1), q.2.1)).map (·.1)) = k1 t1 := by
    unfold k1
    rw [← lo_tail' t1 n1 fun x a => (x, a, x)]
    congr 1
    funext q
    cases q.2.2 <;> rfl
  have e2 : (t2.lo none).filterMap (fun q => (q.2.2.map fun a => ((q.1, q.1, a), q.2.1)).map (·.1)) = k2 t2 := by
    unfold k2
    rw [← lo_tail' t2 n2 fun x a => (x, x, a)]
    congr 1
    funext q
    cases q.2.2 <;> rfl
  rw [e1, e2]; rfl
theorem arcL_lots {cs : List Str} {t1 t2 : T} (n1 : t1.isNode = true) : ∀ a ∈ arcL cs t1 t2, (a.1.1, a.2) ∈ lotsOf cs t1 t2 := by
  intro a ha
  unfold lotsOf
  unfold arcL at ha
  rcases List.mem_cons.mp ha with rfl | ha
  · refine List.mem_append_right _ (List.mem_map.mpr ?_)
    cases t1 with
    | leaf c => cases n1
    | node m ps => exact ⟨(m, T.lvL ps, none), by simp [T.lo], rfl⟩
  · rcases List.mem_append.mp ha with ha | ha
    · obtain ⟨q, hq, e⟩ := List.mem_filterMap.mp ha
      obtain ⟨b, hb, rfl⟩ := Option.map_eq_some_iff.mp e
      exact List.mem_append_right _ (List.mem_map.mpr ⟨q, List.mem_append_left _ hq, rfl⟩)
    · rcases List.mem_append.mp ha with ha | ha
      · obtain ⟨q, hq, e⟩ := List.mem_filterMap.mp ha
        obtain ⟨b, hb, rfl⟩ := Option.map_eq_some_iff.mp e
        exact List.mem_append_right _ (List.mem_map.mpr ⟨q, List.mem_append_right _ hq, rfl⟩)
      · obtain ⟨c, hc, rfl⟩ := List.mem_map.mp ha
        exact List.mem_append_left _ (List.mem_map.mpr ⟨c, hc, rfl⟩)
theorem hsum_cells {w : Str → Int} {t : T} {cs : List Str} (nd : t.lv.Nodup) (hp : t.lv.Perm cs) (x : Str) : hsum w (t.hd Str.empty) x = (cs.map fun c => at1 x (hOf t c) (w c)).sum := by
  have fn := fn_of_nodup nd
  have e : t.hd Str.empty = t.lv.map fun c => (c, hOf t c) := by
    rw [← T.hd_lv t Str.empty, List.map_map]
    have : (t.hd Str.empty).map ((fun c => (c, hOf t c)) ∘ fun p => p.1) = (t.hd Str.empty).map id := by
      refine List.map_congr_left fun p hp => ?_
      have h1 : p.1 ∈ t.lv := by rw [← T.hd_lv t Str.empty]; exact List.mem_map.mpr ⟨p, hp, rfl⟩
      have h2 := fn p.1 _ _ (hOf_mem h1) hp
      show (p.1, hOf t p.1) = p
      rw [h2]
    rw [this, List.map_id]
  unfold hsum
  rw [e, List.map_map]
  exact perm_sum (hp.map fun c => at1 x (hOf t c) (w c))
theorem bal_cons (a : (Str × Str × Str) × Int) (A : List ((Str × Str × Str) × Int)) (x : Str) : bal (a :: A) x = (at1 x a.1.2.2 a.2 - at1 x a.1.2.1 a.2) + bal A x := by unfold bal; rw [List.map_cons, List.sum_cons]; rfl
theorem bal_one {w : Str → Int} {F : List Str → Int} (x : Str) : ∀ l : List (Str × List Str × Option Str), (∀ q ∈ l, q.2.2.isSome = true ∧ F q.2.1 = wsum w q.2.1) →
    bal ((l.filterMap fun q => q.2.2.map fun a => ((q.1, a, q.1), q.2.1)).map fun a => (a.1, F a.2)) x = lsum w l x
  | [], _ => rfl
  | (n, ls, ab) :: l, h => by
    have ih := bal_one (w := w) (F := F) x l fun q hq => h q (List.mem_cons_of_mem _ hq)
    have hh := h (n, ls, ab) List.mem_cons_self
    cases ab with
    | none => exact absurd hh.1 (by simp)
    | some a =>
      have e : lsum w ((n, ls, some a) :: l) x = (at1 x n (wsum w ls) - at1 x a (wsum w ls)) + lsum w l x := by simp only [lsum, List.map_cons, List.sum_cons]
      simp only [List.filterMap_cons, Option.map_some, List.map_cons, bal_cons]
      rw [ih, e]
      have := hh.2
      simp only at this
      rw [this]
theorem bal_two {w : Str → Int} {F : List Str → Int} (x : Str) : ∀ l : List (Str × List Str × Option Str), (∀ q ∈ l, q.2.2.isSome = true ∧ F q.2.1 = wsum w q.2.1) →
    bal ((l.filterMap fun q => q.2.2.map fun a => ((q.1, q.1, a), q.2.1)).map fun a => (a.1, F a.2)) x = - lsum w l x
  | [], _ => rfl
  | (n, ls, ab) :: l, h => by
    have ih := bal_two (w := w) (F := F) x l fun q hq => h q (List.mem_cons_of_mem _ hq)
    have hh := h (n, ls, ab) List.mem_cons_self
    cases ab with
    | none => exact absurd hh.1 (by simp)
    | some a =>
      have e : lsum w ((n, ls, some a) :: l) x = (at1 x n (wsum w ls) - at1 x a (wsum w ls)) + lsum w l x := by simp only [lsum, List.map_cons, List.sum_cons]
      simp only [List.filterMap_cons, Option.map_some, List.map_cons, bal_cons]
      rw [ih, e]
      have := hh.2
      simp only at this
      rw [this]
      omega
theorem bal_cells {w : Str → Int} {F : List Str → Int} {h1 h2 : Str → Str} (x : Str) (hF : ∀ c, F [c] = w c) : ∀ cs : List Str,
    bal ((cs.map fun c => ((c, h1 c, h2 c), [c])).map fun a => (a.1, F a.2)) x = (cs.map fun c => at1 x (h2 c) (w c)).sum - (cs.map fun c => at1 x (h1 c) (w c)).sum
  | [] => rfl
  | c :: cs => by
    have ih := bal_cells (w := w) (F := F) (h1 := h1) (h2 := h2) x hF cs
    simp only [List.map_cons, bal_cons, List.sum_cons]
    rw [ih, hF]
    omega
theorem loL_some {ts : List T} {n : Str} : ∀ q ∈ T.loL ts (some n), q.2.2.isSome = true := fun q hq => by
  have h := T.knL_some ts (some n) rfl (q.1, q.2.2) (by rw [← T.loL_knL]; exact List.mem_map.mpr ⟨q, hq, rfl⟩)
  exact h
theorem arcs_keep {cs : List Str} {ws : List Int} {t1 t2 : T} (n1 : t1.isNode = true) (n2 : t2.isNode = true) (l1 : t1.lv.Perm cs) (l2 : t2.lv.Perm cs) (nd : cs.Nodup) (x : Str) : bal ((arcL cs t1 t2).map fun a => (a.1, sumOf cs ws a.2)) x = 0 := by
  have d1 : t1.lv.Nodup := l1.nodup_iff.mpr nd
  have d2 : t2.lv.Nodup := l2.nodup_iff.mpr nd
  obtain ⟨w, hw⟩ : ∃ w : Str → Int, w = fun c => zsum (cs.zip ws) [c] := ⟨_, rfl⟩
  have hs : ∀ ls : List Str, ls.Nodup → sumOf cs ws ls = wsum w ls := fun ls h => by
    rw [hw]; exact zsum_each h _
  have k1' := keeps0 (w := w) t1 n1 Str.empty x
  have k2' := keeps0 (w := w) t2 n2 Str.empty x
  rw [hsum_cells d1 l1] at k1'
  rw [hsum_cells d2 l2] at k2'
  have we1 : wsum w t1.lv = wsum w cs := perm_sum (l1.map w)
  have we2 : wsum w t2.lv = wsum w cs := perm_sum (l2.map w)
  have hF : ∀ c, sumOf cs ws [c] = w c := fun c => by rw [hw]; rfl
  cases t1 with
  | leaf c => cases n1
  | node m1 p1 =>
    cases t2 with
    | leaf c => cases n2
    | node m2 p2 =>
      have q1 : ∀ q ∈ T.loL p1 (some m1), q.2.2.isSome = true ∧ sumOf cs ws q.2.1 = wsum w q.2.1 := fun q hq => ⟨loL_some q hq, hs _ (loL_nodup p1 (some m1) d1 q hq)⟩
      have q2 : ∀ q ∈ T.loL p2 (some m2), q.2.2.isSome = true ∧ sumOf cs ws q.2.1 = wsum w q.2.1 := fun q hq => ⟨loL_some q hq, hs _ (loL_nodup p2 (some m2) d2 q hq)⟩
      have b1 := bal_one (F := sumOf cs ws) x _ q1
      have b2 := bal_two (F := sumOf cs ws) x _ q2
      have b3 := bal_cells (h1 := hOf (.node m1 p1)) (h2 := hOf (.node m2 p2)) x hF cs
      have e1 : lsum w (T.lo (.node m1 p1) none) x = at1 x m1 (wsum w (T.lv (.node m1 p1))) + lsum w (T.loL p1 (some m1)) x := by
        simp only [T.lo, T.lv, lsum, List.map_cons, List.sum_cons]; omega
      have e2 : lsum w (T.lo (.node m2 p2) none) x = at1 x m2 (wsum w (T.lv (.node m2 p2))) + lsum w (T.loL p2 (some m2)) x := by
        simp only [T.lo, T.lv, lsum, List.map_cons, List.sum_cons]; omega
      rw [we1] at e1
      rw [we2] at e2
      have hr : sumOf cs ws (T.lv (.node m1 p1)) = wsum w cs := by rw [hs _ d1, we1]
      unfold arcL
      rw [List.map_cons, bal_cons, List.map_append, bal_app, List.map_append, bal_app]
      simp only [T.lo, List.filterMap_cons, Option.map_none, root]
      rw [b1, b2, b3, hr]
      omega
end PV

set_option Elab.async false
set_option linter.all false
set_option maxRecDepth 100000
set_option maxHeartbeats 1000000
/-! k06: the law, by PV. -/
namespace PV
open PySem

def bTail06 (iT iP iAr iSa iLA iLo iFl : Nat) : S := .cons (.set 4 (.call iAr (.cons (.v 3) (.nil)))) (.cons (.ite (.bo false (.cons (.no (.call iSa (.cons (.v 4) (.cons (.call iLA (.cons (.v 3) (.nil))) (.nil))))) (.cons (.no (.call iSa (.cons (.callk iAr ["office"] (.nil) (.cons (.v 3) (.nil))) (.cons (.v 4) (.nil))))) (.nil)))) (.cons (.ret (.bl false)) (.nil)) (.nil)) (.cons (.set 5 (.call iLo (.cons (.v 3) (.nil)))) (.cons (.for (.nm 6) (.qr (.int 4)) (.cons (.set 7 (.bi .tuple (.cons (.lc [("cell", 8)] (.nm 8) (.q (.ix (.v 3) (.int 0))) .nil (.call iP (.cons (.v 1) (.cons (.lst (.cons (.int 0) (.cons (.int 1) (.cons (.call iT (.cons (.v 1) (.cons (.int 100) (.nil)))) (.nil))))) (.nil))))) (.nil)))) (.cons (.ite (.no (.call iFl (.cons (.v 3) (.cons (.v 5) (.cons (.v 4) (.cons (.v 7) (.nil))))))) (.cons (.ret (.bl false)) (.nil)) (.nil)) (.nil)))) (.nil))))
def bLaw06 (iSt iOf iP iT iAr iSa iLA iLo iFl : Nat) : S := .cons (.set 1 (.call iSt (.cons (.v 0) (.nil)))) (.cons (.for (.nm 2) (.qr (.int 4)) (.cons (.set 3 (.call iOf (.cons (.v 1) (.cons (.call iP (.cons (.v 1) (.cons (.lst (.cons (.bin .add (.int 1) (.call iT (.cons (.v 1) (.cons (.int 6) (.nil))))) (.cons (.int 4) (.cons (.int 6) (.nil))))) (.nil)))) (.cons (.int 7) (.nil)))))) (.cons (.ite (.cmp .eq (.call iT (.cons (.v 1) (.cons (.int 24) (.nil)))) (.int 0)) (.cons (.set 3 (.call iOf (.cons (.v 1) (.cons (.int 20) (.cons (.int 7) (.nil)))))) (.nil)) (.nil)) (bTail06 iT iP iAr iSa iLA iLo iFl)))) (.cons (.ret (.bl true)) (.nil)))
theorem OffOk.arcIn {many : Nat} {most : Int} {o : Off} (h : OffOk many most o) (hm : many ≤ 50) : ArcIn o.cs o.t1 o.t2 := by
  have nd : o.cs.Nodup := h.nd.sublist (List.sublist_append_left _ _)
  have s1 := T.sz_eq o.t1
  have s2 := T.sz_eq o.t2
  have e1 := h.l1.length_eq
  have e2 := h.l2.length_eq
  have k := h.k1
  have l := h.len
  exact ⟨h.n1, h.n2, h.l1.nodup_iff.mpr nd, h.l2.nodup_iff.mpr nd, fun c hc => h.l1.mem_iff.mpr hc, fun c hc => h.l2.mem_iff.mpr hc, by omega, by omega, by omega⟩
theorem arcs_plain (l : List (Str × Str × Str)) (hl : l.length ≤ 9000) : Pl (.tup (l.map aD)) ∧ dep (.tup (l.map aD)) ≤ 2 := by
  have h1 : Pls (l.map aD) := by
    clear hl
    induction l with
    | nil => simp [Pls]
    | cons a l ih =>
      simp only [List.map_cons, Pls]
      exact ⟨by simp [aD, Pl, Pls], ih⟩
  have h2 : deps (l.map aD) ≤ 1 := by
    clear hl h1
    induction l with
    | nil => simp [deps]
    | cons a l ih =>
      simp only [List.map_cons, deps]
      have : dep (aD a) ≤ 1 := by simp [aD, dep, deps]
      omega
  refine ⟨?_, ?_⟩
  · simp only [Pl, List.length_map]
    exact ⟨by omega, h1⟩
  · simp only [dep]; omega
theorem arcL_len {cs : List Str} {t1 t2 : T} : (arcL cs t1 t2).length ≤ 1 + t1.sz + t2.sz + cs.length := by
  unfold arcL
  have h1 := List.length_filterMap_le (fun q : Str × List Str × Option Str => q.2.2.map fun a => ((q.1, a, q.1), q.2.1)) (t1.lo none)
  have h2 := List.length_filterMap_le (fun q : Str × List Str × Option Str => q.2.2.map fun a => ((q.1, q.1, a), q.2.1)) (t2.lo none)
  have h3 := lo_len t1 none
  have h4 := lo_len t2 none
  simp only [List.length_cons, List.length_append, List.length_map]
  omega
/-- where the law's defs stand -/
structure Law06P (P : List Df) (iM iT iP iS iN iTr iK iL iMx iOf iKn iHo iAr iSt iSa iAb iLA iSu iFl f : Nat) : Prop where
  off : OffP P iM iT iP iS iN iTr iK iL iMx iOf
  kn : ∃ ps, P[iKn]? = some ⟨2, 4, [.non], ps, bKnotsOf iKn⟩
  ho : ∃ ps, P[iHo]? = some ⟨1, 6, [], ps, bHolders⟩
  ar : P[iAr]? = some ⟨1, 10, [], ["office"], bArcs iKn iHo⟩
  st : ∃ ps, P[iSt]? = some ⟨1, 3, [], ps, bStart iM⟩
  sa : ∃ ps, P[iSa]? = some ⟨2, 3, [], ps, bSame iSa⟩
  ab : ∃ ps, P[iAb]? = some ⟨1, 7, [], ps, bAbove⟩
  la : ∃ ps, P[iLA]? = some ⟨1, 10, [], ps, bLawArcs iK iAb⟩
  su : ∃ ps, P[iSu]? = some ⟨4, 5, [], ps, bSum⟩
  fl : ∃ ps, P[iFl]? = some ⟨4, 10, [], ps, bFlows iSu⟩
  law : ∃ ps, P[f]? = some ⟨1, 9, [], ps, bLaw06 iSt iOf iP iT iAr iSa iLA iL iFl⟩
section
variable {P : List Df} {iM iT iP iS iN iTr iK iL iMx iOf iKn iHo iAr iSt iSa iAb iLA iSu iFl m f n : Nat}
theorem sp_tail06 (lp : Law06P P iM iT iP iS iN iTr iK iL iMx iOf iKn iHo iAr iSt iSa iAb iLA iSu iFl f) (hm : 10000 < m) {many : Nat} {o : Off} (ok : OffOk many 7 o) (hmany : many ≤ 50) {s k : Nat} {S : Store} (st : StOk S s k) (x0 x2 x4 x5 x6 x7 x8 : Option D) :
    wp (exS (callF P m (n + 12)) (callFK P m (n + 12)) m (bTail06 iT iP iAr iSa iLA iL iFl) [x0, some (.ref s), x2, some (Off.d o), x4, x5, x6, x7, x8] S) fun fl S' => ∃ (x4 x5 x6 x7 x8 : Option D), fl = .next [x0, some (.ref s), x2, some (Off.d o), x4, x5, x6, x7, x8] ∧ StOk S' s k := by
  have hb := big
  have dr := lp.off.dr
  obtain ⟨_, hKn⟩ := lp.kn
  obtain ⟨_, hHo⟩ := lp.ho
  have hAr := lp.ar
  obtain ⟨_, hSa⟩ := lp.sa
  obtain ⟨_, hAb⟩ := lp.ab
  obtain ⟨_, hLA⟩ := lp.la
  obtain ⟨_, hSu⟩ := lp.su
  obtain ⟨_, hFl⟩ := lp.fl
  obtain ⟨_, hK⟩ := lp.off.knots
  obtain ⟨_, hL⟩ := lp.off.lots
  have ai := ok.arcIn hmany
  have d1 := ok.d1
  have d2 := ok.d2
  have z0 := ai.z0
  have z1 := ai.z1
  have z2 := ai.z2
  have hlen := ok.len
  have hcut : o.d = .tup (.tup (o.cs.map D.str) :: o.t1.d :: o.t2.d :: [.int o.q, .tup (o.bs.map bD), .tup (o.ws.map wiD)]) := rfl
  obtain ⟨rest, hrest⟩ : ∃ rest : List D, rest = [.int o.q, .tup (o.bs.map bD), .tup (o.ws.map wiD)] := ⟨_, rfl⟩
  rw [← hrest] at hcut
  obtain ⟨od, hod⟩ : ∃ od : D, od = Off.d o := ⟨_, rfl⟩
  have al : (arcsOf o.cs o.t1 o.t2).length ≤ 9000 := by
    rw [← arcL_arcs ai.n1 ai.n2, List.length_map]
    have := arcL_len (cs := o.cs) (t1 := o.t1) (t2 := o.t2)
    have s1 := T.sz_eq o.t1
    have s2 := T.sz_eq o.t2
    have e1 := ok.l1.length_eq
    have e2 := ok.l2.length_eq
    have k1 := ok.k1
    omega
  have al2 : (arcL o.cs o.t1 o.t2).length ≤ 3000 := by
    have := arcL_len (cs := o.cs) (t1 := o.t1) (t2 := o.t2)
    have s1 := T.sz_eq o.t1
    have s2 := T.sz_eq o.t2
    have e1 := ok.l1.length_eq
    have e2 := ok.l2.length_eq
    have k1 := ok.k1
    omega
  obtain ⟨pl, pd⟩ := arcs_plain _ al
  rw [← hod]
  rw [← hod] at hcut
  unfold bTail06
  simp
  rw [hcut]
  refine wp_mono (sp_arcs (n := n + 10) hKn hHo hAr hm ai rest S (by omega) (by omega)) ?_
  rintro _ S1 ⟨rfl, e1⟩
  obtain ⟨ad, had⟩ : ∃ ad : D, ad = .tup ((arcsOf o.cs o.t1 o.t2).map aD) := ⟨_, rfl⟩
  rw [← had]
  rw [← had] at pl pd
  simp
  refine wp_mono (sp_lawarcs (n := n + 10) hK hAb hLA hm ai rest S1) ?_
  rintro _ S2 ⟨rfl, e2⟩
  rw [← had]
  simp
  refine wp_mono (sp_same hSa hm S2 (n + 11) ad (by omega) pl) ?_
  rintro _ S3 ⟨rfl, rfl⟩
  simp
  refine wp_mono (wp_callFK hAr rfl (sp_arcs (n := n + 10) hKn hHo hAr hm ai rest S3 (by omega) (by omega)) rfl) ?_
  rintro _ S4 ⟨rfl, e3⟩
  rw [← had]
  simp
  refine wp_mono (sp_same hSa hm S4 (n + 11) ad (by omega) pl) ?_
  rintro _ S5 ⟨rfl, rfl⟩
  simp
  refine wp_mono (sp_lots (n := n + 10) hL hK hm o.cs o.t1 o.t2 rest S5 ai.n1 ai.n2 (by omega) (by omega) (by omega) (Off.lots_nd ok)) ?_
  rintro _ S6 ⟨r, kvs, rfl, g6, lk6, hr6, e6⟩
  simp
  rw [← hcut]
  have st6 : StOk S6 s k := ((((st.ext e1 (by simp) (by simp)).ext e2 (by simp) (by simp)).ext e3 (by simp) (by simp)).ext e6 (by simp) (by simp))
  have ls5 : s < S5.length := ((((st.ext e1 (by simp) (by simp)).ext e2 (by simp) (by simp)).ext e3 (by simp) (by simp))).lt
  obtain ⟨I, hI⟩ : ∃ I : Nat → Ls → Store → Prop, ∀ i ls S', I i ls S' ↔ ∃ (x6 x7 x8 : Option D), ls = [x0, some (.ref s), x2, some od, some ad, some (.ref r), x6, x7, x8] ∧ StOk S' s k ∧ Ext [s] S6 S' := ⟨_, fun _ _ _ => Iff.rfl⟩
  refine wp_rng I (by omega) ((hI _ _ _).mpr ⟨_, _, _, rfl, st6, Ext.refl _ _⟩) ?_ ?_
  · intro i ls S7 hi hj
    obtain ⟨y6, y7, y8, rfl, st7, e7⟩ := (hI _ _ _).mp hj
    rw [hcut]
    simp
    have hr7 : S7[r]? = some (.dct kvs) := e7.at_ _ _ g6 (by simp; omega)
    obtain ⟨I2, hI2⟩ : ∃ I : Nat → List D → Store → Prop, ∀ i acc S', I i acc S' ↔ ∃ ws : List Int, acc = ws.map D.int ∧ ws.length = i ∧ Af s k S7 S' := ⟨_, fun _ _ _ => Iff.rfl⟩
    have hs7 := st7.lt
    refine wp_lcT (ds := o.cs.map D.str) (.inl rfl) I2 (by simp; omega) ((hI2 _ _ _).mpr ⟨[], rfl, rfl, (Af.refl st7).push _⟩) (by simp) ?_ ?_
    · intro j d acc S8 hd hi8 hr8
      obtain ⟨ws, rfl, w1, w2⟩ := (hI2 _ _ _).mp hi8
      have hjl := lt_of_some hd
      simp at hjl
      refine ⟨_, rfl, ?_⟩
      unfold lcTurn
      simp
      refine wp_mono (dr.tk (n := n + 10) w2.st (lim := 100) (by decide) (by decide)) ?_
      rintro _ S9 ⟨v, rfl, v1, v2, af9⟩
      simp
      refine ⟨by omega, ?_⟩
      refine wp_mono (dr.pkL (n := n + 9) (r := S9.length) (ds := [.int 0, .int 1, .int v]) (af9.st.push _) (by simp) (by have := af9.st.lt; omega) (by simp) (by simp)) ?_
      rintro d10 S10 ⟨hd10, af10⟩
      obtain ⟨c, rfl⟩ : ∃ c : Int, d10 = .int c := by
        simp at hd10
        rcases hd10 with rfl | rfl | rfl <;> exact ⟨_, rfl⟩
      have hr9 := af9.at_ hr8 (by omega)
      have hr10 := af10.at_ (by rw [ap_lt (Lt.of hr9)]; exact hr9) (by omega)
      simp
      simp [hr10]
      refine ⟨by omega, (hI2 _ _ _).mpr ⟨ws ++ [c], by simp, by simp [w1], ?_⟩⟩
      exact (((w2.trans af9).push _).trans af10).setN st7 (Nat.le_refl _) _
    · intro acc S8 hi8 hr8
      obtain ⟨ws, rfl, w1, w2⟩ := (hI2 _ _ _).mp hi8
      simp at w1
      have hr12 := w2.ext.at_ _ _ hr7 (by simp; omega)
      have lk8 : LK S5 S8 r kvs (lotsOf o.cs o.t1 o.t2) := (lk6.mono e7 (by simp; omega)).mono w2.ext (by simp; omega)
      simp [hr8]
      rw [had, ← arcL_arcs ai.n1 ai.n2]
      refine wp_mono (sp_flows (n := n + 10) hSu hFl hm w1 z0 (o.t1.d :: o.t2.d :: rest) hr12 lk8 (arcL o.cs o.t1 o.t2) al2 (arcL_lots ai.n1) (fun x => arcs_keep ai.n1 ai.n2 ok.l1 ok.l2 (ok.nd.sublist (List.sublist_append_left _ _)) x)) ?_
      rintro _ S9 ⟨rfl, e9⟩
      simp
      refine (hI _ _ _).mpr ⟨_, _, _, by rw [hcut, had, ← arcL_arcs ai.n1 ai.n2, List.map_map], w2.st.ext e9 (by simp) (by simp), (e7.trans w2.ext).trans (e9.mono (by simp))⟩
  · intro ls S7 hj
    obtain ⟨y6, y7, y8, rfl, st7, e7⟩ := (hI _ _ _).mp hj
    simp
    exact st7
theorem sp_law06 (lp : Law06P P iM iT iP iS iN iTr iK iL iMx iOf iKn iHo iAr iSt iSa iAb iLA iSu iFl f) (hm : 10000 < m) (ns : List Int) : wp (callF P m (n + 13) f [.rol (ns.map D.int)] []) fun d S' => d = .bl true := by
  have hb := big
  have dr := lp.off.dr
  obtain ⟨_, hM⟩ := dr.mix
  obtain ⟨_, hKn⟩ := lp.kn
  obtain ⟨_, hHo⟩ := lp.ho
  have hAr := lp.ar
  obtain ⟨_, hSt⟩ := lp.st
  obtain ⟨_, hSa⟩ := lp.sa
  obtain ⟨_, hAb⟩ := lp.ab
  obtain ⟨_, hLA⟩ := lp.la
  obtain ⟨_, hSu⟩ := lp.su
  obtain ⟨_, hFl⟩ := lp.fl
  obtain ⟨_, hK⟩ := lp.off.knots
  obtain ⟨_, hL⟩ := lp.off.lots
  obtain ⟨_, h⟩ := lp.law
  refine wp_callF h rfl ?_
  simp [bLaw06, startD]
  refine wp_mono (sp_start (n := n + 10) hSt hM ns [] hm) ?_
  rintro _ S1 ⟨s, k, rfl, st1, _, _⟩
  simp
  obtain ⟨I, hI⟩ : ∃ I : Nat → Ls → Store → Prop, ∀ i ls S', I i ls S' ↔ ∃ (x2 x3 x4 x5 x6 x7 x8 : Option D), ls = [some (.rol (ns.map D.int)), some (.ref s), x2, x3, x4, x5, x6, x7, x8] ∧ StOk S' s k := ⟨_, fun _ _ _ => Iff.rfl⟩
  refine wp_rng I (by omega) ((hI _ _ _).mpr ⟨_, _, _, _, _, _, _, rfl, st1⟩) ?_ ?_
  · intro i ls S' hi hj
    obtain ⟨x2, x3, x4, x5, x6, x7, x8, rfl, st⟩ := (hI _ _ _).mp hj
    simp
    refine wp_mono (dr.tk (n := n + 10) st (by decide) (by decide)) ?_
    rintro _ S2 ⟨v, rfl, v1, v2, af2⟩
    simp
    refine ⟨by omega, ?_⟩
    refine wp_mono (dr.pkL (n := n + 9) (r := S2.length) (ds := [.int (1 + v), .int 4, .int 6]) (af2.st.push (.lst [.int (1 + v), .int 4, .int 6])) (by simp) (by have := af2.st.lt; omega) (by simp) (by simp)) ?_
    rintro d S3 ⟨hd, af3⟩
    obtain ⟨many, hmany, hmany1, hmany2, _⟩ : ∃ many : Nat, d = .int many ∧ 0 < many ∧ many ≤ 6 ∧ True := by
      simp at hd
      rcases hd with rfl | rfl | rfl
      · exact ⟨(1 + v).toNat, by congr 1; omega, by omega, by omega, trivial⟩
      · exact ⟨4, rfl, by omega, by omega, trivial⟩
      · exact ⟨6, rfl, by omega, by omega, trivial⟩
    subst hmany
    simp
    refine wp_mono (sp_office (n := n + 4) lp.off hm af3.st hmany1 (by omega) (most := 7) (by decide) (by decide)) ?_
    rintro _ S4 ⟨o1, rfl, ok1, af4⟩
    simp
    refine wp_mono (dr.tk (n := n + 10) af4.st (by decide) (by decide)) ?_
    rintro _ S5 ⟨v5, rfl, v51, v52, af5⟩
    simp
    split
    · refine wp_mono (sp_office (n := n + 4) lp.off hm af5.st (many := 20) (by omega) (by omega) (most := 7) (by decide) (by decide)) ?_
      rintro _ S6 ⟨o2, rfl, ok2, af6⟩
      simp
      refine wp_mono (sp_tail06 lp hm ok2 (by omega) af6.st _ _ _ _ _ _ _) ?_
      rintro _ S7 ⟨y4, y5, y6, y7, y8, rfl, st7⟩
      simp
      exact (hI _ _ _).mpr ⟨_, _, _, _, _, _, _, rfl, st7⟩
    · refine wp_mono (sp_tail06 lp hm ok1 (by omega) af5.st _ _ _ _ _ _ _) ?_
      rintro _ S7 ⟨y4, y5, y6, y7, y8, rfl, st7⟩
      simp
      exact (hI _ _ _).mpr ⟨_, _, _, _, _, _, _, rfl, st7⟩
  · intro ls S' hj
    obtain ⟨x2, x3, x4, x5, x6, x7, x8, rfl, st⟩ := (hI _ _ _).mp hj
    simp
end
end PV

set_option Elab.async false
set_option linter.all false
set_option maxRecDepth 100000
set_option maxHeartbeats 0
namespace PV.Row
open PySem PySem.Spec PyProof.Rows L2
def top (i : Nat) : Stmt := PySem.Challenge.pw_safelytold_k06_arcs_of_both_trees.main.body.getD i (.Pass ⟨0, 0, 0, 0⟩)
def c0 : Fc := { x := "knots_of", params := defArgs (top 1), body := defBody (top 1), sc := defScope (top 1), dfl := [.non], N := ["tree", "above", "found", "part"], df := ⟨2, 4, [.non], ["tree", "above"], .cons (.set 2 (.lst (.cons (.tup (.cons (.ix (.v 0) (.int 0)) (.cons (.v 1) (.nil)))) (.nil)))) (.cons (.for (.nm 3) (.q (.ix (.v 0) (.int 1))) (.cons (.ite (.isi .tuple (.v 3)) (.cons (.ex (.mt .extend (.v 2) (.cons (.call 0 (.cons (.v 3) (.cons (.ix (.v 0) (.int 0)) (.nil)))) (.nil)))) (.nil)) (.nil)) (.nil))) (.cons (.ret (.v 2)) (.nil)))⟩ }
def c1 : Fc := { x := "holders_of", params := defArgs (top 2), body := defBody (top 2), sc := defScope (top 2), dfl := [], N := ["tree", "holders", "waiting", "name", "parts", "part"], df := ⟨1, 6, [], ["tree"], .cons (.set 1 (.dnew)) (.cons (.set 2 (.lst (.cons (.v 0) (.nil)))) (.cons (.whl (.v 2) (.cons (.asg (.tup (.cons (.nm 3) (.cons (.nm 4) (.nil)))) (.mt .pop (.v 2) (.nil))) (.cons (.for (.nm 5) (.q (.v 4)) (.cons (.ite (.isi .tuple (.v 5)) (.cons (.ex (.mt .append (.v 2) (.cons (.v 5) (.nil)))) (.nil)) (.cons (.six (.v 1) (.v 5) (.v 3)) (.nil))) (.nil))) (.nil)))) (.cons (.ret (.v 1)) (.nil))))⟩ }
def c2 : Fc := { x := "arcs_of", params := defArgs (top 3), body := defBody (top 3), sc := defScope (top 3), dfl := [], N := ["office", "cells", "first", "second", "arcs", "name", "above", "begins", "ends", "cell"], df := ⟨1, 10, [], ["office"], .cons (.par3 1 2 3 (.ix (.v 0) (.int 0)) (.ix (.v 0) (.int 1)) (.ix (.v 0) (.int 2))) (.cons (.set 4 (.lst (.cons (.tup (.cons (.ix (.v 2) (.int 0)) (.cons (.ix (.v 3) (.int 0)) (.cons (.ix (.v 2) (.int 0)) (.nil))))) (.nil)))) (.cons (.ex (.mt .extend (.v 4) (.cons (.lc [("name", 5), ("above", 6)] (.tup (.cons (.nm 5) (.cons (.nm 6) (.nil)))) (.q (.sl (.call 0 (.cons (.v 2) (.nil))) (.int 1) .nil)) .nil (.tup (.cons (.v 5) (.cons (.v 6) (.cons (.v 5) (.nil)))))) (.nil)))) (.cons (.ex (.mt .extend (.v 4) (.cons (.lc [("name", 5), ("above", 6)] (.tup (.cons (.nm 5) (.cons (.nm 6) (.nil)))) (.q (.sl (.call 0 (.cons (.v 3) (.nil))) (.int 1) .nil)) .nil (.tup (.cons (.v 5) (.cons (.v 5) (.cons (.v 6) (.nil)))))) (.nil)))) (.cons (.set 7 (.call 1 (.cons (.v 2) (.nil)))) (.cons (.set 8 (.call 1 (.cons (.v 3) (.nil)))) (.cons (.ex (.mt .extend (.v 4) (.cons (.lc [("cell", 9)] (.nm 9) (.q (.v 1)) .nil (.tup (.cons (.v 9) (.cons (.ix (.v 7) (.v 9)) (.cons (.ix (.v 8) (.v 9)) (.nil)))))) (.nil)))) (.cons (.ret (.bi .tuple (.cons (.v 4) (.nil)))) (.nil))))))))⟩ }
def c3 : Fc := { x := "_law_mixed", params := defArgs (top 5), body := defBody (top 5), sc := defScope (top 5), dfl := [], N := ["number", "k", "first", "second"], df := ⟨2, 4, [], ["number", "k"], .cons (.set 2 (.bin .mod (.bi .int (.cons (.bin .add (.bin .add (.bin .mul (.v 0) (.int 48271)) (.bin .mul (.v 1) (.int 69621))) (.int 97)) (.nil))) (.int 2147483647))) (.cons (.set 3 (.bin .mod (.bi .int (.cons (.bin .add (.bin .add (.bin .mul (.v 2) (.bin .add (.bin .add (.v 2) (.bin .mul (.int 2) (.v 1))) (.int 1))) (.bin .mul (.v 1) (.int 16807))) (.int 31)) (.nil))) (.int 2147483629))) (.cons (.ret (.bin .mod (.bi .int (.cons (.bin .add (.bin .mul (.v 3) (.int 40692)) (.v 2)) (.nil))) (.int 2147483587))) (.nil)))⟩ }
def c4 : Fc := { x := "_law_start", params := defArgs (top 6), body := defBody (top 6), sc := defScope (top 6), dfl := [], N := ["script", "seed", "cell"], df := ⟨1, 3, [], ["script"], .cons (.set 1 (.bi .len (.cons (.v 0) (.nil)))) (.cons (.for (.nm 2) (.q (.sl (.v 0) .nil (.int 63))) (.cons (.set 1 (.call 3 (.cons (.bin .add (.v 1) (.v 2)) (.cons (.int 5) (.nil))))) (.nil))) (.cons (.ret (.lst (.cons (.int 0) (.cons (.int 0) (.cons (.int 0) (.cons (.v 1) (.cons (.bi .list (.cons (.sl (.v 0) .nil (.int 63)) (.nil))) (.cons (.int 0) (.nil))))))))) (.nil)))⟩ }
def c5 : Fc := { x := "_law_take", params := defArgs (top 7), body := defBody (top 7), sc := defScope (top 7), dfl := [], N := ["state", "limit", "cells", "cell", "value"], df := ⟨2, 5, [], ["state", "limit"], .cons (.set 2 (.ix (.v 0) (.int 4))) (.cons (.aix (.v 0) (.int 2) .add (.int 1)) (.cons (.ite (.bo true (.cons (.cmp .eq (.ix (.v 0) (.int 0)) (.int 0)) (.cons (.cmp .lt (.ix (.v 0) (.int 1)) (.bi .len (.cons (.v 2) (.nil)))) (.nil)))) (.cons (.set 3 (.ix (.v 2) (.ix (.v 0) (.int 1)))) (.cons (.aix (.v 0) (.int 1) .add (.int 1)) (.cons (.ite (.cmp .lt (.bi .abs (.cons (.v 3) (.nil))) (.bin .pow (.int 10) (.int 18))) (.cons (.ret (.bin .mod (.bi .int (.cons (.call 3 (.cons (.v 3) (.cons (.ix (.v 0) (.int 2)) (.nil)))) (.nil))) (.v 1))) (.nil)) (.nil)) (.cons (.six (.v 0) (.int 0) (.bi .abs (.cons (.v 3) (.nil)))) (.cons (.six (.v 0) (.int 5) (.int 60)) (.nil)))))) (.nil)) (.cons (.ite (.cmp .eq (.ix (.v 0) (.int 0)) (.int 0)) (.cons (.ret (.bin .mod (.bi .int (.cons (.call 3 (.cons (.ix (.v 0) (.int 3)) (.cons (.ix (.v 0) (.int 2)) (.nil)))) (.nil))) (.v 1))) (.nil)) (.nil)) (.cons (.set 4 (.bin .mod (.bi .int (.cons (.ix (.v 0) (.int 0)) (.nil))) (.v 1))) (.cons (.aix (.v 0) (.int 5) .sub (.int 1)) (.cons (.six (.v 0) (.int 0) (.bin .mul (.bin .fdiv (.ix (.v 0) (.int 0)) (.v 1)) (.bi .int (.cons (.cmp .gt (.ix (.v 0) (.int 5)) (.int 0)) (.nil))))) (.cons (.ret (.v 4)) (.nil))))))))⟩ }
def c6 : Fc := { x := "_law_pick", params := defArgs (top 8), body := defBody (top 8), sc := defScope (top 8), dfl := [], N := ["state", "some"], df := ⟨2, 2, [], ["state", "some"], .cons (.ret (.ix (.v 1) (.call 5 (.cons (.v 0) (.cons (.bi .len (.cons (.v 1) (.nil))) (.nil)))))) (.nil)⟩ }
def c7 : Fc := { x := "_law_shuffled", params := defArgs (top 9), body := defBody (top 9), sc := defScope (top 9), dfl := [], N := ["state", "some", "left", "found", "k", "at"], df := ⟨2, 6, [], ["state", "some"], .cons (.set 2 (.bi .list (.cons (.v 1) (.nil)))) (.cons (.set 3 (.lst (.nil))) (.cons (.for (.nm 4) (.qr (.bi .len (.cons (.v 1) (.nil)))) (.cons (.set 5 (.call 5 (.cons (.v 0) (.cons (.bi .len (.cons (.v 2) (.nil))) (.nil))))) (.cons (.ex (.mt .append (.v 3) (.cons (.ix (.v 2) (.v 5)) (.nil)))) (.cons (.set 2 (.bin .add (.sl (.v 2) .nil (.v 5)) (.sl (.v 2) (.bin .add (.v 5) (.int 1)) .nil))) (.nil))))) (.cons (.ret (.v 3)) (.nil))))⟩ }
def c8 : Fc := { x := "_law_same", params := defArgs (top 10), body := defBody (top 10), sc := defScope (top 10), dfl := [], N := ["told", "due", "k"], df := ⟨2, 3, [], ["told", "due"], .cons (.ite (.cmp .is (.v 1) (.non)) (.cons (.ret (.cmp .is (.v 0) (.non))) (.nil)) (.nil)) (.cons (.ite (.isi .bool (.v 1)) (.cons (.ret (.bo true (.cons (.isi .bool (.v 0)) (.cons (.cmp .eq (.v 0) (.v 1)) (.nil))))) (.nil)) (.nil)) (.cons (.ite (.isi .int (.v 1)) (.cons (.ret (.bo true (.cons (.isi .int (.v 0)) (.cons (.no (.isi .bool (.v 0))) (.cons (.cmp .eq (.v 0) (.v 1)) (.nil)))))) (.nil)) (.nil)) (.cons (.ite (.isi .str (.v 1)) (.cons (.ret (.bo true (.cons (.isi .str (.v 0)) (.cons (.cmp .eq (.v 0) (.v 1)) (.nil))))) (.nil)) (.nil)) (.cons (.ite (.bo false (.cons (.no (.isi .tuple (.v 0))) (.cons (.cmp .ne (.bi .len (.cons (.v 0) (.nil))) (.bi .len (.cons (.v 1) (.nil)))) (.nil)))) (.cons (.ret (.bl false)) (.nil)) (.nil)) (.cons (.for (.nm 2) (.qr (.bi .len (.cons (.v 1) (.nil)))) (.cons (.ite (.no (.call 8 (.cons (.ix (.v 0) (.v 2)) (.cons (.ix (.v 1) (.v 2)) (.nil))))) (.cons (.ret (.bl false)) (.nil)) (.nil)) (.nil))) (.cons (.ret (.bl true)) (.nil)))))))⟩ }
def c9 : Fc := { x := "_law_names", params := defArgs (top 11), body := defBody (top 11), sc := defScope (top 11), dfl := [], N := ["state", "many", "signs", "word", "k", "start", "found", "cut"], df := ⟨2, 8, [], ["state", "many"], .cons (.set 2 (.str "abcdefghijklmnopqrstuvwxyz0123456789.")) (.cons (.set 3 (.mt .join (.str "") (.cons (.lc [("k", 4)] (.nm 4) (.qr (.int 10)) .nil (.ix (.v 2) (.call 5 (.cons (.v 0) (.cons (.int 37) (.nil)))))) (.nil)))) (.cons (.set 5 (.call 5 (.cons (.v 0) (.cons (.int 37) (.nil))))) (.cons (.set 6 (.lst (.nil))) (.cons (.for (.nm 4) (.qr (.v 1)) (.cons (.set 7 (.call 5 (.cons (.v 0) (.cons (.int 11) (.nil))))) (.cons (.ex (.mt .append (.v 6) (.cons (.bin .add (.bin .add (.sl (.v 3) .nil (.v 7)) (.ix (.v 2) (.bin .mod (.bi .int (.cons (.bin .add (.v 5) (.v 4)) (.nil))) (.int 37)))) (.bin .mul (.ix (.v 2) (.bin .fdiv (.v 4) (.int 37))) (.bi .int (.cons (.cmp .gt (.v 1) (.int 37)) (.nil))))) (.nil)))) (.nil)))) (.cons (.ret (.bi .tuple (.cons (.bi .sorted (.cons (.v 6) (.nil))) (.nil)))) (.nil))))))⟩ }
def c10 : Fc := { x := "_law_knots", params := defArgs (top 12), body := defBody (top 12), sc := defScope (top 12), dfl := [], N := ["tree", "found", "left", "turn", "name", "parts", "above", "cells", "inner", "again", "part"], df := ⟨1, 11, [], ["tree"], .cons (.par2 1 2 (.lst (.nil)) (.lst (.cons (.tup (.cons (.v 0) (.cons (.non) (.nil)))) (.nil)))) (.cons (.for (.nm 3) (.qr (.int 10000)) (.cons (.ite (.cmp .eq (.v 2) (.lst (.nil))) (.cons (.brk) (.nil)) (.nil)) (.cons (.asg (.tup (.cons (.tup (.cons (.nm 4) (.cons (.nm 5) (.nil)))) (.cons (.nm 6) (.nil)))) (.mt .popAt (.v 2) (.cons (.int 0) (.nil)))) (.cons (.par2 7 8 (.lst (.nil)) (.bi .list (.cons (.v 5) (.nil)))) (.cons (.for (.nm 9) (.qr (.int 10000)) (.cons (.ite (.cmp .eq (.v 8) (.lst (.nil))) (.cons (.brk) (.nil)) (.nil)) (.cons (.set 10 (.mt .pop (.v 8) (.nil))) (.cons (.ite (.isi .str (.v 10)) (.cons (.ex (.mt .append (.v 7) (.cons (.v 10) (.nil)))) (.nil)) (.cons (.set 8 (.bin .add (.v 8) (.bi .list (.cons (.ix (.v 10) (.int 1)) (.nil))))) (.nil))) (.nil))))) (.cons (.ex (.mt .append (.v 1) (.cons (.lst (.cons (.v 4) (.cons (.v 7) (.cons (.v 6) (.nil))))) (.nil)))) (.cons (.set 2 (.bin .add (.lc [("part", 10)] (.nm 10) (.q (.v 5)) (.no (.isi .str (.v 10))) (.tup (.cons (.v 10) (.cons (.v 4) (.nil))))) (.v 2))) (.nil)))))))) (.cons (.ret (.v 1)) (.nil)))⟩ }
def c11 : Fc := { x := "_law_lots", params := defArgs (top 13), body := defBody (top 13), sc := defScope (top 13), dfl := [], N := ["office", "found", "cell", "name", "cells", "above"], df := ⟨1, 6, [], ["office"], .cons (.set 1 (.dnew)) (.cons (.for (.nm 2) (.q (.ix (.v 0) (.int 0))) (.cons (.six (.v 1) (.v 2) (.lst (.cons (.v 2) (.nil)))) (.nil))) (.cons (.for (.tup (.cons (.nm 3) (.cons (.nm 4) (.cons (.nm 5) (.nil))))) (.q (.bin .add (.call 10 (.cons (.ix (.v 0) (.int 1)) (.nil))) (.call 10 (.cons (.ix (.v 0) (.int 2)) (.nil))))) (.cons (.six (.v 1) (.v 3) (.v 4)) (.nil))) (.cons (.ret (.v 1)) (.nil))))⟩ }
def c12 : Fc := { x := "_law_tree", params := defArgs (top 14), body := defBody (top 14), sc := defScope (top 14), dfl := [], N := ["state", "cells", "spare", "deep", "name", "left", "parts", "turn", "size", "group"], df := ⟨4, 10, [], ["state", "cells", "spare", "deep"], .cons (.par3 4 5 6 (.mt .pop (.v 2) (.nil)) (.bi .list (.cons (.v 1) (.nil))) (.lst (.nil))) (.cons (.for (.nm 7) (.qr (.bi .len (.cons (.v 1) (.nil)))) (.cons (.ite (.cmp .ne (.v 5) (.lst (.nil))) (.cons (.set 8 (.bin .add (.int 1) (.call 5 (.cons (.v 0) (.cons (.bi .len (.cons (.v 5) (.nil))) (.nil)))))) (.cons (.par2 9 5 (.sl (.v 5) .nil (.v 8)) (.sl (.v 5) (.v 8) .nil)) (.cons (.ite (.bo true (.cons (.cmp .gt (.v 3) (.int 0)) (.cons (.cmp .gt (.bi .len (.cons (.v 2) (.nil))) (.int 4)) (.cons (.cmp .gt (.call 5 (.cons (.v 0) (.cons (.int 3) (.nil)))) (.int 0)) (.nil))))) (.cons (.ex (.mt .append (.v 6) (.cons (.call 12 (.cons (.v 0) (.cons (.v 9) (.cons (.v 2) (.cons (.bin .sub (.v 3) (.int 1)) (.nil)))))) (.nil)))) (.nil)) (.cons (.set 6 (.bin .add (.v 6) (.v 9))) (.nil))) (.nil)))) (.nil)) (.nil))) (.cons (.ret (.tup (.cons (.v 4) (.cons (.bi .tuple (.cons (.v 6) (.nil))) (.nil))))) (.nil)))⟩ }
def c13 : Fc := { x := "_law_mix", params := defArgs (top 15), body := defBody (top 15), sc := defScope (top 15), dfl := [], N := ["state", "names", "most", "some", "name"], df := ⟨3, 5, [], ["state", "names", "most"], .cons (.set 3 (.sl (.call 7 (.cons (.v 0) (.cons (.v 1) (.nil)))) .nil (.call 5 (.cons (.v 0) (.cons (.bin .add (.v 2) (.int 1)) (.nil)))))) (.cons (.ret (.bi .tuple (.cons (.lc [("name", 4)] (.nm 4) (.q (.bi .sorted (.cons (.v 3) (.nil)))) .nil (.tup (.cons (.v 4) (.cons (.call 6 (.cons (.v 0) (.cons (.lst (.cons (.int 1) (.cons (.int 1) (.cons (.neg (.int 1)) (.cons (.int 2) (.cons (.neg (.int 2)) (.cons (.int 3) (.nil)))))))) (.nil)))) (.nil))))) (.nil)))) (.nil))⟩ }
def c14 : Fc := { x := "_law_office", params := defArgs (top 16), body := defBody (top 16), sc := defScope (top 16), dfl := [], N := ["state", "many", "most", "names", "cells", "spare", "first", "second", "office", "every", "bounds", "wishes", "name", "low", "k", "pair"], df := ⟨3, 16, [], ["state", "many", "most"], .cons (.set 3 (.call 7 (.cons (.v 0) (.cons (.call 9 (.cons (.v 0) (.cons (.bin .add (.v 1) (.int 12)) (.nil)))) (.nil))))) (.cons (.set 4 (.bi .tuple (.cons (.bi .sorted (.cons (.sl (.v 3) .nil (.v 1)) (.nil))) (.nil)))) (.cons (.set 5 (.sl (.v 3) (.v 1) .nil)) (.cons (.set 6 (.call 12 (.cons (.v 0) (.cons (.call 7 (.cons (.v 0) (.cons (.v 4) (.nil)))) (.cons (.v 5) (.cons (.call 5 (.cons (.v 0) (.cons (.int 4) (.nil)))) (.nil))))))) (.cons (.set 7 (.call 12 (.cons (.v 0) (.cons (.call 7 (.cons (.v 0) (.cons (.v 4) (.nil)))) (.cons (.v 5) (.cons (.call 5 (.cons (.v 0) (.cons (.int 4) (.nil)))) (.nil))))))) (.cons (.set 8 (.tup (.cons (.v 4) (.cons (.v 6) (.cons (.v 7) (.cons (.call 5 (.cons (.v 0) (.cons (.bin .add (.v 2) (.int 1)) (.nil)))) (.cons (.tup (.nil)) (.cons (.tup (.nil)) (.nil))))))))) (.cons (.set 9 (.bi .sorted (.cons (.call 11 (.cons (.v 8) (.nil))) (.nil)))) (.cons (.par2 10 11 (.lst (.nil)) (.lst (.nil))) (.cons (.for (.nm 12) (.q (.v 9)) (.cons (.ite (.cmp .eq (.call 5 (.cons (.v 0) (.cons (.int 4) (.nil)))) (.int 0)) (.cons (.set 13 (.call 6 (.cons (.v 0) (.cons (.lst (.cons (.int 0) (.cons (.int 0) (.cons (.int 0) (.cons (.int 1) (.nil)))))) (.nil))))) (.cons (.ex (.mt .append (.v 10) (.cons (.tup (.cons (.v 12) (.cons (.v 13) (.cons (.call 6 (.cons (.v 0) (.cons (.lst (.cons (.non) (.cons (.bin .add (.v 13) (.call 5 (.cons (.v 0) (.cons (.bin .add (.v 2) (.int 1)) (.nil))))) (.cons (.int 1000000) (.nil))))) (.nil)))) (.nil))))) (.nil)))) (.nil))) (.nil)) (.nil))) (.cons (.for (.nm 14) (.qr (.call 5 (.cons (.v 0) (.cons (.int 4) (.nil))))) (.cons (.set 15 (.call 6 (.cons (.v 0) (.cons (.lst (.cons (.tup (.cons (.int 1) (.cons (.int 1) (.nil)))) (.cons (.tup (.cons (.int 0) (.cons (.int 1) (.nil)))) (.cons (.tup (.cons (.int 1) (.cons (.int 0) (.nil)))) (.cons (.tup (.cons (.int 9) (.cons (.int 10) (.nil)))) (.cons (.tup (.cons (.int 100) (.cons (.int 100) (.nil)))) (.nil))))))) (.nil))))) (.cons (.ex (.mt .append (.v 11) (.cons (.bin .add (.bin .add (.tup (.cons (.call 13 (.cons (.v 0) (.cons (.v 9) (.cons (.int 3) (.nil))))) (.nil))) (.v 15)) (.tup (.cons (.bin .sub (.call 5 (.cons (.v 0) (.cons (.int 9) (.nil)))) (.int 4)) (.nil)))) (.nil)))) (.nil)))) (.cons (.ret (.bin .add (.sl (.v 8) .nil (.int 4)) (.tup (.cons (.bi .tuple (.cons (.v 10) (.nil))) (.cons (.bi .tuple (.cons (.v 11) (.nil))) (.nil)))))) (.nil)))))))))))⟩ }
def c15 : Fc := { x := "_law_sum", params := defArgs (top 17), body := defBody (top 17), sc := defScope (top 17), dfl := [], N := ["office", "lots", "world", "name", "k"], df := ⟨4, 5, [], ["office", "lots", "world", "name"], .cons (.ret (.bi .sum (.cons (.lc [("k", 4)] (.nm 4) (.qr (.bi .len (.cons (.v 2) (.nil)))) (.cmp .isin (.ix (.ix (.v 0) (.int 0)) (.v 4)) (.ix (.v 1) (.v 3))) (.ix (.v 2) (.v 4))) (.nil)))) (.nil)⟩ }
def c16 : Fc := { x := "_law_above", params := defArgs (top 18), body := defBody (top 18), sc := defScope (top 18), dfl := [], N := ["tree", "found", "left", "turn", "name", "parts", "part"], df := ⟨1, 7, [], ["tree"], .cons (.par2 1 2 (.dnew) (.lst (.cons (.v 0) (.nil)))) (.cons (.for (.nm 3) (.qr (.int 10000)) (.cons (.ite (.cmp .eq (.v 2) (.lst (.nil))) (.cons (.brk) (.nil)) (.nil)) (.cons (.asg (.tup (.cons (.nm 4) (.cons (.nm 5) (.nil)))) (.mt .pop (.v 2) (.nil))) (.cons (.for (.nm 6) (.q (.v 5)) (.cons (.ite (.isi .str (.v 6)) (.cons (.six (.v 1) (.v 6) (.v 4)) (.nil)) (.cons (.ex (.mt .append (.v 2) (.cons (.v 6) (.nil)))) (.nil))) (.nil))) (.nil))))) (.cons (.ret (.v 1)) (.nil)))⟩ }
def c17 : Fc := { x := "_law_arcs", params := defArgs (top 19), body := defBody (top 19), sc := defScope (top 19), dfl := [], N := ["office", "first", "second", "found", "name", "cells", "above", "one", "other", "cell"], df := ⟨1, 10, [], ["office"], .cons (.par2 1 2 (.call 10 (.cons (.ix (.v 0) (.int 1)) (.nil))) (.call 10 (.cons (.ix (.v 0) (.int 2)) (.nil)))) (.cons (.set 3 (.lst (.cons (.tup (.cons (.ix (.ix (.v 0) (.int 1)) (.int 0)) (.cons (.ix (.ix (.v 0) (.int 2)) (.int 0)) (.cons (.ix (.ix (.v 0) (.int 1)) (.int 0)) (.nil))))) (.nil)))) (.cons (.set 3 (.bin .add (.v 3) (.lc [("name", 4), ("cells", 5), ("above", 6)] (.tup (.cons (.nm 4) (.cons (.nm 5) (.cons (.nm 6) (.nil))))) (.q (.v 1)) (.cmp .isn (.v 6) (.non)) (.tup (.cons (.v 4) (.cons (.v 6) (.cons (.v 4) (.nil)))))))) (.cons (.set 3 (.bin .add (.v 3) (.lc [("name", 4), ("cells", 5), ("above", 6)] (.tup (.cons (.nm 4) (.cons (.nm 5) (.cons (.nm 6) (.nil))))) (.q (.v 2)) (.cmp .isn (.v 6) (.non)) (.tup (.cons (.v 4) (.cons (.v 4) (.cons (.v 6) (.nil)))))))) (.cons (.asg (.tup (.cons (.nm 7) (.cons (.nm 8) (.nil)))) (.tup (.cons (.call 16 (.cons (.ix (.v 0) (.int 1)) (.nil))) (.cons (.call 16 (.cons (.ix (.v 0) (.int 2)) (.nil))) (.nil))))) (.cons (.ret (.bi .tuple (.cons (.bin .add (.v 3) (.lc [("cell", 9)] (.nm 9) (.q (.ix (.v 0) (.int 0))) .nil (.tup (.cons (.v 9) (.cons (.ix (.v 7) (.v 9)) (.cons (.ix (.v 8) (.v 9)) (.nil))))))) (.nil)))) (.nil))))))⟩ }
def c18 : Fc := { x := "_law_flows", params := defArgs (top 20), body := defBody (top 20), sc := defScope (top 20), dfl := [], N := ["office", "lots", "arcs", "counts", "left", "name", "start", "end", "number", "knot"], df := ⟨4, 10, [], ["office", "lots", "arcs", "counts"], .cons (.set 4 (.dnew)) (.cons (.for (.tup (.cons (.nm 5) (.cons (.nm 6) (.cons (.nm 7) (.nil))))) (.q (.v 2)) (.cons (.set 8 (.call 15 (.cons (.v 0) (.cons (.v 1) (.cons (.v 3) (.cons (.v 5) (.nil))))))) (.cons (.six (.v 4) (.v 6) (.bin .sub (.ite (.cmp .isin (.v 6) (.v 4)) (.ix (.v 4) (.v 6)) (.int 0)) (.v 8))) (.cons (.six (.v 4) (.v 7) (.bin .add (.ite (.cmp .isin (.v 7) (.v 4)) (.ix (.v 4) (.v 7)) (.int 0)) (.v 8))) (.nil))))) (.cons (.ret (.cmp .eq (.bi .len (.cons (.lk 4 (.lc [("knot", 9)] (.nm 9) (.q (.v 4)) (.cmp .ne (.ix (.v 4) (.v 9)) (.int 0)) (.v 9))) (.nil))) (.int 0))) (.nil)))⟩ }
def c19 : Fc := { x := "law", params := defArgs (top 21), body := defBody (top 21), sc := defScope (top 21), dfl := [], N := ["script", "state", "turn", "office", "told", "lots", "k", "counts", "cell"], df := ⟨1, 9, [], ["script"], .cons (.set 1 (.call 4 (.cons (.v 0) (.nil)))) (.cons (.for (.nm 2) (.qr (.int 4)) (.cons (.set 3 (.call 14 (.cons (.v 1) (.cons (.call 6 (.cons (.v 1) (.cons (.lst (.cons (.bin .add (.int 1) (.call 5 (.cons (.v 1) (.cons (.int 6) (.nil))))) (.cons (.int 4) (.cons (.int 6) (.nil))))) (.nil)))) (.cons (.int 7) (.nil)))))) (.cons (.ite (.cmp .eq (.call 5 (.cons (.v 1) (.cons (.int 24) (.nil)))) (.int 0)) (.cons (.set 3 (.call 14 (.cons (.v 1) (.cons (.int 20) (.cons (.int 7) (.nil)))))) (.nil)) (.nil)) (.cons (.set 4 (.call 2 (.cons (.v 3) (.nil)))) (.cons (.ite (.bo false (.cons (.no (.call 8 (.cons (.v 4) (.cons (.call 17 (.cons (.v 3) (.nil))) (.nil))))) (.cons (.no (.call 8 (.cons (.callk 2 ["office"] (.nil) (.cons (.v 3) (.nil))) (.cons (.v 4) (.nil))))) (.nil)))) (.cons (.ret (.bl false)) (.nil)) (.nil)) (.cons (.set 5 (.call 11 (.cons (.v 3) (.nil)))) (.cons (.for (.nm 6) (.qr (.int 4)) (.cons (.set 7 (.bi .tuple (.cons (.lc [("cell", 8)] (.nm 8) (.q (.ix (.v 3) (.int 0))) .nil (.call 6 (.cons (.v 1) (.cons (.lst (.cons (.int 0) (.cons (.int 1) (.cons (.call 5 (.cons (.v 1) (.cons (.int 100) (.nil)))) (.nil))))) (.nil))))) (.nil)))) (.cons (.ite (.no (.call 18 (.cons (.v 3) (.cons (.v 5) (.cons (.v 4) (.cons (.v 7) (.nil))))))) (.cons (.ret (.bl false)) (.nil)) (.nil)) (.nil)))) (.nil)))))))) (.cons (.ret (.bl true)) (.nil)))⟩ }
def C : List Fc := [c0, c1, c2, c3, c4, c5, c6, c7, c8, c9, c10, c11, c12, c13, c14, c15, c16, c17, c18, c19]
def KT : List (Nat × Nat × List Str) := [(2, 0, ["office"])]
theorem hck : ∀ c ∈ C, c.ck (ftOf C) KT = true := by
  have h : (C.all fun c => c.ck (ftOf C) KT) = true := by decide +kernel
  exact List.all_eq_true.mp h
theorem hb0 : BindC c0 := BindC.of1 (by decide) rfl rfl fun n h1 h2 T kV doc pm an cdv ct us its l1 l2 => by
  have h1 : n ≤ 2 := h1
  have h2 : 2 - n ≤ 1 := h2
  rcases (by omega : n = 1 ∨ 1 < n) with rfl | hn
  · exact match us, its, l1, l2 with | [_], [_], _, _ => ⟨_, rfl, rfl⟩
  obtain rfl : n = 2 := by omega
  exact match us, its, l1, l2 with | [_, _], [_], _, _ => ⟨_, rfl, rfl⟩
theorem hb1 : BindC c1 := BindC.of0 rfl rfl fun _ _ _ _ _ _ us hl => match us, hl with | [_], _ => rfl
theorem hb2 : BindC c2 := BindC.of0 rfl rfl fun _ _ _ _ _ _ us hl => match us, hl with | [_], _ => rfl
theorem hb3 : BindC c3 := BindC.of0 rfl rfl fun _ _ _ _ _ _ us hl => match us, hl with | [_, _], _ => rfl
theorem hb4 : BindC c4 := BindC.of0 rfl rfl fun _ _ _ _ _ _ us hl => match us, hl with | [_], _ => rfl
theorem hb5 : BindC c5 := BindC.of0 rfl rfl fun _ _ _ _ _ _ us hl => match us, hl with | [_, _], _ => rfl
theorem hb6 : BindC c6 := BindC.of0 rfl rfl fun _ _ _ _ _ _ us hl => match us, hl with | [_, _], _ => rfl
theorem hb7 : BindC c7 := BindC.of0 rfl rfl fun _ _ _ _ _ _ us hl => match us, hl with | [_, _], _ => rfl
theorem hb8 : BindC c8 := BindC.of0 rfl rfl fun _ _ _ _ _ _ us hl => match us, hl with | [_, _], _ => rfl
theorem hb9 : BindC c9 := BindC.of0 rfl rfl fun _ _ _ _ _ _ us hl => match us, hl with | [_, _], _ => rfl
theorem hb10 : BindC c10 := BindC.of0 rfl rfl fun _ _ _ _ _ _ us hl => match us, hl with | [_], _ => rfl
theorem hb11 : BindC c11 := BindC.of0 rfl rfl fun _ _ _ _ _ _ us hl => match us, hl with | [_], _ => rfl
theorem hb12 : BindC c12 := BindC.of0 rfl rfl fun _ _ _ _ _ _ us hl => match us, hl with | [_, _, _, _], _ => rfl
theorem hb13 : BindC c13 := BindC.of0 rfl rfl fun _ _ _ _ _ _ us hl => match us, hl with | [_, _, _], _ => rfl
theorem hb14 : BindC c14 := BindC.of0 rfl rfl fun _ _ _ _ _ _ us hl => match us, hl with | [_, _, _], _ => rfl
theorem hb15 : BindC c15 := BindC.of0 rfl rfl fun _ _ _ _ _ _ us hl => match us, hl with | [_, _, _, _], _ => rfl
theorem hb16 : BindC c16 := BindC.of0 rfl rfl fun _ _ _ _ _ _ us hl => match us, hl with | [_], _ => rfl
theorem hb17 : BindC c17 := BindC.of0 rfl rfl fun _ _ _ _ _ _ us hl => match us, hl with | [_], _ => rfl
theorem hb18 : BindC c18 := BindC.of0 rfl rfl fun _ _ _ _ _ _ us hl => match us, hl with | [_, _, _, _], _ => rfl
theorem hb19 : BindC c19 := BindC.of0 rfl rfl fun _ _ _ _ _ _ us hl => match us, hl with | [_], _ => rfl
theorem hB : ∀ c ∈ C, BindC c := by
  intro c hc
  simp only [C, List.mem_cons, List.not_mem_nil, or_false] at hc
  rcases hc with rfl | rfl | rfl | rfl | rfl | rfl | rfl | rfl | rfl | rfl | rfl | rfl | rfl | rfl | rfl | rfl | rfl | rfl | rfl | rfl
  · exact hb0
  · exact hb1
  · exact hb2
  · exact hb3
  · exact hb4
  · exact hb5
  · exact hb6
  · exact hb7
  · exact hb8
  · exact hb9
  · exact hb10
  · exact hb11
  · exact hb12
  · exact hb13
  · exact hb14
  · exact hb15
  · exact hb16
  · exact hb17
  · exact hb18
  · exact hb19
theorem hk0 : KBindC c2 0 ["office"] := KBindC.of0 rfl rfl fun _ _ _ _ _ _ us ws h1 h2 => match us, ws, h1, h2 with | [], [_], _, _ => rfl
theorem hKB : ∀ f n ks, (f, n, ks) ∈ KT → ∃ c, C[f]? = some c ∧ KBindC c n ks ∧ n ≤ c.df.ps.length := by
  intro f n ks h
  simp only [KT, List.mem_cons, List.not_mem_nil, or_false, Prod.mk.injEq] at h
  rcases h with ⟨rfl, rfl, rfl⟩
  · exact ⟨c2, rfl, hk0, by decide⟩
end PV.Row
namespace PV.Row
open PySem PySem.Spec PyProof.Rows L2
theorem lp : Law06P (C.map (·.df)) 3 5 6 7 9 12 10 11 13 14 0 1 2 4 8 16 17 15 18 19 := by
  refine ⟨⟨⟨⟨_, rfl⟩, ⟨_, rfl⟩, ⟨_, rfl⟩⟩, ?_, ?_, ?_, ?_, ?_, ?_, ?_⟩, ?_, ?_, ?_, ?_, ?_, ?_, ?_, ?_, ?_, ?_⟩ <;> first | exact rfl | exact ⟨_, rfl⟩
end PV.Row
namespace PV.Row
open PySem PySem.Spec PyProof.Rows L2
theorem lawF : LawF C 20000 13 19 c19 where
  at_ := rfl
  x := rfl
  dfl := rfl
  ps := rfl
  np := rfl
  bind := fun _ _ _ _ _ _ us hl => match us, hl with | [_], _ => rfl
  walk := fun ns => sp_law06 (n := 0) lp (by decide) ns
abbrev loose : List Str := (C.map (·.x)).filter fun x => !decide (x = "law")
abbrev R : PySem.W.OpenRow := PySem.W.OpenLaw.row PySem.Challenge.rw_safelytold_k06_arcs_of_both_trees
abbrev hk : PySem.W.Hook := He.hookD 4 (faOf C) (C.map Fc.d)
def ob (s : PySem.W.SharedT) : He.AlD := He.obsDG 4 (faOf C) (C.map Fc.d) (HandSHeadRun.getT s)
theorem ob_eq (s : PySem.W.SharedT) : ob s = hk.obs s.abs := He.obsDG_eq (HandSHeadRun.getT_eq s)
theorem run (w : World) : HandSHeadRun.RunEq R (PySem.W.view R.prog [21]) hk ob 4000 loose w := by
  intro os
  kernel_rfl
end PV.Row
open PySem PySem.W PySem.Calls PyProof.Rows
theorem PySem.Challenge.cw_safelytold_k06_arcs_of_both_trees_holds : PySem.Challenge.rw_safelytold_k06_arcs_of_both_trees.Holds := by
  w_on; o_law
  refine HandSHeadRun.head_any (r := OpenLaw.row PySem.Challenge.rw_safelytold_k06_arcs_of_both_trees) (q := view (OpenLaw.row PySem.Challenge.rw_safelytold_k06_arcs_of_both_trees).prog [21]) (H := PV.Row.hk) (ob := PV.Row.ob) (M := 4000) (loose := PV.Row.loose) (d := HandSHeadRun.topDef (OpenLaw.row PySem.Challenge.rw_safelytold_k06_arcs_of_both_trees).prog 21) (kwd := []) PV.Row.ob_eq
    (by kernel_rfl) (fun s => by kernel_rfl) PV.Row.run (by kernel_rfl) (by kernel_rfl) (by kernel_rfl) (by rfl) (by first | assumption | decide +kernel) (by decide +kernel) ⟨rfl, rfl, rfl, rfl, rfl, by decide +kernel⟩ ?hw ?hc
  case hw => w_witness2
  case hc =>
    refine L2.walk_ofE (l := PySem.Challenge.rw_safelytold_k06_arcs_of_both_trees) (n := 63) (k := 13) (x := "script") (CX := L2.CX0) rfl (by decide) (by kernel_rfl) ⟨rfl, by decide, by decide⟩ ?F (fun _ _ _ _ z => z)
    intro w mg fa h Y G hmg0
    obtain ⟨K, KX, c⟩ := Y
    have hmg : mg ("law" : PySem.Str) = some (.ref fa) := by
      have e : (HandSHeadRun.topDef (OpenLaw.row PySem.Challenge.rw_safelytold_k06_arcs_of_both_trees).prog 21).name = ("law" : PySem.Str) := by kernel_rfl
      rw [← e]
      exact hmg0
    obtain ⟨fd, hb, hs, hF⟩ := PV.law_head (prog := (PySem.Challenge.rw_safelytold_k06_arcs_of_both_trees).prog) (w := w) PV.Row.lawF PV.Row.hck PV.Row.hB PV.Row.hKB KX G hmg c
    exact ⟨K, fd, _, KX, hb, fun H a ns hl hO hS => hs H a ns hO hS, hF⟩
