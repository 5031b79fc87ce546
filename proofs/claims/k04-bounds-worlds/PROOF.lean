import PyProof.Rows.All
import Wide.All
import OpenK.AllK
import Wide.FinOn
import HandS.ForMost
import HandS.ForExc
import HandS.NoneIn
import HandS.TupAny
import HandS.Flow
import HandS.Style
import HandS.IsInst
import HandS.Conv
import HandS.Defaults
import HandS.Zip
import HandS.SortKw
import HandS.SortInts
import HandS.More
import KE.GoesEnum
import HandS.Rev
import HandS.DictComp
import HandS.CallSlots
import HandS.TryOnly
import HandS.TryMany
import HandS.ExcField
import HandS.ExcInit
import HandS.ExcOwn
import HandS.HeadHook1
import HandS.Head0
import HandS.Head1
import HandS.Head2
import HandS.HeadEnd
import HandS.HeadHook2
import HandS.MakeKw
import HandS.Codes
import HandS.Nested
import KE.KSuper
import KE.KExcSuper
import PySem.Challenge.RW_safelytold_k04_bounds_and_worlds

set_option Elab.async false
set_option linter.all false
set_option maxRecDepth 100000
/-! PV: my own small language of values by data, with a store for what changes; its runs. -/
namespace PV
open PySem

/-- a value: what never changes by its worth (rol: a list that is only read), what changes by its number in the store -/
inductive D where
  | non | bl (b : Bool) | int (i : Int) | str (x : Str) | tup (ds : List D) | rol (ds : List D) | ref (n : Nat)
  | exv (c : Nat) (ds : List D)
  deriving Inhabited

/-- what stands in the store -/
inductive O where
  | lst (ds : List D)
  | dct (kvs : List (L2.Key × D))
  | dcl (kvs : List (L2.Key × D))
  | ins (c : Nat) (fs : List (Str × D))
  deriving Inhabited

abbrev Store := List O
abbrev Ls := List (Option D)

inductive R (α : Type) where
  | ok (a : α) (S : Store)
  | exc (c : Nat) (ds : List D) (S : Store)
  | bad
def R.bind {α β : Type} (r : R α) (k : α → Store → R β) : R β :=
  match r with
  | .ok a S => k a S
  | .exc c ds S => .exc c ds S
  | .bad => .bad

inductive Bo where
  | add | sub | mul | fdiv | mod | pow
  deriving DecidableEq
inductive Co where
  | eq | ne | lt | le | gt | ge | isin | nin | is | isn
  deriving DecidableEq
inductive Fb where
  | len | abs | max | min | sum | sorted | list | tuple | int | all | any | str
  deriving DecidableEq
inductive Tk where
  | tuple | str | int | bool | list
  deriving DecidableEq
inductive Mt where
  | append | extend | pop | popAt | join
  deriving DecidableEq

/-- targets -/
inductive Tg where
  | nm (i : Nat) | tup (t : Tg) | nil | cons (t r : Tg)

/-- expressions; nil, cons: lists of them; q..: what a for walks -/
inductive E where
  | non | bl (b : Bool) | int (i : Int) | str (x : Str)
  | v (i : Nat)
  | bin (o : Bo) (a b : E)
  | neg (a : E)
  | no (a : E)
  | bo (k : Bool) (es : E)
  | cmp (o : Co) (a b : E)
  | chn (o p : Co) (a b c : E)
  | ite (c a b : E)
  | tup (es : E) | lst (es : E)
  | nil | cons (a r : E)
  | ix (a i : E)
  | sl (a lo hi : E)
  | dnew
  | call (f : Nat) (es : E)
  | callk (f : Nat) (ks : List Str) (es eks : E)
  | bi (f : Fb) (es : E)
  | isi (t : Tk) (a : E)
  | mt (m : Mt) (a es : E)
  | lc (own : List (Str × Nat)) (t : Tg) (it c e : E)
  | q (a : E) | qr (a : E) | qr2 (a b : E)
  | qe (a : E) | qv (a : E) | qz2 (a b : E) | qz3 (a b c : E)
  | slr (a : E)
  | dd2 (a b c d : E)
  | dc (own : List (Str × Nat)) (t : Tg) (it c k e : E)
  | lk (i : Nat) (e : E)
  | xf (i c k : Nat)

inductive S where
  | nil | cons (a r : S)
  | ex (e : E)
  | set (i : Nat) (e : E)
  | slc (i : Nat) (own : List (Str × Nat)) (t : Tg) (it c e : E)
  | sdc (i : Nat) (own : List (Str × Nat)) (t : Tg) (it c k e : E)
  | asg (t : Tg) (e : E)
  | par2 (i j : Nat) (a b : E)
  | par3 (i j l : Nat) (a b c : E)
  | aug (i : Nat) (o : Bo) (e : E)
  | six (a i e : E)
  | aix (a i : E) (o : Bo) (e : E)
  | ite (c : E) (a b : S)
  | whl (c : E) (b : S)
  | for (t : Tg) (it : E) (b : S)
  | ret (e : E) | retN | brk | cnt | pas
  | lks (i : Nat) (s : S)
  | rse (c : Nat) (es : E)
  | tr (b hs : S)
  | hd (c : Nat) (any : Bool) (i : Option Nat) (h r : S)
  | non

structure Df where
  np : Nat
  nl : Nat
  dfl : List D
  ps : List Str
  body : S

/-! ### what the operations do -/
def lenOk (n : Nat) : Bool := decide (n ≤ sizeLine)

def keyOf : D → Option L2.Key
  | .int i => some (.inl i)
  | .str x => some (.inr x)
  | _ => none
def dOfKey : L2.Key → D
  | .inl i => .int i
  | .inr x => .str x

/-- the items of a list or tuple -/
def seqD (d : D) (S : Store) : Option (List D) :=
  match d with
  | .tup ds => some ds
  | .rol ds => some ds
  | .ref n => match S[n]? with
    | some (.lst ds) => some ds
    | _ => none
  | _ => none
def truD (d : D) (S : Store) : Option Bool :=
  match d with
  | .non => some false
  | .bl b => some b
  | .int i => some (i != 0)
  | .str x => some ((x.length : Int) != 0)
  | .tup ds => some (!ds.isEmpty)
  | .rol ds => some (!ds.isEmpty)
  | .ref n => match S[n]? with
    | some (.lst ds) => some (!ds.isEmpty)
    | some (.dct kvs) => some (!kvs.isEmpty)
    | _ => none
  | .exv _ _ => none

mutual
def toP (S : Store) : Nat → D → Option PyData
  | 0, _ => none
  | n + 1, d => match d with
    | .non => some .none
    | .bl b => some (.bool b)
    | .int i => some (.int i)
    | .str x => some (.str x)
    | .tup ds => (toPs S n ds).map .tuple
    | .rol ds => (toPs S n ds).map .list
    | .ref r => match S[r]? with
      | some (.lst ds) => (toPs S n ds).map .list
      | _ => none
    | .exv _ _ => none
def toPs (S : Store) : Nat → List D → Option (List PyData)
  | 0, _ => none
  | _ + 1, [] => some []
  | n + 1, d :: ds => match toP S n d, toPs S n ds with
    | some p, some ps => some (p :: ps)
    | _, _ => none
end

/-- scalars that == tells apart as data does -/
def eqS : D → D → Option Bool
  | .non, .non => some true
  | .non, .int _ => some false | .int _, .non => some false
  | .non, .bl _ => some false | .bl _, .non => some false
  | .non, .str _ => some false | .str _, .non => some false
  | .int i, .int j => some (decide (i = j))
  | .bl i, .bl j => some (decide (i = j))
  | .str i, .str j => some (decide (i = j))
  | .int _, .str _ => some false | .str _, .int _ => some false
  | .bl _, .str _ => some false | .str _, .bl _ => some false
  | _, _ => none
/-- what the lengths tell -/
def lenD (a b : D) (S : Store) : Option Bool :=
  match a, b with
  | .ref m, .ref n => match S[m]?, S[n]? with
    | some (.lst xs), some (.lst ys) => if xs.length = ys.length then (if xs.length = 0 then some true else none) else some false
    | _, _ => none
  | .tup xs, .tup ys => if xs.length = 0 ∨ ys.length = 0 then some (decide (xs.length = ys.length)) else none
  | _, _ => none
def eqD (a b : D) (S : Store) : Option Bool :=
  match eqS a b with
  | some k => some k
  | none => match lenD a b S with
  | some k => some k
  | none => match toP S 1000 a, toP S 1000 b with
    | some p, some q => if SeqAt.shaped p && SeqAt.shaped q then some (PyData.eqv p q) else none
    | _, _ => none

def flatD : D → Bool
  | .non => true | .bl _ => true | .int _ => true | .str _ => true
  | _ => false
/-- as items of a list are compared with a flat thing -/
def eqF : D → D → Bool
  | .non, .non => true
  | .bl a, .bl b => a == b
  | .bl a, .int j => (if a then 1 else 0) == j
  | .int i, .bl b => i == (if b then 1 else 0)
  | .int i, .int j => i == j
  | .str x, .str y => x == y
  | _, _ => false

def valG {α : Type} (kvs : List (L2.Key × α)) (k : L2.Key) : Option α := (kvs.find? fun kv => decide (kv.1 = k)).map (·.2)
/-- in its place, or at the end -/
def putG {α : Type} (kvs : List (L2.Key × α)) (k : L2.Key) (v : α) : List (L2.Key × α) :=
  if (kvs.any fun kv => decide (kv.1 = k)) = true then kvs.map (fun kv => if kv.1 = k then (kv.1, v) else kv) else kvs ++ [(k, v)]

def inD (a b : D) (S : Store) : Option Bool :=
  match b with
  | .ref n => match S[n]? with
    | some (.dct kvs) => match keyOf a with
      | some k => some (valG kvs k).isSome
      | none => none
    | some (.dcl kvs) => match keyOf a with
      | some k => some (valG kvs k).isSome
      | none => none
    | some (.lst ds) => if flatD a && ds.all flatD then some (ds.any fun y => eqF y a) else none
    | _ => none
  | .tup ds => if flatD a && ds.all flatD then some (ds.any fun y => eqF y a) else none
  | .str z => match a with
    | .str x => if x.length = 1 then some (decide (x.cps.getD 0 0 ∈ z.cps.toList)) else none
    | _ => none
  | _ => none

def isD (a b : D) : Option Bool :=
  match b with
  | .non => some (match a with | .non => true | _ => false)
  | .bl k => match a with
    | .bl j => some (decide (j = k))
    | _ => none
  | _ => none

def cmpD (o : Co) (a b : D) (S : Store) : Option Bool :=
  match o with
  | .eq => eqD a b S
  | .ne => (eqD a b S).map (!·)
  | .lt => match a, b with
    | .int i, .int j => some (decide (i < j))
    | .str i, .str j => some (decide (i.cps.toList < j.cps.toList))
    | _, _ => none
  | .le => match a, b with
    | .int i, .int j => some (decide (i ≤ j))
    | _, _ => none
  | .gt => match a, b with
    | .int i, .int j => some (decide (j < i))
    | _, _ => none
  | .ge => match a, b with
    | .int i, .int j => some (decide (j ≤ i))
    | _, _ => none
  | .isin => inD a b S
  | .nin => (inD a b S).map (!·)
  | .is => isD a b
  | .isn => (isD a b).map (!·)

def mulOk (i j : Int) : Bool := decide ((-(2 ^ 64) < i ∧ i < 2 ^ 64) ∨ (-(2 ^ 64) < j ∧ j < 2 ^ 64))

def new (o : O) (S : Store) : R D := .ok (.ref S.length) (S ++ [o])


def binD (o : Bo) (a b : D) (S : Store) : R D :=
  match o with
  | .add => match a, b with
    | .int i, .int j => .ok (.int (i + j)) S
    | .int i, .bl k => .ok (.int (i + PyProof.Rows.b2i k)) S
    | .str x, .str y => if x.length + y.length ≤ sizeLine then .ok (.str (x ++ y)) S else .bad
    | .tup xs, .tup ys => if xs.length + ys.length ≤ sizeLine then .ok (.tup (xs ++ ys)) S else .bad
    | .ref m, .ref n => match S[m]?, S[n]? with
      | some (.lst xs), some (.lst ys) => if xs.length + ys.length ≤ sizeLine then new (.lst (xs ++ ys)) S else .bad
      | _, _ => .bad
    | _, _ => .bad
  | .sub => match a, b with
    | .int i, .int j => .ok (.int (i - j)) S
    | _, _ => .bad
  | .mul => match a, b with
    | .int i, .int j => if mulOk i j then .ok (.int (i * j)) S else .bad
    | .str x, .int k => if x.length ≤ 1000 ∧ k < 1000 ∧ -1000 < k then .ok (.str (Txt.mul x k)) S else .bad
    | .ref n, .int k => match S[n]? with
      | some (.lst ds) => if -(2 ^ 63) ≤ k ∧ k < 2 ^ 63 ∧ ds.length * k.toNat ≤ sizeLine then new (.lst (List.replicate k.toNat ds).flatten) S else .bad
      | _ => .bad
    | _, _ => .bad
  | .fdiv => match a, b with
    | .int i, .int j => if 0 < j ∧ j < 1073741824 then .ok (.int (i / j)) S else .bad
    | _, _ => .bad
  | .mod => match a, b with
    | .int i, .int j => if 0 < j then .ok (.int (i % j)) S else .bad
    | _, _ => .bad
  | .pow => match a, b with
    | .int i, .int j => if 0 ≤ j ∧ j ≤ 1000000 ∧ i.natAbs < 2 ^ 64 then .ok (.int (i ^ j.toNat)) S else .bad
    | _, _ => .bad

/-- a place among n, of any sign -/
def ixD (d : D) (i : D) (S : Store) : Option D :=
  match d, i with
  | .tup ds, .int k => L2.atI ds k
  | .rol ds, .int k => L2.atI ds k
  | .str z, .int k => (L2.atI z.cps.toList k).map fun c => .str ⟨#[c]⟩
  | .ref n, .int k => match S[n]? with
    | some (.lst ds) => L2.atI ds k
    | some (.dct kvs) => valG kvs (.inl k)
    | some (.dcl kvs) => valG kvs (.inl k)
    | _ => none
  | .ref n, .str x => match S[n]? with
    | some (.dct kvs) => valG kvs (.inr x)
    | some (.dcl kvs) => valG kvs (.inr x)
    | _ => none
  | _, _ => none

/-- .. of what stands in the store -/
def ixR (d i : D) (S : Store) : Option D :=
  match d with
  | .ref _ => ixD d i S
  | _ => none
def cut {α : Type} (xs : List α) (lo hi : Option Int) : List α := (xs.drop (HT.sIx xs.length 0 lo)).take (HT.sIx xs.length xs.length hi - HT.sIx xs.length 0 lo)
def slD (d : D) (lo hi : Option Int) (S : Store) : R D :=
  match d with
  | .tup ds => .ok (.tup (cut ds lo hi)) S
  | .rol ds => new (.lst (cut ds lo hi)) S
  | .str z => .ok (.str (L2.cutS z lo hi)) S
  | .ref n => match S[n]? with
    | some (.lst ds) => new (.lst (cut ds lo hi)) S
    | _ => .bad
  | _ => .bad

def setIx (a i e : D) (S : Store) : R Unit :=
  match a, i with
  | .ref n, .int k => match S[n]? with
    | some (.lst ds) => match L2.ixN ds.length k with
      | some j => .ok () (S.set n (.lst (ds.set j e)))
      | none => .bad
    | some (.dct kvs) => if kvs.length < sizeLine then .ok () (S.set n (.dct (putG kvs (.inl k) e))) else .bad
    | _ => .bad
  | .ref n, .str x => match S[n]? with
    | some (.dct kvs) => if kvs.length < sizeLine then .ok () (S.set n (.dct (putG kvs (.inr x) e))) else .bad
    | _ => .bad
  | _, _ => .bad

def asInts : List D → Option (List Int)
  | [] => some []
  | .int i :: r => (asInts r).map (i :: ·)
  | _ => none
def asStrs : List D → Option (List Str)
  | [] => some []
  | .str i :: r => (asStrs r).map (i :: ·)
  | _ => none
def asBls : List D → Option (List Bool)
  | [] => some []
  | .bl i :: r => (asBls r).map (i :: ·)
  | _ => none

/-- the greatest, the least of a list that is not empty -/
def maxL : Int → List Int → Int
  | m, [] => m
  | m, x :: r => maxL (if m < x then x else m) r
def minL : Int → List Int → Int
  | m, [] => m
  | m, x :: r => minL (if x < m then x else m) r
def insI {α : Type} (le : α → α → Bool) (x : α) : List α → List α
  | [] => [x]
  | y :: r => if le x y then x :: y :: r else y :: insI le x r
def isort {α : Type} (le : α → α → Bool) : List α → List α
  | [] => []
  | x :: r => insI le x (isort le r)
def leI (a b : Int) : Bool := decide (a ≤ b)
def leS (a b : Str) : Bool := !decide (b.cps.toList < a.cps.toList)

def sortD (ds : List D) : Option (List D) :=
  if ds.length < 64 then
    match asInts ds with
    | some ns => some ((isort leI ns).map .int)
    | none => match asStrs ds with
      | some xs => some ((isort leS xs).map .str)
      | none => none
  else none

def fbD (f : Fb) (ds : List D) (S : Store) : R D :=
  match f with
  | .len => match ds with
    | [.str x] => .ok (.int x.length) S
    | [.tup xs] => .ok (.int xs.length) S
    | [.rol xs] => .ok (.int xs.length) S
    | [.ref n] => match S[n]? with
      | some (.lst xs) => .ok (.int xs.length) S
      | some (.dct kvs) => .ok (.int kvs.length) S
      | _ => .bad
    | _ => .bad
  | .abs => match ds with
    | [.int i] => .ok (.int (if i < 0 then -i else i)) S
    | _ => .bad
  | .max => match ds with
    | [.int i, .int j] => .ok (.int (if j > i then j else i)) S
    | [.ref n] => match S[n]? with
      | some (.lst xs) => match asInts xs with
        | some (i :: r) => .ok (.int (maxL i r)) S
        | _ => .bad
      | _ => .bad
    | _ => .bad
  | .min => match ds with
    | [.int i, .int j] => .ok (.int (if j < i then j else i)) S
    | [.ref n] => match S[n]? with
      | some (.lst xs) => match asInts xs with
        | some (i :: r) => .ok (.int (minL i r)) S
        | _ => .bad
      | _ => .bad
    | _ => .bad
  | .str => match ds with
    | [.int i] => if i.natAbs.log2 < 1920 ∧ (toString i : Str).length ≤ sizeLine then .ok (.str (toString i)) S else .bad
    | _ => .bad
  | .sum => match ds with
    | [.tup xs] => match asInts xs with
      | some ns => .ok (.int ns.sum) S
      | none => .bad
    | [.ref n] => match S[n]? with
      | some (.lst xs) => match asInts xs with
        | some ns => .ok (.int ns.sum) S
        | none => .bad
      | _ => .bad
    | _ => .bad
  | .sorted => match ds with
    | [.ref n] => match S[n]? with
      | some (.lst xs) => match sortD xs with
        | some ys => new (.lst ys) S
        | none => .bad
      | some (.dct kvs) => match sortD (kvs.map fun p => dOfKey p.1) with
        | some ys => new (.lst ys) S
        | none => .bad
      | _ => .bad
    | _ => .bad
  | .list => match ds with
    | [d] => match seqD d S with
      | some xs => new (.lst xs) S
      | none => .bad
    | _ => .bad
  | .tuple => match ds with
    | [d] => match seqD d S with
      | some xs => .ok (.tup xs) S
      | none => .bad
    | _ => .bad
  | .int => match ds with
    | [.int i] => .ok (.int i) S
    | [.bl k] => .ok (.int (if k then 1 else 0)) S
    | _ => .bad
  | .all => match ds with
    | [.ref n] => match S[n]? with
      | some (.lst xs) => match asBls xs with
        | some bs => .ok (.bl (bs.all id)) S
        | none => .bad
      | _ => .bad
    | _ => .bad
  | .any => match ds with
    | [.ref n] => match S[n]? with
      | some (.lst xs) => match asBls xs with
        | some bs => .ok (.bl (bs.any id)) S
        | none => .bad
      | _ => .bad
    | _ => .bad

def isiD (t : Tk) (d : D) (S : Store) : Option Bool :=
  match d with
  | .non => some false
  | .bl _ => some (match t with | .bool => true | .int => true | _ => false)
  | .int _ => some (match t with | .int => true | _ => false)
  | .str _ => some (match t with | .str => true | _ => false)
  | .tup _ => some (match t with | .tuple => true | _ => false)
  | .rol _ => none
  | .exv _ _ => none
  | .ref n => match S[n]? with
    | some (.lst _) => some (match t with | .list => true | _ => false)
    | _ => none

def mtD (m : Mt) (a : D) (ds : List D) (S : Store) : R D :=
  match m with
  | .append => match a, ds with
    | .ref n, [d] => match S[n]? with
      | some (.lst xs) => if xs.length < sizeLine then .ok .non (S.set n (.lst (xs ++ [d]))) else .bad
      | _ => .bad
    | _, _ => .bad
  | .extend => match a, ds with
    | .ref n, [.ref k] => match S[n]?, S[k]? with
      | some (.lst xs), some (.lst ys) => if xs.length + ys.length ≤ sizeLine then .ok .non (S.set n (.lst (xs ++ ys))) else .bad
      | _, _ => .bad
    | _, _ => .bad
  | .pop => match a, ds with
    | .ref n, [] => match S[n]? with
      | some (.lst xs) => match xs[xs.length - 1]? with
        | some y => .ok y (S.set n (.lst xs.dropLast))
        | none => .bad
      | _ => .bad
    | _, _ => .bad
  | .popAt => match a, ds with
    | .ref n, [.int i] => match S[n]? with
      | some (.lst xs) => match L2.ixN xs.length i with
        | some k => match xs[k]? with
          | some y => .ok y (S.set n (.lst (xs.eraseIdx k)))
          | none => .bad
        | none => .bad
      | _ => .bad
    | _, _ => .bad
  | .join => match a, ds with
    | .str s, [d] => match seqD d S with
      | some xs => match asStrs xs with
        | some ys => if ((Txt.join s ys).length ≤ sizeLine ∧ (ys.map (·.length)).sum + ys.length * s.length ≤ 16777216) then .ok (.str (Txt.join s ys)) S else .bad
        | none => .bad
      | none => .bad
    | _, _ => .bad

/-- what a method is asked of -/
def mtTy (m : Mt) (a : D) (S : Store) : Bool :=
  match a with
  | .str _ => match m with
    | .join => true
    | _ => false
  | .ref n => match S[n]? with
    | some (.lst _) => match m with
      | .join => false
      | _ => true
    | _ => false
  | _ => false

/-! ### targets, walked things -/
mutual
def asgT : Tg → D → Store → Ls → Option Ls
  | .nm i, d, _, ls => some (ls.set i (some d))
  | .tup t, d, S, ls => match seqD d S with
    | some ds => asgTs t ds S ls
    | none => none
  | .nil, _, _, _ => none
  | .cons _ _, _, _, _ => none
def asgTs : Tg → List D → Store → Ls → Option Ls
  | .nil, ds, _, ls => match ds with
    | [] => some ls
    | _ => none
  | .cons t r, ds, S, ls => match ds with
    | d :: rest => match asgT t d S ls with
      | some ls' => asgTs r rest S ls'
      | none => none
    | [] => none
  | .nm _, _, _, _ => none
  | .tup _, _, _, _ => none
end

inductive ItV where
  | tup (ds : List D)
  | rol (ds : List D)
  | obj (n : Nat)
  | keys (n : Nat)
  | rng (lo : Int) (n : Nat)
  | rev (d : D) (n : Nat)
  | enu (d : D)
  | zip2 (a b : D)
  | zip3 (a b c : D)
/-- none: no walk; some none: the end -/
def ItV.nxt (J : ItV) (i : Nat) (S : Store) : Option (Option D) :=
  match J with
  | .tup ds => some ds[i]?
  | .rol ds => some ds[i]?
  | .obj n => match S[n]? with
    | some (.lst ds) => some ds[i]?
    | _ => none
  | .keys n => match S[n]? with
    | some (.dcl kvs) => some ((kvs[i]?).map fun p => dOfKey p.1)
    | _ => none
  | .rng lo n => some (if i < n then some (.int (lo + i)) else none)
  | .rev d n => if i < n then (match seqD d S with
    | some ds => match ds[n - 1 - i]? with
      | some x => some (some x)
      | none => none
    | none => none) else some none
  | .enu d => match seqD d S with
    | some ds => match ds[i]? with
      | some x => some (some (.tup [.int (i : Nat), x]))
      | none => if ds.length = i then some none else none
    | none => none
  | .zip2 a b => match seqD a S, seqD b S with
    | some xs, some ys => match xs[i]?, ys[i]? with
      | some x, some y => some (some (.tup [x, y]))
      | _, _ => if i = min xs.length ys.length then some none else none
    | _, _ => none
  | .zip3 a b c => match seqD a S, seqD b S, seqD c S with
    | some xs, some ys, some zs => match xs[i]?, ys[i]?, zs[i]? with
      | some x, some y, some z => some (some (.tup [x, y, z]))
      | _, _, _ => if i = min (min xs.length ys.length) zs.length then some none else none
    | _, _, _ => none

inductive Fl where
  | next (ls : Ls) | ret (d : D) | brk (ls : Ls) | cont (ls : Ls) | exc (ls : Ls) (c : Nat) (ds : List D)

def forL (g : D → Store → Ls → Option Ls) (body : Ls → Store → R Fl) (J : ItV) : Nat → Nat → Ls → Store → R Fl
  | 0, _, _, _ => .bad
  | m + 1, i, ls, S => match J.nxt i S with
    | none => .bad
    | some none => .ok (.next ls) S
    | some (some d) => match g d S ls with
      | none => .bad
      | some ls1 => match body ls1 S with
        | .ok (.next ls') S' => forL g body J m (i + 1) ls' S'
        | .ok (.cont ls') S' => forL g body J m (i + 1) ls' S'
        | .ok (.brk ls') S' => .ok (.next ls') S'
        | r => r
def whlL (c : Ls → Store → R Bool) (body : Ls → Store → R Fl) : Nat → Ls → Store → R Fl
  | 0, _, _ => .bad
  | m + 1, ls, S => match c ls S with
    | .ok true S1 => match body ls S1 with
      | .ok (.next ls') S' => whlL c body m ls' S'
      | .ok (.cont ls') S' => whlL c body m ls' S'
      | .ok (.brk ls') S' => .ok (.next ls') S'
      | r => r
    | .ok false S1 => .ok (.next ls) S1
    | .exc k ds S1 => .ok (.exc ls k ds) S1
    | .bad => .bad

def wipeD (ls : Ls) : List Nat → Ls
  | [] => ls
  | v :: vs => (wipeD ls vs).set v none
/-- the list of a comprehension stands at D -/
def lcL (g : D → Store → Ls → Option Ls) (c : Ls → Store → R Bool) (e : Ls → Store → R D) (J : ItV) (r : Nat) (w : Ls) : Nat → Nat → Store → R D
  | 0, _, _ => .bad
  | m + 1, i, S => match J.nxt i S with
    | none => .bad
    | some none => .ok (.ref r) S
    | some (some d) => match g d S w with
      | none => .bad
      | some ls1 => match c ls1 S with
        | .ok true S1 => match e ls1 S1 with
          | .ok y S2 => match S2[r]? with
            | some (.lst acc) => if acc.length < sizeLine then lcL g c e J r w m (i + 1) (S2.set r (.lst (acc ++ [y]))) else .bad
            | _ => .bad
          | _ => .bad
        | .ok false S1 => lcL g c e J r w m (i + 1) S1
        | _ => .bad

/-- .. of a dict comprehension -/
def dcL (g : D → Store → Ls → Option Ls) (c : Ls → Store → R Bool) (k e : Ls → Store → R D) (J : ItV) (r : Nat) (w : Ls) : Nat → Nat → Store → R D
  | 0, _, _ => .bad
  | m + 1, i, S => match J.nxt i S with
    | none => .bad
    | some none => .ok (.ref r) S
    | some (some d) => match g d S w with
      | none => .bad
      | some ls1 => match c ls1 S with
        | .ok true S1 => match k ls1 S1 with
          | .ok y S2 => match e ls1 S2 with
            | .ok z S3 => match S3[r]?, keyOf y with
              | some (.dct kvs), some q => if kvs.length < sizeLine then dcL g c k e J r w m (i + 1) (S3.set r (.dct (putG kvs q z))) else .bad
              | _, _ => .bad
            | _ => .bad
          | _ => .bad
        | .ok false S1 => dcL g c k e J r w m (i + 1) S1
        | _ => .bad

/-! ### the runs -/
/-- x[::-1] -/
def revD (d : D) (S : Store) : R D :=
  match d with
  | .tup ds => .ok (.tup ds.reverse) S
  | .rol ds => new (.lst ds.reverse) S
  | .ref n => match S[n]? with
    | some (.lst ds) => new (.lst ds.reverse) S
    | _ => .bad
  | _ => .bad
/-- a dict of two pairs, made at n -/
def dd2D (n : Nat) (a b c d : D) (S : Store) : R D :=
  match keyOf a, keyOf c, S[n]? with
  | some p, some q, some (.dct []) => .ok (.ref n) (S.set n (.dct (putG (putG [] p b) q d)))
  | _, _, _ => .bad
/-- what may be walked in pairs -/
def seqI (d : D) (S : Store) (k : List D → ItV) : R ItV := match seqD d S with
  | some ds => .ok (k ds) S
  | none => .bad
def opt {α : Type} (o : Option α) (S : Store) : R α :=
  match o with
  | some a => .ok a S
  | none => .bad
/-- what an expression is worth: as a value, as a test, as a list of expressions, as what and, or go through, as what a for walks; nl: it is nil -/
structure Sm where
  val : Ls → Store → R D := fun _ _ => .bad
  tst : Ls → Store → R Bool := fun _ _ => .bad
  lst : Ls → Store → R (List D) := fun _ _ => .bad
  bov : Bool → Ls → Store → R D := fun _ _ _ => .bad
  bot : Bool → Ls → Store → R Bool := fun _ _ _ => .bad
  itv : Ls → Store → R ItV := fun _ _ => .bad
  nl : Bool := false
def tru (r : R D) : R Bool := r.bind fun x S1 => opt (truD x S1) S1
def Sm.of (f : Ls → Store → R D) : Sm := { val := f, tst := fun ls S => tru (f ls S) }
/-- a part of a slice: nil where it is left out -/
def Sm.part (s : Sm) (ls : Ls) (S : Store) : R (Option Int) :=
  if s.nl then .ok none S else (s.val ls S).bind fun x S1 => match x with
    | .int i => .ok (some i) S1
    | _ => .bad
/-- a comprehension's test: nil where there is none -/
def Sm.cond (s : Sm) (ls : Ls) (S : Store) : R Bool := if s.nl then .ok true S else s.tst ls S
section
variable (F : Nat → List D → Store → R D) (FK : Nat → List Str → List D → List D → Store → R D) (m : Nat)
def ev : E → Sm
  | .non => .of fun _ S => .ok .non S
  | .bl b => .of fun _ S => .ok (.bl b) S
  | .int i => .of fun _ S => .ok (.int i) S
  | .str x => .of fun _ S => .ok (.str x) S
  | .v i => .of fun ls S => match ls[i]? with
    | some (some d) => .ok d S
    | _ => .bad
  | .bin o a b => .of fun ls S => ((ev a).val ls S).bind fun x S1 => ((ev b).val ls S1).bind fun y S2 => binD o x y S2
  | .neg a => .of fun ls S => ((ev a).val ls S).bind fun x S1 => match x with
    | .int i => .ok (.int (-i)) S1
    | _ => .bad
  | .no a => { val := fun ls S => ((ev a).val ls S).bind fun x S1 => opt ((truD x S1).map fun k => .bl (!k)) S1
               tst := fun ls S => ((ev a).tst ls S).bind fun k S1 => .ok (!k) S1 }
  | .bo k es => { val := fun ls S => (ev es).bov k ls S, tst := fun ls S => (ev es).bot k ls S }
  | .cmp o a b => .of fun ls S => ((ev a).val ls S).bind fun x S1 => ((ev b).val ls S1).bind fun y S2 => opt ((cmpD o x y S2).map .bl) S2
  | .chn o p a b c => .of fun ls S => ((ev a).val ls S).bind fun x S1 => ((ev b).val ls S1).bind fun y S2 => match cmpD o x y S2 with
    | some true => ((ev c).val ls S2).bind fun z S3 => opt ((cmpD p y z S3).map .bl) S3
    | some false => .ok (.bl false) S2
    | none => .bad
  | .ite c a b => { val := fun ls S => ((ev c).tst ls S).bind fun k S1 => if k then (ev a).val ls S1 else (ev b).val ls S1
                    tst := fun ls S => ((ev c).tst ls S).bind fun k S1 => if k then (ev a).tst ls S1 else (ev b).tst ls S1 }
  | .tup es => .of fun ls S => ((ev es).lst ls S).bind fun ds S1 => if ds.length ≤ sizeLine then .ok (.tup ds) S1 else .bad
  | .lst es => .of fun ls S => ((ev es).lst ls S).bind fun ds S1 => if ds.length ≤ sizeLine then new (.lst ds) S1 else .bad
  | .nil => { lst := fun _ S => .ok [] S, nl := true }
  | .cons a r => {
      lst := fun ls S => ((ev a).val ls S).bind fun x S1 => ((ev r).lst ls S1).bind fun xs S2 => .ok (x :: xs) S2
      bov := fun k ls S => if (ev r).nl then (ev a).val ls S else ((ev a).val ls S).bind fun x S1 => match truD x S1 with
        | some t => if t = k then (ev r).bov k ls S1 else .ok x S1
        | none => .bad
      bot := fun k ls S => if (ev r).nl then (ev a).tst ls S else ((ev a).tst ls S).bind fun t S1 => if t = k then (ev r).bot k ls S1 else .ok t S1 }
  | .ix a i => .of fun ls S => ((ev a).val ls S).bind fun x S1 => ((ev i).val ls S1).bind fun y S2 => opt (ixD x y S2) S2
  | .sl a lo hi => .of fun ls S => ((ev a).val ls S).bind fun x S1 => ((ev lo).part ls S1).bind fun l S2 => ((ev hi).part ls S2).bind fun u S3 => slD x l u S3
  | .dnew => .of fun _ S => new (.dct []) S
  | .call f es => .of fun ls S => ((ev es).lst ls S).bind fun ds S1 => F f ds S1
  | .callk f ks es eks => .of fun ls S => ((ev es).lst ls S).bind fun ds S1 => ((ev eks).lst ls S1).bind fun es S2 => FK f ks ds es S2
  | .bi f es => .of fun ls S => ((ev es).lst ls S).bind fun ds S1 => fbD f ds S1
  | .isi t a => .of fun ls S => ((ev a).val ls S).bind fun x S1 => opt ((isiD t x S1).map .bl) S1
  | .mt k a es => .of fun ls S => ((ev a).val ls S).bind fun x S1 => if mtTy k x S1 then ((ev es).lst ls S1).bind fun ds S2 => mtD k x ds S2 else .bad
  | .lc own t it c e => .of fun ls S => ((ev it).itv ls S).bind fun J S1 =>
      lcL (fun d S ls => asgT t d S ls) (fun ls S => (ev c).cond ls S) (fun ls S => (ev e).val ls S) J S1.length (wipeD ls (own.map (·.2))) m 0 (S1 ++ [.lst []])
  | .q a => { itv := fun ls S => ((ev a).val ls S).bind fun x S1 => match x with
    | .tup ds => .ok (.tup ds) S1
    | .rol ds => .ok (.rol ds) S1
    | .ref n => match S1[n]? with
      | some (.lst _) => .ok (.obj n) S1
      | some (.dcl _) => .ok (.keys n) S1
      | _ => .bad
    | _ => .bad }
  | .qr a => { itv := fun ls S => ((ev a).val ls S).bind fun x S1 => match x with
    | .int i => if -(2 ^ 62) ≤ i ∧ i < 2 ^ 62 then .ok (.rng 0 i.toNat) S1 else .bad
    | _ => .bad }
  | .qr2 a b => { itv := fun ls S => ((ev a).val ls S).bind fun x S1 => ((ev b).val ls S1).bind fun y S2 => match x, y with
    | .int i, .int j => if -(2 ^ 62) ≤ i ∧ i < 2 ^ 62 ∧ -(2 ^ 62) ≤ j ∧ j < 2 ^ 62 then .ok (.rng i (j - i).toNat) S2 else .bad
    | _, _ => .bad }
  | .qe a => { itv := fun ls S => ((ev a).val ls S).bind fun x S1 => seqI x S1 fun _ => .enu x }
  | .qv a => { itv := fun ls S => ((ev a).val ls S).bind fun x S1 => seqI x S1 fun ds => .rev x ds.length }
  | .qz2 a b => { itv := fun ls S => ((ev a).val ls S).bind fun x S1 => ((ev b).val ls S1).bind fun y S2 => match seqD x S2 with
    | some _ => seqI y S2 fun _ => .zip2 x y
    | none => .bad }
  | .qz3 a b c => { itv := fun ls S => ((ev a).val ls S).bind fun x S1 => ((ev b).val ls S1).bind fun y S2 => ((ev c).val ls S2).bind fun z S3 => match seqD x S3, seqD y S3 with
    | some _, some _ => seqI z S3 fun _ => .zip3 x y z
    | _, _ => .bad }
  | .slr a => .of fun ls S => ((ev a).val ls S).bind fun x S1 => revD x S1
  | .dd2 a b c d => .of fun ls S => ((ev a).val ls (S ++ [.dct []])).bind fun x S1 => ((ev b).val ls S1).bind fun y S2 => ((ev c).val ls S2).bind fun z S3 => ((ev d).val ls S3).bind fun u S4 => dd2D S.length x y z u S4
  | .dc own t it c k e => .of fun ls S => ((ev it).itv ls S).bind fun J S1 =>
      dcL (fun d S ls => asgT t d S ls) (fun ls S => (ev c).cond ls S) (fun ls S => (ev k).val ls S) (fun ls S => (ev e).val ls S) J S1.length (wipeD ls (own.map (·.2))) m 0 (S1 ++ [.dct []])
  | .lk i e => { val := fun ls S => match ls[i]? with
    | some (some (.ref n)) => match S[n]? with
      | some (.dct kvs) => match (ev e).val ls (S.set n (.dcl kvs)) with
        | .ok d S1 => match S1[n]? with
          | some (.dcl kvs') => .ok d (S1.set n (.dct kvs'))
          | _ => .bad
        | _ => .bad
      | _ => .bad
    | _ => .bad }
  | .xf i c k => .of fun ls S => match ls[i]? with
    | some (some (.exv c' ds)) => if c' = c then opt ds[k]? S else .bad
    | _ => .bad
abbrev evE (e : E) (ls : Ls) (S : Store) : R D := (ev F FK m e).val ls S
abbrev evT (e : E) (ls : Ls) (S : Store) : R Bool := (ev F FK m e).tst ls S
abbrev evI (e : E) (ls : Ls) (S : Store) : R ItV := (ev F FK m e).itv ls S

/-- a statement's expression: what it raises leaves with the slots -/
def bindS {α : Type} (r : R α) (ls : Ls) (k : α → Store → R Fl) : R Fl :=
  match r with
  | .ok a S => k a S
  | .exc c ds S => .ok (.exc ls c ds) S
  | .bad => .bad
/-- the name of an except clause: bound, gone -/
def onH (i : Option Nat) (c : Nat) (ds : List D) (ls : Ls) : Ls := match i with
  | some i => ls.set i (some (.exv c ds))
  | none => ls.set 4096 none
def xSlot (i : Option Nat) : Nat := i.getD 4096
def offL (i : Option Nat) (ls : Ls) : Ls := ls.set (xSlot i) none
def offH (i : Option Nat) (r : R Fl) : R Fl := match r with
  | .ok (.next ls) S => .ok (.next (offL i ls)) S
  | .ok (.brk ls) S => .ok (.brk (offL i ls)) S
  | .ok (.cont ls) S => .ok (.cont (offL i ls)) S
  | .ok (.ret d) S => .ok (.ret d) S
  | _ => .bad
mutual
def exS : S → Ls → Store → R Fl
  | .nil, ls, S => .ok (.next ls) S
  | .cons a r, ls, S => match exS a ls S with
    | .ok (.next ls') S' => exS r ls' S'
    | q => q
  | .ex e, ls, S => bindS (evE F FK m e ls S) ls fun _ S1 => .ok (.next ls) S1
  | .set i e, ls, S => bindS (evE F FK m e ls S) ls fun x S1 => .ok (.next (ls.set i (some x))) S1
  | .slc i own t it c e, ls, S => bindS (evE F FK m (.lc own t it c e) ls S) ls fun x S1 => .ok (.next (ls.set i (some x))) S1
  | .sdc i own t it c k e, ls, S => bindS (evE F FK m (.dc own t it c k e) ls S) ls fun x S1 => .ok (.next (ls.set i (some x))) S1
  | .asg t e, ls, S => bindS (evE F FK m e ls S) ls fun x S1 => match asgT t x S1 ls with
    | some ls' => .ok (.next ls') S1
    | none => .bad
  | .par2 i j a b, ls, S => bindS (evE F FK m a ls S) ls fun x S1 => bindS (evE F FK m b ls S1) ls fun y S2 => .ok (.next ((ls.set i (some x)).set j (some y))) S2
  | .par3 i j l a b c, ls, S => bindS (evE F FK m a ls S) ls fun x S1 => bindS (evE F FK m b ls S1) ls fun y S2 => bindS (evE F FK m c ls S2) ls fun z S3 => .ok (.next (((ls.set i (some x)).set j (some y)).set l (some z))) S3
  | .aug i o e, ls, S => match ls[i]? with
    | some (some x) => bindS (evE F FK m e ls S) ls fun y S1 => match o, x, y with
      | .add, .int a, .int b => .ok (.next (ls.set i (some (.int (a + b))))) S1
      | .sub, .int a, .int b => .ok (.next (ls.set i (some (.int (a - b))))) S1
      | _, _, _ => .bad
    | _ => .bad
  | .six a i e, ls, S => bindS (evE F FK m e ls S) ls fun x S1 => bindS (evE F FK m a ls S1) ls fun y S2 => bindS (evE F FK m i ls S2) ls fun z S3 => bindS (setIx y z x S3) ls fun _ S4 => .ok (.next ls) S4
  | .aix a i o e, ls, S => bindS (evE F FK m a ls S) ls fun y S1 => bindS (evE F FK m i ls S1) ls fun z S2 => match ixR y z S2 with
    | some x => bindS (evE F FK m e ls S2) ls fun w S3 => match o, x, w with
      | .add, .int p, .int q => bindS (setIx y z (.int (p + q)) S3) ls fun _ S4 => .ok (.next ls) S4
      | .sub, .int p, .int q => bindS (setIx y z (.int (p - q)) S3) ls fun _ S4 => .ok (.next ls) S4
      | _, _, _ => .bad
    | none => .bad
  | .ite c a b, ls, S => bindS (evT F FK m c ls S) ls fun k S1 => if k then exS a ls S1 else exS b ls S1
  | .whl c b, ls, S => whlL (fun ls S => evT F FK m c ls S) (fun ls S => exS b ls S) m ls S
  | .for t it b, ls, S => bindS (evI F FK m it ls S) ls fun J S1 => forL (fun d S ls => asgT t d S ls) (fun ls S => exS b ls S) J m 0 ls S1
  | .ret e, ls, S => bindS (evE F FK m e ls S) ls fun x S1 => .ok (.ret x) S1
  | .retN, _, S => .ok (.ret .non) S
  | .brk, ls, S => .ok (.brk ls) S
  | .cnt, ls, S => .ok (.cont ls) S
  | .pas, ls, S => .ok (.next ls) S
  | .lks i s, ls, S => match ls[i]? with
    | some (some (.ref n)) => match S[n]? with
      | some (.dct kvs) => match exS s ls (S.set n (.dcl kvs)) with
        | .ok d S1 => match d with
          | .exc _ _ _ => .bad
          | _ => match S1[n]? with
            | some (.dcl kvs') => .ok d (S1.set n (.dct kvs'))
            | _ => .bad
        | _ => .bad
      | _ => .bad
    | _ => .bad
  | .rse c es, ls, S => bindS ((ev F FK m es).lst ls S) ls fun ds S1 => .ok (.exc ls c ds) S1
  | .tr b hs, ls, S => match exS b ls S with
    | .ok (.exc ls' c ds) S' => exH hs c ds ls' S'
    | q => q
  | .hd _ _ _ _ _, _, _ => .bad
  | .non, _, _ => .bad
def exH : S → Nat → List D → Ls → Store → R Fl
  | .nil, c, ds, ls, S => .ok (.exc ls c ds) S
  | .hd k any i h r, c, ds, ls, S => if any = true ∨ c = k then offH i (exS h (onH i c ds ls) S) else exH r c ds ls S
  | .cons _ _, _, _, _, _ => .bad
  | .ex _, _, _, _, _ => .bad
  | .set _ _, _, _, _, _ => .bad
  | .slc _ _ _ _ _ _, _, _, _, _ => .bad
  | .sdc _ _ _ _ _ _ _, _, _, _, _ => .bad
  | .asg _ _, _, _, _, _ => .bad
  | .par2 _ _ _ _, _, _, _, _ => .bad
  | .par3 _ _ _ _ _ _, _, _, _, _ => .bad
  | .aug _ _ _, _, _, _, _ => .bad
  | .six _ _ _, _, _, _, _ => .bad
  | .aix _ _ _ _, _, _, _, _ => .bad
  | .ite _ _ _, _, _, _, _ => .bad
  | .whl _ _, _, _, _, _ => .bad
  | .for _ _ _, _, _, _, _ => .bad
  | .ret _, _, _, _, _ => .bad
  | .retN, _, _, _, _ => .bad
  | .brk, _, _, _, _ => .bad
  | .cnt, _, _, _, _ => .bad
  | .pas, _, _, _, _ => .bad
  | .lks _ _, _, _, _, _ => .bad
  | .rse _ _, _, _, _, _ => .bad
  | .tr _ _, _, _, _, _ => .bad
  | .non, _, _, _, _ => .bad
end
end

/-- the arguments, filled up by the defaults -/
def fill (df : Df) (ds : List D) : Option (List D) :=
  let full := ds ++ df.dfl.drop (df.dfl.length - (df.np - ds.length))
  if full.length = df.np ∧ ds.length ≤ df.np then some full else none
/-- positional ones, then keywords in the parameters' order -/
def fillK (df : Df) (ks : List Str) (ds es : List D) : Option (List D) :=
  if ks = df.ps.drop ds.length ∧ es.length = ks.length ∧ ds.length ≤ df.ps.length ∧ df.ps.length = df.np then some (ds ++ es) else none
def bodyEnd (r : R Fl) : R D :=
  match r with
  | .ok (.ret d) S => .ok d S
  | .ok (.next _) S => .ok .non S
  | .ok (.exc _ c ds) S => .exc c ds S
  | _ => .bad
def startD (df : Df) (ds : List D) : Ls := ds.map some ++ List.replicate (df.nl - ds.length) none
/-- calls, n deep -/
def runN (P : List Df) (m : Nat) : Nat → Nat → List D → Store → R D
  | 0, _, _, _ => .bad
  | n + 1, f, ds, S => match P[f]? with
    | none => .bad
    | some df => if ds.length = df.np then
        bodyEnd (exS (fun f ds S => match P[f]? with
            | some df => match fill df ds with
              | some full => runN P m n f full S
              | none => .bad
            | none => .bad)
          (fun f ks ds es S => match P[f]? with
            | some df => match fillK df ks ds es with
              | some full => runN P m n f full S
              | none => .bad
            | none => .bad) m df.body (startD df ds) S)
      else .bad
end PV

set_option Elab.async false
set_option linter.all false
set_option maxRecDepth 100000
set_option maxHeartbeats 1000000
/-! PV: what a value, a store are in the heap. -/
namespace PV
open PySem PySem.Spec PyProof.Rows L2

structure Gb where
  K : PySem.W.Frag
  cls : Nat → Addr
  /-- the exception classes: their names, their instances' fields -/
  xt : List (Str × List Str)
  /-- in an except suite: the slot of the exception's name, the exception -/
  xs : Option Nat
  cur : Addr × Value × Option Addr

/-- a list that is only read -/
def RoL (K : PySem.W.Frag) (H : Hp) (a : Addr) (xs : List V) : Prop :=
  (∃ o, H a = some (.frz o (.lst xs))) ∨
    ∃ (o : Obj) (its : Array Value) (n : Nat), K.lookup a = some o ∧ o.cls = .type "list" ∧ o.dict = none ∧ o.data = .seq its n ∧ its.size ≤ sizeLine ∧ Vals xs its.toList
theorem RoL.sql {K : PySem.W.Frag} {H : Hp} {a : Addr} {xs : List V} (h : RoL K H a xs) : SqL K H a xs := by
  rcases h with ⟨o, h⟩ | h
  · exact .inl (.inr ⟨o, h⟩)
  · exact .inr h

mutual
def RV (G : Gb) (H : Hp) (b : List Addr) : D → V → Prop
  | .non, v => v = .non
  | .bl k, v => v = .bl k
  | .int i, v => v = .int i
  | .str x, v => v = .str x ∧ x.length ≤ sizeLine
  | .tup ds, v => ∃ a vs, v = .ref a ∧ SqT G.K H a vs ∧ RVs G H b ds vs
  | .rol ds, v => ∃ a vs, v = .ref a ∧ RoL G.K H a vs ∧ RVs G H b ds vs
  | .ref n, v => ∃ a, v = .ref a ∧ b[n]? = some a
  | .exv _ _, _ => False
def RVs (G : Gb) (H : Hp) (b : List Addr) : List D → List V → Prop
  | [], vs => vs = []
  | d :: ds, vs => ∃ v r, vs = v :: r ∧ RV G H b d v ∧ RVs G H b ds r
end

/-- what was laid and never changes is kept -/
structure Grow (H H' : Hp) : Prop where
  tup : ∀ a xs, Rd H a (.tup xs) → Rd H' a (.tup xs)
  rol : ∀ a o xs, H a = some (.frz o (.lst xs)) → H' a = some (.frz o (.lst xs))
  xd : ∀ a fs, H a = some (.xd fs) → H' a = some (.xd fs)
theorem Grow.refl (H : Hp) : Grow H H := ⟨fun _ _ h => h, fun _ _ _ h => h, fun _ _ h => h⟩
theorem Grow.trans {H H1 H2 : Hp} (a : Grow H H1) (c : Grow H1 H2) : Grow H H2 := ⟨fun x xs h => c.tup x xs (a.tup x xs h), fun x o xs h => c.rol x o xs (a.rol x o xs h), fun x fs h => c.xd x fs (a.xd x fs h)⟩
theorem Grow.sqt {K : PySem.W.Frag} {H H' : Hp} {a : Addr} {xs : List V} (g : Grow H H') (h : SqT K H a xs) : SqT K H' a xs := by
  rcases h with h | h
  · exact .inl (g.tup a xs h)
  · exact .inr h
theorem Grow.rl {K : PySem.W.Frag} {H H' : Hp} {a : Addr} {xs : List V} (g : Grow H H') (h : RoL K H a xs) : RoL K H' a xs := by
  rcases h with ⟨o, h⟩ | h
  · exact .inl ⟨o, g.rol a o xs h⟩
  · exact .inr h
/-- a new object -/
theorem Grow.new {H : Hp} {p : Addr} {o : HO} (h : H p = none) : Grow H (upd H p o) := by
  refine ⟨fun a xs q => ?_, fun a o' xs q => ?_, fun a fs q => by rw [upd_ne (ne_of_none q h)]; exact q⟩
  · rcases q with q | ⟨ob, q⟩
    · exact .inl (by rw [upd_ne (ne_of_none q h)]; exact q)
    · exact .inr ⟨ob, by rw [upd_ne (ne_of_none q h)]; exact q⟩
  · rw [upd_ne (ne_of_none q h)]
    exact q
/-- what may change -/
def Chg : HO → Bool
  | .lst _ => true
  | .dK _ => true
  | .ins _ _ _ => true
  | .frz _ (.dK _) => true
  | _ => false
theorem Grow.set {H : Hp} {p : Addr} {o o' : HO} (h : H p = some o) (m : Chg o = true) : Grow H (upd H p o') := by
  have ne : ∀ a u, H a = some u → Chg u = false → a ≠ p := by
    intro a u q c e
    subst e
    rw [h] at q
    cases q
    rw [m] at c
    cases c
  refine ⟨fun a xs q => ?_, fun a ob xs q => ?_, fun a fs q => by rw [upd_ne (ne a _ q rfl)]; exact q⟩
  · rcases q with q | ⟨ob, q⟩
    · exact .inl (by rw [upd_ne (ne a _ q rfl)]; exact q)
    · exact .inr ⟨ob, by rw [upd_ne (ne a _ q rfl)]; exact q⟩
  · rw [upd_ne (ne a _ q rfl)]
    exact q

/-- the locked dicts as they were -/
def Frz (H H' : Hp) : Prop := ∀ (a : Addr) (o : Obj) (kvs : List (Key × V)), H a = some (.frz o (.dK kvs)) → H' a = some (.frz o (.dK kvs))
theorem Frz.refl (H : Hp) : Frz H H := fun _ _ _ h => h
theorem Frz.trans {H H1 H2 : Hp} (a : Frz H H1) (c : Frz H1 H2) : Frz H H2 := fun x o k h => c x o k (a x o k h)
theorem Frz.new {H : Hp} {p : Addr} {u : HO} (h : H p = none) : Frz H (upd H p u) := fun a o k q => by
  rw [upd_ne (ne_of_none q h)]; exact q
theorem Frz.set {H : Hp} {p : Addr} {w u : HO} (h : H p = some w) (n : ∀ o k, w ≠ .frz o (.dK k)) : Frz H (upd H p u) := fun a o k q => by
  rw [upd_ne (fun e => by rw [e, h] at q; cases q; exact n _ _ rfl)]; exact q
/-- the numbers of the store, older ones as they were -/
def Old (b b' : List Addr) : Prop := ∀ (n : Nat) (a : Addr), b[n]? = some a → b'[n]? = some a
theorem Old.refl (b : List Addr) : Old b b := fun _ _ h => h
theorem Old.trans {b c d : List Addr} (h : Old b c) (k : Old c d) : Old b d := fun n a e => k n a (h n a e)
theorem Old.push (b : List Addr) (p : Addr) : Old b (b ++ [p]) := fun n a e => by
  have := (List.getElem?_eq_some_iff.mp e).1
  rw [List.getElem?_append_left this]
  exact e

section
variable {G : Gb} {H H' : Hp} {b b' : List Addr}
mutual
theorem RV.mono (o : Old b b') (g : Grow H H') : ∀ (d : D) (v : V), RV G H b d v → RV G H' b' d v
  | .non, _, h => by simp only [RV] at h ⊢; exact h
  | .bl _, _, h => by simp only [RV] at h ⊢; exact h
  | .int _, _, h => by simp only [RV] at h ⊢; exact h
  | .str _, _, h => by simp only [RV] at h ⊢; exact h
  | .tup ds, _, h => by
    simp only [RV] at h ⊢
    obtain ⟨a, vs, e, s, r⟩ := h
    exact ⟨a, vs, e, g.sqt s, RVs.mono o g ds vs r⟩
  | .rol ds, _, h => by
    simp only [RV] at h ⊢
    obtain ⟨a, vs, e, s, r⟩ := h
    exact ⟨a, vs, e, g.rl s, RVs.mono o g ds vs r⟩
  | .ref n, _, h => by
    simp only [RV] at h ⊢
    obtain ⟨a, e, q⟩ := h
    exact ⟨a, e, o n a q⟩
  | .exv _ _, _, h => by simp only [RV] at h
theorem RVs.mono (o : Old b b') (g : Grow H H') : ∀ (ds : List D) (vs : List V), RVs G H b ds vs → RVs G H' b' ds vs
  | [], _, h => by simp only [RVs] at h ⊢; exact h
  | d :: ds, _, h => by
    simp only [RVs] at h ⊢
    obtain ⟨v, r, e, p, q⟩ := h
    exact ⟨v, r, e, RV.mono o g d v p, RVs.mono o g ds r q⟩
end
theorem RVs.nil : RVs G H b [] [] := by simp only [RVs]
theorem RVs.cons {d : D} {v : V} {ds : List D} {vs : List V} (h : RV G H b d v) (r : RVs G H b ds vs) : RVs G H b (d :: ds) (v :: vs) := by
  simp only [RVs]
  exact ⟨v, vs, rfl, h, r⟩
theorem RVs.length : ∀ {ds : List D} {vs : List V}, RVs G H b ds vs → ds.length = vs.length
  | [], _, h => by simp only [RVs] at h; subst h; rfl
  | d :: ds, _, h => by
    simp only [RVs] at h
    obtain ⟨v, r, e, _, q⟩ := h
    rw [e, List.length_cons, List.length_cons, RVs.length q]
theorem RVs.get : ∀ {ds : List D} {vs : List V} {i : Nat} {d : D}, RVs G H b ds vs → ds[i]? = some d → ∃ v, vs[i]? = some v ∧ RV G H b d v
  | [], _, i, _, _, e => by simp at e
  | x :: ds, _, i, d, h, e => by
    simp only [RVs] at h
    obtain ⟨v, r, e', p, q⟩ := h
    subst e'
    cases i with
    | zero => simp at e; subst e; exact ⟨v, rfl, p⟩
    | succ i =>
      obtain ⟨w, h1, h2⟩ := RVs.get (i := i) q (by simpa using e)
      exact ⟨w, by simpa using h1, h2⟩
theorem RVs.get' {ds : List D} {vs : List V} {i : Nat} {v : V} (h : RVs G H b ds vs) (e : vs[i]? = some v) : ∃ d, ds[i]? = some d ∧ RV G H b d v := by
  have hl := h.length
  have hi := (List.getElem?_eq_some_iff.mp e).1
  have q : ds[i]? = some ds[i] := List.getElem?_eq_getElem (by omega)
  obtain ⟨w, h1, h2⟩ := h.get q
  rw [e] at h1
  cases h1
  exact ⟨_, q, h2⟩
theorem RVs.none {ds : List D} {vs : List V} {i : Nat} (h : RVs G H b ds vs) (e : ds[i]? = none) : vs.length ≤ i := by
  have := h.length
  have q := List.getElem?_eq_none_iff.mp e
  omega
theorem RVs.of_get : ∀ {ds : List D} {vs : List V}, ds.length = vs.length → (∀ (i : Nat) (d : D) (v : V), ds[i]? = some d → vs[i]? = some v → RV G H b d v) → RVs G H b ds vs
  | [], [], _, _ => RVs.nil
  | d :: ds, v :: vs, hl, h => RVs.cons (h 0 d v rfl rfl) (RVs.of_get (by simpa using hl) fun i x y e1 e2 => h (i + 1) x y (by simpa using e1) (by simpa using e2))
theorem RVs.append : ∀ {ds es : List D} {vs ws : List V}, RVs G H b ds vs → RVs G H b es ws → RVs G H b (ds ++ es) (vs ++ ws)
  | [], _, _, _, h, k => by simp only [RVs] at h; subst h; exact k
  | d :: ds, _, _, _, h, k => by
    simp only [RVs] at h
    obtain ⟨v, r, e, p, q⟩ := h
    subst e
    exact RVs.cons p (RVs.append q k)
theorem RVs.set {ds : List D} {vs : List V} {d : D} {v : V} (h : RVs G H b ds vs) (i : Nat) (r : RV G H b d v) : RVs G H b (ds.set i d) (vs.set i v) := by
  refine RVs.of_get (by simp [h.length]) fun j x y e1 e2 => ?_
  by_cases q : i = j
  · subst q
    have h1 := (List.getElem?_eq_some_iff.mp e1).1
    have h2 := (List.getElem?_eq_some_iff.mp e2).1
    rw [List.length_set] at h1 h2
    rw [List.getElem?_set_self h1] at e1
    rw [List.getElem?_set_self h2] at e2
    cases e1
    cases e2
    exact r
  · rw [List.getElem?_set_ne q] at e1 e2
    obtain ⟨w, h1, h2⟩ := h.get e1
    rw [e2] at h1
    cases h1
    exact h2
theorem RVs.pick {ds : List D} {vs : List V} (h : RVs G H b ds vs) {i : Nat} {d : D} {v : V} (e1 : ds[i]? = some d) (e2 : vs[i]? = some v) : RV G H b d v := by
  obtain ⟨w, h1, h2⟩ := h.get e1
  rw [e2] at h1
  cases h1
  exact h2
theorem RVs.drop {ds : List D} {vs : List V} (h : RVs G H b ds vs) (n : Nat) : RVs G H b (ds.drop n) (vs.drop n) := by
  refine RVs.of_get (by simp [h.length]) fun j x y e1 e2 => ?_
  rw [List.getElem?_drop] at e1 e2
  exact h.pick e1 e2
theorem RVs.take {ds : List D} {vs : List V} (h : RVs G H b ds vs) (n : Nat) : RVs G H b (ds.take n) (vs.take n) := by
  refine RVs.of_get (by simp [h.length]) fun j x y e1 e2 => ?_
  rw [List.getElem?_take] at e1 e2
  split at e1
  · rw [if_pos (by assumption)] at e2
    exact h.pick e1 e2
  · cases e1
theorem RVs.dropLast {ds : List D} {vs : List V} (h : RVs G H b ds vs) : RVs G H b ds.dropLast vs.dropLast := by
  rw [List.dropLast_eq_take, List.dropLast_eq_take, h.length]
  exact h.take _
theorem RVs.eraseIdx {ds : List D} {vs : List V} (h : RVs G H b ds vs) (n : Nat) : RVs G H b (ds.eraseIdx n) (vs.eraseIdx n) := by
  rw [List.eraseIdx_eq_take_drop_succ, List.eraseIdx_eq_take_drop_succ]
  exact (h.take n).append (h.drop (n + 1))
theorem RVs.cut {ds : List D} {vs : List V} (h : RVs G H b ds vs) (lo hi : Option Int) : RVs G H b (cut ds lo hi) (cutV vs lo hi) := by
  unfold PV.cut cutV
  rw [h.length]
  exact (h.drop _).take _

/-- tables -/
def RKs {κ : Type} (G : Gb) (H : Hp) (b : List Addr) : List (κ × D) → List (κ × V) → Prop
  | [], ws => ws = []
  | p :: ps, ws => ∃ v r, ws = (p.1, v) :: r ∧ RV G H b p.2 v ∧ RKs G H b ps r
theorem RKs.mono {κ : Type} (o : Old b b') (g : Grow H H') : ∀ {ps : List (κ × D)} {ws : List (κ × V)}, RKs G H b ps ws → RKs G H' b' ps ws
  | [], _, h => h
  | _ :: _, _, ⟨v, r, e, p, q⟩ => ⟨v, r, e, RV.mono o g _ _ p, RKs.mono o g q⟩
theorem RKs.length {κ : Type} : ∀ {ps : List (κ × D)} {ws : List (κ × V)}, RKs G H b ps ws → ps.length = ws.length
  | [], _, h => by have h : _ = [] := h; subst h; rfl
  | _ :: _, _, ⟨v, r, e, p, q⟩ => by rw [e, List.length_cons, List.length_cons, RKs.length q]
theorem RKs.keys {κ : Type} : ∀ {ps : List (κ × D)} {ws : List (κ × V)}, RKs G H b ps ws → ps.map (·.1) = ws.map (·.1)
  | [], _, h => by have h : _ = [] := h; subst h; rfl
  | _ :: _, _, ⟨v, r, e, p, q⟩ => by rw [e, List.map_cons, List.map_cons, RKs.keys q]
theorem RKs.val : ∀ {ps : List (Key × D)} {ws : List (Key × V)} (k : Key), RKs G H b ps ws → (valG ps k = none ∧ valV ws k = none) ∨ ∃ d v, valG ps k = some d ∧ valV ws k = some v ∧ RV G H b d v
  | [], _, _, h => by have h : _ = [] := h; subst h; exact .inl ⟨rfl, rfl⟩
  | p :: ps, _, k, ⟨v, r, e, h, q⟩ => by
    subst e
    have ih := RKs.val k q
    unfold valG valV at *
    by_cases e : p.1 = k
    · simp only [List.find?_cons, e, decide_true, Option.map_some]
      exact .inr ⟨_, _, rfl, rfl, h⟩
    · simp only [List.find?_cons, e, decide_false]
      exact ih
theorem RKs.some {ps : List (Key × D)} {ws : List (Key × V)} {k : Key} (h : RKs G H b ps ws) : (valG ps k).isSome = (valV ws k).isSome := by
  rcases h.val k with ⟨a, c⟩ | ⟨d, v, a, c, _⟩
  · rw [a, c]; rfl
  · rw [a, c]; rfl
theorem RKs.put {ps : List (Key × D)} {ws : List (Key × V)} {d : D} {v : V} (h : RKs G H b ps ws) (k : Key) (r : RV G H b d v) : RKs G H b (putG ps k d) (L2.putK ws k v) := by
  have hany : (ps.any fun kv => decide (kv.1 = k)) = ws.any fun kv => decide (kv.1 = k) := by
    have := h.keys
    have e1 : (ps.any fun kv => decide (kv.1 = k)) = (ps.map (·.1)).any fun z => decide (z = k) := by rw [List.any_map]; rfl
    have e2 : (ws.any fun kv => decide (kv.1 = k)) = (ws.map (·.1)).any fun z => decide (z = k) := by rw [List.any_map]; rfl
    rw [e1, e2, this]
  unfold putG L2.putK
  rw [hany]
  by_cases c : (ws.any fun kv => decide (kv.1 = k)) = true
  · rw [if_pos c, if_pos c]
    clear hany c
    induction ps generalizing ws with
    | nil => have h : ws = [] := h; subst h; exact (rfl : ([] : List (Key × V)) = [])
    | cons p ps ih =>
      obtain ⟨w, r', e, hp, q⟩ := h
      subst e
      rw [List.map_cons, List.map_cons]
      by_cases e : p.1 = k
      · simp only [e, if_true]
        exact ⟨v, _, by rw [← e], r, by simpa [e] using ih q⟩
      · simp only [if_neg e]
        exact ⟨w, _, rfl, hp, ih q⟩
  · rw [if_neg c, if_neg c]
    clear hany c
    induction ps generalizing ws with
    | nil => have h : ws = [] := h; subst h; exact ⟨v, [], rfl, r, rfl⟩
    | cons p ps ih =>
      obtain ⟨w, r', e, hp, q⟩ := h
      subst e
      exact ⟨w, _, rfl, hp, ih q⟩

/-- the texts among the keys are no longer than texts may be -/
def KOk (kvs : List (Key × D)) : Prop := ∀ p ∈ kvs, ∀ x, p.1 = .inr x → x.length ≤ sizeLine
theorem KOk.put {kvs : List (Key × D)} (h : KOk kvs) {k : Key} (hk : ∀ x, k = .inr x → x.length ≤ sizeLine) (d : D) : KOk (putG kvs k d) := by
  intro p hp x e
  unfold putG at hp
  split at hp
  · obtain ⟨q, hq, rfl⟩ := List.mem_map.mp hp
    split at e
    · exact h q hq x e
    · exact h q hq x e
  · rcases List.mem_append.mp hp with hp | hp
    · exact h p hp x e
    · rw [List.mem_singleton] at hp
      subst hp
      exact hk x e

/-! ### the store in the heap -/
def RO (G : Gb) (H : Hp) (b : List Addr) : O → Addr → Prop
  | .lst ds, a => ∃ vs, H a = some (.lst vs) ∧ RVs G H b ds vs
  | .dct kvs, a => ∃ ws, H a = some (.dK ws) ∧ RKs G H b kvs ws ∧ KOk kvs
  | .dcl kvs, a => ∃ ob ws, H a = some (.frz ob (.dK ws)) ∧ RKs G H b kvs ws ∧ KOk kvs
  | .ins c fs, a => ∃ dx ws, H a = some (.ins (G.cls c) dx ws) ∧ RKs G H b fs ws
structure Rel (G : Gb) (H : Hp) (b : List Addr) (S : Store) : Prop where
  len : b.length = S.length
  nd : b.Nodup
  obj : ∀ (n : Nat) (o : O) (a : Addr), S[n]? = some o → b[n]? = some a → RO G H b o a
theorem RO.mono (o : Old b b') (g : Grow H H') {u : O} {a : Addr} (h : RO G H b u a) (e : ∀ w, H a = some w → H' a = some w) : RO G H' b' u a := by
  cases u with
  | lst ds => obtain ⟨vs, q, r⟩ := h; exact ⟨vs, e _ q, RVs.mono o g _ _ r⟩
  | dct kvs => obtain ⟨ws, q, r, k⟩ := h; exact ⟨ws, e _ q, r.mono o g, k⟩
  | dcl kvs => obtain ⟨ob, ws, q, r, k⟩ := h; exact ⟨ob, ws, e _ q, r.mono o g, k⟩
  | ins c fs => obtain ⟨dx, ws, q, r⟩ := h; exact ⟨dx, ws, e _ q, r.mono o g⟩
theorem RO.there {u : O} {a : Addr} (h : RO G H b u a) : ∃ w, H a = some w ∧ Chg w = true := by
  cases u with
  | lst ds => obtain ⟨vs, q, r⟩ := h; exact ⟨_, q, rfl⟩
  | dct kvs => obtain ⟨ws, q, r⟩ := h; exact ⟨_, q, rfl⟩
  | dcl kvs => obtain ⟨ob, ws, q, r⟩ := h; exact ⟨_, q, rfl⟩
  | ins c fs => obtain ⟨dx, ws, q, r⟩ := h; exact ⟨_, q, rfl⟩
theorem Rel.at {S : Store} (r : Rel G H b S) {n : Nat} {a : Addr} (e : b[n]? = some a) : ∃ o, S[n]? = some o ∧ RO G H b o a := by
  have h := (List.getElem?_eq_some_iff.mp e).1
  have q : S[n]? = some (S[n]'(by rw [← r.len]; exact h)) := List.getElem?_eq_getElem _
  exact ⟨_, q, r.obj n _ a q e⟩
/-- the list with the number n, that stands at a -/
theorem Rel.obj' {S : Store} (r : Rel G H b S) {n : Nat} {o : O} {a : Addr} (e : S[n]? = some o) (h : b[n]? = some a) : RO G H b o a := r.obj n o a e h
theorem Rel.addr {S : Store} (r : Rel G H b S) {n : Nat} {o : O} (e : S[n]? = some o) : ∃ a, b[n]? = some a ∧ RO G H b o a := by
  have h := (List.getElem?_eq_some_iff.mp e).1
  have q : b[n]? = some (b[n]'(by rw [r.len]; exact h)) := List.getElem?_eq_getElem _
  exact ⟨_, q, r.obj n _ _ e q⟩
theorem Rel.inj {S : Store} (r : Rel G H b S) {n m : Nat} {a : Addr} (e1 : b[n]? = some a) (e2 : b[m]? = some a) : n = m := by
  obtain ⟨h1, e1⟩ := List.getElem?_eq_some_iff.mp e1
  obtain ⟨h2, e2⟩ := List.getElem?_eq_some_iff.mp e2
  exact (List.getElem_inj r.nd).mp (e1.trans e2.symm)

/-- what stands behind a step -/
structure Post (G : Gb) (H : Hp) (b : List Addr) (H' : Hp) (b' : List Addr) (S' : Store) : Prop where
  rel : Rel G H' b' S'
  old : Old b b'
  grow : Grow H H'
  frz : Frz H H'
theorem Post.refl {S : Store} (r : Rel G H b S) : Post G H b H b S := ⟨r, Old.refl b, Grow.refl H, Frz.refl H⟩
theorem Post.trans {H1 H2 : Hp} {b1 b2 : List Addr} {S1 S2 : Store} (p : Post G H b H1 b1 S1) (q : Post G H1 b1 H2 b2 S2) : Post G H b H2 b2 S2 := ⟨q.rel, p.old.trans q.old, p.grow.trans q.grow, p.frz.trans q.frz⟩
theorem Post.rv {H1 : Hp} {b1 : List Addr} {S1 : Store} (p : Post G H b H1 b1 S1) {d : D} {v : V} (h : RV G H b d v) : RV G H1 b1 d v := RV.mono p.old p.grow d v h
theorem Post.rvs {H1 : Hp} {b1 : List Addr} {S1 : Store} (p : Post G H b H1 b1 S1) {ds : List D} {vs : List V} (h : RVs G H b ds vs) : RVs G H1 b1 ds vs := RVs.mono p.old p.grow ds vs h

/-- a new object is laid and has the next number -/
theorem Rel.new {S : Store} (r : Rel G H b S) {p : Addr} {o : O} {u : HO} (hp : H p = none) (ro : RO G (upd H p u) (b ++ [p]) o p) : Post G H b (upd H p u) (b ++ [p]) (S ++ [o]) := by
  have fresh : p ∉ b := fun m => by
    obtain ⟨n, e⟩ := List.getElem?_of_mem m
    obtain ⟨_, _, h⟩ := r.at e
    obtain ⟨w, q, _⟩ := h.there
    rw [hp] at q
    cases q
  refine ⟨⟨by simp [r.len], ?_, fun n w a e1 e2 => ?_⟩, Old.push b p, Grow.new hp, Frz.new hp⟩
  · rw [List.nodup_append]
    exact ⟨r.nd, by simp, fun x hx y hy e => by
      rw [List.mem_singleton] at hy
      subst hy
      subst e
      exact fresh hx⟩
  · by_cases hn : n < b.length
    · rw [List.getElem?_append_left hn] at e2
      rw [List.getElem?_append_left (by rw [← r.len]; exact hn)] at e1
      refine RO.mono (Old.push b p) (Grow.new hp) (r.obj n w a e1 e2) fun z q => ?_
      rw [upd_ne (ne_of_none q hp)]
      exact q
    · have e : n = b.length := by
        have := (List.getElem?_eq_some_iff.mp e2).1
        simp at this
        omega
      subst e
      rw [List.getElem?_append_right (Nat.le_refl _)] at e2
      rw [List.getElem?_append_right (by rw [r.len]; exact Nat.le_refl _), r.len] at e1
      simp at e1 e2
      subst e1
      subst e2
      exact ro
/-- an object is changed -/
theorem Rel.set {S : Store} (r : Rel G H b S) {n : Nat} {a : Addr} {o' : O} {u w0 : HO} (e : b[n]? = some a) (hw : H a = some w0) (hn : ∀ o k, w0 ≠ .frz o (.dK k)) (ro : RO G (upd H a u) b o' a) : Post G H b (upd H a u) b (S.set n o') := by
  obtain ⟨o, _, h⟩ := r.at e
  obtain ⟨w, q, c⟩ := h.there
  have g : Grow H (upd H a u) := Grow.set q c
  refine ⟨⟨by simp [r.len], r.nd, fun m x c' e1 e2 => ?_⟩, Old.refl b, g, Frz.set hw hn⟩
  by_cases hm : n = m
  · subst hm
    have hl := (List.getElem?_eq_some_iff.mp e1).1
    rw [List.length_set] at hl
    rw [List.getElem?_set_self hl] at e1
    cases e1
    rw [e] at e2
    cases e2
    exact ro
  · rw [List.getElem?_set_ne hm] at e1
    have hne : c' ≠ a := fun z => hm (r.inj e (z ▸ e2))
    refine RO.mono (Old.refl b) g (r.obj m x c' e1 e2) fun z k => ?_
    rw [upd_ne hne]
    exact k
/-- .. the list -/
theorem Rel.newL {S : Store} (r : Rel G H b S) {p : Addr} {ds : List D} {vs : List V} (hp : H p = none) (h : RVs G H b ds vs) : Post G H b (upd H p (.lst vs)) (b ++ [p]) (S ++ [.lst ds]) ∧ RV G (upd H p (.lst vs)) (b ++ [p]) (.ref S.length) (.ref p) := by
  have z : (b ++ [p])[S.length]? = some p := by rw [← r.len, List.getElem?_append_right (Nat.le_refl _)]; simp
  refine ⟨r.new hp ⟨vs, upd_same, RVs.mono (Old.push b p) (Grow.new hp) _ _ h⟩, ?_⟩
  simp only [RV]
  exact ⟨p, rfl, z⟩
theorem Rel.setL {S : Store} (r : Rel G H b S) {n : Nat} {a : Addr} {ds : List D} {vs vs0 : List V} (e : b[n]? = some a) (hw : H a = some (.lst vs0)) (h : RVs G H b ds vs) : Post G H b (upd H a (.lst vs)) b (S.set n (.lst ds)) := by
  obtain ⟨o, _, q⟩ := r.at e
  obtain ⟨w, q, c⟩ := q.there
  exact r.set e hw (fun _ _ z => by cases z) ⟨vs, upd_same, RVs.mono (Old.refl b) (Grow.set q c) _ _ h⟩
/-- a new tuple: by its worth -/
theorem Rel.newT {S : Store} (r : Rel G H b S) {p : Addr} {ds : List D} {vs : List V} (hp : H p = none) (h : RVs G H b ds vs) : Post G H b (upd H p (.tup vs)) b S ∧ RV G (upd H p (.tup vs)) b (.tup ds) (.ref p) := by
  have g : Grow H (upd H p (.tup vs)) := Grow.new hp
  refine ⟨⟨⟨r.len, r.nd, fun n o a e1 e2 => ?_⟩, Old.refl b, g, Frz.new hp⟩, ?_⟩
  · refine RO.mono (Old.refl b) g (r.obj n o a e1 e2) fun z q => ?_
    rw [upd_ne (ne_of_none q hp)]
    exact q
  · simp only [RV]
    exact ⟨p, vs, rfl, .inl (.inl upd_same), RVs.mono (Old.refl b) g _ _ h⟩
end

/-- a locked dict is free again -/
theorem Rel.unlock {G : Gb} {H : Hp} {b : List Addr} {S : Store} (r : Rel G H b S) {n : Nat} {a : Addr} {o : Obj} {ws : List (Key × V)} {kvs : List (Key × D)} (e : b[n]? = some a) (hs : S[n]? = some (.dcl kvs)) (hw : H a = some (.frz o (.dK ws))) :
    Rel G (upd H a (.dK ws)) b (S.set n (.dct kvs)) := by
  have g : Grow H (upd H a (.dK ws)) := Grow.set hw rfl
  refine ⟨by simp [r.len], r.nd, fun m x c' e1 e2 => ?_⟩
  by_cases hm : n = m
  · subst hm
    have hl := (List.getElem?_eq_some_iff.mp e1).1
    rw [List.length_set] at hl
    rw [List.getElem?_set_self hl] at e1
    cases e1
    rw [e] at e2
    cases e2
    obtain ⟨ob, ws', q, k1, k2⟩ := r.obj n _ a hs e
    rw [hw] at q
    cases q
    exact ⟨ws, upd_same, k1.mono (Old.refl b) g, k2⟩
  · rw [List.getElem?_set_ne hm] at e1
    have hne : c' ≠ a := fun z => hm (r.inj e (z ▸ e2))
    refine RO.mono (Old.refl b) g (r.obj m x c' e1 e2) fun z k => ?_
    rw [upd_ne hne]
    exact k
/-- an exception: its class, what it was made with -/
def RX (G : Gb) (H : Hp) (b : List Addr) (c : Nat) (ds : List D) (cls : Value) (d : Option Addr) : Prop :=
  cls = .ref (G.cls c) ∧ ∃ y fl, G.xt[c]? = some (y, fl) ∧ ∀ (k : Nat) (f : Str) (x : D), fl[k]? = some f → ds[k]? = some x → ∃ (dd : Addr) (fs : List (Str × V)) (v : V), d = some dd ∧ H dd = some (.xd fs) ∧ fs.lookup f = some v ∧ RV G H b x v
theorem RX.mono {G : Gb} {H H' : Hp} {b b' : List Addr} {c : Nat} {ds : List D} {cls : Value} {d : Option Addr} (o : Old b b') (g : Grow H H') (h : RX G H b c ds cls d) : RX G H' b' c ds cls d :=
  let ⟨y, fl, e, h2⟩ := h.2
  ⟨h.1, y, fl, e, fun k f x e1 e2 => let ⟨dd, fs, v, q1, q2, q3, q4⟩ := h2 k f x e1 e2; ⟨dd, fs, v, q1, g.xd _ _ q2, q3, RV.mono o g _ _ q4⟩⟩
/-! ### the slots -/
structure RL (G : Gb) (H : Hp) (b : List Addr) (ls : Ls) (σ : L2.St) : Prop where
  len : ls.length = σ.length
  at_ : ∀ (i : Nat) (d : D), G.xs ≠ some i → ls[i]? = some (some d) → ∃ v : V, σ[i]? = some (some v) ∧ RV G H b d v
  ax : ∀ (i c : Nat) (ds : List D), G.xs = some i → ls[i]? = some (some (.exv c ds)) → σ[i]? = some (some (.ref G.cur.1)) ∧ RX G H b c ds G.cur.2.1 G.cur.2.2
section
variable {G : Gb} {H H' : Hp} {b b' : List Addr} {S' : Store} {ls : Ls} {σ : L2.St}
theorem rl_mono (o : Old b b') (g : Grow H H') (h : RL G H b ls σ) : RL G H' b' ls σ := ⟨h.len, fun i d n e => let ⟨v, q, r⟩ := h.at_ i d n e; ⟨v, q, RV.mono o g d v r⟩, fun i c ds n e => let ⟨q, r⟩ := h.ax i c ds n e; ⟨q, r.mono o g⟩⟩
theorem Post.rl (p : Post G H b H' b' S') (h : RL G H b ls σ) : RL G H' b' ls σ := rl_mono p.old p.grow h
theorem Post.rx (p : Post G H b H' b' S') {c : Nat} {ds : List D} {cls : Value} {d : Option Addr} (h : RX G H b c ds cls d) : RX G H' b' c ds cls d := h.mono p.old p.grow
theorem RL.set {d : D} {v : V} (h : RL G H b ls σ) (i : Nat) (r : RV G H b d v) : RL G H b (ls.set i (some d)) (σ.set i (some v)) := by
  refine ⟨by simp [h.len], fun j x n e => ?_, fun j c ds n e => ?_⟩
  · by_cases q : i = j
    · subst q
      have hl := (List.getElem?_eq_some_iff.mp e).1
      rw [List.length_set] at hl
      rw [List.getElem?_set_self hl] at e
      cases e
      exact ⟨v, by rw [List.getElem?_set_self (by rw [← h.len]; exact hl)], r⟩
    · rw [List.getElem?_set_ne q] at e ⊢
      exact h.at_ j x n e
  · by_cases q : i = j
    · subst q
      have hl := (List.getElem?_eq_some_iff.mp e).1
      rw [List.length_set] at hl
      rw [List.getElem?_set_self hl] at e
      cases e
      simp only [RV] at r
    · rw [List.getElem?_set_ne q] at e ⊢
      exact h.ax j c ds n e
theorem RL.set_none (h : RL G H b ls σ) (v : Nat) : RL G H b (ls.set v none) (σ.set v none) := by
  refine ⟨by simp [h.len], fun j x n e => ?_, fun j c ds n e => ?_⟩
  · by_cases q : v = j
    · subst q
      have hl := (List.getElem?_eq_some_iff.mp e).1
      rw [List.length_set] at hl
      rw [List.getElem?_set_self hl] at e
      cases e
    · rw [List.getElem?_set_ne q] at e ⊢
      exact h.at_ j x n e
  · by_cases q : v = j
    · subst q
      have hl := (List.getElem?_eq_some_iff.mp e).1
      rw [List.length_set] at hl
      rw [List.getElem?_set_self hl] at e
      cases e
    · rw [List.getElem?_set_ne q] at e ⊢
      exact h.ax j c ds n e
theorem RL.wipe (h : RL G H b ls σ) : ∀ vs : List Nat, RL G H b (wipeD ls vs) (wipe σ vs)
  | [] => h
  | v :: vs => by
    unfold wipeD L2.wipe
    exact (h.wipe vs).set_none v
theorem RL.start {ds : List D} {vs : List V} {N : List Str} {nl : Nat} (h : RVs G H b ds vs) (hn : nl = N.length) : RL G H b (ds.map some ++ List.replicate (nl - ds.length) none) (start N vs) := by
  have hl := h.length
  have key : ∀ (i : Nat) (d : D), (ds.map some ++ List.replicate (nl - ds.length) none)[i]? = some (some d) → ∃ v : V, (L2.start N vs)[i]? = some (some v) ∧ RV G H b d v := fun i d e => by
    unfold L2.start
    by_cases hi : i < ds.length
    · rw [List.getElem?_append_left (by simpa using hi), List.getElem?_map] at e
      cases q : ds[i]? with
      | none => rw [q] at e; cases e
      | some x =>
        rw [q] at e
        cases e
        obtain ⟨v, h1, h2⟩ := h.get q
        exact ⟨v, by rw [List.getElem?_append_left (by simpa [hl] using hi), List.getElem?_map, h1]; rfl, h2⟩
    · rw [List.getElem?_append_right (by simpa using hi), List.getElem?_replicate] at e
      split at e <;> cases e
  refine ⟨by unfold L2.start; simp [hl, hn], fun i d _ e => key i d e, fun i c xs _ e => ?_⟩
  obtain ⟨v, _, r⟩ := key i _ e
  simp only [RV] at r
/-! ### a suite's relation -/
/-- G in a suite -/
def Gb.at (G : Gb) (xs : Option Nat) (cur : Addr × Value × Option Addr) : Gb := ⟨G.K, G.cls, G.xt, xs, cur⟩
end
section
variable {G : Gb} {H H' : Hp} {b b' : List Addr} {xs : Option Nat} {cur : Addr × Value × Option Addr}
mutual
theorem rv_in : ∀ (d : D) (v : V), RV (G.at xs cur) H b d v ↔ RV G H b d v
  | .non, _ => by simp only [RV]
  | .bl _, _ => by simp only [RV]
  | .int _, _ => by simp only [RV]
  | .str _, _ => by simp only [RV]
  | .tup ds, v => by
    simp only [RV]
    exact ⟨fun ⟨a, vs, e, s, r⟩ => ⟨a, vs, e, s, (rvs_in ds vs).mp r⟩, fun ⟨a, vs, e, s, r⟩ => ⟨a, vs, e, s, (rvs_in ds vs).mpr r⟩⟩
  | .rol ds, v => by
    simp only [RV]
    exact ⟨fun ⟨a, vs, e, s, r⟩ => ⟨a, vs, e, s, (rvs_in ds vs).mp r⟩, fun ⟨a, vs, e, s, r⟩ => ⟨a, vs, e, s, (rvs_in ds vs).mpr r⟩⟩
  | .ref n, _ => by simp only [RV]
  | .exv _ _, _ => by simp only [RV]
theorem rvs_in : ∀ (ds : List D) (vs : List V), RVs (G.at xs cur) H b ds vs ↔ RVs G H b ds vs
  | [], _ => by simp only [RVs]
  | d :: ds, vs => by
    simp only [RVs]
    exact ⟨fun ⟨v, r, e, p, q⟩ => ⟨v, r, e, (rv_in d v).mp p, (rvs_in ds r).mp q⟩, fun ⟨v, r, e, p, q⟩ => ⟨v, r, e, (rv_in d v).mpr p, (rvs_in ds r).mpr q⟩⟩
end
theorem rks_in {κ : Type} : ∀ {ps : List (κ × D)} {ws : List (κ × V)}, RKs (G.at xs cur) H b ps ws ↔ RKs G H b ps ws
  | [], _ => Iff.rfl
  | p :: ps, ws => ⟨fun ⟨v, r, e, h, q⟩ => ⟨v, r, e, (rv_in _ _).mp h, rks_in.mp q⟩, fun ⟨v, r, e, h, q⟩ => ⟨v, r, e, (rv_in _ _).mpr h, rks_in.mpr q⟩⟩
theorem ro_in {o : O} {a : Addr} : RO (G.at xs cur) H b o a ↔ RO G H b o a := by
  cases o with
  | lst ds => exact ⟨fun ⟨vs, q, r⟩ => ⟨vs, q, (rvs_in _ _).mp r⟩, fun ⟨vs, q, r⟩ => ⟨vs, q, (rvs_in _ _).mpr r⟩⟩
  | dct kvs => exact ⟨fun ⟨vs, q, r, k⟩ => ⟨vs, q, rks_in.mp r, k⟩, fun ⟨vs, q, r, k⟩ => ⟨vs, q, rks_in.mpr r, k⟩⟩
  | dcl kvs => exact ⟨fun ⟨ob, vs, q, r, k⟩ => ⟨ob, vs, q, rks_in.mp r, k⟩, fun ⟨ob, vs, q, r, k⟩ => ⟨ob, vs, q, rks_in.mpr r, k⟩⟩
  | ins c fs => exact ⟨fun ⟨dx, vs, q, r⟩ => ⟨dx, vs, q, rks_in.mp r⟩, fun ⟨dx, vs, q, r⟩ => ⟨dx, vs, q, rks_in.mpr r⟩⟩
theorem rel_in {S : Store} : Rel (G.at xs cur) H b S ↔ Rel G H b S := ⟨fun h => ⟨h.len, h.nd, fun n o a e1 e2 => ro_in.mp (h.obj n o a e1 e2)⟩, fun h => ⟨h.len, h.nd, fun n o a e1 e2 => ro_in.mpr (h.obj n o a e1 e2)⟩⟩
theorem post_in {S : Store} : Post (G.at xs cur) H b H' b' S ↔ Post G H b H' b' S := ⟨fun h => ⟨rel_in.mp h.rel, h.old, h.grow, h.frz⟩, fun h => ⟨rel_in.mpr h.rel, h.old, h.grow, h.frz⟩⟩
theorem rx_in {c : Nat} {ds : List D} {cls : Value} {d : Option Addr} : RX (G.at xs cur) H b c ds cls d ↔ RX G H b c ds cls d :=
  ⟨fun ⟨h, y, fl, e, h2⟩ => ⟨h, y, fl, e, fun k f x e1 e2 => let ⟨dd, fs, v, q1, q2, q3, q4⟩ := h2 k f x e1 e2; ⟨dd, fs, v, q1, q2, q3, (rv_in _ _).mp q4⟩⟩, fun ⟨h, y, fl, e, h2⟩ => ⟨h, y, fl, e, fun k f x e1 e2 => let ⟨dd, fs, v, q1, q2, q3, q4⟩ := h2 k f x e1 e2; ⟨dd, fs, v, q1, q2, q3, (rv_in _ _).mpr q4⟩⟩⟩
/-- the slots, as a suite is entered -/
theorem RL.on {ls : Ls} {σ : L2.St} {a : Addr} {cls : Value} {d : Option Addr} {c : Nat} {ds : List D} (hx : G.xs = none) (h : RL G H b ls σ) (x : RX G H b c ds cls d) (i : Nat) : RL (G.at (some i) (a, cls, d)) H b (ls.set i (some (.exv c ds))) (σ.set i (some (.ref a))) := by
  refine ⟨by simp [h.len], fun j y n e => ?_, fun j c' ds' n e => ?_⟩
  · have hn : i ≠ j := fun z => n (congrArg some z)
    rw [List.getElem?_set_ne hn] at e ⊢
    obtain ⟨v, q1, q2⟩ := h.at_ j y (by rw [hx]; simp) e
    exact ⟨v, q1, (rv_in _ _).mpr q2⟩
  · cases n
    have hl := (List.getElem?_eq_some_iff.mp e).1
    rw [List.length_set] at hl
    rw [List.getElem?_set_self hl] at e
    cases e
    exact ⟨List.getElem?_set_self (by rw [← h.len]; exact hl), rx_in.mpr x⟩
theorem RL.on0 {ls : Ls} {σ : L2.St} {i : Nat} (hx : G.xs = none) (h : RL G H b ls σ) (hl : ∀ c ds, ls[i]? ≠ some (some (.exv c ds))) : RL (G.at (some i) cur) H b ls σ := by
  refine ⟨h.len, fun j y n e => ?_, fun j c' ds' n e => ?_⟩
  · obtain ⟨v, q1, q2⟩ := h.at_ j y (by rw [hx]; simp) e
    exact ⟨v, q1, (rv_in _ _).mpr q2⟩
  · cases n
    exact absurd e (hl _ _)
/-- .. and left -/
theorem RL.off {ls : Ls} {σ σ' : L2.St} {i : Nat} (h : RL (G.at (some i) cur) H b ls σ) (hs : σ' = σ.set i none ∨ σ' = σ) (hx : G.xs = none) : RL G H b (ls.set i none) σ' := by
  have hl : σ'.length = σ.length := by rcases hs with rfl | rfl <;> simp
  refine ⟨by simp [h.len, hl], fun j y n e => ?_, fun j c' ds' n e => by rw [hx] at n; cases n⟩
  by_cases hn : i = j
  · subst hn
    have hl := (List.getElem?_eq_some_iff.mp e).1
    rw [List.length_set] at hl
    rw [List.getElem?_set_self hl] at e
    cases e
  · rw [List.getElem?_set_ne hn] at e
    obtain ⟨v, q1, q2⟩ := h.at_ j y (fun z => hn (Option.some.inj z)) e
    refine ⟨v, ?_, (rv_in _ _).mp q2⟩
    rcases hs with rfl | rfl
    · rw [List.getElem?_set_ne hn]; exact q1
    · exact q1
/-- an exception's dict is laid -/
theorem Rel.newX {S : Store} (r : Rel G H b S) {p : Addr} {fs : List (Str × V)} (hp : H p = none) : Post G H b (upd H p (.xd fs)) b S := by
  have g : Grow H (upd H p (.xd fs)) := Grow.new hp
  refine ⟨⟨r.len, r.nd, fun n o a e1 e2 => ?_⟩, Old.refl b, g, Frz.new hp⟩
  refine RO.mono (Old.refl b) g (r.obj n o a e1 e2) fun z q => ?_
  rw [upd_ne (ne_of_none q hp)]
  exact q
end
end PV

set_option Elab.async false
set_option linter.all false
set_option maxRecDepth 100000
set_option maxHeartbeats 1000000
/-! PV: each operation by values does what the runs say. -/
namespace PV
open PySem PySem.Spec PyProof.Rows L2

/-- what is wanted behind a run that is worth d -/
def Want (G : Gb) (H : Hp) (b : List Addr) (r : R D) (Q : VK) : Prop := ∃ d S', r = .ok d S' ∧ ∀ v H' b', Post G H b H' b' S' → RV G H' b' d v → Q v H'
def rOp (G : Gb) (f : D → D → Store → R D) : R2 := fun x y H Q => ∃ b S dx dy, Rel G H b S ∧ RV G H b dx x ∧ RV G H b dy y ∧ Want G H b (f dx dy S) Q
def rOp1 (G : Gb) (f : D → Store → R D) : V → Hp → VK → Prop := fun x H Q => ∃ b S dx, Rel G H b S ∧ RV G H b dx x ∧ Want G H b (f dx S) Q
def rCl (G : Gb) (f : List D → Store → R D) : List V → Hp → VK → Prop := fun xs H Q => ∃ b S ds, Rel G H b S ∧ RVs G H b ds xs ∧ Want G H b (f ds S) Q
def rMt (G : Gb) (f : D → List D → Store → R D) : V → List V → Hp → VK → Prop := fun x xs H Q => ∃ b S d ds, Rel G H b S ∧ RV G H b d x ∧ RVs G H b ds xs ∧ Want G H b (f d ds S) Q

section
variable {G : Gb} {H : Hp} {b : List Addr} {S : Store}
theorem rv_non {v : V} : RV G H b .non v ↔ v = .non := by simp only [RV]
theorem rv_bl {k : Bool} {v : V} : RV G H b (.bl k) v ↔ v = .bl k := by simp only [RV]
theorem rv_int {i : Int} {v : V} : RV G H b (.int i) v ↔ v = .int i := by simp only [RV]
theorem rv_str {x : Str} {v : V} : RV G H b (.str x) v ↔ v = .str x ∧ x.length ≤ sizeLine := by simp only [RV]
theorem rv_tup {ds : List D} {v : V} : RV G H b (.tup ds) v ↔ ∃ a vs, v = .ref a ∧ SqT G.K H a vs ∧ RVs G H b ds vs := by simp only [RV]
theorem rv_rol {ds : List D} {v : V} : RV G H b (.rol ds) v ↔ ∃ a vs, v = .ref a ∧ RoL G.K H a vs ∧ RVs G H b ds vs := by simp only [RV]
theorem rv_exv {c : Nat} {ds : List D} {v : V} : ¬ RV G H b (.exv c ds) v := by simp only [RV]; exact id
theorem rv_ref {n : Nat} {v : V} : RV G H b (.ref n) v ↔ ∃ a, v = .ref a ∧ b[n]? = some a := by simp only [RV]

/-- a sequence that is read: a tuple, a list -/
theorem seq_at (r : Rel G H b S) {d : D} {v : V} {ds : List D} (h : RV G H b d v) (e : seqD d S = some ds) : ∃ a vs, v = .ref a ∧ (SqL G.K H a vs ∨ SqT G.K H a vs) ∧ RVs G H b ds vs := by
  cases d with
  | tup es =>
    simp only [seqD, Option.some.injEq] at e
    subst e
    obtain ⟨a, vs, e1, e2, e3⟩ := rv_tup.mp h
    exact ⟨a, vs, e1, .inr e2, e3⟩
  | rol es =>
    simp only [seqD, Option.some.injEq] at e
    subst e
    obtain ⟨a, vs, e1, e2, e3⟩ := rv_rol.mp h
    exact ⟨a, vs, e1, .inl e2.sql, e3⟩
  | ref n =>
    obtain ⟨a, e1, e2⟩ := rv_ref.mp h
    simp only [seqD] at e
    split at e
    · rename_i es q
      cases e
      obtain ⟨vs, h1, h2⟩ := r.obj n _ a q e2
      exact ⟨a, vs, e1, .inl (SqL.of h1), h2⟩
    · cases e
  | _ => simp [seqD] at e
/-- the list with the number n -/
theorem lst_at (r : Rel G H b S) {n : Nat} {v : V} {ds : List D} (h : RV G H b (.ref n) v) (e : S[n]? = some (.lst ds)) : ∃ a vs, v = .ref a ∧ b[n]? = some a ∧ H a = some (.lst vs) ∧ RVs G H b ds vs := by
  obtain ⟨a, e1, e2⟩ := rv_ref.mp h
  obtain ⟨vs, h1, h2⟩ := r.obj n _ a e e2
  exact ⟨a, vs, e1, e2, h1, h2⟩
theorem dct_at (r : Rel G H b S) {n : Nat} {v : V} {kvs : List (Key × D)} (h : RV G H b (.ref n) v) (e : S[n]? = some (.dct kvs)) : ∃ a ws, v = .ref a ∧ b[n]? = some a ∧ H a = some (.dK ws) ∧ RKs G H b kvs ws := by
  obtain ⟨a, e1, e2⟩ := rv_ref.mp h
  obtain ⟨ws, h1, h2, _⟩ := r.obj n _ a e e2
  exact ⟨a, ws, e1, e2, h1, h2⟩
theorem dct_ok (r : Rel G H b S) {n : Nat} {v : V} {kvs : List (Key × D)} (h : RV G H b (.ref n) v) (e : S[n]? = some (.dct kvs)) : KOk kvs := by
  obtain ⟨a, e1, e2⟩ := rv_ref.mp h
  obtain ⟨ws, h1, h2, k⟩ := r.obj n _ a e e2
  exact k
theorem dcl_at (r : Rel G H b S) {n : Nat} {v : V} {kvs : List (Key × D)} (h : RV G H b (.ref n) v) (e : S[n]? = some (.dcl kvs)) : ∃ a ob ws, v = .ref a ∧ b[n]? = some a ∧ H a = some (.frz ob (.dK ws)) ∧ RKs G H b kvs ws := by
  obtain ⟨a, e1, e2⟩ := rv_ref.mp h
  obtain ⟨ob, ws, h1, h2, _⟩ := r.obj n _ a e e2
  exact ⟨a, ob, ws, e1, e2, h1, h2⟩
theorem want_ok {d : D} {S' : Store} {Q : VK} : Want G H b (.ok d S') Q ↔ ∀ v H' b', Post G H b H' b' S' → RV G H' b' d v → Q v H' := by
  constructor
  · rintro ⟨d', S'', e, h⟩
    cases e
    exact h
  · intro h
    exact ⟨d, S', rfl, h⟩
theorem want_bad {Q : VK} : ¬ Want G H b .bad Q := fun ⟨_, _, e, _⟩ => by cases e
theorem want_exc {Q : VK} {c : Nat} {ds : List D} {S' : Store} : ¬ Want G H b (.exc c ds S') Q := fun ⟨_, _, e, _⟩ => by cases e
/-- a scalar, the heap as it is -/
theorem want_here {d : D} {v : V} {Q : VK} (r : Rel G H b S) (h : Want G H b (.ok d S) Q) (e : RV G H b d v) : Q v H := want_ok.mp h v H b (Post.refl r) e
end

section
variable {X : Cx} {G : Gb} {pins : List (Addr × Obj)} {s : Shared} {σ : L2.St} {H : Hp}
theorem str_len (x y : Str) : (x ++ y).length = x.length + y.length := Str.length_append x y

theorem op_addD (hK : X.K = G.K) : OpR X (binaryOp .Add) (rOp G (binD .add)) := by
  intro pins s σ H x y v u Q I rx ry h
  obtain ⟨b, S, dx, dy, r, h1, h2, w⟩ := h
  cases dx with
  | int i =>
    obtain rfl := rv_int.mp h1
    cases dy with
    | int j =>
      obtain rfl := rv_int.mp h2
      exact op_add pins s σ H _ _ v u Q I rx ry ⟨i, j, rfl, rfl, want_here r w (rv_int.mpr rfl)⟩
    | bl k =>
      obtain rfl := rv_bl.mp h2
      exact op_add_ib pins s σ H _ _ v u Q I rx ry ⟨i, k, rfl, rfl, want_here r w (rv_int.mpr rfl)⟩
    | _ => exact (want_bad w).elim
  | str p =>
    obtain ⟨rfl, l1⟩ := rv_str.mp h1
    cases dy with
    | str q =>
      obtain ⟨rfl, l2⟩ := rv_str.mp h2
      simp only [binD] at w
      split at w
      · rename_i c
        exact op_add_str pins s σ H _ _ v u Q I rx ry ⟨p, q, rfl, rfl, c, want_here r w (rv_str.mpr ⟨rfl, by rw [str_len]; exact c⟩)⟩
      · exact (want_bad w).elim
    | _ => exact (want_bad w).elim
  | tup ds =>
    obtain ⟨a, vs, rfl, q1, k1⟩ := rv_tup.mp h1
    cases dy with
    | tup es =>
      obtain ⟨c, ws, rfl, q2, k2⟩ := rv_tup.mp h2
      simp only [binD] at w
      split at w
      · rename_i z
        rw [← hK] at q1 q2
        refine op_catA pins s σ H _ _ v u Q I rx ry ⟨a, c, vs, ws, rfl, rfl, q1, q2, by rw [← k1.length, ← k2.length]; exact z, fun e => ?_, fun e e' => ?_, fun _ _ p hp => ?_⟩
        · subst e
          have : ds = [] := List.length_eq_zero_iff.mp (by simpa using k1.length)
          subst this
          exact want_here r w h2
        · subst e'
          have : es = [] := List.length_eq_zero_iff.mp (by simpa using k2.length)
          subst this
          rw [List.append_nil] at w
          exact want_here r w h1
        · obtain ⟨p1, p2⟩ := r.newT hp (k1.append k2)
          exact want_ok.mp w _ _ _ p1 p2
      · exact (want_bad w).elim
    | _ => exact (want_bad w).elim
  | ref m =>
    cases dy with
    | ref n =>
      simp only [binD] at w
      split at w
      · rename_i xs ys e1 e2
        split at w
        · rename_i z
          obtain ⟨a, vs, rfl, b1, q1, k1⟩ := lst_at r h1 e1
          obtain ⟨c, ws, rfl, b2, q2, k2⟩ := lst_at r h2 e2
          refine op_cat pins s σ H _ _ v u Q I rx ry ⟨a, c, vs, ws, rfl, rfl, q1, q2, by rw [← k1.length, ← k2.length]; exact z, fun p hp => ?_⟩
          obtain ⟨p1, p2⟩ := r.newL hp (k1.append k2)
          exact want_ok.mp w _ _ _ p1 p2
        · exact (want_bad w).elim
      · exact (want_bad w).elim
    | _ => exact (want_bad w).elim
  | non => exact (want_bad w).elim
  | bl k => exact (want_bad w).elim
  | rol ds => exact (want_bad w).elim
  | exv c ds => exact (want_bad w).elim
theorem op_subD : OpR X (binaryOp .Sub) (rOp G (binD .sub)) := by
  intro pins s σ H x y v u Q I rx ry h
  obtain ⟨b, S, dx, dy, r, h1, h2, w⟩ := h
  cases dx with
  | int i =>
    obtain rfl := rv_int.mp h1
    cases dy with
    | int j =>
      obtain rfl := rv_int.mp h2
      exact op_sub pins s σ H _ _ v u Q I rx ry ⟨i, j, rfl, rfl, want_here r w (rv_int.mpr rfl)⟩
    | _ => exact (want_bad w).elim
  | _ => exact (want_bad w).elim
theorem mulOk_of {x : Str} {k : Int} (h1 : x.length ≤ 1000) (h2 : k < 1000) (h3 : -1000 < k) : MulOk x k := by
  refine ⟨?_, fun n1 n2 => ?_, fun n1 n2 => ?_⟩
  · have e1 : decide (k < -(2 ^ 63 : Int)) = false := decide_eq_false (by omega)
    have e2 : decide (k ≥ 2 ^ 63) = false := decide_eq_false (by omega)
    rw [e1, e2]; rfl
  · intro c
    have : (9223372036854775 : Int) ≤ (2 ^ 63 - 1 : Int) / k := Int.le_ediv_of_mul_le (by omega) (by omega)
    omega
  · unfold Builtin.Str.tooLong
    have : x.length * k.toNat ≤ 1000 * 1000 := Nat.mul_le_mul h1 (by omega)
    have e : sizeLine = 16777216 := sizeLine_eq
    simp
    omega
theorem mul_len {x : Str} {k : Int} (h1 : x.length ≤ 1000) (h2 : k < 1000) : (Txt.mul x k).length ≤ sizeLine := by
  have e : sizeLine = 16777216 := sizeLine_eq
  unfold Txt.mul
  by_cases c : k < 1
  · rw [if_pos c]
    have : Str.empty.length = 0 := rfl
    omega
  · rw [if_neg c]
    by_cases c2 : (k == 1 || x.length == 0) = true
    · rw [if_pos c2]
      omega
    · rw [if_neg c2]
      have z : ∀ (n : Nat) (acc : Array Nat), ((List.replicate n x.cps).foldl (· ++ ·) acc).size = acc.size + n * x.length := by
        intro n
        induction n with
        | zero => intro acc; simp
        | succ n ih =>
          intro acc
          rw [List.replicate_succ, List.foldl_cons, ih, Array.size_append, Nat.succ_mul]
          show acc.size + x.length + n * x.length = _
          omega
      show ((List.replicate k.toNat x.cps).foldl (· ++ ·) #[]).size ≤ sizeLine
      rw [z]
      have : k.toNat * x.length ≤ 1000 * 1000 := Nat.mul_le_mul (by omega) h1
      simp
      omega
theorem RVs.times {b : List Addr} {ds : List D} {vs : List V} (h : RVs G H b ds vs) : ∀ n : Nat, RVs G H b (List.replicate n ds).flatten (List.replicate n vs).flatten
  | 0 => RVs.nil
  | n + 1 => by
    rw [List.replicate_succ, List.replicate_succ, List.flatten_cons, List.flatten_cons]
    exact h.append (RVs.times h n)
theorem op_mulD : OpR X (binaryOp .Mult) (rOp G (binD .mul)) := by
  intro pins s σ H x y v u Q I rx ry h
  obtain ⟨b, S, dx, dy, r, h1, h2, w⟩ := h
  cases dx with
  | int i =>
    obtain rfl := rv_int.mp h1
    cases dy with
    | int j =>
      obtain rfl := rv_int.mp h2
      simp only [binD] at w
      split at w
      · rename_i c
        exact op_mul pins s σ H _ _ v u Q I rx ry ⟨i, j, rfl, rfl, (by simpa [mulOk, CMul] using c), want_here r w (rv_int.mpr rfl)⟩
      · exact (want_bad w).elim
    | _ => exact (want_bad w).elim
  | str p =>
    obtain ⟨rfl, l1⟩ := rv_str.mp h1
    cases dy with
    | int k =>
      obtain rfl := rv_int.mp h2
      simp only [binD] at w
      split at w
      · rename_i c
        obtain ⟨t, rfl⟩ := rx
        obtain ⟨t', rfl⟩ := ry
        exact SB.mul (mulOk_of c.1 c.2.1 c.2.2) fun t' tk => ⟨.str _, H, I.tok _, ⟨_, rfl⟩, want_here r w (rv_str.mpr ⟨rfl, mul_len c.1 c.2.1⟩)⟩
      · exact (want_bad w).elim
    | _ => exact (want_bad w).elim
  | ref n =>
    cases dy with
    | int k =>
      obtain rfl := rv_int.mp h2
      simp only [binD] at w
      split at w
      · rename_i ds z
        split at w
        · rename_i c
          obtain ⟨a, vs, rfl, _, hd, kv⟩ := lst_at r h1 z
          refine op_rep pins s σ H _ _ v u Q I rx ry ⟨a, k, vs, rfl, rfl, hd, c.1, c.2.1, by rw [← kv.length]; exact c.2.2, fun p hp => ?_⟩
          obtain ⟨p1, p2⟩ := r.newL hp (kv.times k.toNat)
          exact want_ok.mp w _ _ _ p1 p2
        · exact (want_bad w).elim
      · exact (want_bad w).elim
    | _ => exact (want_bad w).elim
  | _ => exact (want_bad w).elim
theorem op_fdivD : OpR X (binaryOp .FloorDiv) (rOp G (binD .fdiv)) := by
  intro pins s σ H x y v u Q I rx ry h
  obtain ⟨b, S, dx, dy, r, h1, h2, w⟩ := h
  cases dx with
  | int i =>
    obtain rfl := rv_int.mp h1
    cases dy with
    | int j =>
      obtain rfl := rv_int.mp h2
      simp only [binD] at w
      split at w
      · rename_i c
        exact op_fdiv pins s σ H _ _ v u Q I rx ry ⟨i, j, rfl, rfl, c, want_here r w (rv_int.mpr rfl)⟩
      · exact (want_bad w).elim
    | _ => exact (want_bad w).elim
  | _ => exact (want_bad w).elim
theorem op_modD : OpR X (binaryOp .Mod) (rOp G (binD .mod)) := by
  intro pins s σ H x y v u Q I rx ry h
  obtain ⟨b, S, dx, dy, r, h1, h2, w⟩ := h
  cases dx with
  | int i =>
    obtain rfl := rv_int.mp h1
    cases dy with
    | int j =>
      obtain rfl := rv_int.mp h2
      simp only [binD] at w
      split at w
      · rename_i c
        exact op_mod pins s σ H _ _ v u Q I rx ry ⟨i, j, rfl, rfl, c, want_here r w (rv_int.mpr rfl)⟩
      · exact (want_bad w).elim
    | _ => exact (want_bad w).elim
  | _ => exact (want_bad w).elim
theorem op_powD : OpR X (binaryOp .Pow) (rOp G (binD .pow)) := by
  intro pins s σ H x y v u Q I rx ry h
  obtain ⟨b, S, dx, dy, r, h1, h2, w⟩ := h
  cases dx with
  | int i =>
    obtain rfl := rv_int.mp h1
    cases dy with
    | int j =>
      obtain rfl := rv_int.mp h2
      simp only [binD] at w
      split at w
      · rename_i c
        exact op_pow pins s σ H _ _ v u Q I rx ry ⟨i, j, rfl, rfl, c, want_here r w (rv_int.mpr rfl)⟩
      · exact (want_bad w).elim
    | _ => exact (want_bad w).elim
  | _ => exact (want_bad w).elim
def bop : Bo → Operator
  | .add => .Add | .sub => .Sub | .mul => .Mult | .fdiv => .FloorDiv | .mod => .Mod | .pow => .Pow
theorem op_binD (hK : X.K = G.K) (o : Bo) : OpR X (binaryOp (bop o)) (rOp G (binD o)) := by
  cases o with
  | add => exact op_addD hK
  | sub => exact op_subD
  | mul => exact op_mulD
  | fdiv => exact op_fdivD
  | mod => exact op_modD
  | pow => exact op_powD

/-! ### comparisons -/
mutual
theorem toP_dp {b : List Addr} {S : Store} (r : Rel G H b S) : ∀ (n : Nat) (d : D) (p : PyData) (v : V), toP S n d = some p → RV G H b d v → Dp G.K H v p
  | 0, _, _, _, e, _ => by simp [toP] at e
  | n + 1, d, p, v, e, h => by
    cases d with
    | non => simp only [toP, Option.some.injEq] at e; subst e; obtain rfl := rv_non.mp h; exact .non
    | bl k => simp only [toP, Option.some.injEq] at e; subst e; obtain rfl := rv_bl.mp h; exact .bl k
    | int k => simp only [toP, Option.some.injEq] at e; subst e; obtain rfl := rv_int.mp h; exact .int k
    | str k => simp only [toP, Option.some.injEq] at e; subst e; obtain ⟨rfl, _⟩ := rv_str.mp h; exact .str k
    | tup ds =>
      simp only [toP] at e
      obtain ⟨ps, e1, rfl⟩ := Option.map_eq_some_iff.mp e
      obtain ⟨a, vs, rfl, q, k⟩ := rv_tup.mp h
      exact .tup q (toPs_dp r n ds ps vs e1 k)
    | rol ds =>
      simp only [toP] at e
      obtain ⟨ps, e1, rfl⟩ := Option.map_eq_some_iff.mp e
      obtain ⟨a, vs, rfl, q, k⟩ := rv_rol.mp h
      exact .lst q.sql (toPs_dp r n ds ps vs e1 k)
    | ref m =>
      simp only [toP] at e
      split at e
      · rename_i ds q
        obtain ⟨ps, e1, rfl⟩ := Option.map_eq_some_iff.mp e
        obtain ⟨a, vs, rfl, _, q, k⟩ := lst_at r h q
        exact .lst (SqL.of q) (toPs_dp r n ds ps vs e1 k)
      · cases e
    | exv c ds => exact (rv_exv h).elim
theorem toPs_dp {b : List Addr} {S : Store} (r : Rel G H b S) : ∀ (n : Nat) (ds : List D) (ps : List PyData) (vs : List V), toPs S n ds = some ps → RVs G H b ds vs → DpAll G.K H vs ps
  | 0, _, _, _, e, _ => by simp [toPs] at e
  | n + 1, [], ps, vs, e, h => by
    simp only [toPs, Option.some.injEq] at e
    subst e
    simp only [RVs] at h
    subst h
    exact .nil
  | n + 1, d :: ds, ps, vs, e, h => by
    simp only [RVs] at h
    obtain ⟨v, rr, rfl, h1, h2⟩ := h
    simp only [toPs] at e
    split at e
    · rename_i p q e1 e2
      cases e
      exact .cons (toP_dp r n d p v e1 h1) (toPs_dp r n ds q rr e2 h2)
    · cases e
end
theorem eqS_ok {b : List Addr} {d e : D} {x y : V} {k : Bool} (h : eqS d e = some k) (h1 : RV G H b d x) (h2 : RV G H b e y) : scal x y = true ∧ decide (x = y) = k := by
  cases d with
  | non =>
    obtain rfl := rv_non.mp h1
    cases e with
    | non => obtain rfl := rv_non.mp h2; simp only [eqS, Option.some.injEq] at h; subst h; exact ⟨rfl, by simp⟩
    | bl j => obtain rfl := rv_bl.mp h2; simp only [eqS, Option.some.injEq] at h; subst h; exact ⟨rfl, by simp⟩
    | int j => obtain rfl := rv_int.mp h2; simp only [eqS, Option.some.injEq] at h; subst h; exact ⟨rfl, by simp⟩
    | str j => obtain ⟨rfl, _⟩ := rv_str.mp h2; simp only [eqS, Option.some.injEq] at h; subst h; exact ⟨rfl, by simp⟩
    | _ => simp [eqS] at h
  | bl i =>
    obtain rfl := rv_bl.mp h1
    cases e with
    | non => obtain rfl := rv_non.mp h2; simp only [eqS, Option.some.injEq] at h; subst h; exact ⟨rfl, by simp⟩
    | bl j => obtain rfl := rv_bl.mp h2; simp only [eqS, Option.some.injEq] at h; subst h; exact ⟨rfl, by simp⟩
    | str j => obtain ⟨rfl, _⟩ := rv_str.mp h2; simp only [eqS, Option.some.injEq] at h; subst h; exact ⟨rfl, by simp⟩
    | _ => simp [eqS] at h
  | int i =>
    obtain rfl := rv_int.mp h1
    cases e with
    | non => obtain rfl := rv_non.mp h2; simp only [eqS, Option.some.injEq] at h; subst h; exact ⟨rfl, by simp⟩
    | int j => obtain rfl := rv_int.mp h2; simp only [eqS, Option.some.injEq] at h; subst h; exact ⟨rfl, by simp⟩
    | str j => obtain ⟨rfl, _⟩ := rv_str.mp h2; simp only [eqS, Option.some.injEq] at h; subst h; exact ⟨rfl, by simp⟩
    | _ => simp [eqS] at h
  | str i =>
    obtain ⟨rfl, _⟩ := rv_str.mp h1
    cases e with
    | non => obtain rfl := rv_non.mp h2; simp only [eqS, Option.some.injEq] at h; subst h; exact ⟨rfl, by simp⟩
    | bl j => obtain rfl := rv_bl.mp h2; simp only [eqS, Option.some.injEq] at h; subst h; exact ⟨rfl, by simp⟩
    | int j => obtain rfl := rv_int.mp h2; simp only [eqS, Option.some.injEq] at h; subst h; exact ⟨rfl, by simp⟩
    | str j => obtain ⟨rfl, _⟩ := rv_str.mp h2; simp only [eqS, Option.some.injEq] at h; subst h; exact ⟨rfl, by simp⟩
    | _ => simp [eqS] at h
  | _ => simp [eqS] at h

theorem opt_bl {b : List Addr} {S : Store} {o : Option Bool} {Q : VK} (r : Rel G H b S) (w : Want G H b (opt (o.map D.bl) S) Q) : ∃ k, o = some k ∧ Q (.bl k) H := by
  cases o with
  | none => exact (want_bad w).elim
  | some k => exact ⟨k, rfl, want_here r w (rv_bl.mpr rfl)⟩
theorem len_ok (hK : X.K = G.K) (hu : X.A.units < cLine) {pins : List (Addr × Obj)} {s : Shared} {σ : L2.St} {H : Hp} {x y : V} {v u : Value} {b : List Addr} {S : Store} {d e : D} {k : Bool} (I : Inv X pins σ H s) (r : Rel G H b S) (h1 : RV G H b d x) (h2 : RV G H b e y) (rx : RelV x v) (ry : RelV y u)
    (h : lenD d e S = some k) : SeqAt.RcAt X.A s v u k ∧ SeqAt.RcNeAt X.A s v u (!k) := by
  unfold lenD at h
  split at h
  · split at h
    · rename_i xs ys z1 z2
      obtain ⟨a1, vs1, rfl, _, hd1, kv1⟩ := lst_at r h1 z1
      obtain ⟨a2, vs2, rfl, _, hd2, kv2⟩ := lst_at r h2 z2
      obtain ⟨its1, rv1, p1, _⟩ := I.list (SqL.of hd1)
      obtain ⟨its2, rv2, p2, _⟩ := I.list (SqL.of hd2)
      cases rx; cases ry
      have l1 := rv1.length
      have l2 := rv2.length
      have k1 := kv1.length
      have k2 := kv2.length
      split at h
      · rename_i c
        split at h
        · rename_i c0
          cases h
          have e1 := SeqAt.RcAt.lists (e := fun _ => true) p1.isList p2.isList (by simp; omega) hu (fun j q1 _ => by simp at q1; omega)
          have e2 := SeqAt.RcNeAt.lists (e := fun _ => true) p1.isList p2.isList (by simp; omega) hu (fun j q1 _ => by simp at q1; omega)
          have z : its1.length = 0 := by omega
          exact ⟨by simpa [z] using e1, by simpa [z] using e2⟩
        · cases h
      · rename_i c
        cases h
        exact ⟨SeqAt.RcAt.lists_lengths p1.isList p2.isList (by simp; omega) hu, SeqAt.RcNeAt.lists_lengths p1.isList p2.isList (by simp; omega) hu⟩
    · cases h
  · rename_i xs ys
    obtain ⟨a1, vs1, rfl, hd1, kv1⟩ := rv_tup.mp h1
    obtain ⟨a2, vs2, rfl, hd2, kv2⟩ := rv_tup.mp h2
    rw [← hK] at hd1 hd2
    obtain ⟨its1, rv1, p1, _⟩ := I.tuple hd1
    obtain ⟨its2, rv2, p2, _⟩ := I.tuple hd2
    cases rx; cases ry
    have l1 := rv1.length
    have l2 := rv2.length
    have k1 := kv1.length
    have k2 := kv2.length
    split at h
    · rename_i c
      cases h
      have z : min its1.length its2.length = 0 := by omega
      have e1 := SeqAt.RcAt.tuples (e := fun _ => true) p1 p2 hu (fun j q1 q2 => by simp at q1 q2; omega)
      have e2 := SeqAt.RcNeAt.tuples (e := fun _ => true) p1 p2 hu (fun j q1 q2 => by simp at q1 q2; omega)
      have ee : (its1.length == its2.length) = decide (xs.length = ys.length) := by
        rw [k1, k2, l1, l2]
        cases q : its1.length == its2.length
        · exact (decide_eq_false (by simpa using q)).symm
        · exact (decide_eq_true (by simpa using q)).symm
      constructor
      · simpa [z, ee] using e1
      · simpa [z, ee] using e2
    · cases h
  · cases h
theorem op_eqDD (hK : X.K = G.K) (hu : X.A.units + 64 < cLine) : OpR X (compareOp .Eq) (rOp G fun x y S => opt ((eqD x y S).map .bl) S) := by
  intro pins s σ H x y v u Q I rx ry h
  obtain ⟨b, S, dx, dy, r, h1, h2, w⟩ := h
  obtain ⟨k, e, q⟩ := opt_bl r w
  unfold eqD at e
  split at e
  · rename_i k' e'
    cases e
    obtain ⟨s1, s2⟩ := eqS_ok e' h1 h2
    exact op_eq pins s σ H x y v u Q I rx ry ⟨s1, by rw [s2]; exact q⟩
  · split at e
    · rename_i k' e'
      cases e
      exact (len_ok hK (by omega) I r h1 h2 rx ry e').1 X.prog X.w _ _ ⟨.bl _, H, I, rfl, q⟩
    · split at e
      · rename_i p p' e1 e2
        split at e
        · rename_i c
          cases e
          rw [Bool.and_eq_true] at c
          refine op_eqD hu pins s σ H x y v u Q I rx ry ⟨p, p', ?_, ?_, c.1, c.2, q⟩
          · rw [hK]; exact toP_dp r _ _ _ _ e1 h1
          · rw [hK]; exact toP_dp r _ _ _ _ e2 h2
        · cases e
      · cases e
theorem op_neDD (hK : X.K = G.K) (hu : X.A.units + 64 < cLine) : OpR X (compareOp .NotEq) (rOp G fun x y S => opt (((eqD x y S).map (!·)).map .bl) S) := by
  intro pins s σ H x y v u Q I rx ry h
  obtain ⟨b, S, dx, dy, r, h1, h2, w⟩ := h
  obtain ⟨k, e0, q⟩ := opt_bl r w
  obtain ⟨k', e, ek⟩ := Option.map_eq_some_iff.mp e0
  subst ek
  clear e0
  unfold eqD at e
  split at e
  · rename_i k' e'
    cases e
    obtain ⟨s1, s2⟩ := eqS_ok e' h1 h2
    exact op_ne pins s σ H x y v u Q I rx ry ⟨s1, by rw [s2]; exact q⟩
  · split at e
    · rename_i k' e'
      cases e
      exact (len_ok hK (by omega) I r h1 h2 rx ry e').2 X.prog X.w _ _ ⟨.bl _, H, I, rfl, q⟩
    · split at e
      · rename_i p p' e1 e2
        split at e
        · rename_i c
          cases e
          rw [Bool.and_eq_true] at c
          refine op_neD hu pins s σ H x y v u Q I rx ry ⟨p, p', ?_, ?_, c.1, c.2, q⟩
          · rw [hK]; exact toP_dp r _ _ _ _ e1 h1
          · rw [hK]; exact toP_dp r _ _ _ _ e2 h2
        · cases e
      · cases e

theorem flat_ok {b : List Addr} {d : D} {v : V} (h : RV G H b d v) (f : flatD d = true) : flatV v = true := by
  cases d with
  | non => obtain rfl := rv_non.mp h; rfl
  | bl k => obtain rfl := rv_bl.mp h; rfl
  | int k => obtain rfl := rv_int.mp h; rfl
  | str k => obtain ⟨rfl, _⟩ := rv_str.mp h; rfl
  | _ => exact absurd f (by simp [flatD])
theorem flats_ok {b : List Addr} : ∀ {ds : List D} {vs : List V}, RVs G H b ds vs → ds.all flatD = true → vs.all flatV = true
  | [], _, h, _ => by simp only [RVs] at h; subst h; rfl
  | d :: ds, _, h, f => by
    simp only [RVs] at h
    obtain ⟨v, rr, rfl, h1, h2⟩ := h
    simp only [List.all_cons, Bool.and_eq_true] at f ⊢
    exact ⟨flat_ok h1 f.1, flats_ok h2 f.2⟩
theorem eqF_ok {b : List Addr} {d e : D} {x y : V} (h1 : RV G H b d x) (h2 : RV G H b e y) (f1 : flatD d = true) (f2 : flatD e = true) : eqV x y = eqF d e := by
  cases d with
  | non =>
    obtain rfl := rv_non.mp h1
    cases e with
    | non => obtain rfl := rv_non.mp h2; rfl
    | bl j => obtain rfl := rv_bl.mp h2; rfl
    | int j => obtain rfl := rv_int.mp h2; rfl
    | str j => obtain ⟨rfl, _⟩ := rv_str.mp h2; rfl
    | _ => exact absurd f2 (by simp [flatD])
  | bl i =>
    obtain rfl := rv_bl.mp h1
    cases e with
    | non => obtain rfl := rv_non.mp h2; rfl
    | bl j => obtain rfl := rv_bl.mp h2; rfl
    | int j => obtain rfl := rv_int.mp h2; rfl
    | str j => obtain ⟨rfl, _⟩ := rv_str.mp h2; rfl
    | _ => exact absurd f2 (by simp [flatD])
  | int i =>
    obtain rfl := rv_int.mp h1
    cases e with
    | non => obtain rfl := rv_non.mp h2; rfl
    | bl j => obtain rfl := rv_bl.mp h2; rfl
    | int j => obtain rfl := rv_int.mp h2; rfl
    | str j => obtain ⟨rfl, _⟩ := rv_str.mp h2; rfl
    | _ => exact absurd f2 (by simp [flatD])
  | str i =>
    obtain ⟨rfl, _⟩ := rv_str.mp h1
    cases e with
    | non => obtain rfl := rv_non.mp h2; rfl
    | bl j => obtain rfl := rv_bl.mp h2; rfl
    | int j => obtain rfl := rv_int.mp h2; rfl
    | str j => obtain ⟨rfl, _⟩ := rv_str.mp h2; rfl
    | _ => exact absurd f2 (by simp [flatD])
  | _ => exact absurd f1 (by simp [flatD])
theorem inF_ok {b : List Addr} {d : D} {x : V} (h : RV G H b d x) (f : flatD d = true) : ∀ {ds : List D} {vs : List V}, RVs G H b ds vs → ds.all flatD = true → inV x vs = ds.any fun y => eqF y d
  | [], _, k, _ => by simp only [RVs] at k; subst k; rfl
  | e :: ds, _, k, g => by
    simp only [RVs] at k
    obtain ⟨v, rr, rfl, h1, h2⟩ := k
    simp only [List.all_cons, Bool.and_eq_true] at g
    have ih := inF_ok h f h2 g.2
    unfold inV at ih ⊢
    rw [List.any_cons, List.any_cons, ih, eqF_ok h1 h g.1 f]
theorem key_ok {b : List Addr} {d : D} {v : V} {k : Key} (h : RV G H b d v) (e : keyOf d = some k) : v = kV k := by
  cases d with
  | int i => obtain rfl := rv_int.mp h; simp only [keyOf, Option.some.injEq] at e; subst e; rfl
  | str i => obtain ⟨rfl, _⟩ := rv_str.mp h; simp only [keyOf, Option.some.injEq] at e; subst e; rfl
  | _ => simp [keyOf] at e
theorem sign_of {x : Str} (h : x.length = 1) : x = ⟨#[x.cps.getD 0 0]⟩ := by
  obtain ⟨⟨l⟩⟩ := x
  have h' : l.length = 1 := h
  match l, h' with
  | [c], _ => rfl
/-- in, not in -/
theorem in_core (hK : X.K = G.K) (hu : X.A.units + 1 < cLine) {pins : List (Addr × Obj)} {s : Shared} {σ : L2.St} {H : Hp} {x y : V} {v u : Value} {Q : VK} {b : List Addr} {S : Store} {dx dy : D} {k : Bool}
    (I : Inv X pins σ H s) (rx : RelV x v) (ry : RelV y u) (r : Rel G H b S) (h1 : RV G H b dx x) (h2 : RV G H b dy y) (e : inD dx dy S = some k) :
    (Q (.bl k) H → wpAny (model X.prog X.w) X.A (compareOp .In v u) (EP X pins σ Q) X.xe s) ∧ (Q (.bl (!k)) H → wpAny (model X.prog X.w) X.A (compareOp .NotIn v u) (EP X pins σ Q) X.xe s) := by
  have seq : ∀ {p : Addr} {vs : List V} {ds : List D}, y = .ref p → (SqL G.K H p vs ∨ SqT G.K H p vs) → RVs G H b ds vs → flatD dx = true → ds.all flatD = true → k = (ds.any fun y => eqF y dx) →
      (Q (.bl k) H → wpAny (model X.prog X.w) X.A (compareOp .In v u) (EP X pins σ Q) X.xe s) ∧ (Q (.bl (!k)) H → wpAny (model X.prog X.w) X.A (compareOp .NotIn v u) (EP X pins σ Q) X.xe s) := by
    intro p vs ds ey hs kv f fs ek
    subst ey
    have e1 := inF_ok h1 f kv fs
    rw [← hK] at hs
    refine ⟨fun q => op_in_seq pins s σ H _ _ v u Q I rx ry ⟨p, vs, rfl, hs, flat_ok h1 f, flats_ok kv fs, ?_⟩, fun q => op_notIn_seq pins s σ H _ _ v u Q I rx ry ⟨p, vs, rfl, hs, flat_ok h1 f, flats_ok kv fs, ?_⟩⟩
    · rw [e1, ← ek]; exact q
    · rw [e1, ← ek]; exact q
  have dict : ∀ {p : Addr} {ws : List (Key × V)} {kvs : List (Key × D)} {z : Key}, y = .ref p → Rd H p (.dK ws) → RKs G H b kvs ws → keyOf dx = some z → k = (valG kvs z).isSome →
      (Q (.bl k) H → wpAny (model X.prog X.w) X.A (compareOp .In v u) (EP X pins σ Q) X.xe s) ∧ (Q (.bl (!k)) H → wpAny (model X.prog X.w) X.A (compareOp .NotIn v u) (EP X pins σ Q) X.xe s) := by
    intro p ws kvs z ey hd kv hz ek
    subst ey
    obtain rfl := key_ok h1 hz
    obtain rfl : u = Value.ref p := ry
    have g : DGet H p (kV z) (valV ws z) := .inl ⟨ws, z, hd, rfl, rfl⟩
    rw [kv.some] at ek
    refine ⟨fun q => d_in hu I g rx fun s' I' => ⟨.bl _, H, I', rfl, by rw [← ek]; exact q⟩, fun q => d_notIn hu I g rx fun s' I' => ⟨.bl _, H, I', rfl, by rw [← ek]; exact q⟩⟩
  cases dy with
  | ref n =>
    simp only [inD] at e
    split at e
    · rename_i kvs q
      split at e
      · rename_i z hz
        cases e
        obtain ⟨a, ws, ey, _, hd, kv⟩ := dct_at r h2 q
        exact dict ey (.inl hd) kv hz rfl
      · cases e
    · rename_i kvs q
      split at e
      · rename_i z hz
        cases e
        obtain ⟨a, ob, ws, ey, _, hd, kv⟩ := dcl_at r h2 q
        exact dict ey (.inr ⟨ob, hd⟩) kv hz rfl
      · cases e
    · rename_i ds q
      split at e
      · rename_i c
        cases e
        rw [Bool.and_eq_true] at c
        obtain ⟨a, vs, ey, _, hd, kv⟩ := lst_at r h2 q
        exact seq ey (.inl (SqL.of hd)) kv c.1 c.2 rfl
      · cases e
    · cases e
  | tup ds =>
    simp only [inD] at e
    split at e
    · rename_i c
      cases e
      rw [Bool.and_eq_true] at c
      obtain ⟨a, vs, ey, hd, kv⟩ := rv_tup.mp h2
      exact seq ey (.inr hd) kv c.1 c.2 rfl
    · cases e
  | str z =>
    obtain ⟨rfl, _⟩ := rv_str.mp h2
    cases dx with
    | str c =>
      obtain ⟨rfl, _⟩ := rv_str.mp h1
      simp only [inD] at e
      split at e
      · rename_i hl
        cases e
        have e1 := sign_of hl
        refine ⟨fun q => op_in_sign pins s σ H _ _ v u Q I rx ry ⟨_, z, by rw [← e1], rfl, q⟩, fun q => op_notIn_sign pins s σ H _ _ v u Q I rx ry ⟨_, z, by rw [← e1], rfl, q⟩⟩
      · cases e
    | _ => simp [inD] at e
  | _ => simp [inD] at e
def cop : Co → CmpOp
  | .eq => .Eq | .ne => .NotEq | .lt => .Lt | .le => .LtE | .gt => .Gt | .ge => .GtE | .isin => .In | .nin => .NotIn | .is => .Is | .isn => .IsNot
theorem op_cmpD (hK : X.K = G.K) (hu : X.A.units + 64 < cLine) (o : Co) : OpR X (compareOp (cop o)) (rOp G fun x y S => opt ((cmpD o x y S).map .bl) S) := by
  cases o with
  | eq => exact op_eqDD hK hu
  | ne => exact op_neDD hK hu
  | isin =>
    intro pins s σ H x y v u Q I rx ry h
    obtain ⟨b, S, dx, dy, r, h1, h2, w⟩ := h
    obtain ⟨k, e, q⟩ := opt_bl r w
    exact (in_core hK (by omega) I rx ry r h1 h2 e).1 q
  | nin =>
    intro pins s σ H x y v u Q I rx ry h
    obtain ⟨b, S, dx, dy, r, h1, h2, w⟩ := h
    obtain ⟨k, e0, q⟩ := opt_bl r w
    obtain ⟨k', e, ek⟩ := Option.map_eq_some_iff.mp (show (inD dx dy S).map (!·) = some k from e0)
    subst ek
    exact (in_core hK (by omega) I rx ry r h1 h2 e).2 q
  | is =>
    intro pins s σ H x y v u Q I rx ry h
    obtain ⟨b, S, dx, dy, r, h1, h2, w⟩ := h
    obtain ⟨k, e, q⟩ := opt_bl r w
    cases dy with
    | non =>
      obtain rfl := rv_non.mp h2
      refine op_isN pins s σ H _ _ v u Q I rx ry ⟨rfl, ?_⟩
      simp only [cmpD, isD, Option.some.injEq] at e
      subst e
      cases dx with
      | non => obtain rfl := rv_non.mp h1; exact q
      | bl j => obtain rfl := rv_bl.mp h1; exact q
      | int j => obtain rfl := rv_int.mp h1; exact q
      | str j => obtain ⟨rfl, _⟩ := rv_str.mp h1; exact q
      | tup j => obtain ⟨a, vs, rfl, _⟩ := rv_tup.mp h1; exact q
      | rol j => obtain ⟨a, vs, rfl, _⟩ := rv_rol.mp h1; exact q
      | ref j => obtain ⟨a, rfl, _⟩ := rv_ref.mp h1; exact q
      | exv c ds => exact (rv_exv h1).elim
    | bl k =>
      obtain rfl := rv_bl.mp h2
      cases dx with
      | bl j =>
        obtain rfl := rv_bl.mp h1
        simp only [cmpD, isD, Option.map_some, Option.some.injEq] at e
        subst e
        exact op_isBl pins s σ H _ _ v u Q I rx ry ⟨j, k, rfl, rfl, q⟩
      | _ => simp [cmpD, isD] at e
    | _ => simp [cmpD, isD] at e
  | isn =>
    intro pins s σ H x y v u Q I rx ry h
    obtain ⟨b, S, dx, dy, r, h1, h2, w⟩ := h
    obtain ⟨k, e, q⟩ := opt_bl r w
    cases dy with
    | non =>
      obtain rfl := rv_non.mp h2
      refine op_notN pins s σ H _ _ v u Q I rx ry ⟨rfl, ?_⟩
      simp only [cmpD, isD, Option.map_some, Option.some.injEq] at e
      subst e
      cases dx with
      | non => obtain rfl := rv_non.mp h1; exact q
      | bl j => obtain rfl := rv_bl.mp h1; exact q
      | int j => obtain rfl := rv_int.mp h1; exact q
      | str j => obtain ⟨rfl, _⟩ := rv_str.mp h1; exact q
      | tup j => obtain ⟨a, vs, rfl, _⟩ := rv_tup.mp h1; exact q
      | rol j => obtain ⟨a, vs, rfl, _⟩ := rv_rol.mp h1; exact q
      | ref j => obtain ⟨a, rfl, _⟩ := rv_ref.mp h1; exact q
      | exv c ds => exact (rv_exv h1).elim
    | bl k =>
      obtain rfl := rv_bl.mp h2
      cases dx with
      | bl j =>
        obtain rfl := rv_bl.mp h1
        simp only [cmpD, isD, Option.map_some, Option.some.injEq] at e
        subst e
        exact op_notBl pins s σ H _ _ v u Q I rx ry ⟨j, k, rfl, rfl, q⟩
      | _ => simp [cmpD, isD] at e
    | _ => simp [cmpD, isD] at e
  | lt =>
    intro pins s σ H x y v u Q I rx ry h
    obtain ⟨b, S, dx, dy, r, h1, h2, w⟩ := h
    obtain ⟨k, e, q⟩ := opt_bl r w
    cases dx with
    | int i =>
      obtain rfl := rv_int.mp h1
      cases dy with
      | int j =>
        obtain rfl := rv_int.mp h2
        simp only [cmpD, Option.some.injEq] at e
        subst e
        exact op_lt pins s σ H _ _ v u Q I rx ry ⟨i, j, rfl, rfl, q⟩
      | _ => simp [cmpD] at e
    | str i =>
      obtain ⟨rfl, _⟩ := rv_str.mp h1
      cases dy with
      | str j =>
        obtain ⟨rfl, _⟩ := rv_str.mp h2
        simp only [cmpD, Option.some.injEq] at e
        subst e
        exact op_lt_str pins s σ H _ _ v u Q I rx ry ⟨i, j, rfl, rfl, q⟩
      | _ => simp [cmpD] at e
    | _ => simp [cmpD] at e
  | le =>
    intro pins s σ H x y v u Q I rx ry h
    obtain ⟨b, S, dx, dy, r, h1, h2, w⟩ := h
    obtain ⟨k, e, q⟩ := opt_bl r w
    cases dx with
    | int i =>
      obtain rfl := rv_int.mp h1
      cases dy with
      | int j =>
        obtain rfl := rv_int.mp h2
        simp only [cmpD, Option.some.injEq] at e
        subst e
        exact op_le pins s σ H _ _ v u Q I rx ry ⟨i, j, rfl, rfl, q⟩
      | _ => simp [cmpD] at e
    | _ => simp [cmpD] at e
  | gt =>
    intro pins s σ H x y v u Q I rx ry h
    obtain ⟨b, S, dx, dy, r, h1, h2, w⟩ := h
    obtain ⟨k, e, q⟩ := opt_bl r w
    cases dx with
    | int i =>
      obtain rfl := rv_int.mp h1
      cases dy with
      | int j =>
        obtain rfl := rv_int.mp h2
        simp only [cmpD, Option.some.injEq] at e
        subst e
        exact op_gt pins s σ H _ _ v u Q I rx ry ⟨i, j, rfl, rfl, q⟩
      | _ => simp [cmpD] at e
    | _ => simp [cmpD] at e
  | ge =>
    intro pins s σ H x y v u Q I rx ry h
    obtain ⟨b, S, dx, dy, r, h1, h2, w⟩ := h
    obtain ⟨k, e, q⟩ := opt_bl r w
    cases dx with
    | int i =>
      obtain rfl := rv_int.mp h1
      cases dy with
      | int j =>
        obtain rfl := rv_int.mp h2
        simp only [cmpD, Option.some.injEq] at e
        subst e
        exact op_ge pins s σ H _ _ v u Q I rx ry ⟨i, j, rfl, rfl, q⟩
      | _ => simp [cmpD] at e
    | _ => simp [cmpD] at e

/-! ### truth -/
theorem truV_of (hK : X.K = G.K) {b : List Addr} {S : Store} {d : D} {x : V} {k : Bool} (r : Rel G H b S) (h : RV G H b d x) (e : truD d S = some k) (hl : ∀ kvs n, d = .ref n → S[n]? = some (.dcl kvs) → False) : TruV X.K x H k := by
  have iE : ∀ {ds : List D} {vs : List V}, RVs G H b ds vs → (!ds.isEmpty) = !vs.isEmpty := by
    intro ds vs q
    cases ds with
    | nil => simp only [RVs] at q; subst q; rfl
    | cons d ds => simp only [RVs] at q; obtain ⟨v, rr, rfl, _⟩ := q; rfl
  cases d with
  | non => obtain rfl := rv_non.mp h; simp only [truD, Option.some.injEq] at e; exact e.symm
  | bl j => obtain rfl := rv_bl.mp h; simp only [truD, Option.some.injEq] at e; exact e.symm
  | int j => obtain rfl := rv_int.mp h; simp only [truD, Option.some.injEq] at e; exact e.symm
  | str j => obtain ⟨rfl, l⟩ := rv_str.mp h; simp only [truD, Option.some.injEq] at e; exact ⟨l, e.symm⟩
  | tup ds =>
    obtain ⟨a, vs, rfl, q, kv⟩ := rv_tup.mp h
    simp only [truD, Option.some.injEq] at e
    rw [hK]
    exact .inr (.inl ⟨vs, q, by rw [← e]; exact iE kv⟩)
  | rol ds =>
    obtain ⟨a, vs, rfl, q, kv⟩ := rv_rol.mp h
    simp only [truD, Option.some.injEq] at e
    rw [hK]
    exact .inl ⟨vs, q.sql, by rw [← e]; exact iE kv⟩
  | ref n =>
    simp only [truD] at e
    split at e
    · rename_i ds q
      cases e
      obtain ⟨a, vs, rfl, _, hd, kv⟩ := lst_at r h q
      exact .inl ⟨vs, SqL.of hd, iE kv⟩
    · rename_i kvs q
      cases e
      obtain ⟨a, ws, rfl, _, hd, kv⟩ := dct_at r h q
      refine .inr (.inr ⟨ws, hd, ?_⟩)
      have := kv.length
      cases kvs <;> cases ws <;> simp_all
    · cases e
  | exv c ds => exact (rv_exv h).elim
theorem truV_of' (hK : X.K = G.K) {b : List Addr} {S : Store} {d : D} {x : V} {k : Bool} (r : Rel G H b S) (h : RV G H b d x) (e : truD d S = some k) : TruV X.K x H k := by
  refine truV_of hK r h e fun kvs n e1 e2 => ?_
  subst e1
  simp [truD, e2] at e
end
end PV

set_option Elab.async false
set_option linter.all false
set_option maxRecDepth 100000
set_option maxHeartbeats 1000000
/-! PV: what the kit lacks of tuples: t[::-1], sum(t). -/
namespace PZ
open PySem PySem.Spec PyProof.Rows L2 HT
section
variable {prog : Program} {w : World} {A : Around} {E : Value → Shared → Prop} {s : Shared}
theorem back_places (n : Nat) : Builtin.Slice.slicePlaces ((n : Int) - 1) (-1) (-1) = n := by
  unfold Builtin.Slice.slicePlaces
  have a : ¬ ((-1 : Int) > 0) := by omega
  simp only [a, if_false]
  split
  · have : ((n : Int) - 1 - -1 - 1) / (- -1) = (n : Int) - 1 := by
      rw [show (- -1 : Int) = 1 by omega, Int.ediv_one]
      omega
    omega
  · omega
theorem fm_same {α β : Type} {f g : α → Option β} : ∀ {l : List α}, (∀ x ∈ l, f x = g x) → l.filterMap f = l.filterMap g
  | [], _ => rfl
  | x :: l, h => by
    rw [List.filterMap_cons, List.filterMap_cons, h x List.mem_cons_self, fm_same fun y hy => h y (List.mem_cons_of_mem _ hy)]
theorem back_list : ∀ (l : List Value), ((List.range l.length).filterMap fun (k : Nat) => l.toArray[(((l.length : Int) - 1) + (k : Int) * -1).toNat]?) = l.reverse := by
  intro l
  apply List.ext_getElem?
  intro i
  have e : ∀ k ∈ List.range l.length, l.toArray[(((l.length : Int) - 1) + (k : Int) * -1).toNat]? = some (l.reverse.getD k Value.none) := by
    intro k hk
    rw [List.mem_range] at hk
    have e1 : (((l.length : Int) - 1) + (k : Int) * -1).toNat = l.length - 1 - k := by omega
    rw [e1, List.getElem?_toArray, List.getD_eq_getElem?_getD, List.getElem?_reverse hk, List.getElem?_eq_getElem (by omega)]
    rfl
  rw [fm_same e, show (fun k => some (l.reverse.getD k Value.none)) = some ∘ (fun k => l.reverse.getD k Value.none) from rfl, List.filterMap_eq_map, List.getElem?_map]
  by_cases hi : i < l.length
  · rw [List.getElem?_range hi, Option.map_some, List.getD_eq_getElem?_getD, List.getElem?_eq_getElem (by simpa using hi)]
    rfl
  · rw [List.getElem?_eq_none (by simpa using hi), List.getElem?_eq_none (by simpa using hi)]
    rfl
theorem tup_back {t sl : Addr} {its : List Value} {vl vu vs : Value} {Q : Value → Shared → Prop} (ht : IsTup s.heap t its.toArray) (hs : s.heap.IsSliceOf sl vl vu vs) (pl : IsPart vl none) (pu : IsPart vu none) (ps : IsPart vs (some (-1)))
    (h : Q (.ref s.heap.objs.size) { s with heap := s.heap.push { cls := .type "tuple", data := .seq its.reverse.toArray } }) (hz : its.length ≤ sizeLine) : wpAny (model prog w) A (getItem (.ref t) (.ref sl)) Q E s := by
  obtain ⟨os, there, cls, flds⟩ := id hs
  have T : s.TypeIs (.ref sl) "slice" := ⟨os, there, cls⟩
  have ok : sizeOk (.seq its.reverse.toArray) := by
    show its.reverse.toArray.size ≤ sizeLine
    rw [List.size_toArray, List.length_reverse]
    exact hz
  unfold getItem
  refine wpAny_holding (wpAny_bind (wpAny_sequenceKey ht.typeIs (by decide) (wpAny_bind (wpAny_callSpecial?_slot ht.typeIs slot_tuple_getitem (wpAny_call_entry slot_tuple_getitem ht.typeIs entry_tuple_getitem ?_ (args_tuple_getitem _ _))))))
  change wpAny _ _ (Builtin.Tuple.tupleItemsOf (.ref t) >>= _) _ _ _
  refine wpAny_bind (tupleItemsOf_ ht (wpAny_bind (wpAny_typeOf T ?_)))
  rw [if_pos (by decide)]
  have ap : ∀ {Q : Int × Int × Nat → Shared → Prop}, Q (((its.length : Int) - 1), -1, its.length) s → wpAny (model prog w) A.in1 (Builtin.Slice.sliceApplied (.ref sl) (pure ((its.toArray.size : Nat) : Int))) Q E s := fun {Q} q => by
    unfold Builtin.Slice.sliceApplied Builtin.Slice.sliceFields
    refine wpAny_bind (wpAny_bind (wpAny_field there flds (x := vl) rfl (wpAny_bind (wpAny_field there flds (x := vu) rfl (wpAny_bind (wpAny_field there flds (x := vs) rfl (wpAny_pure ?_)))))))
    refine wpAny_bind (slicePart_ ps ?_)
    change wpAny _ _ (if ((-1 : Int) == 0) = true then _ else _) _ _ _
    rw [if_neg (by decide)]
    refine wpAny_bind (slicePart_ pl (wpAny_bind (slicePart_ pu (wpAny_bind (wpAny_pure ?_)))))
    have e : Builtin.Slice.sliceAdjust none none (-1) ((its.toArray.size : Nat) : Int) = (((its.length : Nat) : Int) - 1, -1) := by
      rw [List.size_toArray]
      rfl
    change wpAny _ _ (match Builtin.Slice.sliceAdjust none none (-1) ((its.toArray.size : Nat) : Int) with | (lo, hi) => pure (lo, (-1 : Int), Builtin.Slice.slicePlaces lo hi (-1))) _ _ _
    rw [e]
    change wpAny _ _ (pure (((its.length : Nat) : Int) - 1, (-1 : Int), Builtin.Slice.slicePlaces (((its.length : Nat) : Int) - 1) (-1) (-1))) _ _ _
    rw [back_places]
    exact wpAny_pure q
  refine wpAny_bind (ap ?_)
  change wpAny _ _ (if ((((its.length : Nat) : Int) - 1) == 0 && (-1 : Int) == 1 && its.length == its.toArray.size) = true then _ else _) _ _ _
  rw [if_neg (by simp)]
  rw [back_list its]
  first
    | exact wpAny_bind (m := Builtin.Tuple.tupleExact _) (wpAny_newObj_type (wpAny_pure ⟨_, rfl, wpAny_pure h⟩) ok)
    | exact wpAny_bind (m := Builtin.Tuple.tupleExact _) (wpAny_newObj_type (wpAny_bind (wpAny_pure (wpAny_pure ⟨_, rfl, wpAny_pure h⟩))) ok)
    | exact wpAny_bind (wpAny_bind (m := Builtin.Tuple.tupleExact _) (wpAny_newObj_type (wpAny_pure (wpAny_pure ⟨_, rfl, wpAny_pure h⟩)) ok))
    | exact wpAny_bind (wpAny_bind (m := Builtin.Tuple.tupleExact _) (wpAny_newObj_type (wpAny_pure ⟨_, rfl, wpAny_pure h⟩) ok))
/-! ### sum of a tuple of ints -/
theorem sum_tup {t : Addr} {its : List Value} {ns : List Int} {Q : Value → Shared → Prop} (hh : A.handled = none) (ht : s.heap.IsTuple t its.toArray) (hi : IntsAre its ns)
    (h : ∀ h' tk t', (∀ b o, s.heap.get? b = some o → h'.get? b = some o) → Q (.int ns.sum t') { s with heap := h', toks := tk }) : wpAny (model prog w) A (call (.builtin "sum") [.ref t]) Q E s := by
  obtain ⟨xs, e⟩ := hi.allInts.items
  have hn : numsOf (intItems xs).toList = ns := by rw [← e]; exact hi.numsOf
  rw [nums_intItems] at hn
  rw [e] at ht
  obtain ⟨o, there, _⟩ := id ht
  have lt := Heap.lt_size there
  refine call_sum_walkG (wpAny_pyIter_tuple ht ?_)
  refine ⟨_, _, _, _, _, _, numAt xs, rfl, Walks.tuple (A := A.in1) hh s.heap.objs.size t (Nat.ne_of_lt lt) (intItems xs), ⟨⟨_, Heap.get?_push_size _ rfl, rfl, rfl⟩, ht.push _⟩, ?_, (fun _ _ => intItems_at), fun h' tk t' hk => ?_⟩
  · intro b hb
    show b < (s.heap.push _).objs.size
    rw [Heap.size_push]
    rcases List.mem_cons.mp hb with rfl | hb
    · exact Nat.lt_succ_self _
    · rcases List.mem_cons.mp hb with rfl | hb
      · exact Nat.lt_succ_of_lt lt
      · cases hb
  · have := h h' tk t' fun b o q => hk b o (fun m => by
      rcases List.mem_cons.mp m with rfl | m
      · exact Nat.lt_irrefl _ (Heap.lt_size q)
      · cases m) (Heap.get?_push_of_some _ q)
    have z : preSum (numAt xs) (intItems xs).size = ns.sum := by
      rw [preSum_eq, hn, List.take_of_length_le (by rw [← hn]; simp [intItems])]
    rw [z]
    exact this
end
section
variable {X : Cx}
/-- sum(t) of a tuple of ints -/
theorem cr_sumT (hc : X.calm = true) : CallR X (.builtin "sum") (fun vs H Q => ∃ (a : Addr) (ns : List Int), vs = [V.ref a] ∧ SqT X.K H a (ns.map V.int) ∧ Q (.int ns.sum) H) := by
  rintro pins s σ H vs us Q I r ⟨a, ns, rfl, ht, q⟩
  obtain ⟨its, rv, p, _⟩ := I.tuple ht
  rw [Vals.ref1 r]
  exact sum_tup (I.ok.hd hc) p rv.ints fun h' tk t' k => ⟨.int _, H, I.kept k, ⟨_, rfl⟩, q⟩
/-- t[::-1] -/
theorem pe_revT {e : Expr} {te : TE} {k : Nat} {p1 p2 p3 pos : Pos} (he : PE X e te) : PE X (.Subscript e (.Slice none none (some (.UnaryOp .USub (.Constant (.int 1) k p1) p2)) p3) pos)
    (fun σ H Q => te σ H fun x H1 => ∃ a xs, x = .ref a ∧ SqT X.K H1 a xs ∧ ∀ p, H1 p = none → Q (.ref p) (upd H1 p (.tup xs.reverse))) := by
  refine ⟨fun pins s σ H Q I h => Subscript_ (thn (he.run pins s σ H _ I h) fun v s1 ⟨x, H1, I1, r1, a, xs, ex, hx, q⟩ => ?_)⟩
  subst ex
  cases r1
  have one : PO X (some (.UnaryOp .USub (.Constant (.int 1) k p1) p2)) (tPart (tUn (rU fun i => .int (-i)) (tC (.int 1)))) := po_some (pe_un un_neg pe_int)
  refine wpAny_Slice (thn (po_none.run pins s1 σ H1 (fun o H2 => o = none ∧ H2 = H1) I1 ⟨rfl, rfl⟩) fun vl s2 ⟨_, H2, I2, pl, e1, e2⟩ => thn (po_none.run pins s2 σ H2 (fun o H3 => o = none ∧ H3 = H2) I2 ⟨rfl, rfl⟩) fun vu s3 ⟨_, H3, I3, pu, e3, e4⟩ =>
    thn (one.run pins s3 σ H3 (fun o H4 => o = some (-1) ∧ H4 = H3) I3 ⟨1, rfl, -1, rfl, rfl, rfl⟩) fun vs s4 ⟨_, H4, I4, ps, e5, e6⟩ => ?_)
  subst e1 e2 e3 e4 e5 e6
  have I5 : Inv X pins σ H4 { s4 with heap := s4.heap.push { cls := .type "slice", data := .fields #[vl, vu, vs] } } := I4.kept (t' := s4.toks) fun b ob q => Heap.get?_push_of_some _ q
  obtain ⟨its, r, ht, hz⟩ := I5.tuple hx
  change wpAny (model X.prog X.w) X.A (subscriptTail e (.Slice none none (some (.UnaryOp .USub (.Constant (.int 1) k p1) p2)) p3) (.ref a) (.ref s4.heap.objs.size)) (EP X pins σ Q) X.xe _
  refine tail_any (ops := [.ref a, .ref s4.heap.objs.size]) ht.typeIs slot_tuple_getitem.lookup ?_ (by with_unfolding_all rfl)
  refine tup_back ht (Heap.IsSliceOf.new _ vl vu vs) pl pu ps ?_ (r.length ▸ hz)
  exact ⟨.ref _, _, I5.laid (t' := s4.toks) (o := .tup xs.reverse) (fun b ob q => Heap.get?_push_of_some _ q) (Nat.le_refl _) ⟨by rw [List.length_reverse]; exact hz, _, r.reverse, ⟨_, Heap.get?_push_size _ rfl, rfl, 0, rfl⟩⟩, rfl, q _ (I5.hok.fresh (Nat.le_refl _))⟩
end
end PZ

set_option Elab.async false
set_option linter.all false
set_option maxRecDepth 100000
set_option maxHeartbeats 1000000
/-! PV: enumerate, zip of two and three, over lists and tuples in any mix. -/
namespace PZ
open PySem PySem.Spec PyProof.Rows L2 HT

/-- a list (true) or a tuple (false) at a -/
def SqK (K : PySem.W.Frag) (k : Bool) (H : Hp) (a : Addr) (xs : List V) : Prop := match k with
  | true => SqL K H a xs
  | false => SqT K H a xs
def SrcIt (k : Bool) (h : Heap) (it a : Addr) (i : Nat) : Prop := match k with
  | true => h.IsListIter it a i
  | false => h.IsTupleIter it a i
def SrcAt (k : Bool) (h : Heap) (a : Addr) (its : Array Value) : Prop := match k with
  | true => h.IsList a its
  | false => h.IsTuple a its
def srcObj (k : Bool) (a : Addr) : Obj := match k with
  | true => { cls := .type "list_iterator", data := .fields #[.ref a, .int 0 0] }
  | false => { cls := .type "tuple_iterator", data := .fields #[.ref a, .int 0 0] }
theorem src_at {X : Cx} {pins : List (Addr × Obj)} {σ : L2.St} {H : Hp} {s : Shared} {k : Bool} {a : Addr} {xs : List V} (I : Inv X pins σ H s) (h : SqK X.K k H a xs) : ∃ its : List Value, Vals xs its ∧ SrcAt k s.heap a its.toArray := by
  cases k with
  | true => obtain ⟨its, r, p, _⟩ := I.list h; exact ⟨its, r, p.isList⟩
  | false => obtain ⟨its, r, p, _⟩ := I.tuple h; exact ⟨its, r, p⟩
theorem src_inj {X : Cx} {pins : List (Addr × Obj)} {σ : L2.St} {H : Hp} {s : Shared} {k : Bool} {a : Addr} {xs ys : List V} (I : Inv X pins σ H s) (h : SqK X.K k H a xs) (h' : SqK X.K k H a ys) : xs = ys := by
  cases k with
  | true => exact I.list_inj h h'
  | false => exact I.tuple_inj h h'
theorem src_draws {prog : Program} {w : World} {A : Around} (hh : A.handled = none) (k : Bool) (it a : Addr) (hne : a ≠ it) (its : Array Value) :
    Draws prog w A it [it, a] its.size (fun i v => its[i]? = some v) (fun i h => SrcIt k h it a i ∧ SrcAt k h a its) := by
  cases k with
  | true => exact .list hh it a hne its
  | false => exact .tuple hh it a hne its
theorem src_begins (k : Bool) (a : Addr) (its : Array Value) : Begins (.ref a) (srcObj k a) fun h => SrcAt k h a its := by
  cases k with
  | true => exact begins_list a its
  | false => exact begins_tuple a its
theorem src_it {k : Bool} {h : Heap} {it a : Addr} (e : h.get? it = some (srcObj k a)) : SrcIt k h it a 0 := by
  cases k with
  | true => exact ⟨_, e, rfl, rfl⟩
  | false => exact ⟨_, e, rfl, rfl⟩
theorem SrcIt.to {k : Bool} {h h' : Heap} {it a : Addr} {i : Nat} (e : SrcIt k h it a i) (kk : ∀ o, h.get? it = some o → h'.get? it = some o) : SrcIt k h' it a i := by
  cases k with
  | true => exact Heap.IsListIter.at e kk
  | false => exact Heap.IsTupleIter.at e kk
theorem SrcIt.obj {k : Bool} {h : Heap} {it a : Addr} {i : Nat} (e : SrcIt k h it a i) : ∃ o, h.get? it = some o ∧ ∀ v, o.data ≠ .cell v := by
  cases k with
  | true => obtain ⟨o, e1, _, d⟩ := e; exact ⟨o, e1, fun v q => by rw [d] at q; cases q⟩
  | false => obtain ⟨o, e1, _, d⟩ := e; exact ⟨o, e1, fun v q => by rw [d] at q; cases q⟩
theorem SrcAt.lt {k : Bool} {h : Heap} {a : Addr} {its : Array Value} (e : SrcAt k h a its) : a < h.objs.size := by
  cases k with
  | true => obtain ⟨o, e1, _⟩ := e; exact Heap.lt_size e1
  | false => obtain ⟨o, e1, _⟩ := e; exact Heap.lt_size e1

/-- an iterator that makes tuples, as a Turn -/
theorem turn_of {P : Program} {w : World} {K : PySem.W.Frag} {elts : List Expr} {kk : Nat} {tpos : Pos} {J : It} {fp : List Addr} {it : Addr} {tn : Nat → Heap → Prop} (mem : it ∈ fp)
    (obj : ∀ i h, tn i h → ∀ b ∈ fp, ∃ o, h.get? b = some o ∧ ∀ v, o.data ≠ .cell v)
    (keep : ∀ i h h', tn i h → (∀ b ∈ fp, ∀ o, h.get? b = some o → h'.get? b = some o) → tn i h')
    (go : ∀ (X : Cx), X.prog = P → X.w = w → X.K = K → X.calm = true → ∀ (i : Nat) (pins : List (Addr × Obj)) (s : Shared) (σ : L2.St) (H : Hp), Inv X pins σ H s → (∀ b ∈ fp, FpOk X pins H b) → tn i s.heap → J.go i H →
      ∃ fpW wr n Pt St Mid, WalksT P w X.A it fpW wr n Pt St Mid ∧ (∀ b ∈ wr, b ∈ fp) ∧ i < n ∧ St i s.heap ∧ (∀ h, St (i + 1) h → tn (i + 1) h) ∧
        ∀ vals, Pt i vals → ∃ xs, Vals xs vals.toList ∧ xs.length ≤ sizeLine ∧ ∀ T, H T = none → J.yld i H (.ref T) (upd H T (.tup xs)))
    (stop : ∀ (X : Cx), X.prog = P → X.w = w → X.K = K → X.calm = true → ∀ (i : Nat) (pins : List (Addr × Obj)) (s : Shared) (σ : L2.St) (H : Hp), Inv X pins σ H s → (∀ b ∈ fp, FpOk X pins H b) → tn i s.heap → J.stop i H →
      ∃ fpW wr Pt St Mid, WalksT P w X.A it fpW wr i Pt St Mid ∧ (∀ b ∈ wr, b ∈ fp) ∧ St i s.heap)
    (self : ∀ (A : Around) (i : Nat) (s : Shared) (Q : Value → Shared → Prop) (E : Value → Shared → Prop), tn i s.heap → Q (.ref it) s → wpAny (model P w) A (pyIter (.ref it)) Q E s) :
    Turn P w K (.Tuple elts kk tpos) J fp it tn where
  mem := mem
  obj := obj
  keep := keep
  self := self
  item := by
    intro X hP hw hK hc i pins s σ H E I hf st hg
    obtain ⟨fpW, wr, n, Pt, St, Mid, W, sub, hi, hst, hnx, hy⟩ := go X hP hw hK hc i pins s σ H I hf st hg
    subst hP hw hK
    refine W.item i s _ E hi hst fun T vals h' tk hv hle hT hm hk => ?_
    obtain ⟨xs, rv, hz, yl⟩ := hy vals hv
    refine ⟨_, rfl, W.go elts kk tpos i T _ _ E hm fun h'' hst' hk' => ?_⟩
    have hT2 : h''.IsTuple T vals := hT.at fun o e => hk' T o (W.apart i T h' hm) e
    have kept : ∀ b o, b ∉ fp → s.heap.get? b = some o → h''.get? b = some o := fun b o hb e => hk' b o (fun z => hb (sub b z)) (hk b o (fun z => hb (sub b z)) e)
    have hn := I.hok.fresh hle
    have new : ObjOk X.prog X.w (upd H T (.tup xs)) h'' T (.tup xs) := ⟨hz, vals.toList, rv, (by rw [Array.toArray_toList]; exact hT2 : IsTup h'' T vals.toList.toArray)⟩
    refine ⟨.ref T, upd H T (.tup xs), I.turnedNew (t' := tk) kept hf hle new, rfl, yl T hn, hnx _ hst', fun b hb => ?_⟩
    obtain ⟨o, e, _⟩ := obj i s.heap st b hb
    rw [upd_ne (Nat.ne_of_lt (Nat.lt_of_lt_of_le (Heap.lt_size e) hle))]
    exact (hf b hb).1
  done := by
    intro X hP hw hK hc i pins s σ H E I hf st hg
    obtain ⟨fpW, wr, Pt, St, Mid, W, sub, hst⟩ := stop X hP hw hK hc i pins s σ H I hf st hg
    subst hP hw hK
    exact W.done s _ E hst fun h' tk hk => ⟨rfl, I.turnedL (t' := tk) (fun b o hb e => hk b o (fun z => hb (sub b z)) e) hf⟩

/-! ### enumerate -/
def ItE (K : PySem.W.Frag) (k : Bool) (a : Addr) : It :=
  ⟨fun i H => ∃ xs x, SqK K k H a xs ∧ xs[i]? = some x,
    fun i H v H' => ∃ T x, v = .ref T ∧ H T = none ∧ H' = upd H T (.tup [.int (i : Nat), x]) ∧ ∀ xs, SqK K k H a xs → xs[i]? = some x,
    fun i H => ∃ xs, SqK K k H a xs ∧ xs.length = i⟩
theorem turn_enumK {P : Program} {w : World} {K : PySem.W.Frag} {elts : List Expr} {kk : Nat} {tpos : Pos} {k : Bool} {a e it : Addr} (n1 : e ≠ it) (n2 : a ≠ it) (n3 : e ≠ a) :
    Turn P w K (.Tuple elts kk tpos) (ItE K k a) [e, it] e (fun i h => (∃ old, IsEnum h e it ((i : Nat) : Int) old) ∧ SrcIt k h it a i) := by
  have draws : ∀ (A : Around), A.handled = none → ∀ its : Array Value, WalksT P w A e (e :: [it, a]) [e, it] its.size
      (fun i vals => ∃ t x, its[i]? = some x ∧ vals = #[.int (0 + (i : Int)) t, x]) (fun i h => (∃ old, IsEnum h e it (0 + (i : Int)) old) ∧ (SrcIt k h it a i ∧ SrcAt k h a its))
      (fun i T h => (∃ x, IsEnumOut h e it (0 + (i : Int) + 1) x T) ∧ (SrcIt k h it a (i + 1) ∧ SrcAt k h a its) ∧ T ≠ e ∧ T ≠ it) := fun A hh its =>
    WalksT.enumFrom 0 (src_draws (A := A.in1) hh k it a n2 its) e n1 (by simp [n1, n3]) (by simp)
  refine turn_of (by simp) (fun i h st b hb => ?_) (fun i h h' st kp => ?_) ?_ ?_ ?_
  · obtain ⟨⟨old, he⟩, hit⟩ := st
    have hb' : b = e ∨ b = it := by simpa using hb
    rcases hb' with z | z
    · rw [z]; exact ⟨_, he, fun v q => nomatch q⟩
    · rw [z]; exact hit.obj
  · obtain ⟨⟨old, he⟩, hit⟩ := st
    exact ⟨⟨old, kp e (by simp) _ he⟩, hit.to fun o q => kp it (by simp) o q⟩
  · intro X hP hw hK hc i pins s σ H I hf st hg
    obtain ⟨xs, x, hq, hx⟩ := hg
    subst hK
    obtain ⟨its, rv, at_⟩ := src_at I hq
    obtain ⟨u, hu, ru⟩ := rv.get hx
    obtain ⟨⟨old, he⟩, hit⟩ := st
    have e0 : ∀ j : Nat, (0 + (j : Int)) = (j : Int) := fun j => Int.zero_add _
    refine ⟨_, _, _, _, _, _, draws X.A (I.ok.hd hc) its.toArray, fun b hb => hb, ?_, ⟨⟨old, by rw [e0]; exact he⟩, hit, at_⟩, fun h ⟨⟨old', he'⟩, hit', _⟩ => ⟨⟨old', by rw [e0] at he'; exact he'⟩, hit'⟩, fun vals hv => ?_⟩
    · have := (List.getElem?_eq_some_iff.mp hu).1
      simpa using this
    · obtain ⟨t, x', hx', rfl⟩ := hv
      have : x' = u := by
        rw [List.getElem?_toArray, hu] at hx'
        exact (Option.some.inj hx').symm
      subst this
      refine ⟨[.int (i : Nat), x], .cons ⟨t, by rw [e0]⟩ (.cons ru .nil), by show 2 ≤ sizeLine; decide, fun T hT => ⟨T, x, rfl, hT, rfl, fun ys hy => by rw [src_inj I hy hq]; exact hx⟩⟩
  · intro X hP hw hK hc i pins s σ H I hf st hg
    obtain ⟨xs, hq, hl⟩ := hg
    subst hK
    obtain ⟨its, rv, at_⟩ := src_at I hq
    obtain ⟨⟨old, he⟩, hit⟩ := st
    have e1 : its.toArray.size = i := by rw [List.size_toArray, ← rv.length, hl]
    have W := draws X.A (I.ok.hd hc) its.toArray
    rw [e1] at W
    exact ⟨_, _, _, _, _, W, fun b hb => hb, ⟨⟨old, by rw [Int.zero_add]; exact he⟩, hit, at_⟩⟩
  · intro A i s Q E st h
    obtain ⟨⟨old, he⟩, _⟩ := st
    exact wpAny_pyIter_enum he h
theorem meets_enum1 {v : Value} {o : Obj} {H : Heap → Prop} (B : Begins v o H) :
    Meets (Builtin.«enumerate.__new__» ⟨[.type "enumerate", v], []⟩) (fun _ R s => H s.heap ∧
      R (.ok (.ret (.ref (s.heap.push o).objs.size))) { s with heap := (s.heap.push o).push { cls := .type "enumerate", data := .fields #[.none, .bool false, .ref s.heap.objs.size, rawInt 0, .none, .none] } }) :=
  .of_wp fun prog w A R s h => by
    obtain ⟨hp, g, d, tk, os⟩ := s
    obtain ⟨h1, h⟩ := h
    have hsub := sub_enumerate
    have beg : ∀ {A' : Around} {E : Value → Shared → Prop} {Q : Value → Shared → Prop}, Q (.ref hp.objs.size) ⟨hp.push o, g, d, tk, os⟩ → wpAny (model prog w) A' (pyIter v) Q E ⟨hp, g, d, tk, os⟩ :=
      fun q => B.iter prog w _ _ ⟨hp, g, d, tk, os⟩ _ h1 q
    wp_walk using beg
    refine wpAny_stack_any fun st => wpAny_pure ?_
    split
    · rename_i c _ _ _ _ _
      cases (c == Value.type "enumerate") <;> (wp_walk using beg; exact ⟨_, rfl, h⟩)
    · wp_walk using beg
      exact ⟨_, rfl, h⟩
section
variable {prog : Program} {w : World} {A : Around} {E : Value → Shared → Prop} {s : Shared}
theorem enum_new {v : Value} {o : Obj} {H : Heap → Prop} {Q : Value → Shared → Prop} (B : Begins v o H) (h1 : H s.heap)
    (h : ∀ h', IsEnum h' (s.heap.objs.size + 1) s.heap.objs.size 0 .none → h'.get? s.heap.objs.size = some o →
      (∀ b o, s.heap.get? b = some o → h'.get? b = some o) → Q (.ref (s.heap.objs.size + 1)) { s with heap := h' }) :
    wpAny (model prog w) A (call (.type "enumerate") [v]) Q E s := by
  have sz : (s.heap.push o).objs.size = s.heap.objs.size + 1 := Heap.size_push ..
  have there := Heap.get?_push_size (s.heap.push o) (o := { cls := .type "enumerate", data := .fields #[.none, .bool false, .ref s.heap.objs.size, rawInt 0, .none, .none] }) rfl
  refine callType_new F.called_enumerate (by decide) (F.typeCall_enumerate_1 _) (F.newCall_enumerate_1 _) (fun obj => F.args_object_init_2 obj _) F.entry_enumerate_new (meets_enum1 B) ⟨h1, ?_⟩
  show _ ∧ _
  rw [sz] at there ⊢
  exact ⟨⟨_, there, rfl⟩, h _ there (Heap.get?_push_of_some _ (Heap.get?_push_size _ B.free)) fun b o x => Heap.get?_push_of_some _ (Heap.get?_push_of_some _ x)⟩
end
/-- enumerate(x), x a list or a tuple -/
def iEnumK (K : PySem.W.Frag) (te : TE) : TI := fun σ H R => te σ H fun v H1 => ∃ (k : Bool) (a : Addr) (xs : List V), v = .ref a ∧ SqK K k H1 a xs ∧ R (ItE K k a) H1
theorem fp_new {X : Cx} {pins : List (Addr × Obj)} {σ : L2.St} {H : Hp} {s : Shared} (I : Inv X pins σ H s) {fp : List Addr} (h : ∀ b ∈ fp, s.heap.objs.size ≤ b) : ∀ b ∈ fp, FpOk X pins H b := fun b hb => I.fpOk (h b hb) (I.hok.fresh (h b hb))
theorem pi_enumK {X : Cx} {e : Expr} {te : TE} {p pos tpos : Pos} {elts : List Expr} {kk : Nat} (hg : Gl X "enumerate") (hm : X.mg "enumerate" = none) (he : PE X e te) (hs : starEach [e] X.env = (false, eval e X.env) :: starEach [] X.env := by rfl) :
    PI X (.Tuple elts kk tpos) (.Call (.Name "enumerate" p) [e] [] pos) (iEnumK X.K te) := by
  refine ⟨fun pins s σ H R I h => ?_⟩
  refine Call_ (ld_blt I hg hm boot_enumerate (PyProof.Rows.callWith_type1 (args_cons (thn (he.run pins s σ H _ I h) fun u s1 ⟨v, H1, I1, r1, q1⟩ => args_nil ?_) hs) hs rfl))
  obtain ⟨k, a, xs, rfl, hq, q⟩ := q1
  obtain rfl : u = Value.ref a := r1
  obtain ⟨its, rv, at_⟩ := src_at I1 hq
  refine enum_new (src_begins k a its.toArray) at_ fun h' he hit hk => wpAny_pyIter_enum he ?_
  have I2 : Inv X pins σ H1 { s1 with heap := h' } := I1.kept (t' := s1.toks) hk
  have lt : a < s1.heap.objs.size := at_.lt
  refine ⟨s1.heap.objs.size + 1, [s1.heap.objs.size + 1, s1.heap.objs.size], _, _, H1, rfl, I2, turn_enumK (k := k) (a := a) (Nat.succ_ne_self _) (Nat.ne_of_lt lt) (Nat.ne_of_gt (Nat.lt_succ_of_lt lt)), ⟨⟨.none, he⟩, src_it hit⟩, fp_new I1 fun b hb => ?_, q⟩
  have e' : b = s1.heap.objs.size + 1 ∨ b = s1.heap.objs.size := by simpa using hb
  rcases e' with z | z
  · rw [z]; exact Nat.le_add_right _ _
  · rw [z]; exact Nat.le_refl _

theorem below {N a : Nat} (h : a < N) : ∀ b ∈ [a], b < N := fun b hb => by
  have : b = a := by simpa using hb
  omega
theorem near {N a : Nat} (j : Nat) (h : a < N) : a ≠ N + j := by omega
theorem vals2p {x y : V} {us : List Value} (h : Vals [x, y] us) : ∃ u1 u2, us = [u1, u2] ∧ RelV x u1 ∧ RelV y u2 := by
  cases h with
  | cons r t => cases t with
    | cons r' t => cases t; exact ⟨_, _, rfl, r, r'⟩
theorem vals3p {x y z : V} {us : List Value} (h : Vals [x, y, z] us) : ∃ u1 u2 u3, us = [u1, u2, u3] ∧ RelV x u1 ∧ RelV y u2 ∧ RelV z u3 := by
  cases h with
  | cons r t =>
    obtain ⟨u2, u3, rfl, r2, r3⟩ := vals2p t
    exact ⟨_, u2, u3, rfl, r, r2, r3⟩

/-! ### zip of 2 -/
def ItZ2 (K : PySem.W.Frag) (k1 k2 : Bool) (a1 a2 : Addr) : It :=
  ⟨fun i H => ∃ (xs1 xs2 : List V) (x1 x2 : V), SqK K k1 H a1 xs1 ∧ SqK K k2 H a2 xs2 ∧ xs1[i]? = some x1 ∧ xs2[i]? = some x2,
    fun i H v H' => ∃ T x1 x2, v = .ref T ∧ H T = none ∧ H' = upd H T (.tup [x1, x2]) ∧ (∀ xs1, SqK K k1 H a1 xs1 → xs1[i]? = some x1) ∧ (∀ xs2, SqK K k2 H a2 xs2 → xs2[i]? = some x2),
    fun i H => ∃ (xs1 xs2 : List V), SqK K k1 H a1 xs1 ∧ SqK K k2 H a2 xs2 ∧ i = min xs1.length xs2.length⟩
theorem turn_zipK2 {P : Program} {w : World} {K : PySem.W.Frag} {elts : List Expr} {kk : Nat} {tpos : Pos} {k1 k2 : Bool} {a1 a2 z TI TO i1 i2 : Addr} (S : ZipSep2 z TI TO i1 i2 [i1, a1] [i2, a2]) (n1 : a1 ≠ i1) (n2 : a2 ≠ i2) :
    Turn P w K (.Tuple elts kk tpos) (ItZ2 K k1 k2 a1 a2) [z, TI, TO, i1, i2] z (fun i h => IsZip h z TI TO .none ∧ IsTupOf2 h TI (.ref i1) (.ref i2) ∧ (∃ o1 o2, IsTupOf2 h TO o1 o2) ∧ SrcIt k1 h i1 a1 i ∧ SrcIt k2 h i2 a2 i) := by
  have draws : ∀ (A : Around), A.handled = none → ∀ its1 its2 : Array Value, WalksT P w A z (z :: TI :: TO :: ([i1, a1] ++ [i2, a2])) [z, TO, i1, i2] (min its1.size its2.size)
      (fun i vals => ∃ x1 x2, its1[i]? = some x1 ∧ its2[i]? = some x2 ∧ vals = #[x1, x2]) (fun i h => IsZip h z TI TO .none ∧ IsTupOf2 h TI (.ref i1) (.ref i2) ∧ (∃ o1 o2, IsTupOf2 h TO o1 o2) ∧ (SrcIt k1 h i1 a1 i ∧ SrcAt k1 h a1 its1) ∧ (SrcIt k2 h i2 a2 i ∧ SrcAt k2 h a2 its2)) (fun i T h => IsZip h z TI TO (rawInt T) ∧ IsTupOf2 h TI (.ref i1) (.ref i2) ∧ (∃ o1 o2, IsTupOf2 h TO o1 o2) ∧ (SrcIt k1 h i1 a1 (i + 1) ∧ SrcAt k1 h a1 its1) ∧ (SrcIt k2 h i2 a2 (i + 1) ∧ SrcAt k2 h a2 its2) ∧ T ≠ z ∧ T ≠ TO ∧ T ≠ i1 ∧ T ≠ i2) := fun A hh its1 its2 =>
    WalksT.zipD2 S (src_draws (A := A.in1) hh k1 i1 a1 n1 its1) (src_draws (A := A.in1) hh k2 i2 a2 n2 its2)
  have inn : ∀ b ∈ [z, TO, i1, i2], b ∈ [z, TI, TO, i1, i2] := fun b hb => by
    simp only [List.mem_cons, List.not_mem_nil, or_false] at hb ⊢
    rcases hb with q | q | q | q <;> simp [q]
  refine turn_of (by simp) (fun i h st b hb => ?_) (fun i h h' st kp => ?_) ?_ ?_ ?_
  · obtain ⟨hz, hTI, ⟨o1, o2, hTO⟩, hit1, hit2⟩ := st
    have hb' : b = z ∨ b = TI ∨ b = TO ∨ b = i1 ∨ b = i2 := by simpa using hb
    rcases hb' with q | q | q | q | q
    · rw [q]; exact ⟨_, hz, fun v q => nomatch q⟩
    · rw [q]; exact ⟨_, hTI, fun v q => nomatch q⟩
    · rw [q]; exact ⟨_, hTO, fun v q => nomatch q⟩
    · rw [q]; exact hit1.obj
    · rw [q]; exact hit2.obj
  · obtain ⟨hz, hTI, ⟨o1, o2, hTO⟩, hit1, hit2⟩ := st
    exact ⟨kp z (by simp) _ hz, kp TI (by simp) _ hTI, ⟨o1, o2, kp TO (by simp) _ hTO⟩, hit1.to fun o q => kp i1 (by simp) o q, hit2.to fun o q => kp i2 (by simp) o q⟩
  · intro X hP hw hK hc i pins s σ H I hf st hg
    obtain ⟨xs1, xs2, x1, x2, hq1, hq2, hx1, hx2⟩ := hg
    subst hK
    obtain ⟨its1, rv1, at1⟩ := src_at I hq1
    obtain ⟨u1, hu1, ru1⟩ := rv1.get hx1
    have l1 := (List.getElem?_eq_some_iff.mp hu1).1
    obtain ⟨its2, rv2, at2⟩ := src_at I hq2
    obtain ⟨u2, hu2, ru2⟩ := rv2.get hx2
    have l2 := (List.getElem?_eq_some_iff.mp hu2).1
    obtain ⟨hz, hTI, hTO, hit1, hit2⟩ := st
    refine ⟨_, _, _, _, _, _, draws X.A (I.ok.hd hc) its1.toArray its2.toArray, inn, by simp only [List.size_toArray]; omega, ⟨hz, hTI, hTO, ⟨hit1, at1⟩, ⟨hit2, at2⟩⟩,
      fun h ⟨hz', hTI', hTO', ⟨hit1, _⟩, ⟨hit2, _⟩⟩ => ⟨hz', hTI', hTO', hit1, hit2⟩, fun vals hv => ?_⟩
    obtain ⟨y1, y2, hy1, hy2, rfl⟩ := hv
    obtain rfl : y1 = u1 := by
      rw [List.getElem?_toArray, hu1] at hy1
      exact (Option.some.inj hy1).symm
    obtain rfl : y2 = u2 := by
      rw [List.getElem?_toArray, hu2] at hy2
      exact (Option.some.inj hy2).symm
    exact ⟨[x1, x2], (.cons ru1 (.cons ru2 .nil)), by show 2 ≤ sizeLine; decide, fun T hT => ⟨T, x1, x2, rfl, hT, rfl, fun ys hy => by rw [src_inj I hy hq1]; exact hx1, fun ys hy => by rw [src_inj I hy hq2]; exact hx2⟩⟩
  · intro X hP hw hK hc i pins s σ H I hf st hg
    obtain ⟨xs1, xs2, hq1, hq2, hl⟩ := hg
    subst hK
    obtain ⟨its1, rv1, at1⟩ := src_at I hq1
    obtain ⟨its2, rv2, at2⟩ := src_at I hq2
    obtain ⟨hz, hTI, hTO, hit1, hit2⟩ := st
    have e1 : min its1.toArray.size its2.toArray.size = i := by rw [hl]; simp only [List.size_toArray, ← rv1.length, ← rv2.length]
    have W := draws X.A (I.ok.hd hc) its1.toArray its2.toArray
    rw [e1] at W
    exact ⟨_, _, _, _, _, W, inn, ⟨hz, hTI, hTO, ⟨hit1, at1⟩, ⟨hit2, at2⟩⟩⟩
  · intro A i s Q E st h
    exact wpAny_pyIter_zip st.1 h
/-- zip of 2, each a list or a tuple -/
def iZip2 (K : PySem.W.Frag) (ta : TA) : TI := fun σ H R => ta σ H fun vs H1 => ∃ (k1 k2 : Bool) (a1 a2 : Addr) (xs1 xs2 : List V), vs = [.ref a1, .ref a2] ∧ SqK K k1 H1 a1 xs1 ∧ SqK K k2 H1 a2 xs2 ∧ R (ItZ2 K k1 k2 a1 a2) H1
theorem pi_zipK2 {X : Cx} {e1 e2 : Expr} {ta : TA} {p pos tpos : Pos} {elts : List Expr} {kk : Nat} (hg : Gl X "zip") (hm : X.mg "zip" = none) (ha : PA X [e1, e2] ta)
    (hs : starEach [e1, e2] X.env = (false, eval e1 X.env) :: starEach [e2] X.env := by rfl) (hpl : (backTo pos (starEach [e2] X.env)).any (·.1) = false := by rfl) :
    PI X (.Tuple elts kk tpos) (.Call (.Name "zip" p) [e1, e2] [] pos) (iZip2 X.K ta) := by
  refine ⟨fun pins s σ H R I h => ?_⟩
  refine Call_ (ld_blt I hg hm boot_zip (PyProof.Rows.callWith_type1 (thn (ha.run pos pins s σ H _ I h) fun us s1 ⟨vs, H1, I1, r1, q1⟩ => ?_) hs hpl))
  obtain ⟨k1, k2, a1, a2, xs1, xs2, rfl, hq1, hq2, q⟩ := q1
  obtain ⟨b1, b2, rfl, c1, c2⟩ := vals2p r1
  obtain rfl : b1 = Value.ref a1 := c1
  obtain ⟨its1, rv1, at1⟩ := src_at I1 hq1
  have lt1 : a1 < s1.heap.objs.size := at1.lt
  obtain rfl : b2 = Value.ref a2 := c2
  obtain ⟨its2, rv2, at2⟩ := src_at I1 hq2
  have lt2 : a2 < s1.heap.objs.size := at2.lt
  refine zip_begins2 (src_begins k1 a1 its1.toArray) (src_begins k2 a2 its2.toArray) at1 at2 fun h' hz hTI hTO g1 g2 hsz hk => wpAny_pyIter_zip hz ?_
  have I2 : Inv X pins σ H1 { s1 with heap := h' } := I1.kept (t' := s1.toks) hk
  refine ⟨s1.heap.objs.size + 4, [s1.heap.objs.size + 4, s1.heap.objs.size + 2, s1.heap.objs.size + 3, s1.heap.objs.size, s1.heap.objs.size + 1], _, _, H1, rfl, I2, turn_zipK2 (zip_sep2 (below lt1) (below lt2)) (near 0 lt1) (near 1 lt2), ⟨hz, hTI, ⟨_, _, hTO⟩, src_it g1, src_it g2⟩, fp_new I1 fun b hb => ?_, q⟩
  have e' : b = s1.heap.objs.size + 4 ∨ b = s1.heap.objs.size + 2 ∨ b = s1.heap.objs.size + 3 ∨ b = s1.heap.objs.size ∨ b = s1.heap.objs.size + 1 := by simpa using hb
  rcases e' with q | q | q | q | q <;> rw [q] <;> first | exact Nat.le_refl _ | exact Nat.le_add_right _ _

/-! ### zip of 3 -/
def ItZ3 (K : PySem.W.Frag) (k1 k2 k3 : Bool) (a1 a2 a3 : Addr) : It :=
  ⟨fun i H => ∃ (xs1 xs2 xs3 : List V) (x1 x2 x3 : V), SqK K k1 H a1 xs1 ∧ SqK K k2 H a2 xs2 ∧ SqK K k3 H a3 xs3 ∧ xs1[i]? = some x1 ∧ xs2[i]? = some x2 ∧ xs3[i]? = some x3,
    fun i H v H' => ∃ T x1 x2 x3, v = .ref T ∧ H T = none ∧ H' = upd H T (.tup [x1, x2, x3]) ∧ (∀ xs1, SqK K k1 H a1 xs1 → xs1[i]? = some x1) ∧ (∀ xs2, SqK K k2 H a2 xs2 → xs2[i]? = some x2) ∧ (∀ xs3, SqK K k3 H a3 xs3 → xs3[i]? = some x3),
    fun i H => ∃ (xs1 xs2 xs3 : List V), SqK K k1 H a1 xs1 ∧ SqK K k2 H a2 xs2 ∧ SqK K k3 H a3 xs3 ∧ i = min (min xs1.length xs2.length) xs3.length⟩
theorem turn_zipK3 {P : Program} {w : World} {K : PySem.W.Frag} {elts : List Expr} {kk : Nat} {tpos : Pos} {k1 k2 k3 : Bool} {a1 a2 a3 z TI TO i1 i2 i3 : Addr} (S : ZipSep3 z TI TO i1 i2 i3 [i1, a1] [i2, a2] [i3, a3]) (n1 : a1 ≠ i1) (n2 : a2 ≠ i2) (n3 : a3 ≠ i3) :
    Turn P w K (.Tuple elts kk tpos) (ItZ3 K k1 k2 k3 a1 a2 a3) [z, TI, TO, i1, i2, i3] z (fun i h => IsZip h z TI TO .none ∧ IsTupOf3 h TI (.ref i1) (.ref i2) (.ref i3) ∧ (∃ o1 o2 o3, IsTupOf3 h TO o1 o2 o3) ∧ SrcIt k1 h i1 a1 i ∧ SrcIt k2 h i2 a2 i ∧ SrcIt k3 h i3 a3 i) := by
  have draws : ∀ (A : Around), A.handled = none → ∀ its1 its2 its3 : Array Value, WalksT P w A z (z :: TI :: TO :: ([i1, a1] ++ [i2, a2] ++ [i3, a3])) [z, TO, i1, i2, i3] (min (min its1.size its2.size) its3.size)
      (fun i vals => ∃ x1 x2 x3, its1[i]? = some x1 ∧ its2[i]? = some x2 ∧ its3[i]? = some x3 ∧ vals = #[x1, x2, x3]) (fun i h => IsZip h z TI TO .none ∧ IsTupOf3 h TI (.ref i1) (.ref i2) (.ref i3) ∧ (∃ o1 o2 o3, IsTupOf3 h TO o1 o2 o3) ∧ (SrcIt k1 h i1 a1 i ∧ SrcAt k1 h a1 its1) ∧ (SrcIt k2 h i2 a2 i ∧ SrcAt k2 h a2 its2) ∧ (SrcIt k3 h i3 a3 i ∧ SrcAt k3 h a3 its3)) (fun i T h => IsZip h z TI TO (rawInt T) ∧ IsTupOf3 h TI (.ref i1) (.ref i2) (.ref i3) ∧ (∃ o1 o2 o3, IsTupOf3 h TO o1 o2 o3) ∧ (SrcIt k1 h i1 a1 (i + 1) ∧ SrcAt k1 h a1 its1) ∧ (SrcIt k2 h i2 a2 (i + 1) ∧ SrcAt k2 h a2 its2) ∧ (SrcIt k3 h i3 a3 (i + 1) ∧ SrcAt k3 h a3 its3) ∧ T ≠ z ∧ T ≠ TO ∧ T ≠ i1 ∧ T ≠ i2 ∧ T ≠ i3) := fun A hh its1 its2 its3 =>
    WalksT.zipD3 S (src_draws (A := A.in1) hh k1 i1 a1 n1 its1) (src_draws (A := A.in1) hh k2 i2 a2 n2 its2) (src_draws (A := A.in1) hh k3 i3 a3 n3 its3)
  have inn : ∀ b ∈ [z, TO, i1, i2, i3], b ∈ [z, TI, TO, i1, i2, i3] := fun b hb => by
    simp only [List.mem_cons, List.not_mem_nil, or_false] at hb ⊢
    rcases hb with q | q | q | q | q <;> simp [q]
  refine turn_of (by simp) (fun i h st b hb => ?_) (fun i h h' st kp => ?_) ?_ ?_ ?_
  · obtain ⟨hz, hTI, ⟨o1, o2, o3, hTO⟩, hit1, hit2, hit3⟩ := st
    have hb' : b = z ∨ b = TI ∨ b = TO ∨ b = i1 ∨ b = i2 ∨ b = i3 := by simpa using hb
    rcases hb' with q | q | q | q | q | q
    · rw [q]; exact ⟨_, hz, fun v q => nomatch q⟩
    · rw [q]; exact ⟨_, hTI, fun v q => nomatch q⟩
    · rw [q]; exact ⟨_, hTO, fun v q => nomatch q⟩
    · rw [q]; exact hit1.obj
    · rw [q]; exact hit2.obj
    · rw [q]; exact hit3.obj
  · obtain ⟨hz, hTI, ⟨o1, o2, o3, hTO⟩, hit1, hit2, hit3⟩ := st
    exact ⟨kp z (by simp) _ hz, kp TI (by simp) _ hTI, ⟨o1, o2, o3, kp TO (by simp) _ hTO⟩, hit1.to fun o q => kp i1 (by simp) o q, hit2.to fun o q => kp i2 (by simp) o q, hit3.to fun o q => kp i3 (by simp) o q⟩
  · intro X hP hw hK hc i pins s σ H I hf st hg
    obtain ⟨xs1, xs2, xs3, x1, x2, x3, hq1, hq2, hq3, hx1, hx2, hx3⟩ := hg
    subst hK
    obtain ⟨its1, rv1, at1⟩ := src_at I hq1
    obtain ⟨u1, hu1, ru1⟩ := rv1.get hx1
    have l1 := (List.getElem?_eq_some_iff.mp hu1).1
    obtain ⟨its2, rv2, at2⟩ := src_at I hq2
    obtain ⟨u2, hu2, ru2⟩ := rv2.get hx2
    have l2 := (List.getElem?_eq_some_iff.mp hu2).1
    obtain ⟨its3, rv3, at3⟩ := src_at I hq3
    obtain ⟨u3, hu3, ru3⟩ := rv3.get hx3
    have l3 := (List.getElem?_eq_some_iff.mp hu3).1
    obtain ⟨hz, hTI, hTO, hit1, hit2, hit3⟩ := st
    refine ⟨_, _, _, _, _, _, draws X.A (I.ok.hd hc) its1.toArray its2.toArray its3.toArray, inn, by simp only [List.size_toArray]; omega, ⟨hz, hTI, hTO, ⟨hit1, at1⟩, ⟨hit2, at2⟩, ⟨hit3, at3⟩⟩,
      fun h ⟨hz', hTI', hTO', ⟨hit1, _⟩, ⟨hit2, _⟩, ⟨hit3, _⟩⟩ => ⟨hz', hTI', hTO', hit1, hit2, hit3⟩, fun vals hv => ?_⟩
    obtain ⟨y1, y2, y3, hy1, hy2, hy3, rfl⟩ := hv
    obtain rfl : y1 = u1 := by
      rw [List.getElem?_toArray, hu1] at hy1
      exact (Option.some.inj hy1).symm
    obtain rfl : y2 = u2 := by
      rw [List.getElem?_toArray, hu2] at hy2
      exact (Option.some.inj hy2).symm
    obtain rfl : y3 = u3 := by
      rw [List.getElem?_toArray, hu3] at hy3
      exact (Option.some.inj hy3).symm
    exact ⟨[x1, x2, x3], (.cons ru1 (.cons ru2 (.cons ru3 .nil))), by show 3 ≤ sizeLine; decide, fun T hT => ⟨T, x1, x2, x3, rfl, hT, rfl, fun ys hy => by rw [src_inj I hy hq1]; exact hx1, fun ys hy => by rw [src_inj I hy hq2]; exact hx2, fun ys hy => by rw [src_inj I hy hq3]; exact hx3⟩⟩
  · intro X hP hw hK hc i pins s σ H I hf st hg
    obtain ⟨xs1, xs2, xs3, hq1, hq2, hq3, hl⟩ := hg
    subst hK
    obtain ⟨its1, rv1, at1⟩ := src_at I hq1
    obtain ⟨its2, rv2, at2⟩ := src_at I hq2
    obtain ⟨its3, rv3, at3⟩ := src_at I hq3
    obtain ⟨hz, hTI, hTO, hit1, hit2, hit3⟩ := st
    have e1 : min (min its1.toArray.size its2.toArray.size) its3.toArray.size = i := by rw [hl]; simp only [List.size_toArray, ← rv1.length, ← rv2.length, ← rv3.length]
    have W := draws X.A (I.ok.hd hc) its1.toArray its2.toArray its3.toArray
    rw [e1] at W
    exact ⟨_, _, _, _, _, W, inn, ⟨hz, hTI, hTO, ⟨hit1, at1⟩, ⟨hit2, at2⟩, ⟨hit3, at3⟩⟩⟩
  · intro A i s Q E st h
    exact wpAny_pyIter_zip st.1 h
/-- zip of 3, each a list or a tuple -/
def iZip3 (K : PySem.W.Frag) (ta : TA) : TI := fun σ H R => ta σ H fun vs H1 => ∃ (k1 k2 k3 : Bool) (a1 a2 a3 : Addr) (xs1 xs2 xs3 : List V), vs = [.ref a1, .ref a2, .ref a3] ∧ SqK K k1 H1 a1 xs1 ∧ SqK K k2 H1 a2 xs2 ∧ SqK K k3 H1 a3 xs3 ∧ R (ItZ3 K k1 k2 k3 a1 a2 a3) H1
theorem pi_zipK3 {X : Cx} {e1 e2 e3 : Expr} {ta : TA} {p pos tpos : Pos} {elts : List Expr} {kk : Nat} (hg : Gl X "zip") (hm : X.mg "zip" = none) (ha : PA X [e1, e2, e3] ta)
    (hs : starEach [e1, e2, e3] X.env = (false, eval e1 X.env) :: starEach [e2, e3] X.env := by rfl) (hpl : (backTo pos (starEach [e2, e3] X.env)).any (·.1) = false := by rfl) :
    PI X (.Tuple elts kk tpos) (.Call (.Name "zip" p) [e1, e2, e3] [] pos) (iZip3 X.K ta) := by
  refine ⟨fun pins s σ H R I h => ?_⟩
  refine Call_ (ld_blt I hg hm boot_zip (PyProof.Rows.callWith_type1 (thn (ha.run pos pins s σ H _ I h) fun us s1 ⟨vs, H1, I1, r1, q1⟩ => ?_) hs hpl))
  obtain ⟨k1, k2, k3, a1, a2, a3, xs1, xs2, xs3, rfl, hq1, hq2, hq3, q⟩ := q1
  obtain ⟨b1, b2, b3, rfl, c1, c2, c3⟩ := vals3p r1
  obtain rfl : b1 = Value.ref a1 := c1
  obtain ⟨its1, rv1, at1⟩ := src_at I1 hq1
  have lt1 : a1 < s1.heap.objs.size := at1.lt
  obtain rfl : b2 = Value.ref a2 := c2
  obtain ⟨its2, rv2, at2⟩ := src_at I1 hq2
  have lt2 : a2 < s1.heap.objs.size := at2.lt
  obtain rfl : b3 = Value.ref a3 := c3
  obtain ⟨its3, rv3, at3⟩ := src_at I1 hq3
  have lt3 : a3 < s1.heap.objs.size := at3.lt
  refine zip_begins3 (src_begins k1 a1 its1.toArray) (src_begins k2 a2 its2.toArray) (src_begins k3 a3 its3.toArray) at1 at2 at3 fun h' hz hTI hTO g1 g2 g3 hsz hk => wpAny_pyIter_zip hz ?_
  have I2 : Inv X pins σ H1 { s1 with heap := h' } := I1.kept (t' := s1.toks) hk
  refine ⟨s1.heap.objs.size + 5, [s1.heap.objs.size + 5, s1.heap.objs.size + 3, s1.heap.objs.size + 4, s1.heap.objs.size, s1.heap.objs.size + 1, s1.heap.objs.size + 2], _, _, H1, rfl, I2, turn_zipK3 (zip_sep3 (below lt1) (below lt2) (below lt3)) (near 0 lt1) (near 1 lt2) (near 2 lt3), ⟨hz, hTI, ⟨_, _, _, hTO⟩, src_it g1, src_it g2, src_it g3⟩, fp_new I1 fun b hb => ?_, q⟩
  have e' : b = s1.heap.objs.size + 5 ∨ b = s1.heap.objs.size + 3 ∨ b = s1.heap.objs.size + 4 ∨ b = s1.heap.objs.size ∨ b = s1.heap.objs.size + 1 ∨ b = s1.heap.objs.size + 2 := by simpa using hb
  rcases e' with q | q | q | q | q | q <;> rw [q] <;> first | exact Nat.le_refl _ | exact Nat.le_add_right _ _

/-! ### a name is set to a dict comprehension -/
theorem ps_setDc {X : Cx} {i : Nat} {y : Str} {py : Pos} {kx vx tg iter : Expr} {ifs : List Expr} {scope : Scope} {own : List (Str × Nat)} {pos spos : Pos} {wi : TI} {g : TG} {tt : TT} {tk tv : TE} (hc : X.calm = true) (hN : X.N.Nodup) (hy : X.N[i]? = some y)
    (hyl : X.env.scope.names.lookup y = some .local) (hsw : swapsWith (.DictComp kx vx [⟨tg, iter, ifs, 0⟩] scope pos) (some (.Name y py)) spos.line X.env = pure true) (hi : PI X tg iter wi) (ok : BlkOk X.N X.env.scope scope own)
    (hg : ∀ (s : Shared) (H : Hp) (C : Addr) (cl : List (Str × Addr)) (fp : List Addr), PG (X.blk s H scope (compEnvC scope cl C X.env) fp) tg g)
    (ht : ∀ (s : Shared) (H : Hp) (C : Addr) (cl : List (Str × Addr)) (fp : List Addr), PTs (X.blk s H scope (compEnvC scope cl C X.env) fp) ifs tt)
    (hk : ∀ (s : Shared) (H : Hp) (C : Addr) (cl : List (Str × Addr)) (fp : List Addr), PE (X.blk s H scope (compEnvC scope cl C X.env) fp) kx tk)
    (he : ∀ (s : Shared) (H : Hp) (C : Addr) (cl : List (Str × Addr)) (fp : List Addr), PE (X.blk s H scope (compEnvC scope cl C X.env) fp) vx tv) (hs : ∀ x, foldedSetIterable iter X.env x = pure x) :
    PS X (.Assign [.Name y py] (.DictComp kx vx [⟨tg, iter, ifs, 0⟩] scope pos) spos) (tAsg (tDc wi g tt tk tv (own.map (·.2))) (gName i)) := by
  refine ⟨fun pins s σ H D I h => ?_⟩
  have h : tDc wi g tt tk tv (own.map (·.2)) σ H (fun x H1 => gName i x σ H1 D.nx) := h
  rw [exec_Assign_Name_used _ _ _ _ hsw]
  refine wpAny_bind (wpAny_standAt (wpAny_bind ?_))
  show wpAny _ X.A (do let _ ← comprehension (.DictComp kx vx [⟨tg, iter, ifs, 0⟩] scope pos) scope X.env (firstIterPos [⟨tg, iter, ifs, 0⟩] pos) newDict false (eval iter X.env) (some (assign (.Name y py) X.env))) _ _ s
  have run := dc_core (Qf := fun _ s' => SP X pins D .next s') (use := some (assign (.Name y py) X.env)) (pos' := firstIterPos [⟨tg, iter, ifs, 0⟩] pos) (pos := pos) hc hN I hi ok hg ht hk he hs h fun L C s' m H' I' q hn f => by
    show wpAny _ _ (assign (.Name y py) X.env (.ref L)) _ _ _
    refine wpAny_assign_Name (store_ok2 (v := V.ref L) I' hN hy (.inl hyl) rfl (fun s2 I2 ⟨a, sb, ha⟩ => ?_) (.inr hyl))
    obtain ⟨f0, f1, f2, f3, f4, f5⟩ := f
    have apart : C ≠ a := ha.elim (fun z => by rw [z]; exact f1) fun z e => f4 y a z e.symm
    exact ⟨m, hn.sameBut sb apart, fun h3 sb3 => ⟨_, H', I2.turned (t' := s2.toks) (fun b o hb e => (sb3.2 b hb).trans e) f0 f1 f3 f4 f5, q⟩⟩
  exact wpAny_bind (thn run fun _ s' hq => wpAny_pure (wpAny_pure hq))
theorem sw_dict {kx vx : Expr} {gs : List Comprehension} {scope : Scope} {pos py : Pos} {y : Str} {l : Nat} {env : Env} (hk : env.scope.kind = .function) (hy : env.scope.names.lookup y = some .local) (hl : (py.line == pos.line) = true)
    (ha : (scope.names.any fun (n, k) => n == y && (k == .local || k == .cell)) = false) : swapsWith (.DictComp kx vx gs scope pos) (some (.Name y py)) l env = pure true := by
  have e1 : env.blockKind = .function := by unfold Env.blockKind; rw [hk]; rfl
  have e2 : env.kindOf y = some .local := hy
  unfold swapsWith
  simp only [e1, e2, ha, Expr.pos, hl]
  rfl
end PZ

set_option Elab.async false
set_option linter.all false
set_option maxRecDepth 100000
set_option maxHeartbeats 1000000
/-! PV: places, slices, stores, builtins, methods. -/
namespace PV
open PySem PySem.Spec PyProof.Rows L2

section
variable {X : Cx} {G : Gb} {pins : List (Addr × Obj)} {s : Shared} {σ : L2.St} {H : Hp}
theorem atI_ok {b : List Addr} {ds : List D} {vs : List V} {k : Int} {d : D} (h : RVs G H b ds vs) (e : atI ds k = some d) : ∃ v, atI vs k = some v ∧ RV G H b d v := by
  unfold atI at e ⊢
  rw [h.length] at e
  cases q : ixN vs.length k with
  | none => rw [q] at e; cases e
  | some j =>
    rw [q] at e
    exact h.get e
theorem chr_len (c : Nat) : (⟨#[c]⟩ : Str).length ≤ sizeLine := by
  show 1 ≤ sizeLine
  rw [sizeLine_eq]; decide
theorem opt_d {b : List Addr} {S : Store} {o : Option D} {Q : VK} (w : Want G H b (opt o S) Q) : ∃ d, o = some d ∧ ∀ v H' b', Post G H b H' b' S → RV G H' b' d v → Q v H' := by
  cases o with
  | none => exact (want_bad w).elim
  | some d => exact ⟨d, rfl, want_ok.mp w⟩
theorem ix_D (hK : X.K = G.K) (hu : X.A.units + 1 < cLine) : IxR X (rOp G fun x y S => opt (ixD x y S) S) := by
  intro value slice pins s σ H x y v u Q I rx ry h hs
  obtain ⟨b, S, dx, dy, r, h1, h2, w⟩ := h
  obtain ⟨d, e, q⟩ := opt_d w
  have dict : ∀ {p : Addr} {ws : List (Key × V)} {kvs : List (Key × D)} {z : Key}, x = .ref p → y = kV z → Rd H p (.dK ws) → RKs G H b kvs ws → valG kvs z = some d →
      wpAny (model X.prog X.w) X.A (subscriptTail value slice v u) (EP X pins σ Q) X.xe s := by
    intro p ws kvs z ex ey hd kv hz
    subst ex ey
    obtain rfl : v = Value.ref p := rx
    rcases kv.val z with ⟨a, _⟩ | ⟨d', v', a, c, rv⟩
    · rw [hz] at a; cases a
    · rw [hz] at a
      cases a
      have g : DGet H p (kV z) (some v') := .inl ⟨ws, z, hd, rfl, c.symm⟩
      exact tail_any (dict_typeIs I g) PySem.F.slot_dict_getitem.lookup (d_getItem hu I g ry fun w' s' I' rw' => ⟨v', H, I', rw', q _ _ _ (Post.refl r) rv⟩) hs
  cases dx with
  | tup ds =>
    cases dy with
    | int k =>
      obtain rfl := rv_int.mp h2
      obtain ⟨a, vs, rfl, hd, kv⟩ := rv_tup.mp h1
      obtain ⟨v', e1, e2⟩ := atI_ok kv e
      exact ix_tup value slice pins s σ H _ _ v u Q I rx ry ⟨a, vs, k, v', rfl, rfl, by rw [hK]; exact hd, e1, q _ _ _ (Post.refl r) e2⟩ hs
    | _ => simp [ixD] at e
  | rol ds =>
    cases dy with
    | int k =>
      obtain rfl := rv_int.mp h2
      obtain ⟨a, vs, rfl, hd, kv⟩ := rv_rol.mp h1
      obtain ⟨v', e1, e2⟩ := atI_ok kv e
      exact ix_list value slice pins s σ H _ _ v u Q I rx ry ⟨a, vs, k, v', rfl, rfl, by rw [hK]; exact hd.sql, e1, q _ _ _ (Post.refl r) e2⟩ hs
    | _ => simp [ixD] at e
  | str z =>
    cases dy with
    | int k =>
      obtain rfl := rv_int.mp h2
      obtain ⟨rfl, l⟩ := rv_str.mp h1
      simp only [ixD] at e
      obtain ⟨c, e1, rfl⟩ := Option.map_eq_some_iff.mp e
      exact ix_str value slice pins s σ H _ _ v u Q I rx ry ⟨z, k, c, rfl, rfl, l, e1, q _ _ _ (Post.refl r) (rv_str.mpr ⟨rfl, chr_len c⟩)⟩ hs
    | _ => simp [ixD] at e
  | ref n =>
    cases dy with
    | int k =>
      have ey : y = kV (.inl k) := rv_int.mp h2
      simp only [ixD] at e
      split at e
      · rename_i ds z
        obtain ⟨a, vs, rfl, _, hd, kv⟩ := lst_at r h1 z
        obtain rfl := rv_int.mp h2
        obtain ⟨v', e1, e2⟩ := atI_ok kv e
        exact ix_list value slice pins s σ H _ _ v u Q I rx ry ⟨a, vs, k, v', rfl, rfl, SqL.of hd, e1, q _ _ _ (Post.refl r) e2⟩ hs
      · rename_i kvs z
        obtain ⟨a, ws, ex, _, hd, kv⟩ := dct_at r h1 z
        exact dict ex ey (.inl hd) kv e
      · rename_i kvs z
        obtain ⟨a, ob, ws, ex, _, hd, kv⟩ := dcl_at r h1 z
        exact dict ex ey (.inr ⟨ob, hd⟩) kv e
      · cases e
    | str k =>
      have ey : y = kV (.inr k) := (rv_str.mp h2).1
      simp only [ixD] at e
      split at e
      · rename_i kvs z
        obtain ⟨a, ws, ex, _, hd, kv⟩ := dct_at r h1 z
        exact dict ex ey (.inl hd) kv e
      · rename_i kvs z
        obtain ⟨a, ob, ws, ex, _, hd, kv⟩ := dcl_at r h1 z
        exact dict ex ey (.inr ⟨ob, hd⟩) kv e
      · cases e
    | _ => simp [ixD] at e
  | _ => simp [ixD] at e

/-- a[lo:hi] -/
def rSl (G : Gb) (f : D → Option Int → Option Int → Store → R D) : V → Option Int → Option Int → Hp → VK → Prop := fun x lo hi H Q => ∃ b S dx, Rel G H b S ∧ RV G H b dx x ∧ Want G H b (f dx lo hi S) Q
theorem cut_len {α : Type} (xs : List α) (lo hi : Option Int) : (cut xs lo hi).length ≤ xs.length := by
  unfold cut
  rw [List.length_take, List.length_drop]
  omega
theorem sl_D (hK : X.K = G.K) : SlR X (rSl G slD) := by
  intro pins s σ H x v vl vu lo hi sl Q I rx hs pl pu h
  obtain ⟨b, S, dx, r, h1, w⟩ := h
  cases dx with
  | tup ds =>
    obtain ⟨a, vs, rfl, hd, kv⟩ := rv_tup.mp h1
    refine sl_tupA pins s σ H _ v vl vu lo hi sl Q I rx hs pl pu ⟨a, vs, rfl, by rw [hK]; exact hd, fun c => ?_, fun _ p hp => ?_⟩
    · have e : cut ds lo hi = ds := by
        unfold cut
        rw [kv.length, c.1, c.2, ← kv.length]
        simp
      simp only [slD, e] at w
      exact want_here r w h1
    · simp only [slD] at w
      obtain ⟨p1, p2⟩ := r.newT hp (kv.cut lo hi)
      exact want_ok.mp w _ _ _ p1 p2
  | rol ds =>
    obtain ⟨a, vs, rfl, hd, kv⟩ := rv_rol.mp h1
    refine sl_list pins s σ H _ v vl vu lo hi sl Q I rx hs pl pu ⟨a, vs, rfl, by rw [hK]; exact hd.sql, fun p hp => ?_⟩
    simp only [slD, new] at w
    obtain ⟨p1, p2⟩ := r.newL hp (kv.cut lo hi)
    exact want_ok.mp w _ _ _ p1 p2
  | str z =>
    obtain ⟨rfl, l⟩ := rv_str.mp h1
    simp only [slD] at w
    exact sl_str pins s σ H _ v vl vu lo hi sl Q I rx hs pl pu ⟨z, rfl, l, want_here r w (rv_str.mpr ⟨rfl, Nat.le_trans (cutS_length z lo hi) l⟩)⟩
  | ref n =>
    simp only [slD] at w
    split at w
    · rename_i ds z
      obtain ⟨a, vs, rfl, _, hd, kv⟩ := lst_at r h1 z
      refine sl_list pins s σ H _ v vl vu lo hi sl Q I rx hs pl pu ⟨a, vs, rfl, SqL.of hd, fun p hp => ?_⟩
      simp only [new] at w
      obtain ⟨p1, p2⟩ := r.newL hp (kv.cut lo hi)
      exact want_ok.mp w _ _ _ p1 p2
    · exact (want_bad w).elim
  | _ => exact (want_bad w).elim

/-- a[i] = e -/
def rSet (G : Gb) : V → V → V → Hp → (Hp → Prop) → Prop := fun o i v H Q => ∃ b S do_ di dv S', Rel G H b S ∧ RV G H b do_ o ∧ RV G H b di i ∧ RV G H b dv v ∧ setIx do_ di dv S = .ok () S' ∧ ∀ H' b', Post G H b H' b' S' → Q H'
theorem set_D (hu : X.A.units + 1 < cLine) : PSet X (rSet G) := by
  intro pins s σ H o i v ov iv u Q I ro ri rv h
  obtain ⟨b, S, do_, di, dv, S', r, h1, h2, h3, e, q⟩ := h
  have dict : ∀ {p : Addr} {ws : List (Key × V)} {kvs : List (Key × D)} {z : Key} {n : Nat}, o = .ref p → i = kV z → b[n]? = some p → H p = some (.dK ws) → RKs G H b kvs ws → kvs.length < sizeLine → KOk kvs → (∀ x, z = .inr x → x.length ≤ sizeLine) → S' = S.set n (.dct (putG kvs z dv)) →
      wpAny (model X.prog X.w) X.A (setItem ov iv u) (fun _ s' => ∃ H', Inv X pins σ H' s' ∧ Q H') X.xe s := by
    intro p ws kvs z n eo ei bn hd kv hl ko kz es
    subst eo ei es
    obtain rfl : ov = Value.ref p := ro
    refine d_setItem hu I (DPut.k hd (by rw [← kv.length]; exact hl)) ri rv fun s' I' => ⟨_, I', q _ b ?_⟩
    have g : Grow H (upd H p (.dK (L2.putK ws z v))) := Grow.set hd rfl
    exact r.set bn hd (fun _ _ z => by cases z) ⟨_, upd_same, (kv.mono (Old.refl b) g).put z (RV.mono (Old.refl b) g _ _ h3), ko.put kz dv⟩
  cases do_ with
  | ref n =>
    cases di with
    | int k =>
      have ei : i = kV (.inl k) := rv_int.mp h2
      simp only [setIx] at e
      split at e
      · rename_i ds z
        split at e
        · rename_i j hj
          cases e
          obtain ⟨a, vs, rfl, bn, hd, kv⟩ := lst_at r h1 z
          obtain rfl := rv_int.mp h2
          refine set_list pins s σ H _ _ v ov iv u Q I ro ri rv ⟨a, vs, k, j, rfl, rfl, hd, by rw [← kv.length]; exact hj, q _ b ?_⟩
          exact r.setL bn hd (kv.set j h3)
        · cases e
      · rename_i kvs z
        split at e
        · rename_i c
          cases e
          obtain ⟨a, ws, eo, bn, hd, kv⟩ := dct_at r h1 z
          exact dict eo ei bn hd kv c (dct_ok r h1 z) (fun x q => by cases q) rfl
        · cases e
      · cases e
    | str k =>
      have ei : i = kV (.inr k) := (rv_str.mp h2).1
      simp only [setIx] at e
      split at e
      · rename_i kvs z
        split at e
        · rename_i c
          cases e
          obtain ⟨a, ws, eo, bn, hd, kv⟩ := dct_at r h1 z
          exact dict eo ei bn hd kv c (dct_ok r h1 z) (fun x q => by cases q; exact (rv_str.mp h2).2) rfl
        · cases e
      · cases e
    | _ => simp [setIx] at e
  | _ => simp [setIx] at e

/-! ### builtins -/
theorem asInts_ok {b : List Addr} : ∀ {ds : List D} {vs : List V} {ns : List Int}, RVs G H b ds vs → asInts ds = some ns → vs = ns.map V.int ∧ ds = ns.map D.int
  | [], _, _, h, e => by
    simp only [RVs] at h
    subst h
    simp only [asInts, Option.some.injEq] at e
    subst e
    exact ⟨rfl, rfl⟩
  | d :: ds, _, ns, h, e => by
    simp only [RVs] at h
    obtain ⟨v, rr, rfl, h1, h2⟩ := h
    cases d with
    | int i =>
      simp only [asInts] at e
      obtain ⟨ms, e1, rfl⟩ := Option.map_eq_some_iff.mp e
      obtain ⟨h3, h4⟩ := asInts_ok h2 e1
      rw [rv_int.mp h1, h3, h4]
      exact ⟨rfl, rfl⟩
    | _ => simp [asInts] at e
theorem asStrs_ok {b : List Addr} : ∀ {ds : List D} {vs : List V} {ns : List Str}, RVs G H b ds vs → asStrs ds = some ns → vs = ns.map V.str ∧ ds = ns.map D.str ∧ ∀ x ∈ ns, x.length ≤ sizeLine
  | [], _, _, h, e => by
    simp only [RVs] at h
    subst h
    simp only [asStrs, Option.some.injEq] at e
    subst e
    exact ⟨rfl, rfl, fun x hx => by cases hx⟩
  | d :: ds, _, ns, h, e => by
    simp only [RVs] at h
    obtain ⟨v, rr, rfl, h1, h2⟩ := h
    cases d with
    | str i =>
      simp only [asStrs] at e
      obtain ⟨ms, e1, rfl⟩ := Option.map_eq_some_iff.mp e
      obtain ⟨h3, h4, h5⟩ := asStrs_ok h2 e1
      obtain ⟨h6, h7⟩ := rv_str.mp h1
      rw [h6, h3, h4]
      exact ⟨rfl, rfl, fun x hx => (List.mem_cons.mp hx).elim (fun q => q ▸ h7) (h5 x)⟩
    | _ => simp [asStrs] at e
theorem asBls_ok {b : List Addr} : ∀ {ds : List D} {vs : List V} {ns : List Bool}, RVs G H b ds vs → asBls ds = some ns → vs = ns.map V.bl ∧ ds = ns.map D.bl
  | [], _, _, h, e => by
    simp only [RVs] at h
    subst h
    simp only [asBls, Option.some.injEq] at e
    subst e
    exact ⟨rfl, rfl⟩
  | d :: ds, _, ns, h, e => by
    simp only [RVs] at h
    obtain ⟨v, rr, rfl, h1, h2⟩ := h
    cases d with
    | bl i =>
      simp only [asBls] at e
      obtain ⟨ms, e1, rfl⟩ := Option.map_eq_some_iff.mp e
      obtain ⟨h3, h4⟩ := asBls_ok h2 e1
      rw [rv_bl.mp h1, h3, h4]
      exact ⟨rfl, rfl⟩
    | _ => simp [asBls] at e
theorem rvs_ints {b : List Addr} : ∀ ns : List Int, RVs G H b (ns.map D.int) (ns.map V.int)
  | [] => RVs.nil
  | n :: ns => RVs.cons (rv_int.mpr rfl) (rvs_ints ns)
theorem rvs_strs {b : List Addr} : ∀ ns : List Str, (∀ x ∈ ns, x.length ≤ sizeLine) → RVs G H b (ns.map D.str) (ns.map V.str)
  | [], _ => RVs.nil
  | n :: ns, h => RVs.cons (rv_str.mpr ⟨rfl, h n List.mem_cons_self⟩) (rvs_strs ns fun x hx => h x (List.mem_cons_of_mem _ hx))

theorem insI_perm {α : Type} (le : α → α → Bool) (x : α) : ∀ l, (insI le x l).Perm (x :: l)
  | [] => List.Perm.refl _
  | y :: r => by
    unfold insI
    split
    · exact List.Perm.refl _
    · exact ((insI_perm le x r).cons y).trans (List.Perm.swap x y r)
theorem isort_perm {α : Type} (le : α → α → Bool) : ∀ l : List α, (isort le l).Perm l
  | [] => List.Perm.refl _
  | x :: r => (insI_perm le x _).trans ((isort_perm le r).cons x)
theorem insI_sorted {α : Type} {le : α → α → Bool} (tr : ∀ a b c, le a b = true → le b c = true → le a c = true) (tot : ∀ a b, le a b = false → le b a = true) (x : α) : ∀ l, l.Pairwise (fun a b => le a b = true) → (insI le x l).Pairwise (fun a b => le a b = true)
  | [], _ => by unfold insI; simp
  | y :: r, h => by
    obtain ⟨h1, h2⟩ := List.pairwise_cons.mp h
    unfold insI
    split
    · rename_i c
      refine List.pairwise_cons.mpr ⟨fun z hz => ?_, h⟩
      rcases List.mem_cons.mp hz with rfl | hz
      · exact c
      · exact tr _ _ _ c (h1 z hz)
    · rename_i c
      refine List.pairwise_cons.mpr ⟨fun z hz => ?_, insI_sorted tr tot x r h2⟩
      rcases List.mem_cons.mp ((insI_perm le x r).mem_iff.mp hz) with rfl | hz
      · exact tot _ _ (by simpa using c)
      · exact h1 z hz
theorem isort_sorted {α : Type} {le : α → α → Bool} (tr : ∀ a b c, le a b = true → le b c = true → le a c = true) (tot : ∀ a b, le a b = false → le b a = true) : ∀ l, (isort le l).Pairwise (fun a b => le a b = true)
  | [] => List.Pairwise.nil
  | x :: r => insI_sorted tr tot x _ (isort_sorted tr tot r)
theorem leI_iff {a b : Int} : leI a b = true ↔ a ≤ b := by simp [leI]
theorem isortI_of {ns ms : List Int} (p : ms.Perm ns) (h : ms.Pairwise (· ≤ ·)) : ms = isort leI ns := by
  refine List.Perm.eq_of_pairwise (le := fun a b : Int => a ≤ b) (fun a b _ _ h1 h2 => Int.le_antisymm h1 h2) h ?_ (p.trans (isort_perm leI ns).symm)
  refine (isort_sorted (le := leI) (fun a b c h1 h2 => ?_) (fun a b h1 => ?_) ns).imp fun h => leI_iff.mp h
  · rw [leI_iff] at h1 h2 ⊢; omega
  · rw [leI_iff]
    have : ¬ a ≤ b := fun q => by rw [leI_iff.mpr q] at h1; cases h1
    omega
theorem leS_iff {a b : Str} : leS a b = true ↔ ¬ (b.cps.toList < a.cps.toList) := by simp [leS]
theorem lt_tri (a b : List Nat) (h1 : ¬ a < b) (h2 : ¬ b < a) : a = b := List.le_antisymm (List.not_lt.mp h2) (List.not_lt.mp h1)
theorem leS_trans (a b c : Str) (h1 : leS a b = true) (h2 : leS b c = true) : leS a c = true := by
  rw [leS_iff] at h1 h2 ⊢
  exact List.not_lt.mpr (List.le_trans (List.not_lt.mp h1) (List.not_lt.mp h2))
theorem leS_total (a b : Str) (h : leS a b = false) : leS b a = true := by
  rw [leS_iff]
  have : b.cps.toList < a.cps.toList := by
    by_cases q : b.cps.toList < a.cps.toList
    · exact q
    · rw [leS_iff.mpr q] at h; cases h
  intro q
  exact List.lt_irrefl _ (List.lt_trans this q)
theorem leS_antisymm (a b : Str) (h1 : leS a b = true) (h2 : leS b a = true) : a = b := by
  rw [leS_iff] at h1 h2
  have := lt_tri _ _ h1 h2
  obtain ⟨⟨l⟩⟩ := a
  obtain ⟨⟨k⟩⟩ := b
  have e : k = l := by simpa using this
  rw [e]
theorem risingS_pw : ∀ (p : Str) (l : List Str), risingS p l = true → (p :: l).Pairwise (fun a b => leS a b = true)
  | p, [], _ => by simp
  | p, x :: r, h => by
    unfold risingS at h
    rw [Bool.and_eq_true] at h
    have ih := risingS_pw x r h.2
    have e : leS p x = true := by
      rw [leS_iff]
      have := h.1
      rw [ltCps_eq] at this
      simpa using this
    refine List.pairwise_cons.mpr ⟨fun z hz => ?_, ih⟩
    rcases List.mem_cons.mp hz with rfl | hz
    · exact e
    · exact leS_trans _ _ _ e ((List.pairwise_cons.mp ih).1 z hz)
theorem sortedS_pw : ∀ l : List Str, sortedS l = true → l.Pairwise (fun a b => leS a b = true)
  | [], _ => List.Pairwise.nil
  | x :: r, h => risingS_pw x r h
theorem isortS_of {ns ms : List Str} (p : ms.Perm ns) (h : sortedS ms = true) : ms = isort leS ns :=
  List.Perm.eq_of_pairwise (le := fun a b : Str => leS a b = true) (fun a b _ _ h1 h2 => leS_antisymm a b h1 h2) (sortedS_pw ms h) (isort_sorted leS_trans leS_total ns) (p.trans (isort_perm leS ns).symm)

theorem one_arg {b : List Addr} {d : D} {xs : List V} (h : RVs G H b [d] xs) : ∃ v, xs = [v] ∧ RV G H b d v := by
  simp only [RVs] at h
  obtain ⟨v, rr, rfl, h1, rfl⟩ := h
  exact ⟨v, rfl, h1⟩
theorem two_args {b : List Addr} {d e : D} {xs : List V} (h : RVs G H b [d, e] xs) : ∃ v w, xs = [v, w] ∧ RV G H b d v ∧ RV G H b e w := by
  simp only [RVs] at h
  obtain ⟨v, rr, rfl, h1, w, r2, rfl, h2, rfl⟩ := h
  exact ⟨v, w, rfl, h1, h2⟩
theorem int_args {b : List Addr} {i j : Int} {xs : List V} (h : RVs G H b [.int i, .int j] xs) : xs = [.int i, .int j] := by
  obtain ⟨v, w, rfl, h1, h2⟩ := two_args h
  rw [rv_int.mp h1, rv_int.mp h2]

def fbN : Fb → Str × Value
  | .len => ("len", .builtin "len") | .abs => ("abs", .builtin "abs") | .max => ("max", .builtin "max") | .min => ("min", .builtin "min") | .sum => ("sum", .builtin "sum")
  | .sorted => ("sorted", .builtin "sorted") | .list => ("list", .type "list") | .tuple => ("tuple", .type "tuple") | .int => ("int", .type "int") | .all => ("all", .builtin "all") | .any => ("any", .builtin "any") | .str => ("str", .type "str")

theorem cr_lenD (hK : X.K = G.K) : CallR X (.builtin "len") (rCl G (fbD .len)) := by
  intro pins s σ H xs us Q I rs h
  obtain ⟨b, S, ds, r, h1, w⟩ := h
  have bad : ∀ {d e : D} {rest : List D}, Want G H b (fbD .len (d :: e :: rest) S) Q → False := by
    intro d e rest w
    simp only [fbD] at w
    exact want_bad w
  rcases ds with _ | ⟨d, _ | ⟨e, rest⟩⟩
  · exact (want_bad w).elim
  · obtain ⟨x, rfl, h3⟩ := one_arg h1
    cases d with
    | str z =>
      obtain ⟨rfl, l⟩ := rv_str.mp h3
      exact call_len pins s σ H _ us Q I rs ⟨_, z.length, rfl, ⟨l, rfl⟩, want_here r w (rv_int.mpr rfl)⟩
    | tup es =>
      obtain ⟨a, vs, rfl, hd, kv⟩ := rv_tup.mp h3
      exact call_len pins s σ H _ us Q I rs ⟨_, es.length, rfl, .inr ⟨vs, by rw [hK]; exact hd, kv.length⟩, want_here r w (rv_int.mpr rfl)⟩
    | rol es =>
      obtain ⟨a, vs, rfl, hd, kv⟩ := rv_rol.mp h3
      exact call_len pins s σ H _ us Q I rs ⟨_, es.length, rfl, .inl ⟨vs, by rw [hK]; exact hd.sql, kv.length⟩, want_here r w (rv_int.mpr rfl)⟩
    | ref n =>
      simp only [fbD] at w
      split at w
      · rename_i es z
        obtain ⟨a, vs, rfl, _, hd, kv⟩ := lst_at r h3 z
        exact call_len pins s σ H _ us Q I rs ⟨_, es.length, rfl, .inl ⟨vs, SqL.of hd, kv.length⟩, want_here r w (rv_int.mpr rfl)⟩
      · rename_i kvs z
        obtain ⟨a, ws, rfl, _, hd, kv⟩ := dct_at r h3 z
        rw [Vals.ref1 rs]
        refine d_len I (.inl hd) fun t s' I' => ⟨.int ws.length, H, I', ⟨_, rfl⟩, ?_⟩
        rw [← kv.length]
        exact want_here r w (rv_int.mpr rfl)
      · exact (want_bad w).elim
    | _ => exact (want_bad w).elim
  · exact (bad w).elim
theorem cr_absD : CallR X (.builtin "abs") (rCl G (fbD .abs)) := by
  intro pins s σ H xs us Q I rs h
  obtain ⟨b, S, ds, r, h1, w⟩ := h
  simp only [fbD] at w
  split at w
  · rename_i i
    obtain ⟨x, rfl, h3⟩ := one_arg h1
    obtain rfl := rv_int.mp h3
    exact call_abs pins s σ H _ us Q I rs ⟨i, rfl, want_here r w (rv_int.mpr rfl)⟩
  · exact (want_bad w).elim
theorem maxL_le : ∀ (r : List Int) (m : Int), m ≤ maxL m r ∧ ∀ x ∈ r, x ≤ maxL m r
  | [], m => ⟨Int.le_refl _, fun _ h => by cases h⟩
  | y :: r, m => by
    obtain ⟨h1, h2⟩ := maxL_le r (if m < y then y else m)
    have q : m ≤ (if m < y then y else m) ∧ y ≤ (if m < y then y else m) := by split <;> omega
    unfold maxL
    generalize (if m < y then y else m) = z at *
    refine ⟨?_, fun x hx => ?_⟩
    · omega
    · rcases List.mem_cons.mp hx with rfl | hx
      · omega
      · exact h2 x hx
theorem maxL_mem : ∀ (r : List Int) (m : Int), maxL m r = m ∨ maxL m r ∈ r
  | [], m => .inl rfl
  | y :: r, m => by
    unfold maxL
    rcases maxL_mem r (if m < y then y else m) with h | h
    · rw [h]
      split
      · exact .inr List.mem_cons_self
      · exact .inl rfl
    · exact .inr (List.mem_cons_of_mem _ h)
theorem minL_le : ∀ (r : List Int) (m : Int), minL m r ≤ m ∧ ∀ x ∈ r, minL m r ≤ x
  | [], m => ⟨Int.le_refl _, fun _ h => by cases h⟩
  | y :: r, m => by
    obtain ⟨h1, h2⟩ := minL_le r (if y < m then y else m)
    have q : m ≥ (if y < m then y else m) ∧ y ≥ (if y < m then y else m) := by split <;> omega
    unfold minL
    generalize (if y < m then y else m) = z at *
    refine ⟨?_, fun x hx => ?_⟩
    · omega
    · rcases List.mem_cons.mp hx with rfl | hx
      · omega
      · exact h2 x hx
theorem minL_mem : ∀ (r : List Int) (m : Int), minL m r = m ∨ minL m r ∈ r
  | [], m => .inl rfl
  | y :: r, m => by
    unfold minL
    rcases minL_mem r (if y < m then y else m) with h | h
    · rw [h]
      split
      · exact .inr List.mem_cons_self
      · exact .inl rfl
    · exact .inr (List.mem_cons_of_mem _ h)
theorem maxL_of {i m : Int} {r : List Int} (h : m ∈ i :: r) (hb : ∀ y, y ∈ i :: r → y ≤ m) : maxL i r = m := by
  obtain ⟨h1, h2⟩ := maxL_le r i
  have up : m ≤ maxL i r := (List.mem_cons.mp h).elim (fun e => e ▸ h1) (h2 m)
  have dn : maxL i r ≤ m := (maxL_mem r i).elim (fun e => by rw [e]; exact hb _ List.mem_cons_self) fun k => hb _ (List.mem_cons_of_mem _ k)
  omega
theorem minL_of {i m : Int} {r : List Int} (h : m ∈ i :: r) (hb : ∀ y, y ∈ i :: r → m ≤ y) : minL i r = m := by
  obtain ⟨h1, h2⟩ := minL_le r i
  have dn : minL i r ≤ m := (List.mem_cons.mp h).elim (fun e => e ▸ h1) (h2 m)
  have up : m ≤ minL i r := (minL_mem r i).elim (fun e => by rw [e]; exact hb _ List.mem_cons_self) fun k => hb _ (List.mem_cons_of_mem _ k)
  omega
theorem cr_maxD (hc : X.calm = true) : CallR X (.builtin "max") (rCl G (fbD .max)) := by
  intro pins s σ H xs us Q I rs h
  obtain ⟨b, S, ds, r, h1, w⟩ := h
  simp only [fbD] at w
  split at w
  · rename_i i j
    obtain rfl := int_args h1
    exact call_max2 hc pins s σ H _ us Q I rs ⟨i, j, rfl, want_here r w (rv_int.mpr rfl)⟩
  · split at w
    · rename_i es z
      split at w
      · rename_i i rest e
        obtain ⟨x, rfl, h3⟩ := one_arg h1
        obtain ⟨a, vs, rfl, _, hd, kv⟩ := lst_at r h3 z
        obtain ⟨rfl, _⟩ := asInts_ok kv e
        refine cr_max hc pins s σ H _ us Q I rs ⟨a, i :: rest, rfl, SqL.of hd, Nat.succ_pos _, fun y hy hb => ?_⟩
        rw [maxL_of hy hb] at w
        exact want_here r w (rv_int.mpr rfl)
      · exact (want_bad w).elim
    · exact (want_bad w).elim
  · exact (want_bad w).elim
theorem cr_minD (hc : X.calm = true) : CallR X (.builtin "min") (rCl G (fbD .min)) := by
  intro pins s σ H xs us Q I rs h
  obtain ⟨b, S, ds, r, h1, w⟩ := h
  simp only [fbD] at w
  split at w
  · rename_i i j
    obtain rfl := int_args h1
    exact call_min2 hc pins s σ H _ us Q I rs ⟨i, j, rfl, want_here r w (rv_int.mpr rfl)⟩
  · split at w
    · rename_i es z
      split at w
      · rename_i i rest e
        obtain ⟨x, rfl, h3⟩ := one_arg h1
        obtain ⟨a, vs, rfl, _, hd, kv⟩ := lst_at r h3 z
        obtain ⟨rfl, _⟩ := asInts_ok kv e
        refine cr_min hc pins s σ H _ us Q I rs ⟨a, i :: rest, rfl, SqL.of hd, Nat.succ_pos _, fun y hy hb => ?_⟩
        rw [minL_of hy hb] at w
        exact want_here r w (rv_int.mpr rfl)
      · exact (want_bad w).elim
    · exact (want_bad w).elim
  · exact (want_bad w).elim
theorem cr_sumD (hK : X.K = G.K) (hc : X.calm = true) : CallR X (.builtin "sum") (rCl G (fbD .sum)) := by
  intro pins s σ H xs us Q I rs h
  obtain ⟨b, S, ds, r, h1, w⟩ := h
  simp only [fbD] at w
  split at w
  · rename_i es
    split at w
    · rename_i ns e
      obtain ⟨x, rfl, h3⟩ := one_arg h1
      obtain ⟨a, vs, rfl, hd, kv⟩ := rv_tup.mp h3
      obtain ⟨rfl, _⟩ := asInts_ok kv e
      exact PZ.cr_sumT hc pins s σ H _ us Q I rs ⟨a, ns, rfl, by rw [hK]; exact hd, want_here r w (rv_int.mpr rfl)⟩
    · exact (want_bad w).elim
  · split at w
    · rename_i es z
      split at w
      · rename_i ns e
        obtain ⟨x, rfl, h3⟩ := one_arg h1
        obtain ⟨a, vs, rfl, _, hd, kv⟩ := lst_at r h3 z
        obtain ⟨rfl, _⟩ := asInts_ok kv e
        exact cr_sum hc pins s σ H _ us Q I rs ⟨a, ns, rfl, SqL.of hd, want_here r w (rv_int.mpr rfl)⟩
      · exact (want_bad w).elim
    · exact (want_bad w).elim
  · exact (want_bad w).elim
theorem cr_allD (hc : X.calm = true) : CallR X (.builtin "all") (rCl G (fbD .all)) := by
  intro pins s σ H xs us Q I rs h
  obtain ⟨b, S, ds, r, h1, w⟩ := h
  simp only [fbD] at w
  split at w
  · split at w
    · rename_i es z
      split at w
      · rename_i ns e
        obtain ⟨x, rfl, h3⟩ := one_arg h1
        obtain ⟨a, vs, rfl, _, hd, kv⟩ := lst_at r h3 z
        obtain ⟨rfl, _⟩ := asBls_ok kv e
        exact L2.cr_all hc pins s σ H _ us Q I rs ⟨a, ns, rfl, SqL.of hd, want_here r w (rv_bl.mpr rfl)⟩
      · exact (want_bad w).elim
    · exact (want_bad w).elim
  · exact (want_bad w).elim
theorem cr_anyD (hc : X.calm = true) : CallR X (.builtin "any") (rCl G (fbD .any)) := by
  intro pins s σ H xs us Q I rs h
  obtain ⟨b, S, ds, r, h1, w⟩ := h
  simp only [fbD] at w
  split at w
  · split at w
    · rename_i es z
      split at w
      · rename_i ns e
        obtain ⟨x, rfl, h3⟩ := one_arg h1
        obtain ⟨a, vs, rfl, _, hd, kv⟩ := lst_at r h3 z
        obtain ⟨rfl, _⟩ := asBls_ok kv e
        exact L2.cr_any hc pins s σ H _ us Q I rs ⟨a, ns, rfl, SqL.of hd, want_here r w (rv_bl.mpr rfl)⟩
      · exact (want_bad w).elim
    · exact (want_bad w).elim
  · exact (want_bad w).elim
theorem cr_strD : CallR X (.type "str") (rCl G (fbD .str)) := by
  intro pins s σ H xs us Q I rs h
  obtain ⟨b, S, ds, r, h1, w⟩ := h
  simp only [fbD] at w
  split at w
  · rename_i i
    split at w
    · rename_i c
      obtain ⟨x, rfl, h3⟩ := one_arg h1
      obtain rfl := rv_int.mp h3
      exact call_str_int pins s σ H _ us Q I rs ⟨i, rfl, c.1, want_here r w (rv_str.mpr ⟨rfl, c.2⟩)⟩
    · exact (want_bad w).elim
  · exact (want_bad w).elim
theorem cr_intD : CallR X (.type "int") (rCl G (fbD .int)) := by
  intro pins s σ H xs us Q I rs h
  obtain ⟨b, S, ds, r, h1, w⟩ := h
  simp only [fbD] at w
  split at w
  · rename_i i
    obtain ⟨x, rfl, h3⟩ := one_arg h1
    obtain rfl := rv_int.mp h3
    exact call_int1 pins s σ H _ us Q I rs (.inl ⟨i, rfl, want_here r w (rv_int.mpr rfl)⟩)
  · rename_i k
    obtain ⟨x, rfl, h3⟩ := one_arg h1
    obtain rfl := rv_bl.mp h3
    exact call_int1 pins s σ H _ us Q I rs (.inr ⟨k, rfl, want_here r w (rv_int.mpr rfl)⟩)
  · exact (want_bad w).elim
theorem cr_listD (hK : X.K = G.K) : CallR X (.type "list") (rCl G (fbD .list)) := by
  intro pins s σ H xs us Q I rs h
  obtain ⟨b, S, ds, r, h1, w⟩ := h
  simp only [fbD] at w
  split at w
  · rename_i d
    split at w
    · rename_i es e
      obtain ⟨x, rfl, h3⟩ := one_arg h1
      obtain ⟨a, vs, rfl, hs, kv⟩ := seq_at r h3 e
      refine call_list_of pins s σ H _ us Q I rs ⟨a, vs, rfl, by rw [hK]; exact hs, fun p hp => ?_⟩
      simp only [new] at w
      obtain ⟨p1, p2⟩ := r.newL hp kv
      exact want_ok.mp w _ _ _ p1 p2
    · exact (want_bad w).elim
  · exact (want_bad w).elim
theorem cr_tupleD (hK : X.K = G.K) : CallR X (.type "tuple") (rCl G (fbD .tuple)) := by
  intro pins s σ H xs us Q I rs h
  obtain ⟨b, S, ds, r, h1, w⟩ := h
  simp only [fbD] at w
  split at w
  · rename_i d
    split at w
    · rename_i es e
      obtain ⟨x, rfl, h3⟩ := one_arg h1
      obtain ⟨a, vs, rfl, hs, kv⟩ := seq_at r h3 e
      refine call_tuple_of pins s σ H _ us Q I rs ⟨a, vs, rfl, ?_⟩
      rw [hK]
      rcases hs with hs | hs
      · refine .inl ⟨hs, fun p hp => ?_⟩
        obtain ⟨p1, p2⟩ := r.newT hp kv
        exact want_ok.mp w _ _ _ p1 p2
      · exact .inr ⟨hs, want_here r w (rv_tup.mpr ⟨a, vs, rfl, hs, kv⟩)⟩
    · exact (want_bad w).elim
  · exact (want_bad w).elim
theorem sortD_ok {b : List Addr} {ds es : List D} {vs : List V} (kv : RVs G H b ds vs) (e : sortD ds = some es) : ds.length < 64 ∧
    ((∃ ns, vs = ns.map V.int ∧ es = (isort leI ns).map D.int) ∨ ∃ ns : List Str, vs = ns.map V.str ∧ es = (isort leS ns).map D.str ∧ ∀ x ∈ ns, x.length ≤ sizeLine) := by
  unfold sortD at e
  split at e
  · rename_i c
    refine ⟨c, ?_⟩
    split at e
    · rename_i ns q
      cases e
      exact .inl ⟨ns, (asInts_ok kv q).1, rfl⟩
    · split at e
      · rename_i ns q
        cases e
        obtain ⟨h1, _, h3⟩ := asStrs_ok kv q
        exact .inr ⟨ns, h1, rfl, h3⟩
      · cases e
  · cases e
theorem cr_sortedD (hc : X.calm = true) : CallR X (.builtin "sorted") (rCl G (fbD .sorted)) := by
  intro pins s σ H xs us Q I rs h
  obtain ⟨b, S, ds, r, h1, w⟩ := h
  simp only [fbD] at w
  split at w
  · split at w
    · rename_i es z
      split at w
      · rename_i ys e
        obtain ⟨x, rfl, h3⟩ := one_arg h1
        obtain ⟨a, vs, rfl, _, hd, kv⟩ := lst_at r h3 z
        obtain ⟨h64, q⟩ := sortD_ok kv e
        rw [kv.length] at h64
        simp only [new] at w
        rcases q with ⟨ns, rfl, rfl⟩ | ⟨ns, rfl, rfl, hl⟩
        · rw [List.length_map] at h64
          refine cr_sorted pins s σ H _ us Q I rs ⟨a, ns, rfl, SqL.of hd, h64, fun ms p pm so hp => ?_⟩
          rw [isortI_of pm so]
          obtain ⟨p1, p2⟩ := r.newL hp (rvs_ints (isort leI ns))
          exact want_ok.mp w _ _ _ p1 p2
        · rw [List.length_map] at h64
          refine cr_sortedS pins s σ H _ us Q I rs ⟨a, ns, rfl, SqL.of hd, h64, fun ms p pm so hp => ?_⟩
          rw [isortS_of pm so]
          obtain ⟨p1, p2⟩ := r.newL hp (rvs_strs (isort leS ns) fun x hx => hl x ((isort_perm leS ns).mem_iff.mp hx))
          exact want_ok.mp w _ _ _ p1 p2
      · exact (want_bad w).elim
    · rename_i kvs z
      split at w
      · rename_i ys e
        obtain ⟨x, rfl, h3⟩ := one_arg h1
        obtain ⟨a, ws, rfl, _, hd, kv⟩ := dct_at r h3 z
        simp only [new] at w
        have hk := kv.keys
        unfold sortD at e
        split at e
        · rename_i c
          rw [List.length_map] at c
          split at e
          · rename_i ns q
            cases e
            have key : ∀ (l : List (Key × D)) (ns : List Int), asInts (l.map fun p => dOfKey p.1) = some ns → l.map (·.1) = ns.map Sum.inl := by
              intro l
              induction l with
              | nil => intro ns e; simp only [List.map_nil, asInts, Option.some.injEq] at e; subst e; rfl
              | cons p l ih =>
                intro ns e
                rw [List.map_cons] at e
                cases hp : p.1 with
                | inl i =>
                  rw [hp] at e
                  simp only [dOfKey, asInts] at e
                  obtain ⟨ms, e1, rfl⟩ := Option.map_eq_some_iff.mp e
                  rw [List.map_cons, ih ms e1, hp]; rfl
                | inr i => rw [hp] at e; simp [dOfKey, asInts] at e
            have e1 := key kvs ns q
            have hlen : ns.length = kvs.length := by have := congrArg List.length e1; simpa using this.symm
            refine call_sortedDI hc pins s σ H _ us Q I rs ⟨a, ws, ns, rfl, .inl hd, by rw [← hk]; exact e1, by omega, fun ms p pm so hp => ?_⟩
            rw [isortI_of pm so]
            obtain ⟨p1, p2⟩ := r.newL hp (rvs_ints (isort leI ns))
            exact want_ok.mp w _ _ _ p1 p2
          · split at e
            · rename_i ns q
              cases e
              have key : ∀ (l : List (Key × D)) (ns : List Str), asStrs (l.map fun p => dOfKey p.1) = some ns → l.map (·.1) = ns.map Sum.inr := by
                intro l
                induction l with
                | nil => intro ns e; simp only [List.map_nil, asStrs, Option.some.injEq] at e; subst e; rfl
                | cons p l ih =>
                  intro ns e
                  rw [List.map_cons] at e
                  cases hp : p.1 with
                  | inr i =>
                    rw [hp] at e
                    simp only [dOfKey, asStrs] at e
                    obtain ⟨ms, e1, rfl⟩ := Option.map_eq_some_iff.mp e
                    rw [List.map_cons, ih ms e1, hp]; rfl
                  | inl i => rw [hp] at e; simp [dOfKey, asStrs] at e
              have e1 := key kvs ns q
              have hlen : ns.length = kvs.length := by have := congrArg List.length e1; simpa using this.symm
              refine call_sortedD hc pins s σ H _ us Q I rs ⟨a, ws, ns, rfl, .inl hd, by rw [← hk]; exact e1, by omega, fun ms p pm so hp => ?_⟩
              rw [isortS_of pm so]
              have hl : ∀ x ∈ ns, x.length ≤ sizeLine := by
                intro x hx
                have : Sum.inr x ∈ kvs.map (·.1) := by rw [e1]; exact List.mem_map.mpr ⟨x, hx, rfl⟩
                obtain ⟨q, hq, eq⟩ := List.mem_map.mp this
                exact dct_ok r h3 z q hq x eq
              obtain ⟨p1, p2⟩ := r.newL hp (rvs_strs (isort leS ns) fun x hx => hl x ((isort_perm leS ns).mem_iff.mp hx))
              exact want_ok.mp w _ _ _ p1 p2
            · cases e
        · cases e
      · exact (want_bad w).elim
    · exact (want_bad w).elim
  · exact (want_bad w).elim

/-! ### isinstance -/
def tkN : Tk → Str × String
  | .tuple => ("tuple", "tuple") | .str => ("str", "str") | .int => ("int", "int") | .bool => ("bool", "bool") | .list => ("list", "list")
theorem isi_D (hK : X.K = G.K) {b : List Addr} {S : Store} {d : D} {x : V} {k : Bool} (t : Tk) (r : Rel G H b S) (h : RV G H b d x) (e : isiD t d S = some k) : ∃ ty, TyX X.K H x ty ∧ PySem.W.kitOne X.K ty (.type (tkN t).2) = some k := by
  cases d with
  | non =>
    obtain rfl := rv_non.mp h
    simp only [isiD, Option.some.injEq] at e
    subst e
    exact ⟨_, .base .non, by cases t <;> exact kit_ty (by decide +kernel)⟩
  | bl j =>
    obtain rfl := rv_bl.mp h
    simp only [isiD, Option.some.injEq] at e
    subst e
    exact ⟨_, .base (.bl j), by cases t <;> exact kit_ty (by decide +kernel)⟩
  | int j =>
    obtain rfl := rv_int.mp h
    simp only [isiD, Option.some.injEq] at e
    subst e
    exact ⟨_, .base (.int j), by cases t <;> exact kit_ty (by decide +kernel)⟩
  | str j =>
    obtain ⟨rfl, _⟩ := rv_str.mp h
    simp only [isiD, Option.some.injEq] at e
    subst e
    exact ⟨_, .base (.str j), by cases t <;> exact kit_ty (by decide +kernel)⟩
  | tup ds =>
    obtain ⟨a, vs, rfl, hd, _⟩ := rv_tup.mp h
    simp only [isiD, Option.some.injEq] at e
    subst e
    have kk : PySem.W.kitOne X.K (.type "tuple") (.type (tkN t).2) = some (match t with | .tuple => true | _ => false) := by cases t <;> exact kit_ty (by decide +kernel)
    rw [← hK] at hd
    rcases hd with (hd | ⟨o, hd⟩) | ⟨o, its, n, hd, hc, _⟩
    · exact ⟨_, .base (.tup hd), kk⟩
    · exact ⟨_, .fTuple hd, kk⟩
    · exact ⟨_, .kTuple hd hc, kk⟩
  | ref n =>
    simp only [isiD] at e
    split at e
    · rename_i ds z
      cases e
      obtain ⟨a, vs, rfl, _, hd, _⟩ := lst_at r h z
      exact ⟨_, .base (.lst hd), by cases t <;> exact kit_ty (by decide +kernel)⟩
    · cases e
  | rol ds => simp [isiD] at e
  | exv c ds => simp [isiD] at e

/-! ### methods -/
theorem mt_appendD : MtR X "list.append" (rMt G (mtD .append)) := by
  intro pins s σ H x xs v us Q I rx rs h
  obtain ⟨b, S, d, ds, r, h1, h2, w⟩ := h
  simp only [mtD] at w
  split at w
  · split at w
    · rename_i z
      split at w
      · rename_i c
        obtain ⟨a, vs, rfl, bn, hd, kv⟩ := lst_at r h1 z
        obtain ⟨y, rfl, h4⟩ := one_arg h2
        refine mt_append pins s σ H _ _ v us Q I rx rs ⟨a, vs, y, rfl, rfl, hd, by rw [← kv.length]; exact c, ?_⟩
        exact want_ok.mp w _ _ _ (r.setL bn hd (kv.append (RVs.cons h4 RVs.nil))) (rv_non.mpr rfl)
      · exact (want_bad w).elim
    · exact (want_bad w).elim
  · exact (want_bad w).elim
theorem mt_extendD : MtR X "list.extend" (rMt G (mtD .extend)) := by
  intro pins s σ H x xs v us Q I rx rs h
  obtain ⟨b, S, d, ds, r, h1, h2, w⟩ := h
  simp only [mtD] at w
  split at w
  · split at w
    · rename_i z z2
      split at w
      · rename_i c
        obtain ⟨a, vs, rfl, bn, hd, kv⟩ := lst_at r h1 z
        obtain ⟨y, rfl, h4⟩ := one_arg h2
        obtain ⟨a2, vs2, rfl, bn2, hd2, kv2⟩ := lst_at r h4 z2
        refine mt_extend pins s σ H _ _ v us Q I rx rs ⟨a, a2, vs, vs2, rfl, rfl, hd, hd2, by rw [← kv.length, ← kv2.length]; exact c, ?_⟩
        exact want_ok.mp w _ _ _ (r.setL bn hd (kv.append kv2)) (rv_non.mpr rfl)
      · exact (want_bad w).elim
    · exact (want_bad w).elim
  · exact (want_bad w).elim
theorem mt_popD : MtR X "list.pop" (rMt G (mtD .pop)) := by
  intro pins s σ H x xs v us Q I rx rs h
  obtain ⟨b, S, d, ds, r, h1, h2, w⟩ := h
  simp only [mtD] at w
  split at w
  · split at w
    · rename_i z
      split at w
      · rename_i y c
        obtain ⟨a, vs, rfl, bn, hd, kv⟩ := lst_at r h1 z
        simp only [RVs] at h2
        subst h2
        obtain ⟨yv, e1, e2⟩ := kv.get c
        refine mt_pop pins s σ H _ _ v us Q I rx rs ⟨a, vs, yv, rfl, rfl, hd, by rw [← kv.length]; exact e1, ?_⟩
        have p := r.setL bn hd kv.dropLast
        exact want_ok.mp w _ _ _ p (p.rv e2)
      · exact (want_bad w).elim
    · exact (want_bad w).elim
  · exact (want_bad w).elim
theorem mt_popAtD : MtR X "list.pop" (rMt G (mtD .popAt)) := by
  intro pins s σ H x xs v us Q I rx rs h
  obtain ⟨b, S, d, ds, r, h1, h2, w⟩ := h
  simp only [mtD] at w
  split at w
  · split at w
    · rename_i z
      split at w
      · rename_i k hk
        split at w
        · rename_i y c
          obtain ⟨a, vs, rfl, bn, hd, kv⟩ := lst_at r h1 z
          obtain ⟨y2, rfl, h4⟩ := one_arg h2
          obtain rfl := rv_int.mp h4
          obtain ⟨yv, e1, e2⟩ := kv.get c
          rw [kv.length] at hk
          obtain ⟨q1, q2, q3, q4⟩ := ixN_seq hk
          have hz := (show ObjOk X.prog X.w H s.heap a (.lst vs) from I.hok a _ hd).1
          have hs : sizeLine = 16777216 := sizeLine_eq
          refine mt_popAt pins s σ H _ _ v us Q I rx rs ⟨a, vs, _, k, yv, rfl, rfl, hd, by omega, by omega, q1, e1, ?_⟩
          have p := r.setL bn hd (kv.eraseIdx k)
          exact want_ok.mp w _ _ _ p (p.rv e2)
        · exact (want_bad w).elim
      · exact (want_bad w).elim
    · exact (want_bad w).elim
  · exact (want_bad w).elim
theorem mt_joinD (hK : X.K = G.K) : MtR X "str.join" (rMt G (mtD .join)) := by
  intro pins s σ H x xs v us Q I rx rs h
  obtain ⟨b, S, d, ds, r, h1, h2, w⟩ := h
  simp only [mtD] at w
  split at w
  · split at w
    · rename_i es z
      split at w
      · rename_i ys e
        split at w
        · rename_i c
          obtain ⟨rfl, l⟩ := rv_str.mp h1
          obtain ⟨y2, rfl, h4⟩ := one_arg h2
          obtain ⟨a, vs, rfl, hs, kv⟩ := seq_at r h4 z
          obtain ⟨rfl, _, _⟩ := asStrs_ok kv e
          refine mt_join pins s σ H _ _ v us Q I rx rs ⟨_, a, ys, rfl, rfl, by rw [hK]; exact hs, c.2, ?_⟩
          exact want_here r w (rv_str.mpr ⟨rfl, c.1⟩)
        · exact (want_bad w).elim
      · exact (want_bad w).elim
    · exact (want_bad w).elim
  · exact (want_bad w).elim
theorem mtTy_ok (hK : X.K = G.K) {b : List Addr} {S : Store} {d : D} {x : V} {m : Mt} (r : Rel G H b S) (h : RV G H b d x) (e : mtTy m d S = true) : tyV X.K (match m with | .join => "str" | _ => "list") x H := by
  cases d with
  | str z =>
    obtain ⟨rfl, _⟩ := rv_str.mp h
    cases m <;> simp [mtTy] at e <;> rfl
  | ref n =>
    simp only [mtTy] at e
    split at e
    · rename_i ds z
      obtain ⟨a, vs, rfl, _, hd, _⟩ := lst_at r h z
      cases m <;> simp at e <;> exact .inl ⟨rfl, vs, SqL.of hd⟩
    · cases e
  | _ => simp [mtTy] at e
end
end PV

set_option Elab.async false
set_option linter.all false
set_option maxRecDepth 100000
set_option maxHeartbeats 2000000
/-! PV: the syntax in the row's own trees, and that expressions run so. -/
namespace PV
open PySem PySem.Spec PyProof.Rows L2

/-! ### readings made of runs -/
/-- what is wanted behind a run, of an exception as of a value -/
def Wt {α : Type} (G : Gb) (H : Hp) (b : List Addr) (r : R α) (Z : XK) (K : α → Store → Hp → List Addr → Prop) : Prop :=
  match r with
  | .ok a S' => ∀ H' b', Post G H b H' b' S' → K a S' H' b'
  | .exc c ds S' => ∀ cls d H' b', Post G H b H' b' S' → RX G H' b' c ds cls d → Z cls d H'
  | .bad => False
abbrev wz (W : WX) (σ : L2.St) : XK := fun cls d H => W cls d σ H
def noW : WX := fun _ _ _ _ => False
/-- a run that raises nothing -/
def NoX {α : Type} (r : R α) : Prop := ∀ c ds S, r ≠ .exc c ds S
section
variable {α β : Type} {G : Gb} {H H1 : Hp} {b b1 : List Addr} {S1 : Store} {r : R α} {Z : XK} {K K' : α → Store → Hp → List Addr → Prop}
theorem Wt.mono (p : Post G H b H1 b1 S1) (w : Wt G H b r Z K) : Wt G H1 b1 r Z K := by
  cases r with
  | ok a S' => exact fun H' b' p' => w H' b' (p.trans p')
  | exc c ds S' => exact fun cls d H' b' p' x => w cls d H' b' (p.trans p') x
  | bad => exact w
theorem Wt.imp (w : Wt G H b r Z K) (k : ∀ a S' H' b', Post G H b H' b' S' → r = .ok a S' → K a S' H' b' → K' a S' H' b') : Wt G H b r Z K' := by
  cases r with
  | ok a S' => exact fun H' b' p' => k a S' H' b' p' rfl (w H' b' p')
  | exc c ds S' => exact w
  | bad => exact w
theorem wt_bind {k : α → Store → R β} {K : β → Store → Hp → List Addr → Prop} (w : Wt G H b (r.bind k) Z K) : Wt G H b r Z fun a S1 H1 b1 => Wt G H1 b1 (k a S1) Z K := by
  cases r with
  | ok a S' => exact fun H' b' p' => Wt.mono p' w
  | exc c ds S' => exact w
  | bad => exact w
theorem wt_bad : ¬ Wt G H b (.bad : R α) Z K := id
theorem wt_here {a : α} {S : Store} (r : Rel G H b S) (w : Wt G H b (.ok a S) Z K) : K a S H b := w H b (Post.refl r)
theorem Wt.want {r : R D} {Q : VK} (w : Wt G H b r Z fun d S' H' b' => ∀ v, RV G H' b' d v → Q v H') (n : NoX r) : Want G H b r Q := by
  cases r with
  | ok a S' => exact ⟨a, S', rfl, fun v H' b' p rv => w H' b' p v rv⟩
  | exc c ds S' => exact (n c ds S' rfl).elim
  | bad => exact w.elim
end
def tE (G : Gb) (W : WX) (f : Ls → Store → R D) : TE := fun σ H Q => ∃ b S ls, Rel G H b S ∧ RL G H b ls σ ∧ Wt G H b (f ls S) (wz W σ) fun d _ H' b' => ∀ v, RV G H' b' d v → Q v H'
def tT (G : Gb) (W : WX) (f : Ls → Store → R Bool) : TT := fun σ H Q => ∃ b S ls, Rel G H b S ∧ RL G H b ls σ ∧ Wt G H b (f ls S) (wz W σ) fun k _ H' _ => Q k H'
def tA (G : Gb) (W : WX) (f : Ls → Store → R (List D)) : TA := fun σ H Q => ∃ b S ls, Rel G H b S ∧ RL G H b ls σ ∧ Wt G H b (f ls S) (wz W σ) fun ds _ H' b' => ∀ vs, RVs G H' b' ds vs → Q vs H'
/-- an iterator goes through what J says -/
def Walks (G : Gb) (J : ItV) (T : It) (H0 : Hp) (b0 : List Addr) : Prop := ∀ (i : Nat) (H : Hp) (b : List Addr) (S : Store), Rel G H b S → Old b0 b → Grow H0 H → Frz H0 H →
  (J.nxt i S = some none → T.stop i H) ∧ ∀ d, J.nxt i S = some (some d) → T.go i H ∧ ∀ x H', T.yld i H x H' → ∃ b', Post G H b H' b' S ∧ RV G H' b' d x
def tI (G : Gb) (W : WX) (f : Ls → Store → R ItV) : TI := fun σ H Q => ∃ b S ls, Rel G H b S ∧ RL G H b ls σ ∧ Wt G H b (f ls S) (wz W σ) fun J _ H' b' => ∀ T : It, Walks G J T H' b' → Q T H'
/-- the slots that a target fills -/
def slotsT : Tg → List Nat
  | .nm i => [i]
  | .tup t => slotsT t
  | .nil => []
  | .cons t r => slotsT t ++ slotsT r
/-- but for the slots of t as before -/
def Kept (t : Tg) (σ σ' : L2.St) : Prop := ∀ vs : List Nat, (∀ i ∈ slotsT t, i ∈ vs) → wipe σ' vs = wipe σ vs
def tG (G : Gb) (t : Tg) : TG := fun v σ H Q => ∃ b S ls d ls', Rel G H b S ∧ RL G H b ls σ ∧ RV G H b d v ∧ asgT t d S ls = some ls' ∧ ∀ σ', RL G H b ls' σ' → Kept t σ σ' → Q σ' H
def tGs (G : Gb) (t : Tg) : TGs := fun vs σ H Q => ∃ b S ls ds ls', Rel G H b S ∧ RL G H b ls σ ∧ RVs G H b ds vs ∧ asgTs t ds S ls = some ls' ∧ ∀ σ', RL G H b ls' σ' → Kept t σ σ' → Q σ' H
theorem wipe_set {σ : L2.St} {i : Nat} {x : Option V} : ∀ {vs : List Nat}, i ∈ vs → wipe (σ.set i x) vs = wipe σ vs
  | [], h => by cases h
  | v :: vs, h => by
    unfold wipe
    by_cases c : i ∈ vs
    · rw [wipe_set c]
    · have e : i = v := by
        rcases List.mem_cons.mp h with e | h
        · exact e
        · exact absurd h c
      subst e
      have key : ∀ ws : List Nat, i ∉ ws → wipe (σ.set i x) ws = (wipe σ ws).set i x := by
        intro ws
        induction ws with
        | nil => intro _; rfl
        | cons w ws ih =>
          intro h
          rw [List.mem_cons, not_or] at h
          unfold wipe
          rw [ih h.2, List.set_comm _ _ h.1]
      rw [key vs c, List.set_set]
theorem wipe_wipe {σ : L2.St} : ∀ vs : List Nat, wipe (wipe σ vs) vs = wipe σ vs := by
  have key : ∀ (ws vs : List Nat), (∀ i ∈ ws, i ∈ vs) → wipe (wipe σ ws) vs = wipe σ vs := by
    intro ws
    induction ws with
    | nil => intro vs _; rfl
    | cons w ws ih =>
      intro vs h
      rw [show wipe σ (w :: ws) = (wipe σ ws).set w none from rfl, wipe_set (h w List.mem_cons_self)]
      exact ih vs fun i hi => h i (List.mem_cons_of_mem _ hi)
  exact fun vs => key vs vs fun _ h => h

end PV
namespace L2
open PySem PySem.Spec PyProof.Rows
section
variable {X : Cx} {e : Expr}
theorem PE.wk {t t' : TE} (h : PE X e t) (k : ∀ σ H Q, t' σ H Q → t σ H Q) : PE X e t' := ⟨fun pins s σ H Q I w => h.run pins s σ H Q I (k σ H Q w)⟩
theorem PE.orr {t t' : TE} (h : PE X e t) (k : PE X e t') : PE X e (fun σ H Q => t σ H Q ∨ t' σ H Q) := ⟨fun pins s σ H Q I w => w.elim (h.run pins s σ H Q I) (k.run pins s σ H Q I)⟩
theorem PT.wk {t t' : TT} (h : PT X e t) (k : ∀ σ H Q, t' σ H Q → t σ H Q) : PT X e t' := ⟨fun pins s σ H Q I w => h.run pins s σ H Q I (k σ H Q w)⟩
theorem PW.wk {t t' : TT} (h : PW X e t) (k : ∀ σ H Q, t' σ H Q → t σ H Q) : PW X e t' := ⟨fun wh pins s σ H Q I w => h.run wh pins s σ H Q I (k σ H Q w)⟩
theorem PA.wk {es : List Expr} {t t' : TA} (h : PA X es t) (k : ∀ σ H Q, t' σ H Q → t σ H Q) : PA X es t' := ⟨fun p pins s σ H Q I w => h.run p pins s σ H Q I (k σ H Q w)⟩
theorem PK.wk {es : List Keyword} {t t' : TA} (h : PK X es t) (k : ∀ σ H Q, t' σ H Q → t σ H Q) : PK X es t' := ⟨fun p pins s σ H Q I w => h.run p pins s σ H Q I (k σ H Q w)⟩
theorem PI.wk {tg : Expr} {t t' : TI} (h : PI X tg e t) (k : ∀ σ H Q, t' σ H Q → t σ H Q) : PI X tg e t' := ⟨fun pins s σ H Q I w => h.run pins s σ H Q I (k σ H Q w)⟩
theorem PI.orr {tg : Expr} {t t' : TI} (h : PI X tg e t) (k : PI X tg e t') : PI X tg e (fun σ H Q => t σ H Q ∨ t' σ H Q) := ⟨fun pins s σ H Q I w => w.elim (h.run pins s σ H Q I) (k.run pins s σ H Q I)⟩
theorem PG.wk {t t' : TG} (h : PG X e t) (k : ∀ v σ H Q, t' v σ H Q → t v σ H Q) : PG X e t' := ⟨fun pins s σ H v u Q I r w => h.run pins s σ H v u Q I r (k v σ H Q w)⟩
theorem PG.orr {t t' : TG} (h : PG X e t) (k : PG X e t') : PG X e (fun v σ H Q => t v σ H Q ∨ t' v σ H Q) := ⟨fun pins s σ H v u Q I r w => w.elim (h.run pins s σ H v u Q I r) (k.run pins s σ H v u Q I r)⟩
theorem PGs.wk {es : List Expr} {t t' : TGs} (h : PGs X es t) (k : ∀ v σ H Q, t' v σ H Q → t v σ H Q) : PGs X es t' := ⟨fun pins s σ H v u Q I r w => h.run pins s σ H v u Q I r (k v σ H Q w)⟩
end

end L2
namespace PV
open PySem PySem.Spec PyProof.Rows L2
/-! ### shapes of trees -/
def isStar : Expr → Bool
  | .Starred _ _ => true
  | _ => false
def isSlice : Expr → Bool
  | .Slice _ _ _ _ => true
  | _ => false
/-- a name called without arguments -/
def isC0 : Expr → Bool
  | .Call (.Name _ _) [] [] _ => true
  | _ => false
def isSetE : Expr → Bool
  | .Set _ _ _ => true
  | _ => false
theorem star_of {e : Expr} (h : isStar e = false) (es : List Expr) (env : Env) : starEach (e :: es) env = (false, eval e env) :: starEach es env := by
  cases e <;> first | rfl | (simp [isStar] at h)
theorem stars_of : ∀ {es : List Expr} {env : Env} (h : es.all (fun e => !isStar e) = true), ∀ x ∈ starEach es env, x.1 = false
  | [], _, _ => fun x hx => by cases hx
  | e :: es, env, h => fun x hx => by
    rw [List.all_cons, Bool.and_eq_true] at h
    have h1 : isStar e = false := by simpa using h.1
    rw [star_of h1] at hx
    rcases List.mem_cons.mp hx with rfl | hx
    · rfl
    · exact stars_of h.2 x hx
theorem back_any {es : List Expr} {env : Env} {pos : Pos} (h : es.all (fun e => !isStar e) = true) : (backTo pos (starEach es env)).any (·.1) = false := by
  rw [List.any_eq_false]
  intro x hx
  unfold backTo at hx
  obtain ⟨y, hy, rfl⟩ := List.mem_map.mp hx
  have := stars_of h y hy
  obtain ⟨a, t⟩ := y
  simp only at this
  subst this
  simp
theorem back_all {es : List Expr} {env : Env} {pos : Pos} (h : es.all (fun e => !isStar e) = true) : (backTo pos (starEach es env)).all (fun x => !x.1) = true := by
  rw [List.all_eq_true]
  intro x hx
  unfold backTo at hx
  obtain ⟨y, hy, rfl⟩ := List.mem_map.mp hx
  have := stars_of h y hy
  obtain ⟨a, t⟩ := y
  simp only at this
  subst this
  rfl
theorem plainIx_of {e : Expr} (h : isSlice e = false) : PlainIx e := fun o i => by
  cases e <;> first | rfl | (simp [isSlice] at h)
theorem base_of {o : Expr} {m : Str} {env : Env} {w : Sem Value} (h : isC0 o = false) : attributeBase o m env w = w := by
  unfold attributeBase
  split
  · simp [isC0] at h
  · rfl
theorem each_of : ∀ {es : List Expr} {env : Env} (h : es.all (fun e => !isStar e) = true), (assignEach es env).length = es.length ∧ (∀ x ∈ assignEach es env, x.1 = false)
  | [], _, _ => ⟨rfl, fun x hx => by cases hx⟩
  | e :: es, env, h => by
    rw [List.all_cons, Bool.and_eq_true] at h
    have h1 : isStar e = false := by simpa using h.1
    have q : assignEach (e :: es) env = (false, assign e env) :: assignEach es env := by cases e <;> first | rfl | (simp [isStar] at h1)
    obtain ⟨i1, i2⟩ := each_of (env := env) h.2
    rw [q]
    refine ⟨by rw [List.length_cons, i1]; rfl, fun x hx => ?_⟩
    rcases List.mem_cons.mp hx with rfl | hx
    · rfl
    · exact i2 x hx
theorem each_none {es : List Expr} {env : Env} (h : es.all (fun e => !isStar e) = true) : (assignEach es env).findIdx? (·.1) = none := by
  rw [List.findIdx?_eq_none_iff]
  intro x hx
  exact (each_of h).2 x hx
theorem each_cons {e : Expr} {es : List Expr} {env : Env} (h : isStar e = false) : (assignEach (e :: es) env).map (·.2) = assign e env :: (assignEach es env).map (·.2) := by
  have q : assignEach (e :: es) env = (false, assign e env) :: assignEach es env := by cases e <;> first | rfl | (simp [isStar] at h)
  rw [q]; rfl

def isTupE : Expr → Bool
  | .Tuple _ _ _ => true
  | _ => false
theorem tupE_of {x : Expr} (h : isTupE x = true) : ∃ es k pos, x = .Tuple es k pos := by
  cases x <;> first | exact ⟨_, _, _, rfl⟩ | (simp [isTupE] at h)
/-! ### the check: E beside a tree -/
/-- what hands out tuples of its own: its target is a tuple -/
def tt : E → Bool
  | .qe _ => true
  | .qz2 _ _ => true
  | .qz3 _ _ _ => true
  | _ => false
structure Ck where
  e : Scope → Expr → Bool := fun _ _ => false
  es : Scope → List Expr → Bool := fun _ _ => false
  kw : Scope → List Keyword → Bool := fun _ _ => false
  it : Scope → Expr → Bool := fun _ _ => false
  nl : Bool := false
def globC (sc : Scope) (y : Str) : Bool := decide (sc.names.lookup y = some .globalImplicit) && !(y == ("__debug__" : Str))
def visC (N : List Str) (sc : Scope) (i : Nat) (y : Str) : Bool :=
  decide (N[i]? = some y) && (match sc.names.lookup y with | some .local => true | some .cell => true | some .free => true | _ => false) && !(y == ("__debug__" : Str)) && !(y == ("__classdict__" : Str))
def strOk (x : Str) : Bool := decide (x.length ≤ 1000)
/-- where names may be stored: a local, a cell of its own -/
def ownC (sc : Scope) (y : Str) : Bool := match sc.names.lookup y with | some .local => true | some .cell => true | _ => false
def mtN : Mt → Str
  | .append => "append" | .extend => "extend" | .pop => "pop" | .popAt => "pop" | .join => "join"
def mtA : Mt → Nat
  | .append => 1 | .extend => 1 | .pop => 0 | .popAt => 1 | .join => 1
mutual
def ckT (N : List Str) (st : Str → Bool) : Tg → Expr → Bool
  | .nm i, x => match x with
    | .Name y _ => decide (N[i]? = some y) && st y
    | _ => false
  | .tup t, x => match x with
    | .Tuple es _ _ => es.all (fun e => !isStar e) && ckTs N st t es
    | _ => false
  | .nil, _ => false
  | .cons _ _, _ => false
def ckTs (N : List Str) (st : Str → Bool) : Tg → List Expr → Bool
  | .nil, xs => xs.isEmpty
  | .cons t r, xs => match xs with
    | x :: rest => !isStar x && ckT N st t x && ckTs N st r rest
    | [] => false
  | .nm _, _ => false
  | .tup _, _ => false
end
section
variable (N : List Str) (FT : List (Str × Nat × Nat)) (KT : List (Nat × Nat × List Str)) (XT : List (Str × List Str)) (xs : Option Nat)
def bopC : Bo → Operator → Bool := fun o p => decide (p = bop o)
def ck : E → Ck
  | .non => { e := fun _ x => match x with | .Constant .none _ _ => true | _ => false }
  | .bl b => { e := fun _ x => match x with | .Constant (.bool c) _ _ => b == c | _ => false }
  | .int i => { e := fun _ x => match x with | .Constant (.int j) _ _ => decide (j = i) | _ => false }
  | .str y => { e := fun _ x => match x with | .Constant (.str z) _ _ => decide (z = y) && strOk y | _ => false }
  | .v i => { e := fun sc x => match x with | .Name y _ => visC N sc i y && !(xs == some i) | _ => false }
  | .bin o a b => { e := fun sc x => match x with | .BinOp l p r _ => decide (p = bop o) && (ck a).e sc l && (ck b).e sc r | _ => false }
  | .neg a => { e := fun sc x => match x with | .UnaryOp .USub l _ => (ck a).e sc l | _ => false }
  | .no a => { e := fun sc x => match x with | .UnaryOp .Not l _ => (ck a).e sc l | _ => false }
  | .bo k es => { e := fun sc x => match x with | .BoolOp p l _ => decide (p = if k then .And else .Or) && !l.isEmpty && (ck es).es sc l | _ => false }
  | .cmp o a b => { e := fun sc x => match x with | .Compare l [p] [r] _ => decide (p = cop o) && !isSetE r && (ck a).e sc l && (ck b).e sc r | _ => false }
  | .chn o q a b c => { e := fun sc x => match x with | .Compare l [p, p2] [r, r2] _ => decide (p = cop o) && decide (p2 = cop q) && !isSetE r2 && (ck a).e sc l && (ck b).e sc r && (ck c).e sc r2 | _ => false }
  | .ite c a b => { e := fun sc x => match x with | .IfExp t l r _ => (ck c).e sc t && (ck a).e sc l && (ck b).e sc r | _ => false }
  | .tup es => { e := fun sc x => match x with | .Tuple l _ _ => (ck es).es sc l | _ => false }
  | .lst es => { e := fun sc x => match x with | .List l _ => (ck es).es sc l | _ => false }
  | .nil => { es := fun _ xs => xs.isEmpty, kw := fun _ xs => xs.isEmpty, nl := true }
  | .cons a r => {
      es := fun sc xs => match xs with | x :: rest => !isStar x && (ck a).e sc x && (ck r).es sc rest | [] => false
      kw := fun sc xs => match xs with | ⟨some _, x, _⟩ :: rest => (ck a).e sc x && (ck r).kw sc rest | _ => false }
  | .ix a i => { e := fun sc x => match x with | .Subscript l r _ => !isSlice r && (ck a).e sc l && (ck i).e sc r | _ => false }
  | .sl a lo hi => { e := fun sc x => match x with
      | .Subscript l (.Slice u w none _) _ => (ck a).e sc l && (match u with | none => (ck lo).nl | some y => !(ck lo).nl && (ck lo).e sc y) && (match w with | none => (ck hi).nl | some y => !(ck hi).nl && (ck hi).e sc y)
      | _ => false }
  | .dnew => { e := fun _ x => match x with | .Dict [] [] _ => true | _ => false }
  | .call f es => { e := fun sc x => match x with
      | .Call (.Name y _) l [] _ => xs.isNone && globC sc y && (match FT[f]? with | some (z, np, nd) => decide (z = y) && decide (l.length ≤ np) && decide (np - l.length ≤ nd) | none => false) && (ck es).es sc l
      | _ => false }
  | .callk f ks es eks => { e := fun sc x => match x with
      | .Call (.Name y _) l kws _ => xs.isNone && globC sc y && (match FT[f]? with | some (z, _, _) => decide (z = y) | none => false) && decide ((f, l.length, ks) ∈ KT) && decide (kws.map (·.arg) = ks.map some) && !kws.isEmpty && (ck es).es sc l && (ck eks).kw sc kws
      | _ => false }
  | .bi f es => { e := fun sc x => match x with
      | .Call (.Name y _) l [] _ => xs.isNone && globC sc y && decide (y = (fbN f).1) && !l.isEmpty && (ck es).es sc l
      | _ => false }
  | .isi t a => { e := fun sc x => match x with
      | .Call (.Name y _) [l, .Name z _] [] _ => globC sc y && globC sc z && decide (y = "isinstance") && decide (z = (tkN t).1) && !isStar l && (ck a).e sc l
      | _ => false }
  | .mt m a es => { e := fun sc x => match x with
      | .Call (.Attribute o nm apos) l [] cpos => decide (nm = mtN m) && !isC0 o && (apos.endLine == cpos.line) && decide (l.length = mtA m) && (ck a).e sc o && (ck es).es sc l
      | _ => false }
  | .lc own t it c e => { e := fun sc x => match x with
      | .ListComp elt [⟨tg, iter, ifs, 0⟩] scope _ => xs.isNone && blkC N sc scope own && ckT N (ownC scope) t tg && (slotsT t).all (fun i => decide (i ∈ own.map (·.2))) && (ck it).it sc iter && !isSetE iter &&
          (match ifs with | [] => (ck c).nl | [y] => !(ck c).nl && (ck c).e (relS scope sc) y | _ => false) && (ck e).e (relS scope sc) elt && (!tt it || isTupE tg)
      | _ => false }
  | .dc own t it c k e => { e := fun sc x => match x with
      | .DictComp kx vx [⟨tg, iter, ifs, 0⟩] scope _ => xs.isNone && blkC N sc scope own && ckT N (ownC scope) t tg && (slotsT t).all (fun i => decide (i ∈ own.map (·.2))) && (ck it).it sc iter && !isSetE iter &&
          (match ifs with | [] => (ck c).nl | [y] => !(ck c).nl && (ck c).e (relS scope sc) y | _ => false) && (ck e).e (relS scope sc) vx && (!tt it || isTupE tg) && (ck k).e (relS scope sc) kx
      | _ => false }
  | .slr a => { e := fun sc x => match x with
      | .Subscript l (.Slice none none (some (.UnaryOp .USub (.Constant (.int j) _ _) _)) _) _ => decide (j = 1) && (ck a).e sc l
      | _ => false }
  | .dd2 a b c d => { e := fun sc x => match x with
      | .Dict [some k1, some k2] [v1, v2] _ => (ck a).e sc k1 && (ck b).e sc v1 && (ck c).e sc k2 && (ck d).e sc v2
      | _ => false }
  | .qe a => { it := fun sc x => match x with
      | .Call (.Name y _) [l] [] _ => globC sc y && decide (y = "enumerate") && !isStar l && (ck a).e sc l
      | _ => false }
  | .qv a => { it := fun sc x => match x with
      | .Call (.Name y _) [l] [] _ => globC sc y && decide (y = "reversed") && !isStar l && (ck a).e sc l
      | _ => false }
  | .qz2 a b => { it := fun sc x => match x with
      | .Call (.Name y _) [l, r] [] _ => globC sc y && decide (y = "zip") && !isStar l && !isStar r && (ck a).e sc l && (ck b).e sc r
      | _ => false }
  | .qz3 a b c => { it := fun sc x => match x with
      | .Call (.Name y _) [l, r, u] [] _ => globC sc y && decide (y = "zip") && !isStar l && !isStar r && !isStar u && (ck a).e sc l && (ck b).e sc r && (ck c).e sc u
      | _ => false }
  | .lk i e => { e := fun sc x => !(xs == some i) && (ck e).e sc x }
  | .xf i c k => { e := fun sc x => match x with | .Attribute (.Name y _) n _ => visC N sc i y && (xs == some i) && (match XT[c]? with | some (_, fs) => decide (fs[k]? = some n) | none => false) | _ => false }
  | .q a => { it := fun sc x => (ck a).e sc x }
  | .qr a => { it := fun sc x => match x with
      | .Call (.Name y _) [l] [] _ => globC sc y && decide (y = "range") && !isStar l && (ck a).e sc l
      | _ => false }
  | .qr2 a b => { it := fun sc x => match x with
      | .Call (.Name y _) [l, r] [] _ => globC sc y && decide (y = "range") && !isStar l && !isStar r && (ck a).e sc l && (ck b).e sc r
      | _ => false }
end

/-! ### what is known where an expression stands -/
def bNames : List Str := ["len", "abs", "max", "min", "sum", "sorted", "list", "tuple", "int", "all", "any", "isinstance", "range", "str", "bool", "enumerate", "reversed", "zip"]
/-- a call of the def number f with n values -/
def CallOk (X : Cx) (G : Gb) (F : Nat → List D → Store → R D) (f : Nat) (y : Str) (n : Nat) : Prop :=
  ∃ (a : Addr) (fd : FuncData) (ps : List Str) (ds : List Value) (dvs : List V) (sp : Sp) (k : Nat), X.mg y = some (.ref a) ∧ PySem.W.keepIn X.K (.ref a) = true ∧ FnOk X.prog X.w X.K X.mg X.base (L2.CX X.prog X.w) k a fd ps sp ∧ Room k X.A ∧
    Binds X.K fd ps ds ∧ Vals dvs ds ∧ ∀ (H : Hp) (b : List Addr) (S : Store) (vs : List V) (es : List D) (Q : VK) (Z : XK), Rel G H b S → RVs G H b es vs → es.length = n → (Wt G H b (F f es S) Z fun d _ H' b' => ∀ v, RV G H' b' d v → Q v H') → sp (vs ++ dvs) H Q Z
def CallKOk (X : Cx) (G : Gb) (FK : Nat → List Str → List D → List D → Store → R D) (f : Nat) (y : Str) (n : Nat) (ks : List Str) : Prop :=
  ∃ (a : Addr) (fd : FuncData) (ps : List Str) (g : List Value → List Value → List Value) (gV : List V → List V → List V) (sp : Sp) (k : Nat), X.mg y = some (.ref a) ∧ PySem.W.keepIn X.K (.ref a) = true ∧ FnOk X.prog X.w X.K X.mg X.base (L2.CX X.prog X.w) k a fd ps sp ∧ Room k X.A ∧
    KBn X.K fd ps n ks g gV ∧ ∀ (H : Hp) (b : List Addr) (S : Store) (vs ws : List V) (es fs : List D) (Q : VK) (Z : XK), Rel G H b S → RVs G H b es vs → RVs G H b fs ws → es.length = n → fs.length = ks.length → (Wt G H b (FK f ks es fs S) Z fun d _ H' b' => ∀ v, RV G H' b' d v → Q v H') → sp (gV vs ws) H Q Z
/-- an exception class: where it stands, its instances' fields -/
structure XclsOk (X : Cx) (G : Gb) (c : Nat) (y : Str) (fs : List Str) : Prop where
  at_ : X.mg y = some (.ref (G.cls c))
  fl : G.xt[c]? = some (y, fs)
  xf : ∀ f ∈ fs, XfC X.K (G.cls c) ∧ PySem.W.findIn X.K (.ref (G.cls c)) f = some none
/-- a caught exception's fields may be read -/
def XfOk (X : Cx) (G : Gb) : Prop := ∀ (e : Expr) (te : TE) (C : Addr) (n : Str) (pos : Pos), XfC X.K C → PySem.W.findIn X.K (.ref C) n = some none → PE X e te → attributeBase e n X.env (eval e X.env) = eval e X.env →
  PE X (.Attribute e n pos) (tXf G.cur.1 G.cur.2.1 G.cur.2.2 C n te)
structure Stand (G : Gb) (W : WX) (F : Nat → List D → Store → R D) (FK : Nat → List Str → List D → List D → Store → R D) (N : List Str) (FT : List (Str × Nat × Nat)) (KT : List (Nat × Nat × List Str)) (XT : List (Str × List Str)) (xs : Option Nat) (sc : Scope) (X : Cx) : Prop where
  eK : X.K = G.K
  eN : X.N = N
  nd : N.Nodup
  esc : X.env.scope = sc
  exs : G.xs = xs
  ext : G.xt = XT
  calm : xs = none → X.calm = true
  room : X.A.units + 64 < cLine
  mgb : ∀ y ∈ bNames, X.mg y = none
  call : xs = none → ∀ f y np nd n, FT[f]? = some (y, np, nd) → n ≤ np → np - n ≤ nd → CallOk X G F f y n
  callk : xs = none → ∀ f y np nd n ks, FT[f]? = some (y, np, nd) → (f, n, ks) ∈ KT → CallKOk X G FK f y n ks
  tk : Takes X W
  xcl : ∀ c y fs, XT[c]? = some (y, fs) → XclsOk X G c y fs
  xf : xs ≠ none → XfOk X G
theorem scope_blk {scope : Scope} {cl : List (Str × Addr)} {C : Addr} {env : Env} : (compEnvC scope cl C env).scope = relS scope env.scope := rfl
theorem Stand.blk {G : Gb} {W : WX} {F : Nat → List D → Store → R D} {FK : Nat → List Str → List D → List D → Store → R D} {N : List Str} {FT : List (Str × Nat × Nat)} {KT : List (Nat × Nat × List Str)} {XT : List (Str × List Str)} {sc : Scope} {X : Cx} (g : Stand G W F FK N FT KT XT none sc X)
    (s : Shared) (H : Hp) (scope : Scope) (cl : List (Str × Addr)) (C : Addr) (fp : List Addr) : Stand G noW F FK N FT KT XT none (relS scope sc) (X.blk s H scope (compEnvC scope cl C X.env) fp) :=
  ⟨g.eK, g.eN, g.nd, by rw [← g.esc]; exact scope_blk, g.exs, g.ext, g.calm, g.room, g.mgb, g.call, g.callk, takes_none5, fun c y fs h => ⟨(g.xcl c y fs h).at_, (g.xcl c y fs h).fl, (g.xcl c y fs h).xf⟩, fun n => (n rfl).elim⟩
theorem Stand.nox {G : Gb} {W : WX} {F : Nat → List D → Store → R D} {FK : Nat → List Str → List D → List D → Store → R D} {N : List Str} {FT : List (Str × Nat × Nat)} {KT : List (Nat × Nat × List Str)} {XT : List (Str × List Str)} {xs : Option Nat} {sc : Scope} {X : Cx} (g : Stand G W F FK N FT KT XT xs sc X) :
    Stand G noW F FK N FT KT XT xs sc X := { g with tk := takes_none5 }
theorem no_xs {xs : Option Nat} (h : xs.isNone = true) : xs = none := Option.isNone_iff_eq_none.mp h

section
variable {G : Gb} {X : Cx} {N : List Str}
theorem gl_of {sc : Scope} {y : Str} (hs : X.env.scope = sc) (h : globC sc y = true) : Gl X y ∧ (y == ("__debug__" : Str)) = false := by
  unfold globC at h
  rw [Bool.and_eq_true] at h
  refine ⟨?_, by simpa using h.2⟩
  show X.env.kindOf y = _
  unfold Env.kindOf
  rw [hs]
  exact of_decide_eq_true h.1

/-! ### targets -/
/-- a name that may be stored -/
def Sto (X : Cx) (y : Str) : Prop := Loc X.env.scope y ∧ (X.fn y = true ∨ X.env.scope.names.lookup y = some .local)
mutual
theorem snd_T (hN : X.N = N) (nd : N.Nodup) (hc : X.calm = true) (hK : X.K = G.K) {st : Str → Bool} (hst : ∀ y, st y = true → Sto X y) : ∀ (t : Tg) (x : Expr), ckT N st t x = true → PG X x (tG G t)
  | .nm i, x, h => by
    cases x with
    | Name y p =>
      simp only [ckT, Bool.and_eq_true] at h
      obtain ⟨l, f⟩ := hst y h.2
      refine (pg_name (i := i) (by rw [hN]; exact nd) (by rw [hN]; exact of_decide_eq_true h.1) l f).wk fun v σ H Q ⟨b, S, ls, d, ls', r, rl, rv, e, q⟩ => ?_
      simp only [asgT, Option.some.injEq] at e
      subst e
      exact q _ (rl.set i rv) fun vs hv => wipe_set (hv i List.mem_cons_self)
    | _ => simp [ckT] at h
  | .tup t, x, h => by
    cases x with
    | Tuple es k p =>
      simp only [ckT, Bool.and_eq_true] at h
      have ih := snd_Ts hN nd hc hK hst t es h.2
      have n1 := (each_of (env := X.env) h.1).1
      have n2 := each_none (env := X.env) h.1
      refine ((pg_tup hc ih n1 n2).orr (pg_unl hc ih n1 n2)).wk fun v σ H Q ⟨b, S, ls, d, ls', r, rl, rv, e, q⟩ => ?_
      simp only [asgT] at e
      split at e
      · rename_i ds es'
        obtain ⟨a, vs, rfl, hs, kv⟩ := seq_at r rv es'
        have hl : vs.length = es.length := by
          rw [← kv.length]
          have len : ∀ (t : Tg) (ds : List D) (es : List Expr) (ls ls' : Ls), asgTs t ds S ls = some ls' → ckTs N st t es = true → ds.length = es.length := by
            intro t
            induction t with
            | nil =>
              intro ds es ls ls' e c
              cases ds with
              | nil => simp only [ckTs, List.isEmpty_iff] at c; subst c; rfl
              | cons d ds => simp [asgTs] at e
            | cons t r iht ihr =>
              intro ds es ls ls' e c
              cases ds with
              | nil => simp [asgTs] at e
              | cons d ds =>
                cases es with
                | nil => simp [ckTs] at c
                | cons x es =>
                  simp only [asgTs] at e
                  split at e
                  · simp only [ckTs, Bool.and_eq_true] at c
                    rw [List.length_cons, List.length_cons, ihr _ _ _ _ e c.2]
                  · cases e
            | nm i => intro ds es ls ls' e c; simp [asgTs] at e
            | tup t iht => intro ds es ls ls' e c; simp [asgTs] at e
          exact len t ds es ls ls' e h.2
        rw [hK]
        rcases hs with hs | hs
        · exact .inr ⟨a, vs, rfl, hs, hl, b, S, ls, ds, ls', r, rl, kv, e, q⟩
        · exact .inl ⟨a, vs, rfl, hs, hl, b, S, ls, ds, ls', r, rl, kv, e, q⟩
      · cases e
    | _ => simp [ckT] at h
  | .nil, x, h => by simp [ckT] at h
  | .cons _ _, x, h => by simp [ckT] at h
theorem snd_Ts (hN : X.N = N) (nd : N.Nodup) (hc : X.calm = true) (hK : X.K = G.K) {st : Str → Bool} (hst : ∀ y, st y = true → Sto X y) : ∀ (t : Tg) (xs : List Expr), ckTs N st t xs = true → PGs X xs (tGs G t)
  | .nil, xs, h => by
    simp only [ckTs, List.isEmpty_iff] at h
    subst h
    refine pgs_nil.wk fun vs σ H Q ⟨b, S, ls, ds, ls', r, rl, rv, e, q⟩ => ?_
    cases ds with
    | nil =>
      simp only [asgTs, Option.some.injEq] at e
      subst e
      simp only [RVs] at rv
      exact ⟨rv, q _ rl fun _ _ => rfl⟩
    | cons d ds => simp [asgTs] at e
  | .cons t rr, xs, h => by
    cases xs with
    | nil => simp [ckTs] at h
    | cons x xs =>
      simp only [ckTs, Bool.and_eq_true] at h
      have hs : isStar x = false := by simpa using h.1.1
      refine (pgs_cons (snd_T hN nd hc hK hst t x h.1.2) (snd_Ts hN nd hc hK hst rr xs h.2) (each_cons hs)).wk fun vs σ H Q ⟨b, S, ls, ds, ls', r, rl, rv, e, q⟩ => ?_
      cases ds with
      | nil => simp [asgTs] at e
      | cons d ds =>
        simp only [RVs] at rv
        obtain ⟨v, r2, rfl, rv1, rv2⟩ := rv
        simp only [asgTs] at e
        split at e
        · rename_i ls1 e1
          exact ⟨v, r2, rfl, b, S, ls, d, ls1, r, rl, rv1, e1, fun σ' rl' k1 => ⟨b, S, ls1, ds, ls', r, rl', rv2, e, fun σ2 rl2 k2 => q σ2 rl2 fun vs hv => (k2 vs fun i hi => hv i (List.mem_append_right _ hi)).trans (k1 vs fun i hi => hv i (List.mem_append_left _ hi))⟩⟩
        · cases e
  | .nm _, xs, h => by simp [ckTs] at h
  | .tup _, xs, h => by simp [ckTs] at h
end
end
end PV

set_option Elab.async false
set_option linter.all false
set_option maxRecDepth 100000
set_option maxHeartbeats 2000000
/-! PV: expressions run as their E says. -/
namespace PV
open PySem PySem.Spec PyProof.Rows L2

section
variable {G : Gb} {H H1 : Hp} {b b1 : List Addr} {S S1 : Store}
theorem bind_ok {α β : Type} {r : R α} {k : α → Store → R β} {a : β} {S' : Store} (h : r.bind k = .ok a S') : ∃ x S1, r = .ok x S1 ∧ k x S1 = .ok a S' := by
  cases r with
  | ok x S1 => exact ⟨x, S1, rfl, h⟩
  | exc c ds S1 => cases h
  | bad => cases h
theorem Want.mono {r : R D} {Q : VK} (p : Post G H b H1 b1 S1) (w : Want G H b r Q) : Want G H1 b1 r Q := by
  obtain ⟨d, S', e, q⟩ := w
  exact ⟨d, S', e, fun v H' b' p' rv => q v H' b' (p.trans p') rv⟩
theorem two {W : WX} {fa fb : Ls → Store → R D} {g : D → D → Store → R D} (ng : ∀ x y S, NoX (g x y S)) {σ : L2.St} {Q : VK} (h : tE G W (fun ls S => (fa ls S).bind fun x S1 => (fb ls S1).bind fun y S2 => g x y S2) σ H Q) : tOp (rOp G g) (tE G W fa) (tE G W fb) σ H Q := by
  obtain ⟨b, S, ls, r, rl, w⟩ := h
  exact ⟨b, S, ls, r, rl, (wt_bind w).imp fun x S1 H1 b1 p1 _ w v rv1 => ⟨b1, S1, ls, p1.rel, p1.rl rl, (wt_bind w).imp fun y S2 H2 b2 p2 _ w u rv2 => ⟨b2, S2, x, y, p2.rel, p2.rv rv1, rv2, w.want (ng x y S2)⟩⟩⟩
theorem one {W : WX} {fa : Ls → Store → R D} {g : D → Store → R D} (ng : ∀ x S, NoX (g x S)) {σ : L2.St} {Q : VK} (h : tE G W (fun ls S => (fa ls S).bind fun x S1 => g x S1) σ H Q) : tE G W fa σ H fun v H1 => rOp1 G g v H1 Q := by
  obtain ⟨b, S, ls, r, rl, w⟩ := h
  exact ⟨b, S, ls, r, rl, (wt_bind w).imp fun x S1 H1 b1 p1 _ w v rv1 => ⟨b1, S1, x, p1.rel, rv1, w.want (ng x S1)⟩⟩
theorem args {W : WX} {fa : Ls → Store → R (List D)} {g : List D → Store → R D} (ng : ∀ x S, NoX (g x S)) {σ : L2.St} {Q : VK} (h : tE G W (fun ls S => (fa ls S).bind fun x S1 => g x S1) σ H Q) : tA G W fa σ H fun vs H1 => rCl G g vs H1 Q := by
  obtain ⟨b, S, ls, r, rl, w⟩ := h
  exact ⟨b, S, ls, r, rl, (wt_bind w).imp fun x S1 H1 b1 p1 _ w v rv1 => ⟨b1, S1, x, p1.rel, rv1, w.want (ng x S1)⟩⟩
theorem nx_ok {α : Type} {a : α} : NoX (.ok a S) := fun _ _ _ e => by cases e
theorem nx_bad {α : Type} : NoX (.bad : R α) := fun _ _ _ e => by cases e
theorem nx_opt {α : Type} {o : Option α} : NoX (opt o S) := by cases o <;> intro _ _ _ e <;> cases e
theorem nx_bin {o : Bo} {x y : D} : NoX (binD o x y S) := by
  intro c ds S' e
  unfold binD at e
  repeat' split at e
  all_goals cases e
theorem nx_sl {x : D} {lo hi : Option Int} : NoX (slD x lo hi S) := by
  intro c ds S' e
  unfold slD at e
  repeat' split at e
  all_goals cases e
theorem nx_fb {f : Fb} {ds : List D} : NoX (fbD f ds S) := by
  intro c es S' e
  unfold fbD at e
  repeat' split at e
  all_goals cases e
theorem nx_mt {k : Mt} {x : D} {ds : List D} : NoX (mtD k x ds S) := by
  intro c es S' e
  unfold mtD at e
  repeat' split at e
  all_goals cases e
/-- here, a scalar -/
theorem wt_val {d : D} {v : V} {Z : XK} {Q : VK} (r : Rel G H b S) (w : Wt G H b (.ok d S) Z fun d _ H' b' => ∀ v, RV G H' b' d v → Q v H') (e : RV G H b d v) : Q v H := wt_here r w v e
theorem ok_inj {α : Type} {a c : α} (h : R.ok a S = R.ok c S1) : a = c ∧ S = S1 := by cases h; exact ⟨rfl, rfl⟩
/-- a test, by the truth of the value -/
theorem tru_ok' {r : R D} {k : Bool} {S' : Store} (h : tru r = .ok k S') : ∃ d, r = .ok d S' ∧ truD d S' = some k := by
  obtain ⟨d, S1, e1, e2⟩ := bind_ok h
  cases q : truD d S1 with
  | none => rw [q] at e2; cases e2
  | some j =>
    rw [q] at e2
    cases e2
    exact ⟨d, e1, q⟩
end

section
variable {G : Gb} {F : Nat → List D → Store → R D} {FK : Nat → List Str → List D → List D → Store → R D} {m : Nat} {N : List Str} {FT : List (Str × Nat × Nat)} {KT : List (Nat × Nat × List Str)} {XT : List (Str × List Str)} {xo : Option Nat}

structure Snd (G : Gb) (F : Nat → List D → Store → R D) (FK : Nat → List Str → List D → List D → Store → R D) (m : Nat) (N : List Str) (FT : List (Str × Nat × Nat)) (KT : List (Nat × Nat × List Str)) (XT : List (Str × List Str)) (xo : Option Nat) (e : E) : Prop where
  val : ∀ (W : WX) (X : Cx) (sc : Scope) (x : Expr), Stand G W F FK N FT KT XT xo sc X → (ck N FT KT XT xo e).e sc x = true → PE X x (tE G W (ev F FK m e).val)
  tst : ∀ (W : WX) (X : Cx) (sc : Scope) (x : Expr), Stand G W F FK N FT KT XT xo sc X → (ck N FT KT XT xo e).e sc x = true → PT X x (tT G W (ev F FK m e).tst)
  lst : ∀ (W : WX) (X : Cx) (sc : Scope) (xs : List Expr), Stand G W F FK N FT KT XT xo sc X → (ck N FT KT XT xo e).es sc xs = true → PA X xs (tA G W (ev F FK m e).lst)
  noS : ∀ (sc : Scope) (xs : List Expr), (ck N FT KT XT xo e).es sc xs = true → xs.all (fun e => !isStar e) = true
  nlq : (ck N FT KT XT xo e).nl = (ev F FK m e).nl
  nlx : ∀ (sc : Scope) (xs : List Expr), (ck N FT KT XT xo e).es sc xs = true → ((ev F FK m e).nl = true ↔ xs = [])
  bov : ∀ (W : WX) (X : Cx) (sc : Scope) (xs : List Expr), Stand G W F FK N FT KT XT xo sc X → (ck N FT KT XT xo e).es sc xs = true → xs ≠ [] → ∀ (k : Bool) (pos : Pos), PE X (.BoolOp (if k then .And else .Or) xs pos) (tE G W ((ev F FK m e).bov k))
  bot : ∀ (W : WX) (X : Cx) (sc : Scope) (xs : List Expr), Stand G W F FK N FT KT XT xo sc X → (ck N FT KT XT xo e).es sc xs = true → xs ≠ [] → ∀ (k : Bool) (pos : Pos), PW X (.BoolOp (if k then .And else .Or) xs pos) (tT G W ((ev F FK m e).bot k))
  kws : ∀ (W : WX) (X : Cx) (sc : Scope) (ks : List Keyword), Stand G W F FK N FT KT XT xo sc X → (ck N FT KT XT xo e).kw sc ks = true → PK X ks (tA G W (ev F FK m e).lst) ∧ ∀ env pos, (backToKw pos (keywordEach ks env)).filterMap (·.1) = ks.filterMap (·.arg) ∧ (backToKw pos (keywordEach ks env)).all (·.1.isSome) = true ∧ (backToKw pos (keywordEach ks env)).any (·.1.isNone) = false
  lnE : ∀ (sc : Scope) (xs : List Expr), (ck N FT KT XT xo e).es sc xs = true → ∀ (ls : Ls) (S : Store) (ds : List D) (S' : Store), (ev F FK m e).lst ls S = .ok ds S' → ds.length = xs.length
  lnK : ∀ (sc : Scope) (xs : List Keyword), (ck N FT KT XT xo e).kw sc xs = true → ∀ (ls : Ls) (S : Store) (ds : List D) (S' : Store), (ev F FK m e).lst ls S = .ok ds S' → ds.length = xs.length
  nil0 : (ev F FK m e).nl = true → ∀ (ls : Ls) (S : Store), (ev F FK m e).lst ls S = .ok [] S
  itv : ∀ (W : WX) (X : Cx) (sc : Scope) (tg x : Expr), Stand G W F FK N FT KT XT xo sc X → (ck N FT KT XT xo e).it sc x = true → (tt e = true → isTupE tg = true) → PI X tg x (tI G W (ev F FK m e).itv)
/-- an expression that is a value and nothing else -/
theorem Snd.mk' {e : E} (h1 : (ck N FT KT XT xo e).es = fun _ _ => false) (h2 : (ck N FT KT XT xo e).kw = fun _ _ => false) (h3 : (ck N FT KT XT xo e).it = fun _ _ => false) (h4 : (ck N FT KT XT xo e).nl = false) (h5 : (ev F FK m e).nl = false)
    (val : ∀ (W : WX) (X : Cx) (sc : Scope) (x : Expr), Stand G W F FK N FT KT XT xo sc X → (ck N FT KT XT xo e).e sc x = true → PE X x (tE G W (ev F FK m e).val))
    (tst : ∀ (W : WX) (X : Cx) (sc : Scope) (x : Expr), Stand G W F FK N FT KT XT xo sc X → (ck N FT KT XT xo e).e sc x = true → PT X x (tT G W (ev F FK m e).tst)) : Snd G F FK m N FT KT XT xo e :=
  by
  refine ⟨val, tst, ?_, ?_, h4.trans h5.symm, ?_, ?_, ?_, ?_, ?_, ?_, ?_, ?_⟩
  · intro _ _ _ _ _ h; rw [h1] at h; cases h
  · intro _ _ h; rw [h1] at h; cases h
  · intro _ _ h; rw [h1] at h; cases h
  · intro _ _ _ _ _ h; rw [h1] at h; cases h
  · intro _ _ _ _ _ h; rw [h1] at h; cases h
  · intro _ _ _ _ _ h; rw [h2] at h; cases h
  · intro _ _ h; rw [h1] at h; cases h
  · intro _ _ h; rw [h2] at h; cases h
  · intro h; rw [h5] at h; cases h
  · intro _ _ _ _ _ _ h _; rw [h3] at h; cases h
theorem tru_bind {r : R D} : tru r = r.bind fun x S1 => opt (truD x S1) S1 := rfl
theorem tst_of {W : WX} {X : Cx} {x : Expr} {f : Ls → Store → R D} (hK : X.K = G.K) (h : PE X x (tE G W f)) (hx : ∀ whole, isTrue x X.env whole = (do let v ← whole; standAt x.pos; holding [v] (truthy v))) : PT X x (tT G W fun ls S => tru (f ls S)) := by
  refine (pt_truth h hx).wk fun σ H Q ⟨b, S, ls, r, rl, w⟩ => ?_
  refine ⟨b, S, ls, r, rl, (wt_bind w).imp fun d S1 H1 b1 p1 _ w v rv => ?_⟩
  cases e : truD d S1 with
  | none => rw [e] at w; exact w.elim
  | some k =>
    rw [e] at w
    exact ⟨k, truV_of' hK p1.rel rv e, wt_here p1.rel w⟩
/-- .. of a value that is a truth value -/
theorem tst_bl {W : WX} {X : Cx} {x : Expr} {f : Ls → Store → R D} {t : TE} (h : PT X x (tTest t)) (ht : ∀ σ H Q, tE G W f σ H Q → t σ H Q) (hb : ∀ ls S d S', f ls S = .ok d S' → ∃ k, d = .bl k) : PT X x (tT G W fun ls S => tru (f ls S)) := by
  refine h.wk fun σ H Q ⟨b, S, ls, r, rl, w⟩ => ?_
  refine ht σ H _ ⟨b, S, ls, r, rl, (wt_bind w).imp fun d S1 H1 b1 p1 e1 w v rv => ?_⟩
  obtain ⟨j, rfl⟩ := hb _ _ _ _ e1
  exact ⟨j, rv_bl.mp rv, wt_here p1.rel w⟩
theorem opt_blv {o : Option Bool} {S S' : Store} {d : D} (h : opt (o.map D.bl) S = .ok d S') : ∃ k, d = .bl k := by
  cases o with
  | none => cases h
  | some k => cases h; exact ⟨k, rfl⟩

theorem behind_of {o : CmpOp} {e : Expr} (h : isSetE e = false) : behindInMarks o e = false := by
  cases e <;> first | rfl | (simp [isSetE] at h)

theorem pt_ifExp {X : Cx} {c a b : Expr} {pos : Pos} {tc t u : TT} (hc : PT X c tc) (ha : PT X a t) (hb : PT X b u) : PT X (.IfExp c a b pos) (fun σ H Q => tc σ H fun k H1 => if k = true then t σ H1 Q else u σ H1 Q) := by
  refine ⟨fun pins s σ H Q I h => ?_⟩
  have e : isTrue (.IfExp c a b pos) X.env (eval (.IfExp c a b pos) X.env) = (do if ← isTrue c X.env (eval c X.env) then isTrue a X.env (eval a X.env) else isTrue b X.env (eval b X.env)) := by rfl
  rw [e]
  refine wpAny_bind (thn (hc.run pins s σ H _ I h) fun d s1 ⟨H1, I1, q1⟩ => ?_)
  cases d with
  | true => exact ha.run pins s1 σ H1 Q I1 q1
  | false => exact hb.run pins s1 σ H1 Q I1 q1

theorem snd_non : Snd G F FK m N FT KT XT xo .non := by
  have val : ∀ (W : WX) (X : Cx) (sc : Scope) (x : Expr), Stand G W F FK N FT KT XT xo sc X → (ck N FT KT XT xo .non).e sc x = true → PE X x (tE G W (ev F FK m .non).val) ∧ PT X x (tT G W (ev F FK m .non).tst) := fun W X sc x g h => by
    simp only [ck] at h
    split at h
    · refine ⟨?v, tst_of g.eK ?v fun _ => rfl⟩
      exact pe_non.wk fun σ H Q ⟨b, S, ls, r, rl, w⟩ => wt_val r w (rv_non.mpr rfl)
    · cases h
  exact .mk' rfl rfl rfl rfl rfl (fun W X sc x g h => (val W X sc x g h).1) fun W X sc x g h => (val W X sc x g h).2
theorem snd_bl {k : Bool} : Snd G F FK m N FT KT XT xo (.bl k) := by
  have val : ∀ (W : WX) (X : Cx) (sc : Scope) (x : Expr), Stand G W F FK N FT KT XT xo sc X → (ck N FT KT XT xo (.bl k)).e sc x = true → PE X x (tE G W (ev F FK m (.bl k)).val) ∧ PT X x (tT G W (ev F FK m (.bl k)).tst) := fun W X sc x g h => by
    simp only [ck] at h
    split at h
    · obtain rfl := eq_of_beq h
      refine ⟨?v, tst_of g.eK ?v fun _ => rfl⟩
      exact pe_bl.wk fun σ H Q ⟨b, S, ls, r, rl, w⟩ => wt_val r w (rv_bl.mpr rfl)
    · cases h
  exact .mk' rfl rfl rfl rfl rfl (fun W X sc x g h => (val W X sc x g h).1) fun W X sc x g h => (val W X sc x g h).2
theorem snd_int {k : Int} : Snd G F FK m N FT KT XT xo (.int k) := by
  have val : ∀ (W : WX) (X : Cx) (sc : Scope) (x : Expr), Stand G W F FK N FT KT XT xo sc X → (ck N FT KT XT xo (.int k)).e sc x = true → PE X x (tE G W (ev F FK m (.int k)).val) ∧ PT X x (tT G W (ev F FK m (.int k)).tst) := fun W X sc x g h => by
    simp only [ck] at h
    split at h
    · obtain rfl := of_decide_eq_true h
      refine ⟨?v, tst_of g.eK ?v fun _ => rfl⟩
      exact pe_int.wk fun σ H Q ⟨b, S, ls, r, rl, w⟩ => wt_val r w (rv_int.mpr rfl)
    · cases h
  exact .mk' rfl rfl rfl rfl rfl (fun W X sc x g h => (val W X sc x g h).1) fun W X sc x g h => (val W X sc x g h).2
theorem small1000' {n : Nat} (h : n ≤ 1000) : n ≤ sizeLine := by have e : sizeLine = 16777216 := sizeLine_eq; omega
theorem snd_str {k : Str} : Snd G F FK m N FT KT XT xo (.str k) := by
  have val : ∀ (W : WX) (X : Cx) (sc : Scope) (x : Expr), Stand G W F FK N FT KT XT xo sc X → (ck N FT KT XT xo (.str k)).e sc x = true → PE X x (tE G W (ev F FK m (.str k)).val) ∧ PT X x (tT G W (ev F FK m (.str k)).tst) := fun W X sc x g h => by
    simp only [ck] at h
    split at h
    · rw [Bool.and_eq_true] at h
      obtain rfl := of_decide_eq_true h.1
      have l := small1000' (of_decide_eq_true h.2)
      refine ⟨?v, tst_of g.eK ?v fun _ => rfl⟩
      exact pe_str.wk fun σ H Q ⟨b, S, ls, r, rl, w⟩ => wt_val r w (rv_str.mpr ⟨rfl, l⟩)
    · cases h
  exact .mk' rfl rfl rfl rfl rfl (fun W X sc x g h => (val W X sc x g h).1) fun W X sc x g h => (val W X sc x g h).2
theorem snd_v {i : Nat} : Snd G F FK m N FT KT XT xo (.v i) := by
  have val : ∀ (W : WX) (X : Cx) (sc : Scope) (x : Expr), Stand G W F FK N FT KT XT xo sc X → (ck N FT KT XT xo (.v i)).e sc x = true → PE X x (tE G W (ev F FK m (.v i)).val) ∧ PT X x (tT G W (ev F FK m (.v i)).tst) := fun W X sc x g h => by
    simp only [ck] at h
    split at h
    · rename_i y p
      rw [Bool.and_eq_true] at h
      obtain ⟨h, hx⟩ := h
      have hx : G.xs ≠ some i := by rw [g.exs]; simpa using hx
      unfold visC at h
      rw [Bool.and_eq_true, Bool.and_eq_true, Bool.and_eq_true] at h
      obtain ⟨⟨⟨h1, h2⟩, h3⟩, h4⟩ := h
      have hv : Vis X.env.scope y := by
        rw [g.esc]
        split at h2
        · exact .inl (by assumption)
        · exact .inr (.inl (by assumption))
        · exact .inr (.inr (by assumption))
        · cases h2
      refine ⟨?v, tst_of g.eK ?v fun _ => rfl⟩
      exact (pe_var (i := i) (by rw [g.eN]; exact of_decide_eq_true h1) hv (by simpa using h3) (by simpa using h4)).wk fun σ H Q ⟨b, S, ls, r, rl, w⟩ => by
        have w : Wt G H b (match ls[i]? with | some (some d) => R.ok d S | _ => R.bad) (wz W σ) _ := w
        split at w
        · rename_i d e
          obtain ⟨v, e1, e2⟩ := rl.at_ i d hx e
          exact ⟨v, e1, wt_val r w e2⟩
        · exact w.elim
    · cases h
  exact .mk' rfl rfl rfl rfl rfl (fun W X sc x g h => (val W X sc x g h).1) fun W X sc x g h => (val W X sc x g h).2
theorem snd_bin {o : Bo} {a c : E} (ha : Snd G F FK m N FT KT XT xo a) (hc : Snd G F FK m N FT KT XT xo c) : Snd G F FK m N FT KT XT xo (.bin o a c) := by
  have val : ∀ (W : WX) (X : Cx) (sc : Scope) (x : Expr), Stand G W F FK N FT KT XT xo sc X → (ck N FT KT XT xo (.bin o a c)).e sc x = true → PE X x (tE G W (ev F FK m (.bin o a c)).val) ∧ PT X x (tT G W (ev F FK m (.bin o a c)).tst) := fun W X sc x g h => by
    simp only [ck] at h
    split at h
    · rw [Bool.and_eq_true, Bool.and_eq_true] at h
      obtain ⟨⟨h1, h2⟩, h3⟩ := h
      obtain rfl := of_decide_eq_true h1
      refine ⟨?v, tst_of g.eK ?v fun _ => rfl⟩
      exact (pe_op (op_binD g.eK o) (ha.val W X sc _ g h2) (hc.val W X sc _ g h3)).wk fun σ H Q w => two (fun _ _ _ => nx_bin) w
    · cases h
  exact .mk' rfl rfl rfl rfl rfl (fun W X sc x g h => (val W X sc x g h).1) fun W X sc x g h => (val W X sc x g h).2
theorem snd_neg {a : E} (ha : Snd G F FK m N FT KT XT xo a) : Snd G F FK m N FT KT XT xo (.neg a) := by
  have val : ∀ (W : WX) (X : Cx) (sc : Scope) (x : Expr), Stand G W F FK N FT KT XT xo sc X → (ck N FT KT XT xo (.neg a)).e sc x = true → PE X x (tE G W (ev F FK m (.neg a)).val) ∧ PT X x (tT G W (ev F FK m (.neg a)).tst) := fun W X sc x g h => by
    simp only [ck] at h
    split at h
    · refine ⟨?v, tst_of g.eK ?v fun _ => rfl⟩
      exact (pe_un un_neg (ha.val W X sc _ g h)).wk fun σ H Q w => by
        obtain ⟨b, S, ls, r, rl, w⟩ := w
        refine ⟨b, S, ls, r, rl, (wt_bind w).imp fun d S1 H1 b1 p1 _ w v rv1 => ?_⟩
        cases d with
        | int i =>
          obtain rfl := rv_int.mp rv1
          exact ⟨i, rfl, wt_val p1.rel w (rv_int.mpr rfl)⟩
        | _ => exact w.elim
    · cases h
  exact .mk' rfl rfl rfl rfl rfl (fun W X sc x g h => (val W X sc x g h).1) fun W X sc x g h => (val W X sc x g h).2
theorem snd_no {a : E} (ha : Snd G F FK m N FT KT XT xo a) : Snd G F FK m N FT KT XT xo (.no a) := by
  refine .mk' rfl rfl rfl rfl rfl (fun W X sc x g h => ?_) fun W X sc x g h => ?_
  · simp only [ck] at h
    split at h
    · refine (pe_notT (ha.val W X sc _ g h)).wk fun σ H Q w => ?_
      obtain ⟨b, S, ls, r, rl, w⟩ := w
      refine ⟨b, S, ls, r, rl, (wt_bind w).imp fun d S1 H1 b1 p1 _ w v rv1 => ?_⟩
      cases q : truD d S1 with
      | none => rw [q] at w; exact w.elim
      | some k =>
        rw [q] at w
        exact ⟨k, truV_of' g.eK p1.rel rv1 q, wt_val p1.rel w (rv_bl.mpr rfl)⟩
    · cases h
  · simp only [ck] at h
    split at h
    · refine (pt_not (ha.tst W X sc _ g h)).wk fun σ H Q ⟨b, S, ls, r, rl, w⟩ => ?_
      exact ⟨b, S, ls, r, rl, (wt_bind w).imp fun j S1 H1 b1 p1 _ w => wt_here p1.rel w⟩
    · cases h
theorem snd_bo {k : Bool} {es : E} (hs : Snd G F FK m N FT KT XT xo es) : Snd G F FK m N FT KT XT xo (.bo k es) := by
  refine .mk' rfl rfl rfl rfl rfl (fun W X sc x g h => ?_) fun W X sc x g h => ?_
  · simp only [ck] at h
    split at h
    · rw [Bool.and_eq_true, Bool.and_eq_true] at h
      obtain rfl := of_decide_eq_true h.1.1
      exact hs.bov W X sc _ g h.2 (fun e => by rw [e] at h; simp at h) k _
    · cases h
  · simp only [ck] at h
    split at h
    · rw [Bool.and_eq_true, Bool.and_eq_true] at h
      obtain rfl := of_decide_eq_true h.1.1
      exact (hs.bot W X sc _ g h.2 (fun e => by rw [e] at h; simp at h) k _).pt
    · cases h
theorem snd_cmp {o : Co} {a c : E} (ha : Snd G F FK m N FT KT XT xo a) (hc : Snd G F FK m N FT KT XT xo c) : Snd G F FK m N FT KT XT xo (.cmp o a c) := by
  refine .mk' rfl rfl rfl rfl rfl (fun W X sc x g h => ?_) fun W X sc x g h => ?_
  · simp only [ck] at h
    split at h
    · rw [Bool.and_eq_true, Bool.and_eq_true, Bool.and_eq_true] at h
      obtain ⟨⟨⟨h1, h2⟩, h3⟩, h4⟩ := h
      obtain rfl := of_decide_eq_true h1
      exact (pe_cmpR (op_cmpD g.eK g.room o) (ha.val W X sc _ g h3) (hc.val W X sc _ g h4) (behind_of (by simpa using h2))).wk fun σ H Q w => two (fun _ _ _ => nx_opt) w
    · cases h
  · simp only [ck] at h
    split at h
    · rw [Bool.and_eq_true, Bool.and_eq_true, Bool.and_eq_true] at h
      obtain ⟨⟨⟨h1, h2⟩, h3⟩, h4⟩ := h
      obtain rfl := of_decide_eq_true h1
      refine tst_bl (pt_cmpR (op_cmpD g.eK g.room o) (ha.val W X sc _ g h3) (hc.val W X sc _ g h4) (behind_of (by simpa using h2))) (fun σ H Q w => two (fun _ _ _ => nx_opt) w) fun ls S d S' e => ?_
      obtain ⟨_, _, _, e⟩ := bind_ok e
      obtain ⟨_, _, _, e⟩ := bind_ok e
      exact opt_blv e
    · cases h
theorem chain_of {W : WX} {X : Cx} (g : X.K = G.K) {o p : Co} {fa fb fc : Ls → Store → R D} {σ : L2.St} {H : Hp} {Q : VK}
    (h : tE G W (fun ls S => (fa ls S).bind fun x S1 => (fb ls S1).bind fun y S2 => match cmpD o x y S2 with
      | some true => (fc ls S2).bind fun z S3 => opt ((cmpD p y z S3).map .bl) S3
      | some false => .ok (.bl false) S2
      | none => .bad) σ H Q) : tChain (rOp G fun x y S => opt ((cmpD o x y S).map .bl) S) (rOp G fun x y S => opt ((cmpD p x y S).map .bl) S) (tE G W fa) (tE G W fb) (tE G W fc) σ H Q := by
  obtain ⟨b, S, ls, r, rl, w⟩ := h
  refine ⟨b, S, ls, r, rl, (wt_bind w).imp fun x S1 H1 b1 p1 _ w v rv1 => ⟨b1, S1, ls, p1.rel, p1.rl rl, (wt_bind w).imp fun y S2 H2 b2 p2 _ w u rv2 => ⟨b2, S2, x, y, p2.rel, p2.rv rv1, rv2, ?_⟩⟩⟩
  cases q : cmpD o x y S2 with
  | none => rw [q] at w; exact w.elim
  | some k =>
    rw [q] at w
    refine ⟨.bl k, S2, (by show opt ((cmpD o x y S2).map D.bl) S2 = _; rw [q]; rfl), fun v3 H3 b3 p3 rv3 => ⟨k, rv_bl.mp rv3, ?_⟩⟩
    cases k with
    | false =>
      rw [if_neg Bool.false_ne_true]
      exact wt_val p3.rel (w.mono p3) (rv_bl.mpr rfl)
    | true =>
      rw [if_pos rfl]
      exact ⟨b3, S2, ls, p3.rel, p3.rl (p2.rl (p1.rl rl)), (wt_bind (w.mono p3)).imp fun z S3 H4 b4 p4 _ w v4 rv4 => ⟨b4, S3, y, z, p4.rel, p4.rv (p3.rv rv2), rv4, w.want nx_opt⟩⟩
theorem snd_chn {o p : Co} {a b c : E} (ha : Snd G F FK m N FT KT XT xo a) (hb : Snd G F FK m N FT KT XT xo b) (hc : Snd G F FK m N FT KT XT xo c) : Snd G F FK m N FT KT XT xo (.chn o p a b c) := by
  refine .mk' rfl rfl rfl rfl rfl (fun W X sc x g h => ?_) fun W X sc x g h => ?_
  · simp only [ck] at h
    split at h
    · simp only [Bool.and_eq_true] at h
      obtain ⟨⟨⟨⟨⟨h1, h2⟩, h3⟩, h4⟩, h5⟩, h6⟩ := h
      obtain rfl := of_decide_eq_true h1
      obtain rfl := of_decide_eq_true h2
      exact (pe_chain (op_cmpD g.eK g.room o) (op_cmpD g.eK g.room p) (ha.val W X sc _ g h4) (hb.val W X sc _ g h5) (hc.val W X sc _ g h6) (behind_of (by simpa using h3))).wk fun σ H Q w => chain_of g.eK w
    · cases h
  · simp only [ck] at h
    split at h
    · simp only [Bool.and_eq_true] at h
      obtain ⟨⟨⟨⟨⟨h1, h2⟩, h3⟩, h4⟩, h5⟩, h6⟩ := h
      obtain rfl := of_decide_eq_true h1
      obtain rfl := of_decide_eq_true h2
      refine tst_bl (pt_chain (op_cmpD g.eK g.room o) (op_cmpD g.eK g.room p) (ha.val W X sc _ g h4) (hb.val W X sc _ g h5) (hc.val W X sc _ g h6) (behind_of (by simpa using h3))) (fun σ H Q w => chain_of g.eK w) fun ls S d S' e => ?_
      obtain ⟨_, _, _, e⟩ := bind_ok e
      obtain ⟨_, _, _, e⟩ := bind_ok e
      split at e
      · obtain ⟨_, _, _, e⟩ := bind_ok e
        exact opt_blv e
      · cases e; exact ⟨_, rfl⟩
      · cases e
    · cases h
theorem snd_ite {c a b : E} (hc : Snd G F FK m N FT KT XT xo c) (ha : Snd G F FK m N FT KT XT xo a) (hb : Snd G F FK m N FT KT XT xo b) : Snd G F FK m N FT KT XT xo (.ite c a b) := by
  refine .mk' rfl rfl rfl rfl rfl (fun W X sc x g h => ?_) fun W X sc x g h => ?_
  · simp only [ck] at h
    split at h
    · simp only [Bool.and_eq_true] at h
      obtain ⟨⟨h1, h2⟩, h3⟩ := h
      refine (pe_ifExp (hc.tst W X sc _ g h1) (ha.val W X sc _ g h2) (hb.val W X sc _ g h3)).wk fun σ H Q w => ?_
      obtain ⟨b, S, ls, r, rl, w⟩ := w
      refine ⟨b, S, ls, r, rl, (wt_bind w).imp fun k S1 H1 b1 p1 _ w => ?_⟩
      cases k with
      | true => exact ⟨b1, S1, ls, p1.rel, p1.rl rl, w⟩
      | false => exact ⟨b1, S1, ls, p1.rel, p1.rl rl, w⟩
    · cases h
  · simp only [ck] at h
    split at h
    · simp only [Bool.and_eq_true] at h
      obtain ⟨⟨h1, h2⟩, h3⟩ := h
      refine (pt_ifExp (hc.tst W X sc _ g h1) (ha.tst W X sc _ g h2) (hb.tst W X sc _ g h3)).wk fun σ H Q ⟨b, S, ls, r, rl, w⟩ => ?_
      refine ⟨b, S, ls, r, rl, (wt_bind w).imp fun k S1 H1 b1 p1 _ w => ?_⟩
      cases k with
      | true => exact ⟨b1, S1, ls, p1.rel, p1.rl rl, w⟩
      | false => exact ⟨b1, S1, ls, p1.rel, p1.rl rl, w⟩
    · cases h
theorem snd_tup {es : E} (hs : Snd G F FK m N FT KT XT xo es) : Snd G F FK m N FT KT XT xo (.tup es) := by
  have val : ∀ (W : WX) (X : Cx) (sc : Scope) (x : Expr), Stand G W F FK N FT KT XT xo sc X → (ck N FT KT XT xo (.tup es)).e sc x = true → PE X x (tE G W (ev F FK m (.tup es)).val) ∧ PT X x (tT G W (ev F FK m (.tup es)).tst) := fun W X sc x g h => by
    simp only [ck] at h
    split at h
    · refine ⟨?v, tst_of g.eK ?v fun _ => rfl⟩
      exact (pe_tup (hs.lst W X sc _ g h)).wk fun σ H Q w => by
        obtain ⟨b, S, ls, r, rl, w⟩ := w
        refine ⟨b, S, ls, r, rl, (wt_bind w).imp fun ds S1 H1 b1 p1 _ w vs kv => ?_⟩
        split at w
        · rename_i c
          refine ⟨by rw [← kv.length]; exact c, fun p hp => ?_⟩
          obtain ⟨q1, q2⟩ := p1.rel.newT hp kv
          exact w _ _ q1 _ q2
        · exact w.elim
    · cases h
  exact .mk' rfl rfl rfl rfl rfl (fun W X sc x g h => (val W X sc x g h).1) fun W X sc x g h => (val W X sc x g h).2
theorem snd_lst {es : E} (hs : Snd G F FK m N FT KT XT xo es) : Snd G F FK m N FT KT XT xo (.lst es) := by
  have val : ∀ (W : WX) (X : Cx) (sc : Scope) (x : Expr), Stand G W F FK N FT KT XT xo sc X → (ck N FT KT XT xo (.lst es)).e sc x = true → PE X x (tE G W (ev F FK m (.lst es)).val) ∧ PT X x (tT G W (ev F FK m (.lst es)).tst) := fun W X sc x g h => by
    simp only [ck] at h
    split at h
    · refine ⟨?v, tst_of g.eK ?v fun _ => rfl⟩
      exact (pe_lst (hs.lst W X sc _ g h)).wk fun σ H Q w => by
        obtain ⟨b, S, ls, r, rl, w⟩ := w
        refine ⟨b, S, ls, r, rl, (wt_bind w).imp fun ds S1 H1 b1 p1 _ w vs kv => ?_⟩
        split at w
        · rename_i c
          refine ⟨by rw [← kv.length]; exact c, fun p hp => ?_⟩
          obtain ⟨q1, q2⟩ := p1.rel.newL hp kv
          exact w _ _ q1 _ q2
        · exact w.elim
    · cases h
  exact .mk' rfl rfl rfl rfl rfl (fun W X sc x g h => (val W X sc x g h).1) fun W X sc x g h => (val W X sc x g h).2
theorem snd_nil : Snd G F FK m N FT KT XT xo .nil := by
  refine ⟨fun _ _ _ _ _ h => (Bool.false_ne_true h).elim, fun _ _ _ _ _ h => (Bool.false_ne_true h).elim, fun W X sc xs g h => ?_, fun sc xs h => ?_, rfl, fun sc xs h => ?_, fun W X sc xs g h hn => ?_, fun W X sc xs g h hn => ?_, fun W X sc xs g h => ?_, fun sc xs h ls S ds S' e => ?_, fun sc xs h ls S ds S' e => ?_, fun _ _ _ => rfl, fun _ _ _ _ _ _ h => (Bool.false_ne_true h).elim⟩
  · have e : xs = [] := List.isEmpty_iff.mp h
    subst e
    refine pa_nil.wk fun σ H Q ⟨b, S, ls, r, rl, w⟩ => wt_here r w [] RVs.nil
  · have e : xs = [] := List.isEmpty_iff.mp h
    subst e
    rfl
  · have e : xs = [] := List.isEmpty_iff.mp h
    exact ⟨fun _ => e, fun _ => rfl⟩
  · exact absurd (List.isEmpty_iff.mp h) hn
  · exact absurd (List.isEmpty_iff.mp h) hn
  · have e : xs = [] := List.isEmpty_iff.mp h
    subst e
    refine ⟨pk_nil.wk fun σ H Q ⟨b, S, ls, r, rl, w⟩ => wt_here r w [] RVs.nil, fun env pos => ⟨rfl, rfl, rfl⟩⟩
  · have e2 : xs = [] := List.isEmpty_iff.mp h
    subst e2
    cases e; rfl
  · have e2 : xs = [] := List.isEmpty_iff.mp h
    subst e2
    cases e; rfl
theorem snd_cons {a r : E} (ha : Snd G F FK m N FT KT XT xo a) (hr : Snd G F FK m N FT KT XT xo r) : Snd G F FK m N FT KT XT xo (.cons a r) := by
  have sp : ∀ (sc : Scope) (xs : List Expr), (ck N FT KT XT xo (.cons a r)).es sc xs = true → ∃ x rest, xs = x :: rest ∧ isStar x = false ∧ (ck N FT KT XT xo a).e sc x = true ∧ (ck N FT KT XT xo r).es sc rest = true := fun sc xs h => by
    simp only [ck] at h
    split at h
    · rename_i x rest
      simp only [Bool.and_eq_true] at h
      exact ⟨x, rest, rfl, by simpa using h.1.1, h.1.2, h.2⟩
    · cases h
  have both : ∀ {W : WX} {σ : L2.St} {H : Hp} {Q : List V → Hp → Prop}, tA G W (ev F FK m (.cons a r)).lst σ H Q → tCons (tE G W (ev F FK m a).val) (tA G W (ev F FK m r).lst) σ H Q := fun {W σ H Q} w => by
    obtain ⟨b, S, ls, rr, rl, w⟩ := w
    exact ⟨b, S, ls, rr, rl, (wt_bind w).imp fun x S1 H1 b1 p1 _ w v rv1 => ⟨b1, S1, ls, p1.rel, p1.rl rl, (wt_bind w).imp fun xs S2 H2 b2 p2 _ w vs kv => wt_here p2.rel w _ (RVs.cons (p2.rv rv1) kv)⟩⟩
  refine ⟨fun _ _ _ _ _ h => (Bool.false_ne_true h).elim, fun _ _ _ _ _ h => (Bool.false_ne_true h).elim, fun W X sc xs g h => ?_, fun sc xs h => ?_, rfl, fun sc xs h => ?_, fun W X sc xs g h hn k pos => ?_, fun W X sc xs g h hn k pos => ?_, fun W X sc xs g h => ?_, fun sc xs h ls S ds S' e => ?_, fun sc xs h ls S ds S' e => ?_, fun h => (Bool.false_ne_true h).elim, fun _ _ _ _ _ _ h => (Bool.false_ne_true h).elim⟩
  · obtain ⟨x, rest, rfl, h1, h2, h3⟩ := sp sc xs h
    exact (pa_cons (ha.val W X sc x g h2) (hr.lst W X sc rest g h3) (star_of h1 _ _)).wk fun σ H Q w => both w
  · obtain ⟨x, rest, rfl, h1, h2, h3⟩ := sp sc xs h
    rw [List.all_cons, hr.noS sc rest h3, h1]; rfl
  · obtain ⟨x, rest, rfl, h1, h2, h3⟩ := sp sc xs h
    exact ⟨fun e => (by cases e), fun e => by cases e⟩
  · obtain ⟨x, rest, rfl, h1, h2, h3⟩ := sp sc xs h
    have z := hr.nlx sc rest h3
    cases rest with
    | nil =>
      have e : (ev F FK m r).nl = true := z.mpr rfl
      refine (pe_one (ha.val W X sc x g h2)).wk fun σ H Q ⟨b, S, ls, rr, rl, w⟩ => ⟨b, S, ls, rr, rl, ?_⟩
      have w : Wt G H b (if (ev F FK m r).nl then _ else _) (wz W σ) _ := w
      rw [if_pos e] at w
      exact w
    | cons y ys =>
      have e : ¬ (ev F FK m r).nl = true := fun q => by cases z.mp q
      have ih := hr.bov W X sc (y :: ys) g h3 (by simp) k pos
      cases k with
      | true =>
        refine (pe_andT (ha.val W X sc x g h2) ih).wk fun σ H Q ⟨b, S, ls, rr, rl, w⟩ => ?_
        have w : Wt G H b (if (ev F FK m r).nl then _ else _) (wz W σ) _ := w
        rw [if_neg e] at w
        refine ⟨b, S, ls, rr, rl, (wt_bind w).imp fun d S1 H1 b1 p1 _ w v rv1 => ?_⟩
        cases q : truD d S1 with
        | none => rw [q] at w; exact w.elim
        | some t =>
          rw [q] at w
          refine ⟨t, truV_of' g.eK p1.rel rv1 q, ?_⟩
          cases t with
          | true => exact ⟨b1, S1, ls, p1.rel, p1.rl rl, w⟩
          | false => exact wt_val p1.rel w rv1
      | false =>
        refine (pe_orT (ha.val W X sc x g h2) ih).wk fun σ H Q ⟨b, S, ls, rr, rl, w⟩ => ?_
        have w : Wt G H b (if (ev F FK m r).nl then _ else _) (wz W σ) _ := w
        rw [if_neg e] at w
        refine ⟨b, S, ls, rr, rl, (wt_bind w).imp fun d S1 H1 b1 p1 _ w v rv1 => ?_⟩
        cases q : truD d S1 with
        | none => rw [q] at w; exact w.elim
        | some t =>
          rw [q] at w
          refine ⟨t, truV_of' g.eK p1.rel rv1 q, ?_⟩
          cases t with
          | true => exact wt_val p1.rel w rv1
          | false => exact ⟨b1, S1, ls, p1.rel, p1.rl rl, w⟩
  · obtain ⟨x, rest, rfl, h1, h2, h3⟩ := sp sc xs h
    have z := hr.nlx sc rest h3
    cases rest with
    | nil =>
      have e : (ev F FK m r).nl = true := z.mpr rfl
      have hh : PW X (.BoolOp (if k then .And else .Or) [x] pos) (tT G W (ev F FK m a).tst) := by
        cases k with
        | true => exact pw_and1 (ha.tst W X sc x g h2)
        | false => exact pw_or1 (ha.tst W X sc x g h2)
      refine hh.wk fun σ H Q ⟨b, S, ls, rr, rl, w⟩ => ⟨b, S, ls, rr, rl, ?_⟩
      have w : Wt G H b (if (ev F FK m r).nl then _ else _) (wz W σ) _ := w
      rw [if_pos e] at w
      exact w
    | cons y ys =>
      have e : ¬ (ev F FK m r).nl = true := fun q => by cases z.mp q
      have ih := hr.bot W X sc (y :: ys) g h3 (by simp) k pos
      cases k with
      | true =>
        refine (pw_and (ha.tst W X sc x g h2) ih).wk fun σ H Q ⟨b, S, ls, rr, rl, w⟩ => ?_
        have w : Wt G H b (if (ev F FK m r).nl then _ else _) (wz W σ) _ := w
        rw [if_neg e] at w
        refine ⟨b, S, ls, rr, rl, (wt_bind w).imp fun t S1 H1 b1 p1 _ w => ?_⟩
        cases t with
        | true => exact ⟨b1, S1, ls, p1.rel, p1.rl rl, w⟩
        | false => exact wt_here p1.rel w
      | false =>
        refine (pw_or (ha.tst W X sc x g h2) ih).wk fun σ H Q ⟨b, S, ls, rr, rl, w⟩ => ?_
        have w : Wt G H b (if (ev F FK m r).nl then _ else _) (wz W σ) _ := w
        rw [if_neg e] at w
        refine ⟨b, S, ls, rr, rl, (wt_bind w).imp fun t S1 H1 b1 p1 _ w => ?_⟩
        cases t with
        | true => exact wt_here p1.rel w
        | false => exact ⟨b1, S1, ls, p1.rel, p1.rl rl, w⟩
  · simp only [ck] at h
    split at h
    · rename_i nm x kp rest
      rw [Bool.and_eq_true] at h
      obtain ⟨i1, i2⟩ := hr.kws W X sc rest g h.2
      refine ⟨(pk_cons (ha.val W X sc x g h.1) i1).wk fun σ H Q w => both w, fun env pos => ?_⟩
      obtain ⟨j1, j2, j3⟩ := i2 env pos
      refine ⟨?_, ?_, ?_⟩
      · show nm :: _ = nm :: _
        exact congrArg _ j1
      · show (true && _) = true
        exact j2
      · show (false || _) = false
        exact j3
    · cases h
  · obtain ⟨x, rest, rfl, h1, h2, h3⟩ := sp sc xs h
    obtain ⟨x1, S1, e1, e⟩ := bind_ok e
    obtain ⟨xs1, S2, e2, e⟩ := bind_ok e
    obtain ⟨rfl, rfl⟩ := ok_inj e
    rw [List.length_cons, List.length_cons, hr.lnE sc rest h3 _ _ _ _ e2]
  · simp only [ck] at h
    split at h
    · rename_i nm x kp rest
      rw [Bool.and_eq_true] at h
      obtain ⟨x1, S1, e1, e⟩ := bind_ok e
      obtain ⟨xs1, S2, e2, e⟩ := bind_ok e
      obtain ⟨rfl, rfl⟩ := ok_inj e
      rw [List.length_cons, List.length_cons, hr.lnK sc rest h.2 _ _ _ _ e2]
    · cases h
theorem snd_ix {a i : E} (ha : Snd G F FK m N FT KT XT xo a) (hi : Snd G F FK m N FT KT XT xo i) : Snd G F FK m N FT KT XT xo (.ix a i) := by
  have val : ∀ (W : WX) (X : Cx) (sc : Scope) (x : Expr), Stand G W F FK N FT KT XT xo sc X → (ck N FT KT XT xo (.ix a i)).e sc x = true → PE X x (tE G W (ev F FK m (.ix a i)).val) ∧ PT X x (tT G W (ev F FK m (.ix a i)).tst) := fun W X sc x g h => by
    simp only [ck] at h
    split at h
    · simp only [Bool.and_eq_true] at h
      obtain ⟨⟨h1, h2⟩, h3⟩ := h
      refine ⟨?v, tst_of g.eK ?v fun _ => rfl⟩
      exact (pe_ix (ix_D g.eK (by have := g.room; omega)) (ha.val W X sc _ g h2) (hi.val W X sc _ g h3) (plainIx_of (by simpa using h1))).wk fun σ H Q w => two (fun _ _ _ => nx_opt) w
    · cases h
  exact .mk' rfl rfl rfl rfl rfl (fun W X sc x g h => (val W X sc x g h).1) fun W X sc x g h => (val W X sc x g h).2
theorem part_of {W : WX} {e : E} (he : Snd G F FK m N FT KT XT xo e) {X : Cx} {sc : Scope} (g : Stand G W F FK N FT KT XT xo sc X) {o : Option Expr} (h : (match o with | none => (ck N FT KT XT xo e).nl | some y => !(ck N FT KT XT xo e).nl && (ck N FT KT XT xo e).e sc y) = true) :
    PO X o fun σ H Q => ∃ b S ls, Rel G H b S ∧ RL G H b ls σ ∧ Wt G H b ((ev F FK m e).part ls S) (wz W σ) fun p _ H' _ => Q p H' := by
  cases o with
  | none =>
    have e1 : (ev F FK m e).nl = true := by rw [← he.nlq]; exact h
    refine ⟨fun pins s σ H Q I ⟨b, S, ls, r, rl, w⟩ => po_none.run pins s σ H Q I ?_⟩
    unfold Sm.part at w
    rw [if_pos e1] at w
    exact wt_here r w
  | some y =>
    rw [Bool.and_eq_true] at h
    have e1 : ¬ (ev F FK m e).nl = true := by rw [← he.nlq]; simpa using h.1
    refine ⟨fun pins s σ H Q I ⟨b, S, ls, r, rl, w⟩ => (po_some (he.val W X sc y g h.2)).run pins s σ H Q I ?_⟩
    unfold Sm.part at w
    rw [if_neg e1] at w
    refine ⟨b, S, ls, r, rl, (wt_bind w).imp fun d S1 H1 b1 p1 _ w v rv1 => ?_⟩
    cases d with
    | int i => exact ⟨i, rv_int.mp rv1, wt_here p1.rel w⟩
    | _ => exact w.elim
theorem snd_sl {a lo hi : E} (ha : Snd G F FK m N FT KT XT xo a) (hl : Snd G F FK m N FT KT XT xo lo) (hh : Snd G F FK m N FT KT XT xo hi) : Snd G F FK m N FT KT XT xo (.sl a lo hi) := by
  have val : ∀ (W : WX) (X : Cx) (sc : Scope) (x : Expr), Stand G W F FK N FT KT XT xo sc X → (ck N FT KT XT xo (.sl a lo hi)).e sc x = true → PE X x (tE G W (ev F FK m (.sl a lo hi)).val) ∧ PT X x (tT G W (ev F FK m (.sl a lo hi)).tst) := fun W X sc x g h => by
    simp only [ck] at h
    split at h
    · rw [Bool.and_eq_true, Bool.and_eq_true] at h
      obtain ⟨⟨h1, h2⟩, h3⟩ := h
      refine ⟨?v, tst_of g.eK ?v fun _ => rfl⟩
      exact (pe_slice (sl_D g.eK) (ha.val W X sc _ g h1) (part_of hl g h2) (part_of hh g h3)).wk fun σ H Q w => by
        obtain ⟨b, S, ls, r, rl, w⟩ := w
        exact ⟨b, S, ls, r, rl, (wt_bind w).imp fun d S1 H1 b1 p1 _ w v rv1 => ⟨b1, S1, ls, p1.rel, p1.rl rl, (wt_bind w).imp fun l S2 H2 b2 p2 _ w => ⟨b2, S2, ls, p2.rel, p2.rl (p1.rl rl), (wt_bind w).imp fun u S3 H3 b3 p3 _ w =>
          ⟨b3, S3, d, p3.rel, p3.rv (p2.rv rv1), w.want nx_sl⟩⟩⟩⟩
    · cases h
  exact .mk' rfl rfl rfl rfl rfl (fun W X sc x g h => (val W X sc x g h).1) fun W X sc x g h => (val W X sc x g h).2
theorem snd_dnew : Snd G F FK m N FT KT XT xo .dnew := by
  have val : ∀ (W : WX) (X : Cx) (sc : Scope) (x : Expr), Stand G W F FK N FT KT XT xo sc X → (ck N FT KT XT xo .dnew).e sc x = true → PE X x (tE G W (ev F FK m .dnew).val) ∧ PT X x (tT G W (ev F FK m .dnew).tst) := fun W X sc x g h => by
    simp only [ck] at h
    split at h
    · refine ⟨?v, tst_of g.eK ?v fun _ => rfl⟩
      exact pe_dnewK.wk fun σ H Q ⟨b, S, ls, r, rl, w⟩ p hp => by
        have z : (b ++ [p])[S.length]? = some p := by rw [← r.len, List.getElem?_append_right (Nat.le_refl _)]; simp
        exact w _ _ (r.new hp ⟨[], upd_same, rfl, fun p hp => by cases hp⟩) _ (rv_ref.mpr ⟨p, rfl, z⟩)
    · cases h
  exact .mk' rfl rfl rfl rfl rfl (fun W X sc x g h => (val W X sc x g h).1) fun W X sc x g h => (val W X sc x g h).2
theorem snd_xf {i c k : Nat} : Snd G F FK m N FT KT XT xo (.xf i c k) := by
  have val : ∀ (W : WX) (X : Cx) (sc : Scope) (x : Expr), Stand G W F FK N FT KT XT xo sc X → (ck N FT KT XT xo (.xf i c k)).e sc x = true → PE X x (tE G W (ev F FK m (.xf i c k)).val) ∧ PT X x (tT G W (ev F FK m (.xf i c k)).tst) := fun W X sc x g h => by
    simp only [ck] at h
    split at h
    · rename_i y p n p2
      rw [Bool.and_eq_true, Bool.and_eq_true] at h
      obtain ⟨⟨h, hx⟩, hf⟩ := h
      have hx : xo = some i := by simpa using hx
      split at hf
      · rename_i cn fs hc
        have hf := of_decide_eq_true hf
        obtain ⟨x1, x2, x3⟩ := g.xcl c _ _ hc
        obtain ⟨x4, x5⟩ := x3 n (List.mem_of_getElem? hf)
        unfold visC at h
        rw [Bool.and_eq_true, Bool.and_eq_true, Bool.and_eq_true] at h
        obtain ⟨⟨⟨h1, h2⟩, h3⟩, h4⟩ := h
        have hv : Vis X.env.scope y := by
          rw [g.esc]
          split at h2
          · exact .inl (by assumption)
          · exact .inr (.inl (by assumption))
          · exact .inr (.inr (by assumption))
          · cases h2
        refine ⟨?v, tst_of g.eK ?v fun _ => rfl⟩
        refine (g.xf (by rw [hx]; simp) (.Name y p) _ (G.cls c) n p2 x4 x5 (pe_var (i := i) (by rw [g.eN]; exact of_decide_eq_true h1) hv (by simpa using h3) (by simpa using h4)) (by rfl)).wk fun σ H Q ⟨b, S, ls, r, rl, w⟩ => ?_
        have key : (ev F FK m (.xf i c k)).val ls S = (match ls[i]? with | some (some (.exv c' ds)) => if c' = c then opt ds[k]? S else .bad | _ => R.bad) := rfl
        rw [key] at w
        clear key
        split at w
        · rename_i c' ds e
          split at w
          · rename_i ec
            subst ec
            obtain ⟨q1, q2, q3⟩ := rl.ax i c' ds (by rw [g.exs, hx]) e
            cases hd : ds[k]? with
            | none => rw [hd] at w; exact w.elim
            | some d =>
              rw [hd] at w
              obtain ⟨y3, fl3, q4, q3⟩ := q3
              rw [x2] at q4
              cases q4
              obtain ⟨dd, fs', v, z1, z2, z3, z4⟩ := q3 k n d hf hd
              exact ⟨_, q1, rfl, q2, dd, fs', v, z1, z2, z3, wt_val r w z4⟩
          · exact w.elim
        · exact w.elim
      · cases hf
    · cases h
  exact .mk' rfl rfl rfl rfl rfl (fun W X sc x g h => (val W X sc x g h).1) fun W X sc x g h => (val W X sc x g h).2
end
end PV

set_option Elab.async false
set_option linter.all false
set_option maxRecDepth 100000
set_option maxHeartbeats 2000000
/-! PV: calls, methods, comprehensions, what is walked. -/
namespace L2
open PySem PySem.Spec PyProof.Rows
theorem PTs.wk {X : Cx} {es : List Expr} {t t' : TT} (h : PTs X es t) (k : ∀ σ H Q, t' σ H Q → t σ H Q) : PTs X es t' := ⟨fun pins s σ H Q I w => h.run pins s σ H Q I (k σ H Q w)⟩
section
variable {X : Cx} {CX : CXT} {k n : Nat} {f : Addr} {fd : FuncData} {ps ks : List Str} {sp : Sp} {E : XK} {x : Str} {p pos : Pos} {e : Expr} {es : List Expr} {kws : List Keyword} {t tk : TA} {g : List Value → List Value → List Value} {gV : List V → List V → List V}
end
section
variable {X : Cx} {CX : CXT} {k n : Nat} {f : Addr} {fd : FuncData} {ps ks : List Str} {sp : Sp} {E : St → XK} {x : Str} {p pos : Pos} {e : Expr} {es : List Expr} {kws : List Keyword} {t tk : TA} {g : List Value → List Value → List Value} {gV : List V → List V → List V} {dvs : List V} {ds : List Value}
/-- f(), what is raised wished for at the slots -/
theorem pe_call0S (F : FnOk X.prog X.w X.K X.mg X.base CX k f fd ps sp) (hr : Room k X.A) (hg : Gl X x) (hm : X.mg x = some (.ref f)) (hk : PySem.W.keepIn X.K (.ref f) = true) (hb : Binds X.K fd ps ds) (hd : Vals dvs ds) (hx : ∀ σ, PassesAt CX X σ (E σ))
    (hdb : (x == ("__debug__" : Str)) = false) : PE X (.Call (.Name x p) [] [] pos) (tCallSD sp dvs E tNil) := by
  refine ⟨fun pins s σ H Q I h => ?_⟩
  refine wpAny_Call_Name_kw (ld_glob I hg hm ?_ hdb)
  exact PySem.W.callWith_K0 I.kIn hk (run_fnSD (us := []) F hr hb hd (hx σ) I .nil h)
theorem run_fnNS {pins : List (Addr × Obj)} {σ : St} {H : Hp} {s : Shared} {Q : VK} {E : XK} {us ws : List Value} {vs zs : List V} (F : FnOk X.prog X.w X.K X.mg X.base CX k f fd ps sp) (hr : Room k X.A) (hb : KBn X.K fd ps n ks g gV) (hx : PassesAt CX X σ E)
    (I : Inv X pins σ H s) (r : Vals vs us) (rz : Vals zs ws) (l1 : vs.length = n) (l2 : zs.length = ks.length) (h : sp (gV vs zs) H Q E) : wpAny (model X.prog X.w) X.A (call (.ref f) us (ks.zip ws)) (EP X pins σ Q) X.xe s := by
  have r2 := hb.rel r rz
  refine wpAny_call (codeAny_mono (F.run X.A X.stack s H ⟨us, ks.zip ws⟩ (g us ws) (gV vs zs) Q E hr I.env0 (hb.to s us ws I.kIn (r.length.symm.trans l1) (rz.length.symm.trans l2)) r2 h) fun r s' hq => ?_)
  cases r with
  | error e => exact hx pins H s e s' I hq
  | ok fl =>
    cases fl with
    | ret u => exact I.after hq
    | next => exact False.elim hq
    | brk => exact False.elim hq
    | cont => exact False.elim hq
def tCallNS (n nk : Nat) (sp : Sp) (gV : List V → List V → List V) (E : St → XK) (t tk : TA) : TE := fun σ H Q => t σ H fun vs H1 => tk σ H1 fun zs H2 => vs.length = n ∧ zs.length = nk ∧ sp (gV vs zs) H2 Q (E σ)
theorem pe_callNS (F : FnOk X.prog X.w X.K X.mg X.base CX k f fd ps sp) (hr : Room k X.A) (hg : Gl X x) (hm : X.mg x = some (.ref f)) (hk : PySem.W.keepIn X.K (.ref f) = true) (hb : KBn X.K fd ps n ks g gV) (hx : ∀ σ, PassesAt CX X σ (E σ))
    (ha : PA X (e :: es) t) (hkw : PK X kws tk) (hall : (backToKw pos (keywordEach kws X.env)).all (·.1.isSome) = true) (hks : (backToKw pos (keywordEach kws X.env)).filterMap (·.1) = ks)
    (hdb : (x == ("__debug__" : Str)) = false) (he : starEach (e :: es) X.env = (false, eval e X.env) :: starEach es X.env)
    (hpl : ((backTo pos (starEach (e :: es) X.env)).any (·.1) || (backToKw pos (keywordEach kws X.env)).any (·.1.isNone)) = false) :
    PE X (.Call (.Name x p) (e :: es) kws pos) (tCallNS n ks.length sp gV E t tk) := by
  refine ⟨fun pins s σ H Q I h => ?_⟩
  refine wpAny_Call_Name_kw (ld_glob I hg hm ?_ hdb)
  refine PySem.W.callWith_KW (h₀ := X.base) I.ok.mod.kin hk hall (thn (ha.run pos pins s σ H _ I h) fun us s1 ⟨vs, H1, I1, r, q⟩ => ?_) hpl he
  refine thn (hkw.run pos pins s1 σ H1 _ I1 q) fun ws s2 ⟨zs, H2, I2, rz, l1, l2, q2⟩ => ⟨I2.kIn, ?_⟩
  rw [hks]
  exact run_fnNS F hr hb (hx σ) I2 r rz l1 l2 q2
theorem pe_callN0S (F : FnOk X.prog X.w X.K X.mg X.base CX k f fd ps sp) (hr : Room k X.A) (hg : Gl X x) (hm : X.mg x = some (.ref f)) (hk : PySem.W.keepIn X.K (.ref f) = true) (hb : KBn X.K fd ps n ks g gV) (hx : ∀ σ, PassesAt CX X σ (E σ))
    (hkw : PK X kws tk) (hall : (backToKw pos (keywordEach kws X.env)).all (·.1.isSome) = true) (hks : (backToKw pos (keywordEach kws X.env)).filterMap (·.1) = ks)
    (hdb : (x == ("__debug__" : Str)) = false) (hpl : ((backTo pos (starEach [] X.env)).any (·.1) || (backToKw pos (keywordEach kws X.env)).any (·.1.isNone)) = false) :
    PE X (.Call (.Name x p) [] kws pos) (tCallNS n ks.length sp gV E tNil tk) := by
  refine ⟨fun pins s σ H Q I h => ?_⟩
  refine wpAny_Call_Name_kw (ld_glob I hg hm ?_ hdb)
  refine PySem.W.callWith_KW0 (h₀ := X.base) I.ok.mod.kin hk hall (thn (hkw.run pos pins s σ H _ I h) fun ws s2 ⟨zs, H2, I2, rz, l1, l2, q2⟩ => ⟨I2.kIn, ?_⟩) hpl
  rw [hks]
  exact run_fnNS F hr hb (hx σ) I2 .nil rz l1 l2 q2
end
end L2
namespace PV
open PySem PySem.Spec PyProof.Rows L2
section
variable {G : Gb} {F : Nat → List D → Store → R D} {FK : Nat → List Str → List D → List D → Store → R D} {m : Nat} {N : List Str} {FT : List (Str × Nat × Nat)} {KT : List (Nat × Nat × List Str)} {XT : List (Str × List Str)} {xo : Option Nat}

theorem snd_call {f : Nat} {es : E} (hs : Snd G F FK m N FT KT XT xo es) : Snd G F FK m N FT KT XT xo (.call f es) := by
  have val : ∀ (W : WX) (X : Cx) (sc : Scope) (x : Expr), Stand G W F FK N FT KT XT xo sc X → (ck N FT KT XT xo (.call f es)).e sc x = true → PE X x (tE G W (ev F FK m (.call f es)).val) ∧ PT X x (tT G W (ev F FK m (.call f es)).tst) := fun W X sc x g h => by
    simp only [ck] at h
    split at h
    · rename_i y p l pos
      rw [Bool.and_eq_true, Bool.and_eq_true, Bool.and_eq_true] at h
      obtain ⟨⟨⟨h0, h1⟩, h2⟩, h3⟩ := h
      obtain ⟨hg, hd⟩ := gl_of g.esc h1
      split at h2
      · rename_i z np nd hft
        simp only [Bool.and_eq_true, decide_eq_true_eq] at h2
        obtain ⟨⟨rfl, h4⟩, h5⟩ := h2
        obtain ⟨a, fd, ps, ds, dvs, sp, k, c1, c2, c3, c4, c5, c6, c7⟩ := g.call (no_xs h0) f z np nd l.length hft h4 h5
        refine ⟨?v, tst_of g.eK ?v fun _ => rfl⟩
        cases l with
        | nil =>
          refine (pe_call0S c3 c4 hg c1 c2 c5 c6 (fun σ => passAt g.tk σ) hd).wk fun σ H Q w => ?_
          obtain ⟨b, S, ls, r, rl, w⟩ := w
          have w : Wt G H b (((ev F FK m es).lst ls S).bind fun ds S1 => F f ds S1) (wz W σ) _ := w
          rw [hs.nil0 ((hs.nlx sc [] h3).mpr rfl)] at w
          exact c7 H b S [] [] Q _ r RVs.nil rfl w
        | cons e es' =>
          have h6 := hs.noS sc _ h3
          rw [List.all_cons, Bool.and_eq_true] at h6
          refine (pe_callSD c3 c4 hg c1 c2 c5 c6 (fun σ => passAt g.tk σ) (hs.lst W X sc _ g h3) hd (star_of (by simpa using h6.1) _ _) (back_any h6.2)).wk fun σ H Q w => ?_
          obtain ⟨b, S, ls, r, rl, w⟩ := w
          exact ⟨b, S, ls, r, rl, (wt_bind w).imp fun ds S1 H1 b1 p1 e1 w vs kv => c7 H1 b1 S1 vs ds Q _ p1.rel kv (hs.lnE sc _ h3 _ _ _ _ e1) w⟩
      · cases h2
    · cases h
  exact .mk' rfl rfl rfl rfl rfl (fun W X sc x g h => (val W X sc x g h).1) fun W X sc x g h => (val W X sc x g h).2
theorem args_of {ks : List Str} {kws : List Keyword} (h : kws.map (·.arg) = ks.map some) : kws.filterMap (·.arg) = ks := by
  have e : kws.filterMap (·.arg) = (kws.map (·.arg)).filterMap id := by rw [List.filterMap_map]; rfl
  rw [e, h, List.filterMap_map]
  simp
theorem snd_callk {f : Nat} {ks : List Str} {es eks : E} (hs : Snd G F FK m N FT KT XT xo es) (hk : Snd G F FK m N FT KT XT xo eks) : Snd G F FK m N FT KT XT xo (.callk f ks es eks) := by
  have val : ∀ (W : WX) (X : Cx) (sc : Scope) (x : Expr), Stand G W F FK N FT KT XT xo sc X → (ck N FT KT XT xo (.callk f ks es eks)).e sc x = true → PE X x (tE G W (ev F FK m (.callk f ks es eks)).val) ∧ PT X x (tT G W (ev F FK m (.callk f ks es eks)).tst) := fun W X sc x g h => by
    simp only [ck] at h
    split at h
    · rename_i y p l kws pos
      simp only [Bool.and_eq_true, decide_eq_true_eq] at h
      obtain ⟨⟨⟨⟨⟨⟨⟨h0, h1⟩, h2⟩, h3⟩, h4⟩, h5⟩, h6⟩, h7⟩ := h
      obtain ⟨hg, hd⟩ := gl_of g.esc h1
      split at h2
      · rename_i z np nd hft
        obtain rfl := of_decide_eq_true h2
        obtain ⟨a, fd, ps, gg, gV, sp, k, c1, c2, c3, c4, c5, c6⟩ := g.callk (no_xs h0) f z np nd l.length ks hft h3
        obtain ⟨kp, kq⟩ := hk.kws W X sc kws g h7
        obtain ⟨q1, q2, q3⟩ := kq X.env pos
        rw [args_of h4] at q1
        have hlen : kws.length = ks.length := by rw [← List.length_map (f := (·.arg)), h4, List.length_map]
        refine ⟨?v, tst_of g.eK ?v fun _ => rfl⟩
        cases l with
        | nil =>
          refine (pe_callN0S c3 c4 hg c1 c2 c5 (fun σ => passAt g.tk σ) kp q2 q1 hd (by rw [q3]; rfl)).wk fun σ H Q w => ?_
          obtain ⟨b, S, ls, r, rl, w⟩ := w
          have w : Wt G H b (((ev F FK m es).lst ls S).bind fun ds S1 => ((ev F FK m eks).lst ls S1).bind fun es S2 => FK f ks ds es S2) (wz W σ) _ := w
          rw [hs.nil0 ((hs.nlx sc [] h6).mpr rfl)] at w
          have w : Wt G H b (((ev F FK m eks).lst ls S).bind fun es S2 => FK f ks [] es S2) (wz W σ) _ := w
          refine ⟨b, S, ls, r, rl, (wt_bind w).imp fun ds S1 H1 b1 p1 e1 w vs kv => ?_⟩
          have ln := hk.lnK sc _ h7 _ _ _ _ e1
          exact ⟨rfl, by rw [← kv.length, ln, hlen], c6 H1 b1 S1 [] vs [] ds Q _ p1.rel RVs.nil kv rfl (by rw [ln, hlen]) w⟩
        | cons e es' =>
          have h8 := hs.noS sc _ h6
          have h9 := h8
          rw [List.all_cons, Bool.and_eq_true] at h9
          refine (pe_callNS c3 c4 hg c1 c2 c5 (fun σ => passAt g.tk σ) (hs.lst W X sc _ g h6) kp q2 q1 hd (star_of (by simpa using h9.1) _ _) (by rw [q3, back_any h8]; rfl)).wk fun σ H Q w => ?_
          obtain ⟨b, S, ls, r, rl, w⟩ := w
          refine ⟨b, S, ls, r, rl, (wt_bind w).imp fun ds S1 H1 b1 p1 e1 w vs kv => ⟨b1, S1, ls, p1.rel, p1.rl rl, (wt_bind w).imp fun fs S2 H2 b2 p2 e2 w ws kw => ?_⟩⟩
          have l1 := hs.lnE sc _ h6 _ _ _ _ e1
          have l2 := hk.lnK sc _ h7 _ _ _ _ e2
          exact ⟨by rw [← kv.length, l1], by rw [← kw.length, l2, hlen], c6 H2 b2 S2 vs ws ds fs Q _ p2.rel (p2.rvs kv) kw l1 (by rw [l2, hlen]) w⟩
      · cases h2
    · cases h
  exact .mk' rfl rfl rfl rfl rfl (fun W X sc x g h => (val W X sc x g h).1) fun W X sc x g h => (val W X sc x g h).2
theorem snd_bi {f : Fb} {es : E} (hs : Snd G F FK m N FT KT XT xo es) : Snd G F FK m N FT KT XT xo (.bi f es) := by
  have val : ∀ (W : WX) (X : Cx) (sc : Scope) (x : Expr), Stand G W F FK N FT KT XT xo sc X → (ck N FT KT XT xo (.bi f es)).e sc x = true → PE X x (tE G W (ev F FK m (.bi f es)).val) ∧ PT X x (tT G W (ev F FK m (.bi f es)).tst) := fun W X sc x g h => by
    simp only [ck] at h
    split at h
    · rename_i y p l pos
      simp only [Bool.and_eq_true, decide_eq_true_eq] at h
      obtain ⟨⟨⟨⟨h0, h1⟩, h2⟩, h3⟩, h4⟩ := h
      have hcalm := g.calm (no_xs h0)
      obtain ⟨hg, hd⟩ := gl_of g.esc h1
      have hm : X.mg y = none := g.mgb y (by rw [h2]; cases f <;> decide)
      have hn : y ≠ "__name__" := by rw [h2]; cases f <;> decide
      refine ⟨?v, tst_of g.eK ?v fun _ => rfl⟩
      cases l with
      | nil => simp at h3
      | cons e es' =>
        have h6 := hs.noS sc _ h4
        rw [List.all_cons, Bool.and_eq_true] at h6
        have s1 := star_of (e := e) (by simpa using h6.1) es' X.env
        have s2 := back_any (env := X.env) (pos := pos) h6.2
        have ha := hs.lst W X sc _ g h4
        subst h2
        cases f with
        | len => exact (pe_callB (cr_lenD g.eK) hg hm (by decide +kernel) ha hn hd s1 s2).wk fun σ H Q w => args (fun _ _ => nx_fb) w
        | abs => exact (pe_callB cr_absD hg hm (by decide +kernel) ha hn hd s1 s2).wk fun σ H Q w => args (fun _ _ => nx_fb) w
        | max => exact (pe_callB (cr_maxD hcalm) hg hm (by decide +kernel) ha hn hd s1 s2).wk fun σ H Q w => args (fun _ _ => nx_fb) w
        | min => exact (pe_callB (cr_minD hcalm) hg hm (by decide +kernel) ha hn hd s1 s2).wk fun σ H Q w => args (fun _ _ => nx_fb) w
        | sum => exact (pe_callB (cr_sumD g.eK hcalm) hg hm (by decide +kernel) ha hn hd s1 s2).wk fun σ H Q w => args (fun _ _ => nx_fb) w
        | sorted => exact (pe_callB (cr_sortedD hcalm) hg hm (by decide +kernel) ha hn hd s1 s2).wk fun σ H Q w => args (fun _ _ => nx_fb) w
        | all => exact (pe_callB (cr_allD hcalm) hg hm (by decide +kernel) ha hn hd s1 s2).wk fun σ H Q w => args (fun _ _ => nx_fb) w
        | any => exact (pe_callB (cr_anyD hcalm) hg hm (by decide +kernel) ha hn hd s1 s2).wk fun σ H Q w => args (fun _ _ => nx_fb) w
        | list => exact (pe_callTy (cr_listD g.eK) hg hm (by decide +kernel) ha hn hd s1 s2).wk fun σ H Q w => args (fun _ _ => nx_fb) w
        | str => exact (pe_callTy cr_strD hg hm (by decide +kernel) ha hn hd s1 s2).wk fun σ H Q w => args (fun _ _ => nx_fb) w
        | tuple => exact (pe_callTy (cr_tupleD g.eK) hg hm (by decide +kernel) ha hn hd s1 s2).wk fun σ H Q w => args (fun _ _ => nx_fb) w
        | int => exact (pe_callTy cr_intD hg hm (by decide +kernel) ha hn hd s1 s2).wk fun σ H Q w => args (fun _ _ => nx_fb) w
    · cases h
  exact .mk' rfl rfl rfl rfl rfl (fun W X sc x g h => (val W X sc x g h).1) fun W X sc x g h => (val W X sc x g h).2
theorem snd_isi {t : Tk} {a : E} (ha : Snd G F FK m N FT KT XT xo a) : Snd G F FK m N FT KT XT xo (.isi t a) := by
  have val : ∀ (W : WX) (X : Cx) (sc : Scope) (x : Expr), Stand G W F FK N FT KT XT xo sc X → (ck N FT KT XT xo (.isi t a)).e sc x = true → PE X x (tE G W (ev F FK m (.isi t a)).val) ∧ PT X x (tT G W (ev F FK m (.isi t a)).tst) := fun W X sc x g h => by
    simp only [ck] at h
    split at h
    · rename_i y p l z q pos
      simp only [Bool.and_eq_true, decide_eq_true_eq] at h
      obtain ⟨⟨⟨⟨⟨h1, h2⟩, h3⟩, h4⟩, h5⟩, h6⟩ := h
      obtain ⟨hg, hd⟩ := gl_of g.esc h1
      obtain ⟨hg2, hd2⟩ := gl_of g.esc h2
      subst h3 h4
      have hm : X.mg (tkN t).1 = none := g.mgb _ (by cases t <;> decide)
      have pz : PE X (.Name (tkN t).1 q) (tC (.ty (tkN t).2)) := by
        exact pe_bltn hg2 hm (u := .type (tkN t).2) (by cases t <;> decide +kernel) (by rfl) (by cases t <;> decide) hd2
      have s1 := star_of (e := l) (by simpa using h5) [.Name (tkN t).1 q] X.env
      refine ⟨?v, tst_of g.eK ?v fun _ => rfl⟩
      refine (pe_callB call_isi hg (g.mgb _ (by decide)) (by decide +kernel) (pa_cons (ha.val W X sc l g h6) (pa_cons pz pa_nil)  s1) (by decide) hd s1 (by rfl)).wk fun σ H Q w => ?_
      obtain ⟨b, S, ls, r, rl, w⟩ := w
      refine ⟨b, S, ls, r, rl, (wt_bind w).imp fun d S1 H1 b1 p1 _ w v rv1 => ?_⟩
      obtain ⟨k, e2, q2⟩ := opt_bl p1.rel (w.want nx_opt)
      obtain ⟨ty, t1, t2⟩ := isi_D g.eK t p1.rel rv1 e2
      exact ⟨v, _, ty, _, k, rfl, .ty _, t1, t2, q2⟩
    · cases h
  exact .mk' rfl rfl rfl rfl rfl (fun W X sc x g h => (val W X sc x g h).1) fun W X sc x g h => (val W X sc x g h).2
theorem snd_mt {k : Mt} {a es : E} (ha : Snd G F FK m N FT KT XT xo a) (hs : Snd G F FK m N FT KT XT xo es) : Snd G F FK m N FT KT XT xo (.mt k a es) := by
  have val : ∀ (W : WX) (X : Cx) (sc : Scope) (x : Expr), Stand G W F FK N FT KT XT xo sc X → (ck N FT KT XT xo (.mt k a es)).e sc x = true → PE X x (tE G W (ev F FK m (.mt k a es)).val) ∧ PT X x (tT G W (ev F FK m (.mt k a es)).tst) := fun W X sc x g h => by
    simp only [ck] at h
    split at h
    · rename_i o nm apos l cpos
      simp only [Bool.and_eq_true, decide_eq_true_eq] at h
      obtain ⟨⟨⟨⟨⟨h1, h2⟩, h3⟩, h4⟩, h5⟩, h6⟩ := h
      have hb : ∀ w, attributeBase o nm X.env w = w := fun w => base_of (by simpa using h2)
      have ho := ha.val W X sc o g h5
      have hl := hs.lst W X sc l g h6
      have hn := hs.noS sc l h6
      have go : ∀ {T : String} {r : V → List V → Hp → VK → Prop}, (∀ {b : List Addr} {S : Store} {d : D} {x : V} {H : Hp}, Rel G H b S → RV G H b d x → mtTy k d S = true → tyV X.K T x H) → r = rMt G (mtD k) → l ≠ [] →
          ∀ (σ : L2.St) (H : Hp) (Q : VK), tE G W (ev F FK m (.mt k a es)).val σ H Q → tBM X.K T r (tE G W (ev F FK m a).val) (tA G W (ev F FK m es).lst) σ H Q := fun hT hr _ σ H Q w => by
        subst hr
        obtain ⟨b, S, ls, r, rl, w⟩ := w
        refine ⟨b, S, ls, r, rl, (wt_bind w).imp fun d S1 H1 b1 p1 _ w v rv1 => ?_⟩
        split at w
        · rename_i c
          exact ⟨hT p1.rel rv1 c, b1, S1, ls, p1.rel, p1.rl rl, (wt_bind w).imp fun ds S2 H2 b2 p2 _ w vs kv => ⟨b2, S2, d, ds, p2.rel, p2.rv rv1, kv, w.want nx_mt⟩⟩
        · exact w.elim
      refine ⟨?v, tst_of g.eK ?v fun _ => rfl⟩
      cases l with
      | nil =>
        have e0 := hs.nil0 ((hs.nlx sc [] h6).mpr rfl)
        cases k with
        | pop =>
          obtain rfl : nm = "pop" := h1
          refine (pe_bm0 PySem.F.plainAttrs_list PySem.F.slot_list_pop PySem.F.type_list_pop (mt_popD (G := G)) ho (hb _) h3).wk fun σ H Q w => ?_
          obtain ⟨b, S, ls, r, rl, w⟩ := w
          refine ⟨b, S, ls, r, rl, (wt_bind w).imp fun d S1 H1 b1 p1 _ w v rv1 => ?_⟩
          split at w
          · rename_i c
            rw [e0] at w
            exact ⟨mtTy_ok g.eK p1.rel rv1 c, b1, S1, d, [], p1.rel, rv1, RVs.nil, Wt.want (r := mtD .pop d [] S1) w nx_mt⟩
          · exact w.elim
        | _ => simp [mtA] at h4
      | cons e es' =>
        have h9 := hn
        rw [List.all_cons, Bool.and_eq_true] at h9
        have s1 := star_of (e := e) (by simpa using h9.1) es' X.env
        have s2 := back_any (env := X.env) (pos := cpos) h9.2
        have few : ((backTo cpos (starEach (e :: es') X.env)).all (fun x => !x.1) && (backToKw cpos (keywordEach [] X.env)).all (fun x => x.1.isSome)
            && decide ((e :: es').length + ([] : List Keyword).length + (if ([] : List Keyword).isEmpty then 0 else 1) < 30)) = true := by
          rw [back_all hn]
          have q : (e :: es').length ≤ 1 := by rw [h4]; cases k <;> decide
          have q2 : (e :: es').length + ([] : List Keyword).length + (if ([] : List Keyword).isEmpty then 0 else 1) < 30 := Nat.lt_of_le_of_lt (m := 1) q (by decide)
          rw [decide_eq_true q2]
          rfl
        have hne : (e :: es') ≠ [] := by simp
        cases k with
        | append =>
          obtain rfl : nm = "append" := h1
          exact (pe_bm PySem.F.plainAttrs_list slot_list_append type_list_append mt_appendD ho hl (hb _) few h3 s1 s2).wk (go (fun r rv c => mtTy_ok g.eK r rv c) rfl hne)
        | extend =>
          obtain rfl : nm = "extend" := h1
          exact (pe_bm PySem.F.plainAttrs_list PySem.F.slot_list_extend PySem.F.type_list_extend mt_extendD ho hl (hb _) few h3 s1 s2).wk (go (fun r rv c => mtTy_ok g.eK r rv c) rfl hne)
        | pop => simp [mtA] at h4
        | popAt =>
          obtain rfl : nm = "pop" := h1
          exact (pe_bm PySem.F.plainAttrs_list PySem.F.slot_list_pop PySem.F.type_list_pop mt_popAtD ho hl (hb _) few h3 s1 s2).wk (go (fun r rv c => mtTy_ok g.eK r rv c) rfl hne)
        | join =>
          obtain rfl : nm = "join" := h1
          exact (pe_bm PySem.F.plainAttrs_str PySem.F.slot_str_join PySem.F.type_str_join (mt_joinD g.eK) ho hl (hb _) few h3 s1 s2).wk (go (fun r rv c => mtTy_ok g.eK r rv c) rfl hne)
    · cases h
  exact .mk' rfl rfl rfl rfl rfl (fun W X sc x g h => (val W X sc x g h).1) fun W X sc x g h => (val W X sc x g h).2

/-! ### what is walked -/
theorem walks_list {H0 : Hp} {b0 : List Addr} {n : Nat} {a : Addr} (e : b0[n]? = some a) : Walks G (.obj n) (Itl G.K a) H0 b0 := fun i H b S r o gr fz => by
  have e' := o n a e
  refine ⟨fun h => ?_, fun d h => ?_⟩
  · simp only [ItV.nxt] at h
    split at h
    · rename_i ds z
      simp only [Option.some.injEq] at h
      obtain ⟨a2, vs, q1, q2, hd, kv⟩ := lst_at r (rv_ref.mpr ⟨a, rfl, e'⟩) z
      cases q1
      exact ⟨vs, SqL.of hd, kv.none h⟩
    · cases h
  · simp only [ItV.nxt] at h
    split at h
    · rename_i ds z
      simp only [Option.some.injEq] at h
      obtain ⟨a2, vs, q1, q2, hd, kv⟩ := lst_at r (rv_ref.mpr ⟨a, rfl, e'⟩) z
      cases q1
      obtain ⟨v, g1, g2⟩ := kv.get h
      refine ⟨⟨vs, v, SqL.of hd, g1⟩, fun x H' y => ?_⟩
      obtain ⟨rfl, y⟩ := y
      have y := y vs (SqL.of hd)
      rw [g1] at y
      cases y
      exact ⟨b, Post.refl r, g2⟩
    · cases h
theorem walks_rol {H0 : Hp} {b0 : List Addr} {ds : List D} {vs : List V} {a : Addr} (hq : RoL G.K H0 a vs) (kv : RVs G H0 b0 ds vs) : Walks G (.rol ds) (Itl G.K a) H0 b0 := fun i H b S r o gr fz => by
  have hd := (gr.rl hq).sql
  have kv := RVs.mono o gr _ _ kv
  refine ⟨fun h => ?_, fun d h => ?_⟩
  · simp only [ItV.nxt, Option.some.injEq] at h
    exact ⟨vs, hd, kv.none h⟩
  · simp only [ItV.nxt, Option.some.injEq] at h
    obtain ⟨v, g1, g2⟩ := kv.get h
    refine ⟨⟨vs, v, hd, g1⟩, fun x H' y => ?_⟩
    obtain ⟨rfl, y⟩ := y
    have y := y vs hd
    rw [g1] at y
    cases y
    exact ⟨b, Post.refl r, g2⟩
theorem walks_tup {H0 : Hp} {b0 : List Addr} {ds : List D} {vs : List V} {a : Addr} (hq : SqT G.K H0 a vs) (kv : RVs G H0 b0 ds vs) : Walks G (.tup ds) (Itt G.K a) H0 b0 := fun i H b S r o gr fz => by
  have hd := gr.sqt hq
  have kv := RVs.mono o gr _ _ kv
  refine ⟨fun h => ?_, fun d h => ?_⟩
  · simp only [ItV.nxt, Option.some.injEq] at h
    exact ⟨vs, hd, kv.none h⟩
  · simp only [ItV.nxt, Option.some.injEq] at h
    obtain ⟨v, g1, g2⟩ := kv.get h
    refine ⟨⟨vs, v, hd, g1⟩, fun x H' y => ?_⟩
    obtain ⟨rfl, y⟩ := y
    have y := y vs hd
    rw [g1] at y
    cases y
    exact ⟨b, Post.refl r, g2⟩
theorem walks_rng {H0 : Hp} {b0 : List Addr} {lo : Int} {n : Nat} : Walks G (.rng lo n) (Itr lo n) H0 b0 := fun i H b S r o gr fz => by
  refine ⟨fun h => ?_, fun d h => ?_⟩
  · simp only [ItV.nxt, Option.some.injEq] at h
    split at h
    · cases h
    · show n ≤ i
      omega
  · simp only [ItV.nxt, Option.some.injEq] at h
    split at h
    · rename_i c
      simp only [Option.some.injEq] at h
      subst h
      refine ⟨c, fun x H' y => ?_⟩
      obtain ⟨rfl, rfl⟩ := y
      exact ⟨b, Post.refl r, rv_int.mpr rfl⟩
    · cases h
theorem walks_keys {H0 : Hp} {b0 : List Addr} {n : Nat} {a : Addr} {o : Obj} {ws : List (Key × V)} (e : b0[n]? = some a) (h0 : H0 a = some (.frz o (.dK ws))) : Walks G (.keys n) (Itk a o ws) H0 b0 := fun i H b S r old gr fz => by
  have e' := old n a e
  have hw := fz a o ws h0
  refine ⟨fun h => ?_, fun d h => ?_⟩
  · simp only [ItV.nxt] at h
    split at h
    · rename_i kvs z
      simp only [Option.some.injEq] at h
      obtain ⟨ob, ws', q, k1, k2⟩ := r.obj n _ a z e'
      rw [hw] at q
      cases q
      refine ⟨hw, ?_⟩
      rw [← k1.length]
      rcases Nat.lt_or_ge i kvs.length with c | c
      · rw [List.getElem?_eq_getElem c] at h; cases h
      · exact c
    · cases h
  · simp only [ItV.nxt] at h
    split at h
    · rename_i kvs z
      simp only [Option.some.injEq] at h
      obtain ⟨ob, ws', q, k1, k2⟩ := r.obj n _ a z e'
      rw [hw] at q
      cases q
      obtain ⟨p, hp, rfl⟩ := Option.map_eq_some_iff.mp h
      have hl := (List.getElem?_eq_some_iff.mp hp).1
      have hk : ws[i]?.map (·.1) = some p.1 := by
        rw [← List.getElem?_map, ← k1.keys, List.getElem?_map, hp]; rfl
      obtain ⟨w, hw1, hw2⟩ := Option.map_eq_some_iff.mp hk
      refine ⟨⟨hw, by rw [← k1.length]; exact hl⟩, fun x H' y => ?_⟩
      obtain ⟨rfl, k, v, y1, rfl⟩ := y
      rw [hw1] at y1
      cases y1
      refine ⟨b, Post.refl r, ?_⟩
      simp only at hw2
      subst hw2
      cases hkk : p.1 with
      | inl j => exact rv_int.mpr rfl
      | inr x => exact rv_str.mpr ⟨rfl, k2 p (List.mem_of_getElem? hp) x hkk⟩
    · cases h
/-- a thing that is walked and nothing else -/
theorem Snd.mkI {e : E} (h0 : (ck N FT KT XT xo e).e = fun _ _ => false) (h1 : (ck N FT KT XT xo e).es = fun _ _ => false) (h2 : (ck N FT KT XT xo e).kw = fun _ _ => false) (h4 : (ck N FT KT XT xo e).nl = false) (h5 : (ev F FK m e).nl = false)
    (itv : ∀ (W : WX) (X : Cx) (sc : Scope) (tg x : Expr), Stand G W F FK N FT KT XT xo sc X → (ck N FT KT XT xo e).it sc x = true → (tt e = true → isTupE tg = true) → PI X tg x (tI G W (ev F FK m e).itv)) : Snd G F FK m N FT KT XT xo e := by
  refine ⟨?_, ?_, ?_, ?_, h4.trans h5.symm, ?_, ?_, ?_, ?_, ?_, ?_, ?_, itv⟩
  · intro _ _ _ _ _ h; rw [h0] at h; cases h
  · intro _ _ _ _ _ h; rw [h0] at h; cases h
  · intro _ _ _ _ _ h; rw [h1] at h; cases h
  · intro _ _ h; rw [h1] at h; cases h
  · intro _ _ h; rw [h1] at h; cases h
  · intro _ _ _ _ _ h; rw [h1] at h; cases h
  · intro _ _ _ _ _ h; rw [h1] at h; cases h
  · intro _ _ _ _ _ h; rw [h2] at h; cases h
  · intro _ _ h; rw [h1] at h; cases h
  · intro _ _ h; rw [h2] at h; cases h
  · intro h; rw [h5] at h; cases h
theorem snd_q {a : E} (ha : Snd G F FK m N FT KT XT xo a) : Snd G F FK m N FT KT XT xo (.q a) := by
  refine .mkI rfl rfl rfl rfl rfl fun W X sc tg x g h _ => ?_
  have v := ha.val W X sc x g h
  refine (((pi_list v).orr (pi_tup v)).orr (pi_keys v)).wk fun σ H Q w => ?_
  obtain ⟨b, S, ls, r, rl, w⟩ := w
  have w := wt_bind w
  rw [g.eK]
  cases e1 : (ev F FK m a).val ls S with
  | bad => rw [e1] at w; exact w.elim
  | exc c ds S1 =>
    rw [e1] at w
    exact .inl (.inl ⟨b, S, ls, r, rl, by rw [e1]; exact w⟩)
  | ok d S1 =>
    rw [e1] at w
    have w : ∀ H1 b1, Post G H b H1 b1 S1 → Wt G H1 b1 (match d with
      | .tup ds => .ok (.tup ds) S1
      | .rol ds => .ok (.rol ds) S1
      | .ref n => match S1[n]? with
        | some (.lst _) => .ok (.obj n) S1
        | some (.dcl _) => .ok (.keys n) S1
        | _ => .bad
      | _ => .bad) (wz W σ) fun J _ H' b' => ∀ T : It, Walks G J T H' b' → Q T H' := w
    cases d with
    | tup ds =>
      refine .inl (.inr ⟨b, S, ls, r, rl, by
        rw [e1]
        intro H' b' p v rv
        obtain ⟨a, vs, rfl, hq, kv⟩ := rv_tup.mp rv
        exact ⟨a, rfl, ⟨vs, hq⟩, wt_here p.rel (w H' b' p) _ (walks_tup hq kv)⟩⟩)
    | rol ds =>
      refine .inl (.inl ⟨b, S, ls, r, rl, by
        rw [e1]
        intro H' b' p v rv
        obtain ⟨a, vs, rfl, hq, kv⟩ := rv_rol.mp rv
        exact ⟨a, rfl, ⟨vs, hq.sql⟩, wt_here p.rel (w H' b' p) _ (walks_rol hq kv)⟩⟩)
    | ref n =>
      simp only at w
      split at w
      · rename_i ds z
        refine .inl (.inl ⟨b, S, ls, r, rl, by
          rw [e1]
          intro H' b' p v rv
          obtain ⟨a, vs, rfl, hb, hd, kv⟩ := lst_at p.rel rv z
          exact ⟨a, rfl, ⟨vs, SqL.of hd⟩, wt_here p.rel (w H' b' p) _ (walks_list hb)⟩⟩)
      · rename_i kvs z
        refine .inr ⟨b, S, ls, r, rl, by
          rw [e1]
          intro H' b' p v rv
          obtain ⟨a, ob, ws, rfl, hb, hd, kv⟩ := dcl_at p.rel rv z
          exact ⟨a, ob, rfl, .inl ⟨ws, hd, wt_here p.rel (w H' b' p) _ (walks_keys hb hd)⟩⟩⟩
      · exact .inl (.inl ⟨b, S, ls, r, rl, by
          rw [e1]
          intro H' b' p
          exact (w H' b' p).elim⟩)
    | _ => exact .inl (.inl ⟨b, S, ls, r, rl, by
          rw [e1]
          intro H' b' p
          exact (w H' b' p).elim⟩)
theorem snd_qr {a : E} (ha : Snd G F FK m N FT KT XT xo a) : Snd G F FK m N FT KT XT xo (.qr a) := by
  refine .mkI rfl rfl rfl rfl rfl fun W X sc tg x g h _ => ?_
  simp only [ck] at h
  split at h
  · rename_i y p l pos
    simp only [Bool.and_eq_true, decide_eq_true_eq] at h
    obtain ⟨⟨⟨h1, rfl⟩, h3⟩, h4⟩ := h
    obtain ⟨hg, hd⟩ := gl_of g.esc h1
    have s1 := star_of (e := l) (by simpa using h3) [] X.env
    refine (pi_range1 hg (g.mgb _ (by decide)) (pa_cons (ha.val W X sc l g h4) pa_nil s1) s1).wk fun σ H Q w => ?_
    obtain ⟨b, S, ls, r, rl, w⟩ := w
    refine ⟨b, S, ls, r, rl, (wt_bind w).imp fun d S1 H' b' p _ w v rv => ?_⟩
    cases d with
    | int i =>
      simp only at w
      split at w
      · rename_i c
        obtain rfl := rv_int.mp rv
        exact ⟨i, rfl, c.1, c.2, wt_here p.rel w _ walks_rng⟩
      · exact w.elim
    | _ => exact w.elim
  · cases h
theorem snd_qr2 {a c : E} (ha : Snd G F FK m N FT KT XT xo a) (hc : Snd G F FK m N FT KT XT xo c) : Snd G F FK m N FT KT XT xo (.qr2 a c) := by
  refine .mkI rfl rfl rfl rfl rfl fun W X sc tg x g h _ => ?_
  simp only [ck] at h
  split at h
  · rename_i y p l r2 pos
    simp only [Bool.and_eq_true, decide_eq_true_eq] at h
    obtain ⟨⟨⟨⟨⟨h1, rfl⟩, h3⟩, h4⟩, h5⟩, h6⟩ := h
    obtain ⟨hg, hd⟩ := gl_of g.esc h1
    have s2 := star_of (e := r2) (by simpa using h4) [] X.env
    have s1 : starEach [l, r2] X.env = [(false, eval l X.env), (false, eval r2 X.env)] := by rw [star_of (by simpa using h3), s2]; rfl
    have s3 : starEach [l, r2] X.env = (false, eval l X.env) :: starEach [r2] X.env := star_of (by simpa using h3) _ _
    refine (pi_range2 hg (g.mgb _ (by decide)) (pa_cons (ha.val W X sc l g h5) (pa_cons (hc.val W X sc r2 g h6) pa_nil s2) s3) s1 s2).wk fun σ H Q w => ?_
    obtain ⟨b, S, ls, r, rl, w⟩ := w
    refine ⟨b, S, ls, r, rl, (wt_bind w).imp fun d S1 H1 b1 p1 _ w v rv1 => ⟨b1, S1, ls, p1.rel, p1.rl rl, (wt_bind w).imp fun d2 S2 H2 b2 p2 _ w v2 rv2 => ?_⟩⟩
    cases d with
    | int i =>
      cases d2 with
      | int j =>
        simp only at w
        split at w
        · rename_i c
          obtain rfl := rv_int.mp rv1
          obtain rfl := rv_int.mp rv2
          exact ⟨i, j, rfl, c, wt_here p2.rel w _ walks_rng⟩
        · exact w.elim
      | _ => exact w.elim
    | _ => exact w.elim
  · cases h
/-! ### walked in pairs -/
theorem tt_of {e : E} {tg : Expr} (h : (!tt e || isTupE tg) = true) : tt e = true → isTupE tg = true := fun q => by
  rw [q] at h
  simpa using h
def kd : D → Bool
  | .tup _ => false
  | _ => true
theorem seq_k {H : Hp} {b : List Addr} {S : Store} (r : Rel G H b S) {d : D} {a : Addr} {ds : List D} (h : RV G H b d (.ref a)) (e : seqD d S = some ds) : ∃ vs, PZ.SqK G.K (kd d) H a vs ∧ RVs G H b ds vs := by
  cases d with
  | tup es =>
    simp only [seqD, Option.some.injEq] at e
    subst e
    obtain ⟨a', vs, e1, e2, e3⟩ := rv_tup.mp h
    cases e1
    exact ⟨vs, e2, e3⟩
  | rol es =>
    simp only [seqD, Option.some.injEq] at e
    subst e
    obtain ⟨a', vs, e1, e2, e3⟩ := rv_rol.mp h
    cases e1
    exact ⟨vs, e2.sql, e3⟩
  | ref n =>
    simp only [seqD] at e
    split at e
    · rename_i es z
      cases e
      obtain ⟨a', vs, e1, _, e2, e3⟩ := lst_at r h z
      cases e1
      exact ⟨vs, SqL.of e2, e3⟩
    · cases e
  | _ => simp [seqD] at e
theorem seq_ref {H : Hp} {b : List Addr} {S : Store} (r : Rel G H b S) {d : D} {v : V} {ds : List D} (h : RV G H b d v) (e : seqD d S = some ds) : ∃ a, v = .ref a := by
  obtain ⟨a, _, e, _⟩ := seq_at r h e
  exact ⟨a, e⟩
theorem walks_enu {H0 : Hp} {b0 : List Addr} {d : D} {a : Addr} (rv : RV G H0 b0 d (.ref a)) : Walks G (.enu d) (PZ.ItE G.K (kd d) a) H0 b0 := fun i H b S r o gr fz => by
  have rv' := RV.mono o gr _ _ rv
  cases e : seqD d S with
  | none => exact ⟨fun h => (by simp only [ItV.nxt, e] at h; cases h), fun d' h => (by simp only [ItV.nxt, e] at h; cases h)⟩
  | some ds =>
    obtain ⟨vs, hq, kv⟩ := seq_k r rv' e
    cases e2 : ds[i]? with
    | none =>
      refine ⟨fun h => ?_, fun d' h => ?_⟩
      · simp only [ItV.nxt, e, e2] at h
        split at h
        · rename_i c
          exact ⟨vs, hq, by rw [← kv.length]; exact c⟩
        · cases h
      · simp only [ItV.nxt, e, e2] at h
        split at h <;> cases h
    | some x =>
      refine ⟨fun h => ?_, fun d' h => ?_⟩
      · simp only [ItV.nxt, e, e2] at h
        cases h
      · simp only [ItV.nxt, e, e2, Option.some.injEq] at h
        subst h
        obtain ⟨v, g1, g2⟩ := kv.get e2
        refine ⟨⟨vs, v, hq, g1⟩, fun y H' hy => ?_⟩
        obtain ⟨T, x', rfl, hT, rfl, f⟩ := hy
        have f := f vs hq
        rw [g1] at f
        cases f
        obtain ⟨p1, p2⟩ := r.newT hT (RVs.cons (rv_int.mpr rfl) (RVs.cons g2 RVs.nil))
        exact ⟨b, p1, p2⟩
theorem walks_rev {H0 : Hp} {b0 : List Addr} {d : D} {n : Nat} {a : Addr} (rv : RV G H0 b0 d (.ref a)) : (kd d = true → Walks G (.rev d n) (Itv G.K a n) H0 b0) ∧ (kd d = false → Walks G (.rev d n) (RT.ItvT G.K a n) H0 b0) := by
  have key : ∀ i H b S, Rel G H b S → Old b0 b → Grow H0 H → ((ItV.rev d n).nxt i S = some none → n ≤ i) ∧ ∀ x, (ItV.rev d n).nxt i S = some (some x) → i < n ∧ ∃ vs v, PZ.SqK G.K (kd d) H a vs ∧ vs[n - 1 - i]? = some v ∧ RV G H b x v := by
    intro i H b S r o gr
    have rv' := RV.mono o gr _ _ rv
    simp only [ItV.nxt]
    split
    · rename_i c
      cases e : seqD d S with
      | none => exact ⟨fun h => (by cases h), fun x h => (by cases h)⟩
      | some ds =>
        obtain ⟨vs, hq, kv⟩ := seq_k r rv' e
        cases e2 : ds[n - 1 - i]? with
        | none => exact ⟨fun h => (by simp only [e2] at h; cases h), fun x h => (by simp only [e2] at h; cases h)⟩
        | some y =>
          obtain ⟨v, g1, g2⟩ := kv.get e2
          refine ⟨fun h => (by simp only [e2] at h; cases h), fun x h => ?_⟩
          simp only [e2, Option.some.injEq] at h
          subst h
          exact ⟨c, vs, v, hq, g1, g2⟩
    · rename_i c
      exact ⟨fun _ => Nat.le_of_not_lt c, fun x h => by cases h⟩
  constructor
  · intro k i H b S r o gr fz
    obtain ⟨k1, k2⟩ := key i H b S r o gr
    refine ⟨fun h => k1 h, fun x h => ?_⟩
    obtain ⟨c, vs, v, hq, g1, g2⟩ := k2 x h
    rw [k] at hq
    refine ⟨⟨c, vs, v, hq, g1⟩, fun y H' hy => ?_⟩
    obtain ⟨rfl, f⟩ := hy
    have f := f vs hq
    rw [g1] at f
    cases f
    exact ⟨b, Post.refl r, g2⟩
  · intro k i H b S r o gr fz
    obtain ⟨k1, k2⟩ := key i H b S r o gr
    refine ⟨fun h => k1 h, fun x h => ?_⟩
    obtain ⟨c, vs, v, hq, g1, g2⟩ := k2 x h
    rw [k] at hq
    refine ⟨⟨c, vs, v, hq, g1⟩, fun y H' hy => ?_⟩
    obtain ⟨rfl, f⟩ := hy
    have f := f vs hq
    rw [g1] at f
    cases f
    exact ⟨b, Post.refl r, g2⟩
theorem walks_zip2 {H0 : Hp} {b0 : List Addr} {d1 d2 : D} {a1 a2 : Addr} (rv1 : RV G H0 b0 d1 (.ref a1)) (rv2 : RV G H0 b0 d2 (.ref a2)) : Walks G (.zip2 d1 d2) (PZ.ItZ2 G.K (kd d1) (kd d2) a1 a2) H0 b0 := fun i H b S r o gr fz => by
  have q1 := RV.mono o gr _ _ rv1
  have q2 := RV.mono o gr _ _ rv2
  simp only [ItV.nxt]
  split
  · rename_i xs ys e1 e2
    obtain ⟨vs, hq1, kv1⟩ := seq_k r q1 e1
    obtain ⟨ws, hq2, kv2⟩ := seq_k r q2 e2
    split
    · rename_i x y f1 f2
      refine ⟨fun h => (by cases h), fun d' h => ?_⟩
      simp only [Option.some.injEq] at h
      subst h
      obtain ⟨v, g1, g2⟩ := kv1.get f1
      obtain ⟨w, g3, g4⟩ := kv2.get f2
      refine ⟨⟨vs, ws, v, w, hq1, hq2, g1, g3⟩, fun u H' hy => ?_⟩
      obtain ⟨T, x', y', rfl, hT, rfl, k1, k2⟩ := hy
      have k1 := k1 vs hq1
      have k2 := k2 ws hq2
      rw [g1] at k1
      rw [g3] at k2
      cases k1
      cases k2
      obtain ⟨p1, p2⟩ := r.newT hT (RVs.cons g2 (RVs.cons g4 RVs.nil))
      exact ⟨b, p1, p2⟩
    · split
      · rename_i c
        exact ⟨fun _ => ⟨vs, ws, hq1, hq2, by rw [← kv1.length, ← kv2.length]; exact c⟩, fun d' h => by cases h⟩
      · exact ⟨fun h => (by cases h), fun d' h => by cases h⟩
  · exact ⟨fun h => (by cases h), fun d' h => by cases h⟩
theorem walks_zip3 {H0 : Hp} {b0 : List Addr} {d1 d2 d3 : D} {a1 a2 a3 : Addr} (rv1 : RV G H0 b0 d1 (.ref a1)) (rv2 : RV G H0 b0 d2 (.ref a2)) (rv3 : RV G H0 b0 d3 (.ref a3)) : Walks G (.zip3 d1 d2 d3) (PZ.ItZ3 G.K (kd d1) (kd d2) (kd d3) a1 a2 a3) H0 b0 := fun i H b S r o gr fz => by
  have q1 := RV.mono o gr _ _ rv1
  have q2 := RV.mono o gr _ _ rv2
  have q3 := RV.mono o gr _ _ rv3
  simp only [ItV.nxt]
  split
  · rename_i xs ys zs e1 e2 e3
    obtain ⟨vs, hq1, kv1⟩ := seq_k r q1 e1
    obtain ⟨ws, hq2, kv2⟩ := seq_k r q2 e2
    obtain ⟨us, hq3, kv3⟩ := seq_k r q3 e3
    split
    · rename_i x y z f1 f2 f3
      refine ⟨fun h => (by cases h), fun d' h => ?_⟩
      simp only [Option.some.injEq] at h
      subst h
      obtain ⟨v, g1, g2⟩ := kv1.get f1
      obtain ⟨w, g3, g4⟩ := kv2.get f2
      obtain ⟨u, g5, g6⟩ := kv3.get f3
      refine ⟨⟨vs, ws, us, v, w, u, hq1, hq2, hq3, g1, g3, g5⟩, fun u' H' hy => ?_⟩
      obtain ⟨T, x', y', z', rfl, hT, rfl, k1, k2, k3⟩ := hy
      have k1 := k1 vs hq1
      have k2 := k2 ws hq2
      have k3 := k3 us hq3
      rw [g1] at k1
      rw [g3] at k2
      rw [g5] at k3
      cases k1
      cases k2
      cases k3
      obtain ⟨p1, p2⟩ := r.newT hT (RVs.cons g2 (RVs.cons g4 (RVs.cons g6 RVs.nil)))
      exact ⟨b, p1, p2⟩
    · split
      · rename_i c
        exact ⟨fun _ => ⟨vs, ws, us, hq1, hq2, hq3, by rw [← kv1.length, ← kv2.length, ← kv3.length]; exact c⟩, fun d' h => by cases h⟩
      · exact ⟨fun h => (by cases h), fun d' h => by cases h⟩
  · exact ⟨fun h => (by cases h), fun d' h => by cases h⟩
theorem snd_qe {a : E} (ha : Snd G F FK m N FT KT XT xo a) : Snd G F FK m N FT KT XT xo (.qe a) := by
  refine .mkI rfl rfl rfl rfl rfl fun W X sc tg x g h ht => ?_
  obtain ⟨es, k, tp, rfl⟩ := tupE_of (ht rfl)
  simp only [ck] at h
  split at h
  · rename_i y p l pos
    simp only [Bool.and_eq_true, decide_eq_true_eq] at h
    obtain ⟨⟨⟨h1, rfl⟩, h3⟩, h4⟩ := h
    obtain ⟨hg, hd⟩ := gl_of g.esc h1
    have s1 := star_of (e := l) (by simpa using h3) [] X.env
    refine (PZ.pi_enumK hg (g.mgb _ (by decide)) (ha.val W X sc l g h4) s1).wk fun σ H Q w => ?_
    obtain ⟨b, S, ls, r, rl, w⟩ := w
    refine ⟨b, S, ls, r, rl, (wt_bind w).imp fun d S1 H' b' p _ w v rv => ?_⟩
    simp only [seqI] at w
    split at w
    · rename_i ds e
      obtain ⟨a, rfl⟩ := seq_ref p.rel rv e
      obtain ⟨vs, hq, kv⟩ := seq_k p.rel rv e
      rw [g.eK]
      exact ⟨kd d, a, vs, rfl, hq, wt_here p.rel w _ (walks_enu rv)⟩
    · exact w.elim
  · cases h
theorem snd_qv {a : E} (ha : Snd G F FK m N FT KT XT xo a) : Snd G F FK m N FT KT XT xo (.qv a) := by
  refine .mkI rfl rfl rfl rfl rfl fun W X sc tg x g h ht => ?_
  simp only [ck] at h
  split at h
  · rename_i y p l pos
    simp only [Bool.and_eq_true, decide_eq_true_eq] at h
    obtain ⟨⟨⟨h1, rfl⟩, h3⟩, h4⟩ := h
    obtain ⟨hg, hd⟩ := gl_of g.esc h1
    have s1 := star_of (e := l) (by simpa using h3) [] X.env
    refine (RT.pi_revA hg (g.mgb _ (by decide)) (ha.val W X sc l g h4) s1).wk fun σ H Q w => ?_
    obtain ⟨b, S, ls, r, rl, w⟩ := w
    refine ⟨b, S, ls, r, rl, (wt_bind w).imp fun d S1 H' b' p _ w v rv => ?_⟩
    simp only [seqI] at w
    split at w
    · rename_i ds e
      obtain ⟨a, rfl⟩ := seq_ref p.rel rv e
      obtain ⟨vs, hq, kv⟩ := seq_k p.rel rv e
      rw [g.eK]
      have q := wt_here p.rel w
      refine ⟨a, vs, rfl, ?_⟩
      rw [← kv.length]
      cases hk : kd d with
      | true =>
        rw [hk] at hq
        exact .inl ⟨hq, q _ ((walks_rev rv).1 hk)⟩
      | false =>
        rw [hk] at hq
        exact .inr ⟨hq, q _ ((walks_rev rv).2 hk)⟩
    · exact w.elim
  · cases h
theorem snd_qz2 {a c : E} (ha : Snd G F FK m N FT KT XT xo a) (hc : Snd G F FK m N FT KT XT xo c) : Snd G F FK m N FT KT XT xo (.qz2 a c) := by
  refine .mkI rfl rfl rfl rfl rfl fun W X sc tg x g h ht => ?_
  obtain ⟨es, k, tp, rfl⟩ := tupE_of (ht rfl)
  simp only [ck] at h
  split at h
  · rename_i y p l r2 pos
    simp only [Bool.and_eq_true, decide_eq_true_eq] at h
    obtain ⟨⟨⟨⟨⟨h1, rfl⟩, h3⟩, h4⟩, h5⟩, h6⟩ := h
    obtain ⟨hg, hd⟩ := gl_of g.esc h1
    have s2 := star_of (e := r2) (by simpa using h4) [] X.env
    have s3 := star_of (e := l) (by simpa using h3) [r2] X.env
    refine (PZ.pi_zipK2 hg (g.mgb _ (by decide)) (pa_cons (ha.val W X sc l g h5) (pa_cons (hc.val W X sc r2 g h6) pa_nil s2) s3) s3 (back_any (by simpa using h4))).wk fun σ H Q w => ?_
    obtain ⟨b, S, ls, r, rl, w⟩ := w
    refine ⟨b, S, ls, r, rl, (wt_bind w).imp fun d S1 H1 b1 p1 _ w v rv1 => ⟨b1, S1, ls, p1.rel, p1.rl rl, (wt_bind w).imp fun d2 S2 H2 b2 p2 _ w v2 rv2 => ?_⟩⟩
    split at w
    · rename_i ds e
      simp only [seqI] at w
      split at w
      · rename_i ds2 e2
        have rv1 := p2.rv rv1
        obtain ⟨a1, rfl⟩ := seq_ref p2.rel rv1 e
        obtain ⟨vs, hq, kv⟩ := seq_k p2.rel rv1 e
        obtain ⟨a2, rfl⟩ := seq_ref p2.rel rv2 e2
        obtain ⟨ws, hq2, kv2⟩ := seq_k p2.rel rv2 e2
        rw [g.eK]
        exact ⟨kd d, kd d2, a1, a2, vs, ws, rfl, hq, hq2, wt_here p2.rel w _ (walks_zip2 rv1 rv2)⟩
      · exact w.elim
    · exact w.elim
  · cases h
theorem snd_qz3 {a c e : E} (ha : Snd G F FK m N FT KT XT xo a) (hc : Snd G F FK m N FT KT XT xo c) (he : Snd G F FK m N FT KT XT xo e) : Snd G F FK m N FT KT XT xo (.qz3 a c e) := by
  refine .mkI rfl rfl rfl rfl rfl fun W X sc tg x g h ht => ?_
  obtain ⟨es, k, tp, rfl⟩ := tupE_of (ht rfl)
  simp only [ck] at h
  split at h
  · rename_i y p l r2 r3 pos
    simp only [Bool.and_eq_true, decide_eq_true_eq] at h
    obtain ⟨⟨⟨⟨⟨⟨⟨h1, rfl⟩, h3⟩, h4⟩, h4'⟩, h5⟩, h6⟩, h7⟩ := h
    obtain ⟨hg, hd⟩ := gl_of g.esc h1
    have s1 := star_of (e := r3) (by simpa using h4') [] X.env
    have s2 := star_of (e := r2) (by simpa using h4) [r3] X.env
    have s3 := star_of (e := l) (by simpa using h3) [r2, r3] X.env
    refine (PZ.pi_zipK3 hg (g.mgb _ (by decide)) (pa_cons (ha.val W X sc l g h5) (pa_cons (hc.val W X sc r2 g h6) (pa_cons (he.val W X sc r3 g h7) pa_nil s1) s2) s3) s3 (back_any (by simp only [List.all_cons, h4, h4', List.all_nil, Bool.and_self]))).wk fun σ H Q w => ?_
    obtain ⟨b, S, ls, r, rl, w⟩ := w
    refine ⟨b, S, ls, r, rl, (wt_bind w).imp fun d S1 H1 b1 p1 _ w v rv1 => ⟨b1, S1, ls, p1.rel, p1.rl rl, (wt_bind w).imp fun d2 S2 H2 b2 p2 _ w v2 rv2 =>
      ⟨b2, S2, ls, p2.rel, p2.rl (p1.rl rl), (wt_bind w).imp fun d3 S3 H3 b3 p3 _ w v3 rv3 => ?_⟩⟩⟩
    split at w
    · rename_i ds ds2 e e2
      simp only [seqI] at w
      split at w
      · rename_i ds3 e3
        have rv1 := p3.rv (p2.rv rv1)
        have rv2 := p3.rv rv2
        obtain ⟨a1, rfl⟩ := seq_ref p3.rel rv1 e
        obtain ⟨vs, hq, kv⟩ := seq_k p3.rel rv1 e
        obtain ⟨a2, rfl⟩ := seq_ref p3.rel rv2 e2
        obtain ⟨ws, hq2, kv2⟩ := seq_k p3.rel rv2 e2
        obtain ⟨a3, rfl⟩ := seq_ref p3.rel rv3 e3
        obtain ⟨us, hq3, kv3⟩ := seq_k p3.rel rv3 e3
        rw [g.eK]
        exact ⟨kd d, kd d2, kd d3, a1, a2, a3, vs, ws, us, rfl, hq, hq2, hq3, wt_here p3.rel w _ (walks_zip3 rv1 rv2 rv3)⟩
      · exact w.elim
    · exact w.elim
  · cases h
theorem RVs.rev {H : Hp} {b : List Addr} : ∀ {ds : List D} {vs : List V}, RVs G H b ds vs → RVs G H b ds.reverse vs.reverse
  | [], _, h => by simp only [RVs] at h; subst h; exact RVs.nil
  | d :: ds, _, h => by
    simp only [RVs] at h
    obtain ⟨v, r, rfl, p, q⟩ := h
    rw [List.reverse_cons, List.reverse_cons]
    exact (RVs.rev q).append (RVs.cons p RVs.nil)
theorem snd_slr {a : E} (ha : Snd G F FK m N FT KT XT xo a) : Snd G F FK m N FT KT XT xo (.slr a) := by
  have val : ∀ (W : WX) (X : Cx) (sc : Scope) (x : Expr), Stand G W F FK N FT KT XT xo sc X → (ck N FT KT XT xo (.slr a)).e sc x = true → PE X x (tE G W (ev F FK m (.slr a)).val) ∧ PT X x (tT G W (ev F FK m (.slr a)).tst) := fun W X sc x g h => by
    simp only [ck] at h
    split at h
    · simp only [Bool.and_eq_true, decide_eq_true_eq] at h
      obtain ⟨rfl, h⟩ := h
      refine ⟨?v, tst_of g.eK ?v fun _ => rfl⟩
      have v := ha.val W X sc _ g h
      refine ((pe_revL v).orr (PZ.pe_revT v)).wk fun σ H Q w => ?_
      obtain ⟨b, S, ls, r, rl, w⟩ := w
      have w := wt_bind w
      rw [g.eK]
      cases e1 : (ev F FK m a).val ls S with
      | bad => rw [e1] at w; exact w.elim
      | exc c ds S1 =>
        rw [e1] at w
        exact .inl ⟨b, S, ls, r, rl, by rw [e1]; exact w⟩
      | ok d S1 =>
        rw [e1] at w
        cases d with
        | tup ds =>
          refine .inr ⟨b, S, ls, r, rl, ?_⟩
          rw [e1]
          intro H' b' p v rv
          have w := w H' b' p
          obtain ⟨a, vs, rfl, hq, kv⟩ := rv_tup.mp rv
          refine ⟨a, vs, rfl, hq, fun q hp => ?_⟩
          obtain ⟨p1, p2⟩ := p.rel.newT hp kv.rev
          exact w _ _ p1 _ p2
        | rol ds =>
          refine .inl ⟨b, S, ls, r, rl, ?_⟩
          rw [e1]
          intro H' b' p v rv
          have w := w H' b' p
          obtain ⟨a, vs, rfl, hq, kv⟩ := rv_rol.mp rv
          refine ⟨a, vs, rfl, hq.sql, fun q hp => ?_⟩
          obtain ⟨p1, p2⟩ := p.rel.newL hp kv.rev
          exact w _ _ p1 _ p2
        | ref n =>
          refine .inl ⟨b, S, ls, r, rl, ?_⟩
          rw [e1]
          intro H' b' p v rv
          have w := w H' b' p
          simp only [revD] at w
          split at w
          · rename_i ds z
            obtain ⟨a, vs, rfl, hb, hd, kv⟩ := lst_at p.rel rv z
            refine ⟨a, vs, rfl, SqL.of hd, fun q hp => ?_⟩
            obtain ⟨p1, p2⟩ := p.rel.newL hp kv.rev
            exact w _ _ p1 _ p2
          · exact w.elim
        | _ =>
          refine .inl ⟨b, S, ls, r, rl, ?_⟩
          rw [e1]
          intro H' b' p v rv
          exact (w H' b' p).elim
    · cases h
  exact .mk' rfl rfl rfl rfl rfl (fun W X sc x g h => (val W X sc x g h).1) fun W X sc x g h => (val W X sc x g h).2
theorem key_len {H : Hp} {b : List Addr} {d : D} {v : V} {k : Key} (h : RV G H b d v) (e : keyOf d = some k) : ∀ x, k = .inr x → x.length ≤ sizeLine := by
  intro x hx
  subst hx
  cases d with
  | str y =>
    simp only [keyOf, Option.some.injEq] at e
    cases e
    exact (rv_str.mp h).2
  | int i => simp [keyOf] at e
  | _ => simp [keyOf] at e
theorem put_at {H : Hp} {b : List Addr} {S : Store} (r : Rel G H b S) {n : Nat} {a : Addr} {kvs : List (Key × D)} {ws : List (Key × V)} {k : Key} {d : D} {v : V} (bn : b[n]? = some a) (hd : H a = some (.dK ws)) (kv : RKs G H b kvs ws) (ko : KOk kvs)
    (hv : RV G H b d v) (kz : ∀ x, k = .inr x → x.length ≤ sizeLine) : Post G H b (upd H a (.dK (L2.putK ws k v))) b (S.set n (.dct (putG kvs k d))) := by
  have g : Grow H (upd H a (.dK (L2.putK ws k v))) := Grow.set hd rfl
  exact r.set bn hd (fun _ _ z => by cases z) ⟨_, upd_same, (kv.mono (Old.refl b) g).put k (RV.mono (Old.refl b) g _ _ hv), ko.put kz d⟩
theorem new_dct {H : Hp} {b : List Addr} {S : Store} (r : Rel G H b S) {p : Addr} (hp : H p = none) : Post G H b (upd H p (.dK [])) (b ++ [p]) (S ++ [.dct []]) ∧ RV G (upd H p (.dK [])) (b ++ [p]) (.ref S.length) (.ref p) := by
  have z : (b ++ [p])[S.length]? = some p := by rw [← r.len, List.getElem?_append_right (Nat.le_refl _)]; simp
  exact ⟨r.new hp ⟨[], upd_same, rfl, fun p hp => by cases hp⟩, rv_ref.mpr ⟨p, rfl, z⟩⟩
theorem snd_dd2 {a c e f : E} (ha : Snd G F FK m N FT KT XT xo a) (hc : Snd G F FK m N FT KT XT xo c) (he : Snd G F FK m N FT KT XT xo e) (hf : Snd G F FK m N FT KT XT xo f) : Snd G F FK m N FT KT XT xo (.dd2 a c e f) := by
  have val : ∀ (W : WX) (X : Cx) (sc : Scope) (x : Expr), Stand G W F FK N FT KT XT xo sc X → (ck N FT KT XT xo (.dd2 a c e f)).e sc x = true → PE X x (tE G W (ev F FK m (.dd2 a c e f)).val) ∧ PT X x (tT G W (ev F FK m (.dd2 a c e f)).tst) := fun W X sc x g h => by
    simp only [ck] at h
    split at h
    · rename_i k1 k2 v1 v2 pos
      simp only [Bool.and_eq_true] at h
      obtain ⟨⟨⟨h1, h2⟩, h3⟩, h4⟩ := h
      refine ⟨?v, tst_of g.eK ?v fun _ => rfl⟩
      refine (pe_disp (pps_cons (ha.val W X sc _ g h1) (hc.val W X sc _ g h2) (pps_cons (he.val W X sc _ g h3) (hf.val W X sc _ g h4) pps_nil)) rfl rfl (by simp) (by simp)).wk fun σ H Q w => ?_
      obtain ⟨b, S, ls, r, rl, w⟩ := w
      intro p hp
      obtain ⟨p0, rn⟩ := new_dct r hp
      have w := w.mono p0
      refine ⟨b ++ [p], S ++ [.dct []], ls, p0.rel, p0.rl rl, (wt_bind w).imp fun d1 S1 H1 b1 p1 _ w u1 rv1 => ⟨b1, S1, ls, p1.rel, p1.rl (p0.rl rl), (wt_bind w).imp fun d2 S2 H2 b2 p2 _ w u2 rv2 =>
        ⟨b2, S2, ls, p2.rel, p2.rl (p1.rl (p0.rl rl)), (wt_bind w).imp fun d3 S3 H3 b3 p3 _ w u3 rv3 => ⟨b3, S3, ls, p3.rel, p3.rl (p2.rl (p1.rl (p0.rl rl))), (wt_bind w).imp fun d4 S4 H4 b4 p4 _ w u4 rv4 => ?_⟩⟩⟩⟩
      simp only [dd2D] at w
      split at w
      · rename_i ka kc e1 e2 e3
        have rv1 := p4.rv (p3.rv (p2.rv rv1))
        have rv2 := p4.rv (p3.rv rv2)
        have rv3 := p4.rv rv3
        have rn := p4.rv (p3.rv (p2.rv (p1.rv rn)))
        obtain ⟨p', ws, q1, bn, hd, kv⟩ := dct_at p4.rel rn e3
        cases q1
        have kv : ws = [] := kv
        subst kv
        refine ⟨hd, [(ka, u2), (kc, u4)], by rw [key_ok rv1 e1, key_ok rv3 e2]; rfl, by simp, ?_⟩
        have g : Grow H4 (upd H4 p (.dK (mergeK [] [(ka, u2), (kc, u4)]))) := Grow.set hd rfl
        have kvp : RKs G H4 b4 (putG (putG [] ka d2) kc d4) (mergeK [] [(ka, u2), (kc, u4)]) := by
          have z : RKs G H4 b4 ([] : List (Key × D)) ([] : List (Key × V)) := rfl
          exact (z.put ka rv2).put kc rv4
        have ko0 : KOk [] := fun p hp => by cases hp
        have pp := p4.rel.set (o' := .dct (putG (putG [] ka d2) kc d4)) bn hd (fun _ _ z => by cases z) ⟨_, upd_same, kvp.mono (Old.refl b4) g, (ko0.put (key_len rv1 e1) d2).put (key_len rv3 e2) d4⟩
        exact w _ _ pp _ (pp.rv rn)
      · exact w.elim
    · cases h
  exact .mk' rfl rfl rfl rfl rfl (fun W X sc x g h => (val W X sc x g h).1) fun W X sc x g h => (val W X sc x g h).2

/-! ### comprehensions -/
theorem own_sto {X : Cx} {s : Shared} {H : Hp} {scope : Scope} {cl : List (Str × Addr)} {C : Addr} {fp : List Addr} {y : Str} (h : ownC scope y = true) : Sto (X.blk s H scope (compEnvC scope cl C X.env) fp) y := by
  unfold ownC at h
  split at h
  · rename_i e
    have q := lookup_relS_keep (sc := X.env.scope) (k := .local) (by simp) e
    exact ⟨.inl q, .inr q⟩
  · rename_i e
    have q := lookup_relS_keep (sc := X.env.scope) (k := .cell) (by simp) e
    exact ⟨.inr q, .inl (by show (scope.names.lookup y == some .cell) = true; rw [e]; rfl)⟩
  · cases h
theorem cond_of {W : WX} {e : E} (he : Snd G F FK m N FT KT XT xo e) {X : Cx} {sc : Scope} (g : Stand G W F FK N FT KT XT xo sc X) {ifs : List Expr} (h : (match ifs with | [] => (ck N FT KT XT xo e).nl | [y] => !(ck N FT KT XT xo e).nl && (ck N FT KT XT xo e).e sc y | _ => false) = true) :
    PTs X ifs (tT G W fun ls S => (ev F FK m e).cond ls S) := by
  split at h
  · have e1 : (ev F FK m e).nl = true := by rw [← he.nlq]; exact h
    refine pts_nil.wk fun σ H Q ⟨b, S, ls, r, rl, w⟩ => ?_
    have w : Wt G H b (if (ev F FK m e).nl = true then R.ok true S else (ev F FK m e).tst ls S) (wz W σ) _ := w
    rw [if_pos e1] at w
    exact wt_here r w
  · rename_i y
    rw [Bool.and_eq_true] at h
    have e1 : ¬ (ev F FK m e).nl = true := by rw [← he.nlq]; simpa using h.1
    refine (pts_one (he.tst W X sc y g h.2)).wk fun σ H Q ⟨b, S, ls, r, rl, w⟩ => ?_
    have w : Wt G H b (if (ev F FK m e).nl = true then R.ok true S else (ev F FK m e).tst ls S) (wz W σ) _ := w
    rw [if_neg e1] at w
    exact ⟨b, S, ls, r, rl, w⟩
  · cases h
/-- a comprehension's turns -/
theorem lc_of {W : WX} {own : List (Str × Nat)} {t : Tg} {fi : Ls → Store → R ItV} {fc : Ls → Store → R Bool} {fe : Ls → Store → R D} {σ : L2.St} {H : Hp} {Q : VK} (hv : ∀ i ∈ slotsT t, i ∈ own.map (·.2))
    (h : tE G W (fun ls S => (fi ls S).bind fun J S1 => lcL (fun d S ls => asgT t d S ls) fc fe J S1.length (wipeD ls (own.map (·.2))) m 0 (S1 ++ [.lst []])) σ H Q) : tLc (tI G W fi) (tG G t) (tT G noW fc) (tE G noW fe) (own.map (·.2)) σ H Q := by
  obtain ⟨b, S, ls, r, rl, w⟩ := h
  refine ⟨b, S, ls, r, rl, (wt_bind w).imp fun J S1 H1 b1 p1 _ w T wk D hD => ?_⟩
  have w := w.want (by
    have key : ∀ mm i S, NoX (lcL (fun d S ls => asgT t d S ls) fc fe J S1.length (wipeD ls (own.map (·.2))) mm i S) := by
      intro mm
      induction mm with
      | zero => intro i S; exact nx_bad
      | succ mm ih =>
        intro i S c ds S' e
        unfold lcL at e
        repeat' split at e
        all_goals first | (cases e; done) | exact ih _ _ _ _ _ e
    exact key m 0 _)
  obtain ⟨pn, rn⟩ := p1.rel.newL hD RVs.nil
  have w := w.mono pn
  have rl1 := (pn.rl (p1.rl rl)).wipe (own.map (·.2))
  generalize wipeD ls (own.map (·.2)) = wl at w rl1
  generalize hb0 : b1 ++ [D] = b0 at *
  generalize hH0 : upd H1 D (.lst []) = H0 at *
  generalize hr : S1.length = rr at *
  generalize S1 ++ [.lst []] = S2 at *
  refine ⟨fun i mm Hc => ∃ bc Sc, Post G H0 b0 Hc bc Sc ∧ Want G Hc bc (lcL (fun d S ls => asgT t d S ls) fc fe J rr wl mm i Sc) Q, ⟨m, b0, S2, Post.refl pn.rel, w⟩, ?_⟩
  rintro i mm Hc ⟨bc, Sc, pc, w⟩
  have pt := pn.trans pc
  cases mm with
  | zero => exact (want_bad w).elim
  | succ mm =>
    obtain ⟨w1, w2⟩ := wk i Hc bc Sc pc.rel pt.old pt.grow pt.frz
    unfold lcL at w
    split at w
    · exact (want_bad w).elim
    · rename_i e2
      exact .inl ⟨w1 e2, want_here pc.rel w (pc.rv rn)⟩
    · rename_i d e2
      obtain ⟨g1, g2⟩ := w2 d e2
      refine .inr ⟨g1, fun H' => ∃ bc Sc, Post G H0 b0 H' bc Sc ∧ Want G H' bc (lcL (fun d S ls => asgT t d S ls) fc fe J rr wl mm (i + 1) Sc) Q, fun H' hn => ⟨mm, Nat.lt_succ_self _, hn⟩, fun x H2 hy => ?_⟩
      obtain ⟨b2, p2, rv2⟩ := g2 x H2 hy
      have w := w.mono p2
      have p02 := pc.trans p2
      split at w
      · exact (want_bad w).elim
      · rename_i ls1 e3
        refine ⟨b2, Sc, wl, d, ls1, p02.rel, p02.rl rl1, rv2, e3, fun σ3 rl3 kp => ⟨(kp _ hv).trans (wipe_wipe _), ?_⟩⟩
        split at w
        · rename_i S3 e4
          refine ⟨b2, Sc, ls1, p02.rel, rl3, ?_⟩
          rw [e4]
          intro H3 b3 p3
          show (if true = true then _ else _)
          rw [if_pos rfl]
          have p03 := p02.trans p3
          have w := w.mono p3
          split at w
          · rename_i y S4 e5
            refine ⟨b3, S3, ls1, p3.rel, p3.rl rl3, ?_⟩
            rw [e5]
            intro H4 b4 p4 v rv4
            have w := w.mono p4
            have p04 := p03.trans p4
            split at w
            · rename_i acc e6
              split at w
              · rename_i hl
                obtain ⟨a, vs, q1, bn, hd, kv⟩ := lst_at p4.rel (p04.rv rn) e6
                cases q1
                have p5 := p4.rel.setL bn hd (kv.append (RVs.cons rv4 RVs.nil))
                exact ⟨vs, hd, by rw [← kv.length]; exact hl, b4, _, p04.trans p5, w.mono p5⟩
              · exact (want_bad w).elim
            · exact (want_bad w).elim
          · exact (want_bad w).elim
        · rename_i S3 e4
          refine ⟨b2, Sc, ls1, p02.rel, rl3, ?_⟩
          rw [e4]
          intro H3 b3 p3
          show (if false = true then _ else _)
          rw [if_neg Bool.false_ne_true]
          exact ⟨b3, S3, p02.trans p3, w.mono p3⟩
        · exact (want_bad w).elim
theorem fold_of {e : Expr} (h : isSetE e = false) (env : Env) : ∀ x, foldedSetIterable e env x = pure x := by
  intro x
  cases e <;> first | rfl | (simp [isSetE] at h)
theorem snd_lc {own : List (Str × Nat)} {t : Tg} {it c e : E} (hi : Snd G F FK m N FT KT XT xo it) (hc : Snd G F FK m N FT KT XT xo c) (he : Snd G F FK m N FT KT XT xo e) : Snd G F FK m N FT KT XT xo (.lc own t it c e) := by
  have val : ∀ (W : WX) (X : Cx) (sc : Scope) (x : Expr), Stand G W F FK N FT KT XT xo sc X → (ck N FT KT XT xo (.lc own t it c e)).e sc x = true → PE X x (tE G W (ev F FK m (.lc own t it c e)).val) ∧ PT X x (tT G W (ev F FK m (.lc own t it c e)).tst) := fun W X sc x g h => by
    simp only [ck] at h
    split at h
    · rename_i elt tg iter ifs scope pos
      rw [Bool.and_eq_true, Bool.and_eq_true, Bool.and_eq_true, Bool.and_eq_true, Bool.and_eq_true, Bool.and_eq_true, Bool.and_eq_true, Bool.and_eq_true] at h
      obtain ⟨⟨⟨⟨⟨⟨⟨⟨h0, h1⟩, h2⟩, h3⟩, h4⟩, h5⟩, h6⟩, h7⟩, h8⟩ := h
      have hx := no_xs h0
      subst hx
      have hcalm := g.calm rfl
      have hv : ∀ i ∈ slotsT t, i ∈ own.map (·.2) := fun i hi => by
        have := List.all_eq_true.mp h3 i hi
        exact of_decide_eq_true this
      refine ⟨?v, tst_of g.eK ?v fun _ => rfl⟩
      refine (pe_lc hcalm (by rw [g.eN]; exact g.nd) (hi.itv W X sc tg iter g h4 (tt_of h8)) (by rw [g.eN, g.esc]; exact blkOk_by h1)
        (fun s H C cl fp => snd_T (X := X.blk s H scope (compEnvC scope cl C X.env) fp) g.eN g.nd hcalm g.eK (fun y hy => own_sto hy) t tg h2)
        (fun s H C cl fp => cond_of hc (g.blk s H scope cl C fp) h6)
        (fun s H C cl fp => he.val _ _ _ elt (g.blk s H scope cl C fp) h7) (fold_of (by simpa using h5) X.env)).wk fun σ H Q w => lc_of hv w
    · cases h
  exact .mk' rfl rfl rfl rfl rfl (fun W X sc x g h => (val W X sc x g h).1) fun W X sc x g h => (val W X sc x g h).2

/-- a dict comprehension's turns -/
theorem dc_of {W : WX} {own : List (Str × Nat)} {t : Tg} {fi : Ls → Store → R ItV} {fc : Ls → Store → R Bool} {fk fe : Ls → Store → R D} {σ : L2.St} {H : Hp} {Q : VK} (hv : ∀ i ∈ slotsT t, i ∈ own.map (·.2))
    (h : tE G W (fun ls S => (fi ls S).bind fun J S1 => dcL (fun d S ls => asgT t d S ls) fc fk fe J S1.length (wipeD ls (own.map (·.2))) m 0 (S1 ++ [.dct []])) σ H Q) : tDc (tI G W fi) (tG G t) (tT G noW fc) (tE G noW fk) (tE G noW fe) (own.map (·.2)) σ H Q := by
  obtain ⟨b, S, ls, r, rl, w⟩ := h
  refine ⟨b, S, ls, r, rl, (wt_bind w).imp fun J S1 H1 b1 p1 _ w T wk D hD => ?_⟩
  have w := w.want (by
    have key : ∀ mm i S, NoX (dcL (fun d S ls => asgT t d S ls) fc fk fe J S1.length (wipeD ls (own.map (·.2))) mm i S) := by
      intro mm
      induction mm with
      | zero => intro i S; exact nx_bad
      | succ mm ih =>
        intro i S c ds S' e
        unfold dcL at e
        repeat' split at e
        all_goals first | (cases e; done) | exact ih _ _ _ _ _ e
    exact key m 0 _)
  obtain ⟨pn, rn⟩ := new_dct p1.rel hD
  have w := w.mono pn
  have rl1 := (pn.rl (p1.rl rl)).wipe (own.map (·.2))
  generalize wipeD ls (own.map (·.2)) = wl at w rl1
  generalize hb0 : b1 ++ [D] = b0 at *
  generalize hH0 : upd H1 D (.dK []) = H0 at *
  generalize hr : S1.length = rr at *
  generalize S1 ++ [.dct []] = S2 at *
  refine ⟨fun i mm Hc => ∃ bc Sc, Post G H0 b0 Hc bc Sc ∧ Want G Hc bc (dcL (fun d S ls => asgT t d S ls) fc fk fe J rr wl mm i Sc) Q, ⟨m, b0, S2, Post.refl pn.rel, w⟩, ?_⟩
  rintro i mm Hc ⟨bc, Sc, pc, w⟩
  have pt := pn.trans pc
  cases mm with
  | zero => exact (want_bad w).elim
  | succ mm =>
    obtain ⟨w1, w2⟩ := wk i Hc bc Sc pc.rel pt.old pt.grow pt.frz
    unfold dcL at w
    split at w
    · exact (want_bad w).elim
    · rename_i e2
      exact .inl ⟨w1 e2, want_here pc.rel w (pc.rv rn)⟩
    · rename_i d e2
      obtain ⟨g1, g2⟩ := w2 d e2
      refine .inr ⟨g1, fun H' => ∃ bc Sc, Post G H0 b0 H' bc Sc ∧ Want G H' bc (dcL (fun d S ls => asgT t d S ls) fc fk fe J rr wl mm (i + 1) Sc) Q, fun H' hn => ⟨mm, Nat.lt_succ_self _, hn⟩, fun x H2 hy => ?_⟩
      obtain ⟨b2, p2, rv2⟩ := g2 x H2 hy
      have w := w.mono p2
      have p02 := pc.trans p2
      split at w
      · exact (want_bad w).elim
      · rename_i ls1 e3
        refine ⟨b2, Sc, wl, d, ls1, p02.rel, p02.rl rl1, rv2, e3, fun σ3 rl3 kp => ⟨(kp _ hv).trans (wipe_wipe _), ?_⟩⟩
        split at w
        · rename_i S3 e4
          refine ⟨b2, Sc, ls1, p02.rel, rl3, ?_⟩
          rw [e4]
          intro H3 b3 p3
          show (if true = true then _ else _)
          rw [if_pos rfl]
          have p03 := p02.trans p3
          have w := w.mono p3
          split at w
          · rename_i y S4 e5
            refine ⟨b3, S3, ls1, p3.rel, p3.rl rl3, ?_⟩
            rw [e5]
            intro H4 b4 p4 v rv4
            have w := w.mono p4
            have p04 := p03.trans p4
            split at w
            · rename_i z S5 e6
              refine ⟨b4, S4, ls1, p4.rel, p4.rl (p3.rl rl3), ?_⟩
              rw [e6]
              intro H5 b5 p5 v5 rv5
              have w := w.mono p5
              have p05 := p04.trans p5
              have rv4 := p5.rv rv4
              split at w
              · rename_i kvs q e7 e8
                split at w
                · rename_i hl
                  obtain ⟨a, ws, q1, bn, hd, kv⟩ := dct_at p5.rel (p05.rv rn) e7
                  cases q1
                  have ko := dct_ok p5.rel (p05.rv rn) e7
                  have p6 := put_at p5.rel bn hd kv ko rv5 (key_len rv4 e8)
                  exact ⟨ws, q, key_ok rv4 e8, hd, by rw [← kv.length]; exact hl, b5, _, p05.trans p6, w.mono p6⟩
                · exact (want_bad w).elim
              · exact (want_bad w).elim
            · exact (want_bad w).elim
          · exact (want_bad w).elim
        · rename_i S3 e4
          refine ⟨b2, Sc, ls1, p02.rel, rl3, ?_⟩
          rw [e4]
          intro H3 b3 p3
          show (if false = true then _ else _)
          rw [if_neg Bool.false_ne_true]
          exact ⟨b3, S3, p02.trans p3, w.mono p3⟩
        · exact (want_bad w).elim
theorem snd_dc {own : List (Str × Nat)} {t : Tg} {it c k e : E} (hi : Snd G F FK m N FT KT XT xo it) (hc : Snd G F FK m N FT KT XT xo c) (hk : Snd G F FK m N FT KT XT xo k) (he : Snd G F FK m N FT KT XT xo e) : Snd G F FK m N FT KT XT xo (.dc own t it c k e) := by
  have val : ∀ (W : WX) (X : Cx) (sc : Scope) (x : Expr), Stand G W F FK N FT KT XT xo sc X → (ck N FT KT XT xo (.dc own t it c k e)).e sc x = true → PE X x (tE G W (ev F FK m (.dc own t it c k e)).val) ∧ PT X x (tT G W (ev F FK m (.dc own t it c k e)).tst) := fun W X sc x g h => by
    simp only [ck] at h
    split at h
    · rename_i kx vx tg iter ifs scope pos
      rw [Bool.and_eq_true, Bool.and_eq_true, Bool.and_eq_true, Bool.and_eq_true, Bool.and_eq_true, Bool.and_eq_true, Bool.and_eq_true, Bool.and_eq_true, Bool.and_eq_true] at h
      obtain ⟨⟨⟨⟨⟨⟨⟨⟨⟨h0, h1⟩, h2⟩, h3⟩, h4⟩, h5⟩, h6⟩, h7⟩, h8⟩, h9⟩ := h
      have hx := no_xs h0
      subst hx
      have hcalm := g.calm rfl
      have hv : ∀ i ∈ slotsT t, i ∈ own.map (·.2) := fun i hi => of_decide_eq_true (List.all_eq_true.mp h3 i hi)
      refine ⟨?v, tst_of g.eK ?v fun _ => rfl⟩
      refine (pe_dc hcalm (by rw [g.eN]; exact g.nd) (hi.itv W X sc tg iter g h4 (tt_of h8)) (by rw [g.eN, g.esc]; exact blkOk_by h1)
        (fun s H C cl fp => snd_T (X := X.blk s H scope (compEnvC scope cl C X.env) fp) g.eN g.nd hcalm g.eK (fun y hy => own_sto hy) t tg h2)
        (fun s H C cl fp => cond_of hc (g.blk s H scope cl C fp) h6)
        (fun s H C cl fp => hk.val _ _ _ kx (g.blk s H scope cl C fp) h9)
        (fun s H C cl fp => he.val _ _ _ vx (g.blk s H scope cl C fp) h7) (fold_of (by simpa using h5) X.env)).wk fun σ H Q w => dc_of hv w
    · cases h
  exact .mk' rfl rfl rfl rfl rfl (fun W X sc x g h => (val W X sc x g h).1) fun W X sc x g h => (val W X sc x g h).2

/-- the dict of a variable locked -/
theorem lock_of {i n : Nat} (hx : G.xs ≠ some i) {H : Hp} {b : List Addr} {S : Store} {ls : Ls} {σ : L2.St} {kvs : List (Key × D)} (r : Rel G H b S) (rl : RL G H b ls σ) (h1 : ls[i]? = some (some (.ref n))) (h2 : S[n]? = some (.dct kvs)) :
    ∃ (a : Addr) (ws : List (Key × V)), b[n]? = some a ∧ H a = some (.dK ws) ∧ ∀ od, Post G H b (upd H a (.frz od (.dK ws))) b (S.set n (.dcl kvs)) ∧
      ∀ {H' : Hp} {b' : List Addr} {S' : Store} {kvs' : List (Key × D)}, Post G (upd H a (.frz od (.dK ws))) b H' b' S' → S'[n]? = some (.dcl kvs') → H' a = some (.frz od (.dK ws)) ∧ Post G H b (upd H' a (.dK ws)) b' (S'.set n (.dct kvs')) ∧ Grow H' (upd H' a (.dK ws)) := by
  obtain ⟨v, _, rv⟩ := rl.at_ i _ hx h1
  obtain ⟨a, ws, rfl, bn, hd, kv⟩ := dct_at r rv h2
  have ko := dct_ok r rv h2
  refine ⟨a, ws, bn, hd, fun od => ?_⟩
  have g1 : Grow H (upd H a (.frz od (.dK ws))) := Grow.set hd rfl
  have p1 : Post G H b (upd H a (.frz od (.dK ws))) b (S.set n (.dcl kvs)) := r.set bn hd (fun _ _ z => by cases z) ⟨od, ws, upd_same, kv.mono (Old.refl b) g1, ko⟩
  refine ⟨p1, fun {H' b' S' kvs'} p2 hs => ?_⟩
  have hw := p2.frz a od ws upd_same
  have g2 : Grow H' (upd H' a (.dK ws)) := Grow.set hw rfl
  refine ⟨hw, ⟨p2.rel.unlock (p2.old n a bn) hs hw, p2.old, (p1.grow.trans p2.grow).trans g2, fun x o k q => ?_⟩, g2⟩
  have hne : x ≠ a := fun e => by rw [e, hd] at q; cases q
  rw [upd_ne hne]
  exact p2.frz x o k (by rw [upd_ne hne]; exact q)
theorem snd_lk {i : Nat} {e : E} (he : Snd G F FK m N FT KT XT xo e) : Snd G F FK m N FT KT XT xo (.lk i e) := by
  refine .mk' rfl rfl rfl rfl rfl (fun W X sc x g h => ?_) fun W X sc x g h => ⟨fun pins s σ H Q I ⟨b, S, ls, r, rl, w⟩ => (show False from w).elim⟩
  simp only [ck] at h
  rw [Bool.and_eq_true] at h
  have hx : G.xs ≠ some i := by rw [g.exs]; simpa using h.1
  refine (pe_lock (he.val noW X sc x g.nox h.2)).wk fun σ H Q w => ?_
  obtain ⟨b, S, ls, r, rl, w⟩ := w
  simp only [ev] at w
  split at w
  · rename_i n h1
    split at w
    · rename_i kvs h2
      obtain ⟨a, ws, bn, hd, hh⟩ := lock_of hx r rl h1 h2
      refine ⟨a, .dK ws, hd, trivial, fun od => ?_⟩
      obtain ⟨p1, hu⟩ := hh od
      split at w
      · rename_i d S1 e1
        refine ⟨b, _, ls, p1.rel, p1.rl rl, ?_⟩
        rw [e1]
        intro H' b' p2 v rv
        split at w
        · rename_i kvs' hs
          obtain ⟨hw, p3, g3⟩ := hu p2 hs
          exact ⟨hw, w _ _ p3 v (RV.mono (Old.refl b') g3 _ _ rv)⟩
        · exact w.elim
      · exact w.elim
    · exact w.elim
  · exact w.elim

theorem snd : ∀ e : E, Snd G F FK m N FT KT XT xo e
  | .non => snd_non
  | .bl _ => snd_bl
  | .int _ => snd_int
  | .str _ => snd_str
  | .v _ => snd_v
  | .bin _ a b => snd_bin (snd a) (snd b)
  | .neg a => snd_neg (snd a)
  | .no a => snd_no (snd a)
  | .bo _ es => snd_bo (snd es)
  | .cmp _ a b => snd_cmp (snd a) (snd b)
  | .chn _ _ a b c => snd_chn (snd a) (snd b) (snd c)
  | .ite c a b => snd_ite (snd c) (snd a) (snd b)
  | .tup es => snd_tup (snd es)
  | .lst es => snd_lst (snd es)
  | .nil => snd_nil
  | .cons a r => snd_cons (snd a) (snd r)
  | .ix a i => snd_ix (snd a) (snd i)
  | .sl a lo hi => snd_sl (snd a) (snd lo) (snd hi)
  | .dnew => snd_dnew
  | .call _ es => snd_call (snd es)
  | .callk _ _ es eks => snd_callk (snd es) (snd eks)
  | .bi _ es => snd_bi (snd es)
  | .isi _ a => snd_isi (snd a)
  | .mt _ a es => snd_mt (snd a) (snd es)
  | .lc _ _ it c e => snd_lc (snd it) (snd c) (snd e)
  | .lk _ e => snd_lk (snd e)
  | .xf _ _ _ => snd_xf
  | .q a => snd_q (snd a)
  | .qr a => snd_qr (snd a)
  | .qr2 a b => snd_qr2 (snd a) (snd b)
  | .qe a => snd_qe (snd a)
  | .qv a => snd_qv (snd a)
  | .qz2 a b => snd_qz2 (snd a) (snd b)
  | .qz3 a b c => snd_qz3 (snd a) (snd b) (snd c)
  | .slr a => snd_slr (snd a)
  | .dd2 a b c d => snd_dd2 (snd a) (snd b) (snd c) (snd d)
  | .dc _ _ it c k e => snd_dc (snd it) (snd c) (snd k) (snd e)
end
end PV

set_option Elab.async false
set_option linter.all false
set_option maxRecDepth 100000
set_option maxHeartbeats 2000000
/-! PV: statements run as their S says. -/
namespace L2
open PySem PySem.Spec PyProof.Rows
section
variable {X : Cx}
theorem PS.wk {st : Stmt} {t t' : TS} (h : PS X st t) (k : ∀ D σ H, t' D σ H → t D σ H) : PS X st t' := ⟨fun pins s σ H D I w => h.run pins s σ H D I (k D σ H w)⟩
theorem PSs.wk {st : List Stmt} {t t' : TS} (h : PSs X st t) (k : ∀ D σ H, t' D σ H → t D σ H) : PSs X st t' := ⟨fun pins s σ H D I w => h.run pins s σ H D I (k D σ H w)⟩
end
end L2
namespace PV
open PySem PySem.Spec PyProof.Rows L2
section
variable {G : Gb} {X : Cx}
theorem get_D (hK : X.K = G.K) (hu : X.A.units + 1 < cLine) : PGet X (rOp G fun x y S => opt (ixR x y S) S) := by
  intro pins s σ H x y v u Q I rx ry h
  obtain ⟨b, S, dx, dy, r, h1, h2, w⟩ := h
  obtain ⟨d, e, q⟩ := opt_d w
  have dict : ∀ {p : Addr} {ws : List (Key × V)} {kvs : List (Key × D)} {z : Key}, x = .ref p → y = kV z → Rd H p (.dK ws) → RKs G H b kvs ws → valG kvs z = some d →
      wpAny (model X.prog X.w) X.A (getItem v u) (EP X pins σ Q) X.xe s := by
    intro p ws kvs z ex ey hd kv hz
    subst ex ey
    obtain rfl : v = Value.ref p := rx
    rcases kv.val z with ⟨a, _⟩ | ⟨d', v', a, c, rv⟩
    · rw [hz] at a; cases a
    · rw [hz] at a
      cases a
      have g : DGet H p (kV z) (some v') := .inl ⟨ws, z, hd, rfl, c.symm⟩
      exact d_getItem hu I g ry fun w' s' I' rw' => ⟨v', H, I', rw', q _ _ _ (Post.refl r) rv⟩
  cases dx with
  | ref n =>
    cases dy with
    | int k =>
      have ey : y = kV (.inl k) := rv_int.mp h2
      simp only [ixR, ixD] at e
      split at e
      · rename_i ds z
        obtain ⟨a, vs, rfl, _, hd, kv⟩ := lst_at r h1 z
        obtain rfl := rv_int.mp h2
        obtain ⟨v', e1, e2⟩ := atI_ok kv e
        cases rx
        obtain ⟨t, rfl⟩ := ry
        obtain ⟨its, rr, pl, hz⟩ := I.list (SqL.of hd)
        obtain ⟨j, g1, g2, g3, g4, g5⟩ := atI_get e1
        obtain ⟨w, ew, rw'⟩ := rr.get g2
        have hl := rr.length
        have hn := line63
        have fin : EP X pins σ Q w s := ⟨v', H, I, rw', q _ _ _ (Post.refl r) e2⟩
        by_cases h0 : 0 ≤ k
        · have hj : k.toNat = j := by
            rw [seqIndex_of h0 g5] at g1
            exact Option.some.inj g1
          exact wpAny_getItem_list pl.isList h0 (by omega) (by rw [hj]; simpa using ew) fin
        · have hj : (k + (its.toArray.size : Int)).toNat = j := by
            rw [seqIndex_neg (by omega) g4] at g1
            rw [List.size_toArray, ← hl]
            exact Option.some.inj g1
          exact wpAny_getItem_list_neg pl.isList (by omega) (by rw [List.size_toArray] <;> omega) (by omega) (by rw [hj]; simpa using ew) fin
      · rename_i kvs z
        obtain ⟨a, ws, ex, _, hd, kv⟩ := dct_at r h1 z
        exact dict ex ey (.inl hd) kv e
      · rename_i kvs z
        obtain ⟨a, ob, ws, ex, _, hd, kv⟩ := dcl_at r h1 z
        exact dict ex ey (.inr ⟨ob, hd⟩) kv e
      · cases e
    | str k =>
      have ey : y = kV (.inr k) := (rv_str.mp h2).1
      simp only [ixR, ixD] at e
      split at e
      · rename_i kvs z
        obtain ⟨a, ws, ex, _, hd, kv⟩ := dct_at r h1 z
        exact dict ex ey (.inl hd) kv e
      · rename_i kvs z
        obtain ⟨a, ob, ws, ex, _, hd, kv⟩ := dcl_at r h1 z
        exact dict ex ey (.inr ⟨ob, hd⟩) kv e
      · cases e
    | _ => simp [ixR, ixD] at e
  | _ => simp [ixR] at e

/-! ### how a block ends -/
def WantS (G : Gb) (W : WX) (H : Hp) (b : List Addr) (r : R Fl) (D : Ends) : Prop :=
  ∃ fl S', r = .ok fl S' ∧ match fl with
    | .next ls' => ∀ H' b' σ', Post G H b H' b' S' → RL G H' b' ls' σ' → D.nx σ' H'
    | .brk ls' => ∀ H' b' σ', Post G H b H' b' S' → RL G H' b' ls' σ' → D.bk σ' H'
    | .cont ls' => ∀ H' b' σ', Post G H b H' b' S' → RL G H' b' ls' σ' → D.ct σ' H'
    | .ret d => ∀ v H' b', Post G H b H' b' S' → RV G H' b' d v → D.rt v H'
    | .exc ls' c ds => ∀ cls d H' b' σ', Post G H b H' b' S' → RL G H' b' ls' σ' → RX G H' b' c ds cls d → W cls d σ' H'
def tS (G : Gb) (W : WX) (f : Ls → Store → R Fl) : TS := fun D σ H => ∃ b S ls, Rel G H b S ∧ RL G H b ls σ ∧ WantS G W H b (f ls S) D
section
variable {W : WX}
theorem WantS.mono {H H1 : Hp} {b b1 : List Addr} {S1 : Store} {r : R Fl} {D : Ends} (p : Post G H b H1 b1 S1) (w : WantS G W H b r D) : WantS G W H1 b1 r D := by
  obtain ⟨fl, S', e, q⟩ := w
  refine ⟨fl, S', e, ?_⟩
  cases fl with
  | next ls' => exact fun H' b' σ' p' rl => q H' b' σ' (p.trans p') rl
  | brk ls' => exact fun H' b' σ' p' rl => q H' b' σ' (p.trans p') rl
  | cont ls' => exact fun H' b' σ' p' rl => q H' b' σ' (p.trans p') rl
  | ret d => exact fun v H' b' p' rv => q v H' b' (p.trans p') rv
  | exc ls' c ds => exact fun cls d H' b' σ' p' rl x => q cls d H' b' σ' (p.trans p') rl x
theorem wantS_bind {α : Type} {H : Hp} {b : List Addr} {r : R α} {ls : Ls} {σ : L2.St} {k : α → Store → R Fl} {D : Ends} (rl : RL G H b ls σ) (w : WantS G W H b (bindS r ls k) D) : Wt G H b r (wz W σ) fun x S1 H1 b1 => WantS G W H1 b1 (k x S1) D := by
  cases r with
  | ok x S1 => exact fun H1 b1 p => WantS.mono p w
  | exc c ds S1 =>
    obtain ⟨fl, S', e, q⟩ := w
    cases e
    exact fun cls d H' b' p x => q cls d H' b' σ p (p.rl rl) x
  | bad =>
    obtain ⟨fl, S', e, q⟩ := w
    cases e
theorem wantS_bad {H : Hp} {b : List Addr} {D : Ends} : ¬ WantS G W H b .bad D := fun ⟨_, _, e, _⟩ => by cases e
theorem wantS_exc {H : Hp} {b : List Addr} {D : Ends} {c : Nat} {ds : List PV.D} {S : Store} : ¬ WantS G W H b (.exc c ds S) D := fun ⟨_, _, e, _⟩ => by cases e
theorem wantS_next {H : Hp} {b : List Addr} {D : Ends} {ls : Ls} {S : Store} (w : WantS G W H b (.ok (.next ls) S) D) : ∀ H' b' σ', Post G H b H' b' S → RL G H' b' ls σ' → D.nx σ' H' := by
  obtain ⟨fl, S', e, q⟩ := w
  cases e
  exact q
theorem wantS_brk {H : Hp} {b : List Addr} {D : Ends} {ls : Ls} {S : Store} (w : WantS G W H b (.ok (.brk ls) S) D) : ∀ H' b' σ', Post G H b H' b' S → RL G H' b' ls σ' → D.bk σ' H' := by
  obtain ⟨fl, S', e, q⟩ := w
  cases e
  exact q
theorem wantS_cont {H : Hp} {b : List Addr} {D : Ends} {ls : Ls} {S : Store} (w : WantS G W H b (.ok (.cont ls) S) D) : ∀ H' b' σ', Post G H b H' b' S → RL G H' b' ls σ' → D.ct σ' H' := by
  obtain ⟨fl, S', e, q⟩ := w
  cases e
  exact q
theorem wantS_ret {H : Hp} {b : List Addr} {D : Ends} {d : PV.D} {S : Store} (w : WantS G W H b (.ok (.ret d) S) D) : ∀ v H' b', Post G H b H' b' S → RV G H' b' d v → D.rt v H' := by
  obtain ⟨fl, S', e, q⟩ := w
  cases e
  exact q
theorem wantS_ex {H : Hp} {b : List Addr} {D : Ends} {ls : Ls} {c : Nat} {ds : List PV.D} {S : Store} (w : WantS G W H b (.ok (.exc ls c ds) S) D) : ∀ cls d H' b' σ', Post G H b H' b' S → RL G H' b' ls σ' → RX G H' b' c ds cls d → W cls d σ' H' := by
  obtain ⟨fl, S', e, q⟩ := w
  cases e
  exact q
/-- a value, then the rest -/
theorem st1 {fa : Ls → Store → R D} {k : Ls → D → Store → R Fl} {σ : L2.St} {H : Hp} {D : Ends} {Q : VK} (h : tS G W (fun ls S => bindS (fa ls S) ls (k ls)) D σ H)
    (hk : ∀ b S ls d v H1 b1 S1, Rel G H b S → RL G H b ls σ → Post G H b H1 b1 S1 → RV G H1 b1 d v → RL G H1 b1 ls σ → WantS G W H1 b1 (k ls d S1) D → Q v H1) : tE G W fa σ H Q := by
  obtain ⟨b, S, ls, r, rl, w⟩ := h
  exact ⟨b, S, ls, r, rl, (wantS_bind rl w).imp fun d S1 H1 b1 p1 _ w v rv1 => hk b S ls d v H1 b1 S1 r rl p1 rv1 (p1.rl rl) w⟩
end
end

/-! ### the check -/
structure CkS where
  s : Scope → Stmt → Bool := fun _ _ => false
  ss : Scope → List Stmt → Bool := fun _ _ => false
  hs : Scope → List ExceptHandler → Bool := fun _ _ => false
def isComp : Expr → Bool
  | .ListComp _ _ _ _ => true
  | .SetComp _ _ _ _ => true
  | .DictComp _ _ _ _ _ => true
  | _ => false
/-- the stores' order of name = comprehension -/
def swC (x : Expr) (y : Str) (py : Pos) (sc : Scope) : Bool :=
  match x with
  | .ListComp _ _ scope pos => decide (sc.names.lookup y = some .local) && py.line == pos.line && !(scope.names.any fun (n, k) => n == y && (k == .local || k == .cell))
  | .SetComp _ _ _ _ => true
  | .DictComp _ _ _ _ _ => true
  | _ => false
def swD (y : Str) (py : Pos) (scope : Scope) (pos : Pos) (sc : Scope) : Bool := decide (sc.names.lookup y = some .local) && py.line == pos.line && !(scope.names.any fun (n, k) => n == y && (k == .local || k == .cell))
/-- a tuple of constants -/
def notPair (x : Expr) : Bool :=
  match x with
  | .Tuple vs _ _ => vs.all (foldedForSure 8)
  | _ => true
/-- a target that is not a plain local name -/
def notTs (sc : Scope) (es : List Expr) : Bool := es.any fun x => match x with
  | .Name y _ => !decide (sc.names.lookup y = some .local)
  | _ => true
def isSliceN (e : Expr) : Bool := isSlice e
section
variable (N : List Str) (FT : List (Str × Nat × Nat)) (KT : List (Nat × Nat × List Str)) (XT : List (Str × List Str))
def augC (o : Bo) : Bool := decide (o = .add) || decide (o = .sub)
def nmC (sc : Scope) (i : Nat) (y : Str) : Bool := decide (N[i]? = some y) && ownC sc y
def nmL (sc : Scope) (i : Nat) (y : Str) : Bool := decide (N[i]? = some y) && decide (sc.names.lookup y = some .local)
def ckS (xo : Option Nat) : S → CkS
  | .nil => { ss := fun _ xs => xs.isEmpty, hs := fun _ xs => xs.isEmpty }
  | .cons a r => { ss := fun sc xs => match xs with | x :: rest => (ckS xo a).s sc x && (ckS xo r).ss sc rest | [] => false }
  | .ex e => { s := fun sc x => match x with | .Expr y _ => !isComp y && (ck N FT KT XT xo e).e sc y | _ => false }
  | .set i e => { s := fun sc x => match x with | .Assign [.Name y py] v _ => nmC N sc i y && !swC v y py sc && (ck N FT KT XT xo e).e sc v | _ => false }
  | .slc i own t it c e => { s := fun sc x => match x with
      | .Assign [.Name y py] (.ListComp elt [⟨tg, iter, ifs, 0⟩] scope pos) _ => nmL N sc i y && swC (.ListComp elt [⟨tg, iter, ifs, 0⟩] scope pos) y py sc && (ck N FT KT XT xo (.lc own t it c e)).e sc (.ListComp elt [⟨tg, iter, ifs, 0⟩] scope pos)
      | _ => false }
  | .sdc i own t it c k e => { s := fun sc x => match x with
      | .Assign [.Name y py] (.DictComp kx vx [⟨tg, iter, ifs, 0⟩] scope pos) _ => nmL N sc i y && swD y py scope pos sc && (ck N FT KT XT xo (.dc own t it c k e)).e sc (.DictComp kx vx [⟨tg, iter, ifs, 0⟩] scope pos)
      | _ => false }
  | .asg t e => { s := fun sc x => match x with | .Assign [.Tuple es k p] v _ => xo.isNone && ckT N (ownC sc) t (.Tuple es k p) && (notPair v || notTs sc es) && (ck N FT KT XT xo e).e sc v | _ => false }
  | .par2 i j a b => { s := fun sc x => match x with
      | .Assign [.Tuple [.Name y py, .Name z pz] _ _] (.Tuple [l, r] _ _) _ => xo.isNone && nmL N sc i y && nmL N sc j z && !(i == j) && !(y == z) && py.line == pz.line && !isStar l && !isStar r && !([l, r].all (foldedForSure 8)) && !([l, r].all (constantsAlone 8)) && (ck N FT KT XT xo a).e sc l && (ck N FT KT XT xo b).e sc r
      | _ => false }
  | .par3 i j l a b c => { s := fun sc x => match x with
      | .Assign [.Tuple [.Name y py, .Name z pz, .Name w pw] _ _] (.Tuple [u1, u2, u3] _ _) _ => xo.isNone && nmL N sc i y && nmL N sc j z && nmL N sc l w && !(i == j) && !(i == l) && !(j == l) && !(y == z) && !(y == w) && !(z == w) && py.line == pz.line && py.line == pw.line && !isStar u1 && !isStar u2 && !isStar u3 &&
          !([u1, u2, u3].all (foldedForSure 8)) && !([u1, u2, u3].all (constantsAlone 8)) && (ck N FT KT XT xo a).e sc u1 && (ck N FT KT XT xo b).e sc u2 && (ck N FT KT XT xo c).e sc u3
      | _ => false }
  | .aug i o e => { s := fun sc x => match x with | .AugAssign (.Name y _) p v _ => augC o && !(xo == some i) && nmC N sc i y && decide (p = bop o) && (ck N FT KT XT xo e).e sc v | _ => false }
  | .six a i e => { s := fun sc x => match x with | .Assign [.Subscript l r _] v _ => !isSlice r && !isComp v && (ck N FT KT XT xo e).e sc v && (ck N FT KT XT xo a).e sc l && (ck N FT KT XT xo i).e sc r | _ => false }
  | .aix a i o e => { s := fun sc x => match x with | .AugAssign (.Subscript l r _) p v _ => augC o && !isSlice r && decide (p = bop o) && (ck N FT KT XT xo a).e sc l && (ck N FT KT XT xo i).e sc r && (ck N FT KT XT xo e).e sc v | _ => false }
  | .ite c a b => { s := fun sc x => match x with | .If t l r _ => (ck N FT KT XT xo c).e sc t && (ckS xo a).ss sc l && (ckS xo b).ss sc r | _ => false }
  | .whl c b => { s := fun sc x => match x with | .While t l [] _ => (ck N FT KT XT xo c).e sc t && (ckS xo b).ss sc l | _ => false }
  | .for t it b => { s := fun sc x => match x with | .For tg iter l [] _ => xo.isNone && ckT N (ownC sc) t tg && !isSetE iter && (ck N FT KT XT xo it).it sc iter && (ckS xo b).ss sc l && (!tt it || isTupE tg) | _ => false }
  | .ret e => { s := fun sc x => match x with | .Return (some v) _ => (ck N FT KT XT xo e).e sc v | _ => false }
  | .retN => { s := fun sc x => match x with | .Return none _ => true | _ => false }
  | .brk => { s := fun sc x => match x with | .Break _ => true | _ => false }
  | .cnt => { s := fun sc x => match x with | .Continue _ => true | _ => false }
  | .pas => { s := fun sc x => match x with | .Pass _ => true | .Expr (.Constant (.str _) _ _) _ => true | _ => false }
  | .lks i s => { s := fun sc x => !(xo == some i) && (ckS xo s).s sc x }
  | .rse c es => { s := fun sc x => match x with
      | .Raise (some (.Call (.Name y _) l [] _)) none _ => xo.isNone && globC sc y && (match XT[c]? with | some (z, fs) => decide (z = y) && decide (l.length = fs.length) && decide (fs.length ≤ 10) | none => false) && (ck N FT KT XT xo es).es sc l
      | _ => false }
  | .tr b hs => { s := fun sc x => match x with
      | .Try body (h₀ :: hds) [] [] _ => xo.isNone && (ckS xo b).ss sc body && (ckS xo hs).hs sc (h₀ :: hds)
      | _ => false }
  | .hd k any i h r => { hs := fun sc x => match x with
      | .ExceptHandler (some (.Name y _)) nm (b₀ :: suite) _ :: hds => globC sc y && (match XT[k]? with | some (z, _) => decide (z = y) && (any == decide (z = "ToldError")) | none => false) &&
          (match nm, i with | none, none => true | some n, some i => nmL N sc i n | _, _ => false) && (ckS (some (xSlot i)) h).ss sc (b₀ :: suite) && (ckS xo r).hs sc hds
      | _ => false }
  | .non => {}
end

/-- an own __init__(self, f, ..): each is a field -/
def spX (C : Addr) (fs : List Str) : Sp := fun vs H Q _ => vs.length = fs.length + 1 ∧ ∃ a ws, vs = .ref a :: ws ∧ H a = some (exo a C none) ∧ ∀ dx es, H dx = none → dx ≠ a → (∀ (k : Nat) (f : Str) (v : V), fs[k]? = some f → ws[k]? = some v → es.lookup f = some v) →
  Q .non (upd (upd H dx (exd dx es)) a (exo a C (some dx)))
/-- how an exception of the class c is made -/
structure RsF (X : Cx) (G : Gb) (c : Nat) (y : Str) (fs : List Str) : Prop where
  at_ : X.mg y = some (.ref (G.cls c))
  kp : PySem.W.keepIn X.K (.ref (G.cls c)) = true
  ex : PySem.W.subIn X.K (.ref (G.cls c)) (.type "BaseException") = some true
  ty : PySem.W.typeIn X.K (.ref (G.cls c)) = some (.type "type")
  e0 : fs = [] → PySem.W.excIn X.K (G.cls c) He.veBase "ValueError.__new__" = true
  e1 : fs ≠ [] → OexC X.K (G.cls c) ∧ ∃ fI fd k, PySem.W.findIn X.K (.ref (G.cls c)) "__init__" = some (some (.ref fI)) ∧ PySem.W.typeIn X.K (.ref fI) = some (.type "function") ∧
    FnOk X.prog X.w X.K X.mg X.base CX0 k fI fd ("self" :: fs) (spX (G.cls c) fs) ∧ Room (k + 1) X.A ∧ Binds X.K fd ("self" :: fs) []
theorem pmk_own0 {X : Cx} {x : Str} {C : Addr} {p pos : Pos} (q : PySem.W.excIn X.K C He.veBase "ValueError.__new__" = true) (gC : X.mg x = some (.ref C)) (kC : PySem.W.keepIn X.K (.ref C) = true) (r : Raises X (.ref C)) (hg : Gl X x)
    (hdb : (x == ("__debug__" : Str)) = false) : PMk X (.Call (.Name x p) [] [] pos) (fun _ H Q => Q (.ref C) none H) := by
  intro pins s σ H Q I h
  refine wpAny_Call_Name_kw (ld_glob I hg gC ?_ hdb)
  refine PySem.W.callWith_K0 I.kIn kC ?_
  obtain ⟨bm, N, nm, qn, bs, hdct, sn, sub, ab, col, dd, k0, k1, k2, k3, k5, mN, hC, hN, hni, T⟩ := exc_obj I.kIn q
  refine wpAny_call_exc_subT PySem.F.excBase_ValueError T hC hN hni (fun h' e hm => ?_) (by show 0 ≤ sizeLine; rw [sizeLine_eq]; omega)
  exact mk_of I hm r h (I.hok.gone hm.new)
theorem del_upd {H : Hp} {a dx : Addr} {C : Addr} {es : List (Str × V)} (ha : H a = none) : upd (del (upd (upd (upd H a (exo a C none)) dx (exd dx es)) a (exo a C (some dx))) a) dx (.xd es) = upd H dx (.xd es) := by
  funext z
  by_cases h1 : z = dx
  · rw [h1, upd_same, upd_same]
  · rw [upd_ne h1, upd_ne h1]
    by_cases h2 : z = a
    · rw [h2, del_same, ha]
    · rw [del_ne h2, upd_ne h2, upd_ne h1, upd_ne h2]
structure StandS (G : Gb) (W : WX) (F : Nat → List D → Store → R D) (FK : Nat → List Str → List D → List D → Store → R D) (N : List Str) (FT : List (Str × Nat × Nat)) (KT : List (Nat × Nat × List Str)) (XT : List (Str × List Str)) (xo : Option Nat) (sc : Scope) (X : Cx) : Prop extends Stand G W F FK N FT KT XT xo sc X where
  own : PassesOwn (model X.prog X.w) X.A X.env X.xe
  kind : sc.kind = .function
  fn : ∀ y, X.fn y = true
  hs : X.stack = X.env :: X.outer
  hf : X.env.frame = some X.env.locals
  rs : xo = none → ∀ c y fs, XT[c]? = some (y, fs) → RsF X G c y fs
  exm : ∀ (c k : Nat) (y : Str) (fs : List Str) (z : Str) (gs : List Str), XT[c]? = some (y, fs) → XT[k]? = some (z, gs) → PySem.W.exmOne X.K (.ref (G.cls c)) (.ref (G.cls k)) = some (decide (c = k) || decide (z = "ToldError"))

section
variable {G : Gb} {F : Nat → List D → Store → R D} {FK : Nat → List Str → List D → List D → Store → R D} {m : Nat} {N : List Str} {FT : List (Str × Nat × Nat)} {KT : List (Nat × Nat × List Str)} {XT : List (Str × List Str)} {xo : Option Nat}
/-! ### except clauses -/
def offE (i : Option Nat) (D : Ends) : Ends := match i with
  | none => D
  | some i => { nx := fun σ' H' => D.nx (σ'.set i none) H', rt := D.rt, bk := fun σ' H' => D.bk (σ'.set i none) H', ct := fun σ' H' => D.ct (σ'.set i none) H' }
def onE (i : Option Nat) (a : Addr) (σ : L2.St) : L2.St := match i with
  | none => σ
  | some i => σ.set i (some (.ref a))
abbrev Cl : Type := Value × Option Nat × (Addr → Value → Option Addr → TS)
/-- the wish about the body's exceptions that the clauses make, the first that fits first -/
def wH (K : PySem.W.Frag) (Wout : WX) (D : Ends) : List Cl → WX
  | [] => Wout
  | (c, i, ts) :: r => fun cls d σ H => ∃ b, PySem.W.exmOne K cls c = some b ∧ (b = true → ∀ a, H a = none → ts a cls d (offE i D) (onE i a σ) H) ∧ (b = false → wH K Wout D r cls d σ H)
inductive HOk2 (X : Cx) : List ExceptHandler → List Cl → Prop
  | nil : HOk2 X [] []
  | c0 {x : Str} {c : Value} {ts : Addr → Value → Option Addr → TS} {b₀ : Stmt} {suite : List Stmt} {np pos' : Pos} {hds : List ExceptHandler} {l : List Cl} (hc : Names X x c)
      (hsu : ∀ (a : Addr) (oe : Obj) (cls : Value) (d : Option Addr) (pn : List (Addr × Obj)), Zc cls d oe → (∃ vs, oe.data = .fields vs) → PSs (X.suite a ((a, oe) :: pn)) (b₀ :: suite) (ts a cls d)) (r : HOk2 X hds l) :
      HOk2 X (.ExceptHandler (some (.Name x np)) none (b₀ :: suite) pos' :: hds) ((c, none, ts) :: l)
  | c1 {x n : Str} {i : Nat} {c : Value} {ts : Addr → Value → Option Addr → TS} {b₀ : Stmt} {suite : List Stmt} {np pos' : Pos} {hds : List ExceptHandler} {l : List Cl} (hc : Names X x c) (hi : X.N[i]? = some n) (hln : X.env.kindOf n = some .local)
      (hsu : ∀ (a : Addr) (oe : Obj) (cls : Value) (d : Option Addr) (pn : List (Addr × Obj)), Zc cls d oe → (∃ vs, oe.data = .fields vs) → PSs (X.suite a ((a, oe) :: pn)) (b₀ :: suite) (ts a cls d)) (r : HOk2 X hds l) :
      HOk2 X (.ExceptHandler (some (.Name x np)) (some n) (b₀ :: suite) pos' :: hds) ((c, some i, ts) :: l)
/-- an exception of X's air that has landed in X's own frame: sL the state with it -/
structure Landed (X : Cx) (pins : List (Addr × Obj)) (sI : Shared) (B : Heap) (a : Addr) (cls : Value) (d : Option Addr) (σ : L2.St) (H : Hp) (sL : Shared) : Prop where
  I0 : Inv X pins σ H sI
  I : Inv X pins σ H sL
  fly : HandSPX.FlyingZ B (X.env :: X.outer) a (Zc cls d) sL.heap
  ground : ∀ b o, sI.heap.get? b = some o → b ∉ frs X.stack → B.get? b = some o
  up : sI.heap.UpToSlots sL.heap
  na : H a = none
  os : sL.os = sI.os
  ag : AllBare sL.gens
  nL : a ≠ X.env.locals
  nF : a ∉ X.fs
/-- it lands again, a moment later -/
theorem Landed.again {X : Cx} {pins : List (Addr × Obj)} {sI : Shared} {B : Heap} {a : Addr} {cls : Value} {d : Option Addr} {σ : L2.St} {H : Hp} {sL : Shared} (L : Landed X pins sI B a cls d σ H sL) {h4 : Heap} (f : HandSPX.FlyingZ B (X.env :: X.outer) a (Zc cls d) h4) (u : sL.heap.UpToSlots h4) :
    Landed X pins sI B a cls d σ H { sL with heap := h4 } :=
  ⟨L.I0, L.I0.landed L.ground f.1 (L.up.trans u) L.os L.ag, f, L.ground, L.up.trans u, L.na, L.os, L.ag, L.nL, L.nF⟩
/-- the state is one of a suite -/
theorem Landed.suite {X : Cx} {pins : List (Addr × Obj)} {sI : Shared} {B : Heap} {a : Addr} {cls : Value} {d : Option Addr} {σ : L2.St} {H : Hp} {sL : Shared} (L : Landed X pins sI B a cls d σ H sL) :
    ∃ oe, Zc cls d oe ∧ (∃ vs, oe.data = .fields vs) ∧ sL.heap.get? a = some oe ∧ Inv (X.suite a ((a, oe) :: (X.pn ++ pins))) [] σ H sL := by
  obtain ⟨oe, vs, there, z, fl⟩ := L.fly.there
  exact ⟨oe, z, ⟨vs, fl⟩, there, L.I.suite there fl L.na L.nL L.nF⟩
/-- the name that a clause asks by is read -/
theorem Landed.reads {X : Cx} {pins : List (Addr × Obj)} {sI : Shared} {B : Heap} {a : Addr} {cls c : Value} {d : Option Addr} {σ : L2.St} {H : Hp} {sL : Shared} (L : Landed X pins sI B a cls d σ H sL) {x : Str} {p : Pos} {Q : Value → Shared → Prop} {E : Value → Shared → Prop} (n : Names X x c) (q : Q c sL) :
    wpAny (model X.prog X.w) (X.A.mark (some (.ref a))) (eval (.Name x p) X.env) Q E sL := by
  obtain ⟨oe, _, _, _, J⟩ := L.suite
  rcases n with ⟨g, nd, m | ⟨m, v, nn⟩⟩
  · exact ld_glob J g m q nd
  · exact ld_blt J g m v q nn nd
theorem Landed.run0 {X : Cx} {pins : List (Addr × Obj)} {sI : Shared} {B : Heap} {a : Addr} {cls : Value} {d : Option Addr} {σ : L2.St} {H : Hp} {sL : Shared} (L : Landed X pins sI B a cls d σ H sL) {body : List Stmt} {t : TS} {D : Ends} {E : Value → Shared → Prop}
    (hb : ∀ (oe : Obj) (pn : List (Addr × Obj)), Zc cls d oe → (∃ vs, oe.data = .fields vs) → PSs (X.suite a ((a, oe) :: pn)) body t) (ht : t D σ H) :
    wpAny (model X.prog X.w) (X.A.mark (some (.ref a))) (execs body X.env) (SP X pins D) E sL := by
  obtain ⟨oe, z, f, _, J⟩ := L.suite
  refine wpAny_mono ((hb oe (X.pn ++ pins) z f).run [] sL σ H D J ht) (fun fl s' r => ?_) fun _ _ n => n.elim
  cases fl with
  | next => exact r.elim fun σ' r => r.elim fun H' r => ⟨σ', H', r.1.unsuite L.I.ok, r.2⟩
  | brk => exact r.elim fun σ' r => r.elim fun H' r => ⟨σ', H', r.1.unsuite L.I.ok, r.2⟩
  | cont => exact r.elim fun σ' r => r.elim fun H' r => ⟨σ', H', r.1.unsuite L.I.ok, r.2⟩
  | ret u => exact r.elim fun v r => r.elim fun σ' r => r.elim fun H' r => ⟨v, σ', H', r.1.unsuite L.I.ok, r.2⟩
theorem ps_tryH {X : Cx} {body : List Stmt} {h₀ : ExceptHandler} {hds : List ExceptHandler} {l : List Cl} {pos : Pos} {tb : WX → TS} {Wout : WX} (hs : X.stack = X.env :: X.outer) (hf : X.env.frame = some X.env.locals) (hN : X.N.Nodup) (tk : Takes X Wout)
    (hb : ∀ (U : WX) (pl : List (Addr × Obj)) (ye : Value → Shared → Prop), Takes (X.tr pl ye) U → PassesOwn (model X.prog X.w) X.A X.env ye → PSs (X.tr pl ye) body (tb U))
    (hh : HOk2 X (h₀ :: hds) l) : PS X (.Try body (h₀ :: hds) [] [] pos) (fun D σ H => tb (wH X.K Wout D l) D σ H) := by
  -- the clauses, from the one that is asked next on
  have clauses : ∀ {pins : List (Addr × Obj)} {sI : Shared} {B : Heap} {a : Addr} {cls : Value} {d : Option Addr} {σ : L2.St} {H : Hp} {sL : Shared} {D : Ends}, Landed X pins sI B a cls d σ H sL → ∀ {hs' : List ExceptHandler} {l' : List Cl}, HOk2 X hs' l' → wH X.K Wout D l' cls d σ H →
      wpAny (model X.prog X.w) X.A (handleBy (.ref a) X.env hs') (SP X pins D) X.xe sL := by
    intro pins sI B a cls d σ H sL D L hs' l' hk
    have ty : PySem.W.Looks (model X.prog X.w) sL.heap (typeOf (.ref a)) cls := by
      obtain ⟨oe, z, _, there, _⟩ := L.suite
      exact fun _ _ _ _ k q => wpAny_typeOf_ref (k _ _ there) (z.1 ▸ q)
    induction hk with
    | nil =>
      intro w
      refine wpAny_handleBy_nil ?_
      obtain ⟨_, _, _, oe, vs, T, _, _, there, _, fl, one, _⟩ := id L.fly
      have on : wpAny (model X.prog X.w) X.A (setFlight (.ref a) X.env.frame) (fun _ s4 => wpAny (model X.prog X.w) X.A (throw (.ref a) : Sem Flow) (SP X pins D) X.xe s4) X.xe sL := by
        rw [hf]
        exact HandSPX.setFlight_upZ L.fly fun h4 held u => wpAny_throw (tk _ _ ⟨a, B, sI, pins, σ, H, cls, d, rfl, L.I0, L.ground, L.up.trans u, .inr (.inr (hs ▸ held)), L.na, L.os, L.ag, w⟩)
      unfold PySem.passOn
      refine wpAny_bind (wpAny_field there fl one ?_)
      rw [if_neg (by simp : ¬ ((Value.ref T == Value.none) = true))]
      first
        | exact wpAny_bind (wpAny_pure (wpAny_bind on))
        | exact wpAny_bind on
    | c0 n su r ih =>
      rintro ⟨k, e, yes, no⟩
      refine wpAny_handleBy_cons (codeAny_handlers_test (L.reads n ((PySem.W.exm_one L.I.kIn ty e).here ?_))) fun q => by cases q
      cases k with
      | false => exact ih (no rfl)
      | true => exact codeAny_handlers_suite (HandSPX.lands_againZ L.fly fun h4 f u => (L.again f u).run0 (fun oe pn z g => su a oe cls d pn z g) (yes rfl a L.na))
    | @c1 x n i c ts b₀ suite np pos' hds2 l2 nm hi hln su r ih =>
      rintro ⟨k, e, yes, no⟩
      refine wpAny_handleBy_cons (codeAny_handlers_test (L.reads nm ((PySem.W.exm_one L.I.kIn ty e).here ?_))) fun q => by cases q
      cases k with
      | false => exact ih (no rfl)
      | true =>
        refine codeAny_handlers_suite_as (HandSPX.lands_againZ L.fly fun h4 f u => ?_)
        have L4 := L.again f u
        obtain ⟨oe, z, g, there, J⟩ := L4.suite
        refine store_ok (v := .ref a) (X := X.suite a ((a, oe) :: (X.pn ++ pins))) J hN hi (Or.inl hln) rfl (fun s5 J5 => ?_) (Or.inr hln)
        have go : ∀ {s6 : Shared} {σ6 : L2.St} {H6 : Hp} {Q : Shared → Prop}, Inv (X.suite a ((a, oe) :: (X.pn ++ pins))) [] σ6 H6 s6 → (∀ s7, Inv X pins (σ6.set i none) H6 s7 → Q s7) → wpAny (model X.prog X.w) X.A (do bindName X.env n .none; unbindBehindTheSuite X.env n pos') (fun _ s7 => Q s7) X.xe s6 :=
          fun J6 q => gone_ok (J6.unsuite L.I.ok) hN hi hln q
        refine wpAny_mono ((su a oe cls d (X.pn ++ pins) z g).run [] s5 _ H _ J5 (yes rfl a L.na)) (fun fl s6 r => ?_) fun _ _ y => y.elim
        cases fl with
        | next => exact r.elim fun σ6 r => r.elim fun H6 r => go r.1 fun s7 J7 => ⟨_, H6, J7, r.2⟩
        | brk => exact r.elim fun σ6 r => r.elim fun H6 r => go r.1 fun s7 J7 => ⟨_, H6, J7, r.2⟩
        | cont => exact r.elim fun σ6 r => r.elim fun H6 r => go r.1 fun s7 J7 => ⟨_, H6, J7, r.2⟩
        | ret u => exact r.elim fun v r => r.elim fun σ6 r => r.elim fun H6 r => go r.1 fun s7 J7 => ⟨v, _, H6, J7, r.2⟩
  refine ⟨fun pins s σ H D I h => ?_⟩
  have body_ := fun xe (tx : Takes (X.tr (X.pn ++ pins) xe) (wH X.K Wout D l)) own => (hb (wH X.K Wout D l) (X.pn ++ pins) xe tx own).run [] s σ H D (I.toTry _) h
  refine wpAny_Try_except (wpAny_mono (body_ _ (fun u s' air => ?_) PassesOwn.looking) (fun fl s1 r => ?_) fun _ _ y => y)
  · obtain ⟨a, B, sI, pins', σ', H', cls, d, rfl, J', ground, up, sky, na, os, ag, w⟩ := air
    have J : Inv X pins σ' H' sI := J'.ofTry I.ok
    rw [show (X.tr (X.pn ++ pins) _).stack = X.env :: X.outer from hs] at sky
    refine Sky.land Zc.steady (by rw [I.ok.frames, hs]) hf sky fun h3 f u3 => clauses (sI := sI) (B := B) (sL := { s' with heap := h3 }) ?_ hh w
    have out : a ∉ frs (X.env :: X.outer) := fun m => by
      obtain ⟨_, o, e1, nf⟩ := f.2.2.1.mem m
      obtain ⟨oe, vs, e2, _, e3⟩ := f.there
      rw [e1] at e2
      exact nf vs (Option.some.inj e2 ▸ e3)
    exact ⟨J, J.landed ground f.1 (up.trans u3) os ag, f, ground, up.trans u3, na, os, ag, fun e => out (List.mem_filterMap.mpr ⟨X.env, List.mem_cons_self, e ▸ hf⟩), fun m => by
      obtain ⟨e, m1, m2⟩ := List.mem_filterMap.mp m
      exact out (List.mem_filterMap.mpr ⟨e, List.mem_cons_of_mem _ m1, m2⟩)⟩
  · cases fl with
    | next => exact wpAny_execs_nil (r.elim fun σ' r => r.elim fun H' r => ⟨σ', H', r.1.ofTry I.ok, r.2⟩)
    | brk => exact r.elim fun σ' r => r.elim fun H' r => ⟨σ', H', r.1.ofTry I.ok, r.2⟩
    | cont => exact r.elim fun σ' r => r.elim fun H' r => ⟨σ', H', r.1.ofTry I.ok, r.2⟩
    | ret u => exact r.elim fun v r => r.elim fun σ' r => r.elim fun H' r => ⟨v, σ', H', r.1.ofTry I.ok, r.2⟩

structure SndS (G : Gb) (F : Nat → List D → Store → R D) (FK : Nat → List Str → List D → List D → Store → R D) (m : Nat) (N : List Str) (FT : List (Str × Nat × Nat)) (KT : List (Nat × Nat × List Str)) (XT : List (Str × List Str)) (xo : Option Nat) (t : S) : Prop where
  s : ∀ (W : WX) (X : Cx) (sc : Scope) (x : Stmt), StandS G W F FK N FT KT XT xo sc X → (ckS N FT KT XT xo t).s sc x = true → PS X x (tS G W (exS F FK m t))
  ss : ∀ (W : WX) (X : Cx) (sc : Scope) (xs : List Stmt), StandS G W F FK N FT KT XT xo sc X → (ckS N FT KT XT xo t).ss sc xs = true → PSs X xs (tS G W (exS F FK m t))
  hs : xo = none → ∀ (W : WX) (X : Cx) (sc : Scope) (hds : List ExceptHandler), StandS G W F FK N FT KT XT xo sc X → (ckS N FT KT XT xo t).hs sc hds = true → ∃ l, HOk2 X hds l ∧
    ∀ (D : Ends) (c : Nat) (ds : List PV.D) (ls : Ls) (S : Store) (H : Hp) (b : List Addr) (σ : L2.St) (cls : Value) (d : Option Addr), Rel G H b S → RL G H b ls σ → RX G H b c ds cls d → WantS G W H b (exH F FK m t c ds ls S) D → wH X.K W D l cls d σ H

theorem sto_of {W : WX} {X : Cx} {sc : Scope} (g : StandS G W F FK N FT KT XT xo sc X) {y : Str} (h : ownC sc y = true) : Sto X y := by
  unfold ownC at h
  rw [← g.esc] at h
  split at h
  · rename_i e
    exact ⟨.inl e, .inr e⟩
  · rename_i e
    exact ⟨.inr e, .inl (g.fn y)⟩
  · cases h
theorem sw_not {v : Expr} {t : Option Expr} {l : Nat} {env : Env} (h : isComp v = false) : swapsWith v t l env = pure false := by
  cases v <;> first | rfl | (simp [isComp] at h)
theorem kind_of {env : Env} (h : env.scope.kind = .function) : env.blockKind = .function := by unfold Env.blockKind; rw [h]; rfl
theorem sw_name {v : Expr} {y : Str} {py : Pos} {l : Nat} {env : Env} (hk : env.scope.kind = .function) (h : swC v y py env.scope = false) : swapsWith v (some (.Name y py)) l env = pure false := by
  cases v with
  | ListComp elt gs scope pos =>
    have kb := kind_of hk
    unfold swapsWith
    simp only [swC] at h
    have ky : (env.kindOf y == some .local) = decide (env.scope.names.lookup y = some .local) := by
      unfold Env.kindOf
      cases q : env.scope.names.lookup y with
      | none => rfl
      | some k => cases k <;> rfl
    simp only [kb, ky, Expr.pos]
    show pure _ = pure false
    rw [show (ScopeKind.function == ScopeKind.function) = true from rfl, Bool.true_and, h]
  | SetComp _ _ _ _ => simp [swC] at h
  | DictComp _ _ _ _ _ => simp [swC] at h
  | _ => rfl
theorem SndS.mk' {t : S} (h : (ckS N FT KT XT xo t).ss = fun _ _ => false) (h2 : (ckS N FT KT XT xo t).hs = fun _ _ => false) (s : ∀ (W : WX) (X : Cx) (sc : Scope) (x : Stmt), StandS G W F FK N FT KT XT xo sc X → (ckS N FT KT XT xo t).s sc x = true → PS X x (tS G W (exS F FK m t))) : SndS G F FK m N FT KT XT xo t :=
  ⟨s, fun _ _ _ _ _ k => (by rw [h] at k; cases k), fun _ _ _ _ _ _ k => (by rw [h2] at k; cases k)⟩
theorem eNd {W : WX} {X : Cx} {sc : Scope} (g : Stand G W F FK N FT KT XT xo sc X) : X.N.Nodup := by rw [g.eN]; exact g.nd
theorem ss_nil : SndS G F FK m N FT KT XT xo .nil := ⟨fun W X sc x g h => (Bool.false_ne_true h).elim, fun W X sc xs g h => by
  have e : xs = [] := List.isEmpty_iff.mp h
  subst e
  exact pss_nil.wk fun D σ H ⟨b, S, ls, r, rl, w⟩ => wantS_next w H b σ (Post.refl r) rl, fun _ W X sc xs g h => by
  have e : xs = [] := List.isEmpty_iff.mp h
  subst e
  exact ⟨[], .nil, fun D c ds ls S H b σ cls d r rl x w => wantS_ex w cls d H b σ (Post.refl r) rl x⟩⟩
theorem ss_cons {a r : S} (ha : SndS G F FK m N FT KT XT xo a) (hr : SndS G F FK m N FT KT XT xo r) : SndS G F FK m N FT KT XT xo (.cons a r) := by
  refine ⟨fun W X sc x g h => (Bool.false_ne_true h).elim, fun W X sc xs g h => ?_, fun _ W X sc x g h => (Bool.false_ne_true h).elim⟩
  simp only [ckS] at h
  split at h
  · rename_i x rest
    rw [Bool.and_eq_true] at h
    refine (pss_cons (ha.s W X sc x g h.1) (hr.ss W X sc rest g h.2)).wk fun D σ H ⟨b, S, ls, rr, rl, w⟩ => ⟨b, S, ls, rr, rl, ?_⟩
    obtain ⟨fl, S', e, q⟩ := w
    simp only [exS] at e
    split at e
    · rename_i ls1 S1 e1
      exact ⟨_, _, e1, fun H' b' σ' p rl' => ⟨b', S1, ls1, p.rel, rl', WantS.mono p ⟨fl, S', e, q⟩⟩⟩
    · rename_i hn
      refine ⟨fl, S', e, ?_⟩
      cases fl with
      | next ls' => exact (hn _ _ e).elim
      | brk ls' => exact q
      | cont ls' => exact q
      | ret d => exact q
      | exc ls' c ds => exact q
  · cases h
theorem ss_ex {e : E} : SndS G F FK m N FT KT XT xo (.ex e) := .mk' rfl rfl fun W X sc x g h => by
  simp only [ckS] at h
  split at h
  · rename_i y p
    rw [Bool.and_eq_true] at h
    refine (ps_expr ((snd (m := m) e).val W X sc y g.toStand h.2) (sw_not (by simpa using h.1))).wk fun D σ H w => ?_
    exact st1 w fun b S ls d v H1 b1 S1 r rl p1 rv1 rl1 w => wantS_next w H1 b1 σ (Post.refl p1.rel) rl1
  · cases h
theorem nmC_of {W : WX} {X : Cx} {sc : Scope} (g : StandS G W F FK N FT KT XT xo sc X) {i : Nat} {y : Str} (h : nmC N sc i y = true) : X.N[i]? = some y ∧ Sto X y := by
  unfold nmC at h
  rw [Bool.and_eq_true] at h
  exact ⟨by rw [g.eN]; exact of_decide_eq_true h.1, sto_of g h.2⟩
theorem nmL_of {W : WX} {X : Cx} {sc : Scope} (g : StandS G W F FK N FT KT XT xo sc X) {i : Nat} {y : Str} (h : nmL N sc i y = true) : X.N[i]? = some y ∧ X.env.scope.names.lookup y = some .local := by
  unfold nmL at h
  rw [Bool.and_eq_true] at h
  exact ⟨by rw [g.eN]; exact of_decide_eq_true h.1, by rw [g.esc]; exact of_decide_eq_true h.2⟩
theorem eKind {W : WX} {X : Cx} {sc : Scope} (g : StandS G W F FK N FT KT XT xo sc X) : X.env.scope.kind = .function := by rw [g.esc]; exact g.kind
theorem ss_set {i : Nat} {e : E} : SndS G F FK m N FT KT XT xo (.set i e) := .mk' rfl rfl fun W X sc x g h => by
  simp only [ckS] at h
  split at h
  · rename_i y py v pos
    simp only [Bool.and_eq_true] at h
    obtain ⟨⟨h1, h2⟩, h3⟩ := h
    obtain ⟨n1, n2, n3⟩ := nmC_of g h1
    refine (ps_set (eNd g.toStand) n1 n2 ((snd (m := m) e).val W X sc v g.toStand h3) (sw_name (eKind g) (by rw [g.esc]; simpa using h2)) n3).wk fun D σ H w => ?_
    exact st1 w fun b S ls d v H1 b1 S1 r rl p1 rv1 rl1 w => wantS_next w H1 b1 _ (Post.refl p1.rel) (rl1.set i rv1)
  · cases h
theorem sw_yes {elt : Expr} {gs : List Comprehension} {scope : Scope} {pos py : Pos} {y : Str} {l : Nat} {env : Env} (hk : env.scope.kind = .function) (h : swC (.ListComp elt gs scope pos) y py env.scope = true) : swapsWith (.ListComp elt gs scope pos) (some (.Name y py)) l env = pure true := by
  simp only [swC, Bool.and_eq_true, decide_eq_true_eq] at h
  exact sw_true hk h.1.1 h.1.2 (by simpa using h.2)
theorem ss_slc {i : Nat} {own : List (Str × Nat)} {t : Tg} {it c e : E} : SndS G F FK m N FT KT XT xo (.slc i own t it c e) := .mk' rfl rfl fun W X sc x g h => by
  simp only [ckS] at h
  split at h
  · rename_i y py elt tg iter ifs scope pos spos
    rw [Bool.and_eq_true, Bool.and_eq_true] at h
    obtain ⟨⟨a1, a2⟩, h⟩ := h
    obtain ⟨n1, n2⟩ := nmL_of g a1
    simp only [ck] at h
    rw [Bool.and_eq_true, Bool.and_eq_true, Bool.and_eq_true, Bool.and_eq_true, Bool.and_eq_true, Bool.and_eq_true, Bool.and_eq_true, Bool.and_eq_true] at h
    obtain ⟨⟨⟨⟨⟨⟨⟨⟨h0, h1⟩, h2⟩, h3⟩, h4⟩, h5⟩, h6⟩, h7⟩, h8⟩ := h
    have hx := no_xs h0
    subst hx
    have hcalm := g.calm rfl
    have hv : ∀ i ∈ slotsT t, i ∈ own.map (·.2) := fun i hi => by
      have := List.all_eq_true.mp h3 i hi
      exact of_decide_eq_true this
    refine (ps_setLc hcalm (eNd g.toStand) n1 n2 (sw_yes (eKind g) (by rw [g.esc]; exact a2)) ((snd (m := m) it).itv W X sc tg iter g.toStand h4 (tt_of h8)) (by rw [g.eN, g.esc]; exact blkOk_by h1)
        (fun s H C cl fp => snd_T (X := X.blk s H scope (compEnvC scope cl C X.env) fp) g.eN g.nd hcalm g.eK (fun y hy => own_sto hy) t tg h2)
        (fun s H C cl fp => cond_of (snd (m := m) c) (g.toStand.blk s H scope cl C fp) h6)
        (fun s H C cl fp => (snd (m := m) e).val _ _ _ elt (g.toStand.blk s H scope cl C fp) h7) (fold_of (by simpa using h5) X.env)).wk fun D σ H w => ?_
    refine lc_of (m := m) hv ?_
    exact st1 w fun b S ls d v H1 b1 S1 r rl p1 rv1 rl1 w => wantS_next w H1 b1 _ (Post.refl p1.rel) (rl1.set i rv1)
  · cases h
theorem ss_sdc {i : Nat} {own : List (Str × Nat)} {t : Tg} {it c k e : E} : SndS G F FK m N FT KT XT xo (.sdc i own t it c k e) := .mk' rfl rfl fun W X sc x g h => by
  simp only [ckS] at h
  split at h
  · rename_i y py kx vx tg iter ifs scope pos spos
    rw [Bool.and_eq_true, Bool.and_eq_true] at h
    obtain ⟨⟨a1, a2⟩, h⟩ := h
    obtain ⟨n1, n2⟩ := nmL_of g a1
    simp only [ck] at h
    rw [Bool.and_eq_true, Bool.and_eq_true, Bool.and_eq_true, Bool.and_eq_true, Bool.and_eq_true, Bool.and_eq_true, Bool.and_eq_true, Bool.and_eq_true, Bool.and_eq_true] at h
    obtain ⟨⟨⟨⟨⟨⟨⟨⟨⟨h0, h1⟩, h2⟩, h3⟩, h4⟩, h5⟩, h6⟩, h7⟩, h8⟩, h9⟩ := h
    have hx := no_xs h0
    subst hx
    have hcalm := g.calm rfl
    have hv : ∀ i ∈ slotsT t, i ∈ own.map (·.2) := fun i hi => of_decide_eq_true (List.all_eq_true.mp h3 i hi)
    simp only [swD, Bool.and_eq_true, decide_eq_true_eq] at a2
    refine (PZ.ps_setDc hcalm (eNd g.toStand) n1 n2 (PZ.sw_dict (eKind g) (by rw [g.esc]; exact a2.1.1) a2.1.2 (by simpa using a2.2)) ((snd (m := m) it).itv W X sc tg iter g.toStand h4 (tt_of h8)) (by rw [g.eN, g.esc]; exact blkOk_by h1)
        (fun s H C cl fp => snd_T (X := X.blk s H scope (compEnvC scope cl C X.env) fp) g.eN g.nd hcalm g.eK (fun y hy => own_sto hy) t tg h2)
        (fun s H C cl fp => cond_of (snd (m := m) c) (g.toStand.blk s H scope cl C fp) h6)
        (fun s H C cl fp => (snd (m := m) k).val _ _ _ kx (g.toStand.blk s H scope cl C fp) h9)
        (fun s H C cl fp => (snd (m := m) e).val _ _ _ vx (g.toStand.blk s H scope cl C fp) h7) (fold_of (by simpa using h5) X.env)).wk fun D σ H w => ?_
    refine dc_of (m := m) hv ?_
    exact st1 w fun b S ls d v H1 b1 S1 r rl p1 rv1 rl1 w => wantS_next w H1 b1 _ (Post.refl p1.rel) (rl1.set i rv1)
  · cases h
theorem sole_tup {es : List Expr} {k : Nat} {p : Pos} {v : Expr} {l : Nat} {env : Env} : swapsWithSole [.Tuple es k p] v l env = pure false := by
  cases v <;> rfl
theorem sole_sub {a i : Expr} {p : Pos} {v : Expr} {l : Nat} {env : Env} : swapsWithSole [.Subscript a i p] v l env = pure false := by
  cases v <;> rfl
theorem sole_sub' {a i : Expr} {p : Pos} {v : Expr} {env : Env} : swappedStores [.Subscript a i p] v env = pure none := by
  cases v <;> rfl
theorem unpaired {es : List Expr} {k : Nat} {p : Pos} {v : Expr} {env : Env} (h : notPair v = true) : swappedStores [.Tuple es k p] v env = pure none := by
  cases v with
  | Tuple vs k2 p2 =>
    simp only [notPair] at h
    unfold swappedStores
    simp only [h]
    split <;> try rfl
    split <;> try rfl
    simp
  | _ => rfl
theorem fm_short {f : Expr → Option Str} {p : Expr → Bool} (hp : ∀ x, p x = true → f x = none) : ∀ {es : List Expr}, es.any p = true → (List.filterMap f es).length < es.length
  | [], h => by cases h
  | x :: es, h => by
    have hl := List.length_filterMap_le f es
    rw [List.any_cons, Bool.or_eq_true] at h
    rw [List.filterMap_cons]
    rcases h with h | h
    · rw [hp x h]
      simp only [List.length_cons]
      omega
    · have := fm_short hp h
      cases f x <;> simp only [List.length_cons] <;> omega
theorem unpaired2 {es : List Expr} {k : Nat} {p : Pos} {v : Expr} {env : Env} (h : notTs env.scope es = true) : swappedStores [.Tuple es k p] v env = pure none := by
  cases v with
  | Tuple vs k2 p2 =>
    unfold notTs at h
    unfold swappedStores
    simp only
    split <;> try rfl
    split <;> try rfl
    split <;> try rfl
    rename_i q
    exfalso
    apply q
    rw [Bool.or_eq_true]
    left
    refine bne_iff_ne.mpr (Nat.ne_of_lt (fm_short (fun x hx => ?_) h))
    cases x <;> try rfl
    rename_i y py
    simp only [Bool.not_eq_true', decide_eq_false_iff_not] at hx
    have : (env.kindOf y == some .local) = false := by
      unfold Env.kindOf
      cases hq : env.scope.names.lookup y with
      | none => simp
      | some z => rw [hq] at hx; cases z <;> simp at hx ⊢
    simp [this]
  | _ => rfl
theorem ss_asg {t : Tg} {e : E} : SndS G F FK m N FT KT XT xo (.asg t e) := .mk' rfl rfl fun W X sc x g h => by
  simp only [ckS] at h
  split at h
  · rename_i es k p v pos
    simp only [Bool.and_eq_true] at h
    obtain ⟨⟨⟨h0, h1⟩, h2⟩, h3⟩ := h
    have hcalm := g.calm (no_xs h0)
    refine (ps_asg ((snd (m := m) e).val W X sc v g.toStand h3) (snd_T g.eN g.nd hcalm g.eK (fun y hy => sto_of g hy) t _ h1) sole_tup ((Bool.or_eq_true _ _ ▸ h2).elim unpaired fun z => unpaired2 (g.esc ▸ z))).wk fun D σ H w => ?_
    refine st1 w fun b S ls d v H1 b1 S1 r rl p1 rv1 rl1 w => ?_
    split at w
    · rename_i ls' e1
      exact ⟨b1, S1, ls, d, ls', p1.rel, rl1, rv1, e1, fun σ' rl' _ => wantS_next w H1 b1 _ (Post.refl p1.rel) rl'⟩
    · exact (wantS_bad w).elim
  · cases h
theorem kd_of {env : Env} {y : Str} (h : env.scope.names.lookup y = some .local) : (env.kindOf y == some .local) = true := by
  unfold Env.kindOf
  rw [h]; rfl
theorem eraseDups2 {y z : Str} (h : y ≠ z) : [y, z].eraseDups = [y, z] := by
  have h2 : (z == y) = false := by simpa using fun e => h e.symm
  rw [List.eraseDups_cons, List.filter_cons]
  rw [h2]
  rfl
theorem hw2 {y z : Str} {py pz pt : Pos} {l r : Expr} {kt k2 : Nat} {pt2 : Pos} {env : Env} (hk : env.scope.kind = .function) (hy : env.scope.names.lookup y = some .local) (hz : env.scope.names.lookup z = some .local) (hn : y ≠ z) (hl : (py.line == pz.line) = true)
    (s1 : isStar l = false) (s2 : isStar r = false) (f1 : [l, r].all (foldedForSure 8) = false) (f2 : [l, r].all (constantsAlone 8) = false) :
    swappedStores [.Tuple [.Name y py, .Name z pz] kt pt] (.Tuple [l, r] k2 pt2) env = pure (some [y, z]) := by
  have hl2 : (pz.line == py.line) = true := by simpa using (by simpa using hl : py.line = pz.line).symm
  have hs : ∀ f : Expr → Bool, f = isStar → [l, r].any f = false := fun f e => by subst e; simp [s1, s2]
  have hf : ∀ f : Expr → Option Str, f (.Name y py) = some y → f (.Name z pz) = some z → List.filterMap f [Expr.Name y py, Expr.Name z pz] = [y, z] := fun f e1 e2 => by simp [e1, e2]
  unfold swappedStores
  simp only [kind_of hk]
  rw [hs _ (by funext e; cases e <;> rfl)]
  rw [hf _ (by simp [kd_of hy, Expr.pos]) (by simpa [kd_of hz, Expr.pos] using hl2)]
  simp only [f1, f2, eraseDups2 hn]
  rfl
theorem ss_par2 {i j : Nat} {a c : E} : SndS G F FK m N FT KT XT xo (.par2 i j a c) := .mk' rfl rfl fun W X sc x g h => by
  simp only [ckS] at h
  split at h
  · rename_i y py z pz kt pt l r k2 pt2 pos
    simp only [Bool.and_eq_true, Bool.not_eq_true', beq_eq_false_iff_ne] at h
    obtain ⟨⟨⟨⟨⟨⟨⟨⟨⟨⟨⟨h0, h1⟩, h2⟩, h3⟩, h4⟩, h5⟩, h6⟩, h7⟩, h8⟩, h9⟩, h10⟩, h11⟩ := h
    have hcalm := g.calm (no_xs h0)
    obtain ⟨n1, n2⟩ := nmL_of g h1
    obtain ⟨n3, n4⟩ := nmL_of g h2
    have s1 : starEach [l, r] X.env = (false, eval l X.env) :: starEach [r] X.env := star_of h6 _ _
    refine (ps_par hcalm (eNd g.toStand) n1 n3 h3 n2 n4 (pa_cons ((snd (m := m) a).val W X sc l g.toStand h10) (pa_cons ((snd (m := m) c).val W X sc r g.toStand h11) pa_nil (star_of h7 _ _)) s1)
      (hw2 (eKind g) n2 n4 h4 h5 h6 h7 h8 h9) sole_tup).wk fun D σ H w => ?_
    obtain ⟨b, S, ls, rr, rl, w⟩ := w
    refine ⟨b, S, ls, rr, rl, (wantS_bind rl w).imp fun d S1 H1 b1 p1 _ w v rv1 => ⟨b1, S1, ls, p1.rel, p1.rl rl, (wantS_bind (p1.rl rl) w).imp fun d2 S2 H2 b2 p2 _ w u rv2 => ?_⟩⟩
    exact ⟨v, u, rfl, wantS_next w H2 b2 _ (Post.refl p2.rel) (((p2.rl (p1.rl rl)).set i (p2.rv rv1)).set j rv2)⟩
  · cases h
theorem eraseDups3 {y z w : Str} (h : y ≠ z) (h2 : y ≠ w) (h3 : z ≠ w) : [y, z, w].eraseDups = [y, z, w] := by
  have a : (z == y) = false := by simpa using fun e => h e.symm
  have b : (w == y) = false := by simpa using fun e => h2 e.symm
  rw [List.eraseDups_cons, List.filter_cons, List.filter_cons, a, b]
  have := eraseDups2 h3
  simpa using this
theorem hw3 {y z u : Str} {py pz pu pt : Pos} {l r q : Expr} {kt k2 : Nat} {pt2 : Pos} {env : Env} (hk : env.scope.kind = .function) (hy : env.scope.names.lookup y = some .local) (hz : env.scope.names.lookup z = some .local) (hu : env.scope.names.lookup u = some .local)
    (hn : y ≠ z) (hn2 : y ≠ u) (hn3 : z ≠ u) (hl : (py.line == pz.line) = true) (hl' : (py.line == pu.line) = true)
    (s1 : isStar l = false) (s2 : isStar r = false) (s3 : isStar q = false) (f1 : [l, r, q].all (foldedForSure 8) = false) (f2 : [l, r, q].all (constantsAlone 8) = false) :
    swappedStores [.Tuple [.Name y py, .Name z pz, .Name u pu] kt pt] (.Tuple [l, r, q] k2 pt2) env = pure (some [y, z, u]) := by
  have hl2 : (pz.line == py.line) = true := by simpa using (by simpa using hl : py.line = pz.line).symm
  have hl3 : (pu.line == py.line) = true := by simpa using (by simpa using hl' : py.line = pu.line).symm
  have hs : ∀ f : Expr → Bool, f = isStar → [l, r, q].any f = false := fun f e => by subst e; simp [s1, s2, s3]
  have hf : ∀ f : Expr → Option Str, f (.Name y py) = some y → f (.Name z pz) = some z → f (.Name u pu) = some u → List.filterMap f [Expr.Name y py, Expr.Name z pz, Expr.Name u pu] = [y, z, u] := fun f e1 e2 e3 => by simp [e1, e2, e3]
  unfold swappedStores
  simp only [kind_of hk]
  rw [hs _ (by funext e; cases e <;> rfl)]
  rw [hf _ (by simp [kd_of hy, Expr.pos]) (by simpa [kd_of hz, Expr.pos] using hl2) (by simpa [kd_of hu, Expr.pos] using hl3)]
  simp only [f1, f2, eraseDups3 hn hn2 hn3]
  rfl
theorem ss_par3 {i j k : Nat} {a c e : E} : SndS G F FK m N FT KT XT xo (.par3 i j k a c e) := .mk' rfl rfl fun W X sc x g h => by
  simp only [ckS] at h
  split at h
  · rename_i y py z pz u pu kt pt l r q k2 pt2 pos
    simp only [Bool.and_eq_true, Bool.not_eq_true', beq_eq_false_iff_ne] at h
    have h0 : xo.isNone = true := h.1.1.1.1.1.1.1.1.1.1.1.1.1.1.1.1.1.1.1
    have hcalm := g.calm (no_xs h0)
    obtain ⟨⟨⟨⟨⟨⟨⟨⟨⟨⟨⟨⟨⟨⟨⟨⟨⟨⟨⟨_, h1⟩, h2⟩, h2'⟩, h3⟩, h3'⟩, h3''⟩, h4⟩, h4'⟩, h4''⟩, h5⟩, h5'⟩, h6⟩, h7⟩, h7'⟩, h8⟩, h9⟩, h10⟩, h11⟩, h12⟩ := h
    obtain ⟨n1, n2⟩ := nmL_of g h1
    obtain ⟨n3, n4⟩ := nmL_of g h2
    obtain ⟨n5, n6⟩ := nmL_of g h2'
    have s1 : starEach [l, r, q] X.env = (false, eval l X.env) :: starEach [r, q] X.env := star_of h6 _ _
    have s2 : starEach [r, q] X.env = (false, eval r X.env) :: starEach [q] X.env := star_of h7 _ _
    refine (ps_par3 hcalm (eNd g.toStand) n1 n3 n5 h3 h3' h3'' n2 n4 n6 (pa_cons ((snd (m := m) a).val W X sc l g.toStand h10) (pa_cons ((snd (m := m) c).val W X sc r g.toStand h11) (pa_cons ((snd (m := m) e).val W X sc q g.toStand h12) pa_nil (star_of h7' _ _)) s2) s1)
      (hw3 (eKind g) n2 n4 n6 h4 h4' h4'' h5 h5' h6 h7 h7' h8 h9) sole_tup).wk fun D σ H w => ?_
    obtain ⟨b, S, ls, rr, rl, w⟩ := w
    refine ⟨b, S, ls, rr, rl, (wantS_bind rl w).imp fun d S1 H1 b1 p1 _ w v rv1 => ⟨b1, S1, ls, p1.rel, p1.rl rl, (wantS_bind (p1.rl rl) w).imp fun d2 S2 H2 b2 p2 _ w u rv2 =>
      ⟨b2, S2, ls, p2.rel, p2.rl (p1.rl rl), (wantS_bind (p2.rl (p1.rl rl)) w).imp fun d3 S3 H3 b3 p3 _ w u3 rv3 => ?_⟩⟩⟩
    exact ⟨v, u, u3, rfl, wantS_next w H3 b3 _ (Post.refl p3.rel) ((((p3.rl (p2.rl (p1.rl rl))).set i (p3.rv (p2.rv rv1))).set j (p3.rv rv2)).set k rv3)⟩
  · cases h
theorem ss_aug {i : Nat} {o : Bo} {e : E} : SndS G F FK m N FT KT XT xo (.aug i o e) := .mk' rfl rfl fun W X sc x g h => by
  simp only [ckS] at h
  split at h
  · rename_i y py p v pos
    simp only [Bool.and_eq_true, decide_eq_true_eq] at h
    obtain ⟨⟨⟨⟨ho, h0⟩, h1⟩, rfl⟩, h3⟩ := h
    have hx : G.xs ≠ some i := by rw [g.exs]; simpa using h0
    obtain ⟨n1, n2, n3⟩ := nmC_of g h1
    have he := (snd (m := m) e).val W X sc v g.toStand h3
    cases o with
    | add =>
      refine (ps_aug (eNd g.toStand) n1 n2 he ip_add n3).wk fun D σ H w => ?_
      obtain ⟨b, S, ls, r, rl, w⟩ := w
      simp only [exS] at w
      split at w
      · rename_i d e0
        obtain ⟨x0, q1, q2⟩ := rl.at_ i d hx e0
        refine ⟨x0, q1, b, S, ls, r, rl, (wantS_bind rl w).imp fun d2 S1 H1 b1 p1 _ w v rv1 => ?_⟩
        split at w
        · obtain rfl := rv_int.mp (p1.rv q2)
          obtain rfl := rv_int.mp rv1
          exact ⟨_, _, rfl, rfl, wantS_next w H1 b1 _ (Post.refl p1.rel) ((p1.rl rl).set i (rv_int.mpr rfl))⟩
        · rename_i hh _ _; cases hh
        · exact (wantS_bad w).elim
      · exact (wantS_bad w).elim
    | sub =>
      refine (ps_aug (eNd g.toStand) n1 n2 he ip_sub n3).wk fun D σ H w => ?_
      obtain ⟨b, S, ls, r, rl, w⟩ := w
      simp only [exS] at w
      split at w
      · rename_i d e0
        obtain ⟨x0, q1, q2⟩ := rl.at_ i d hx e0
        refine ⟨x0, q1, b, S, ls, r, rl, (wantS_bind rl w).imp fun d2 S1 H1 b1 p1 _ w v rv1 => ?_⟩
        split at w
        · rename_i hh _ _; cases hh
        · obtain rfl := rv_int.mp (p1.rv q2)
          obtain rfl := rv_int.mp rv1
          exact ⟨_, _, rfl, rfl, wantS_next w H1 b1 _ (Post.refl p1.rel) ((p1.rl rl).set i (rv_int.mpr rfl))⟩
        · exact (wantS_bad w).elim
      · exact (wantS_bad w).elim
    | _ => simp [augC] at ho
  · cases h
theorem nx_set {a i e : D} {S : Store} : NoX (setIx a i e S) := by
  intro c ds S' h
  unfold setIx at h
  repeat' split at h
  all_goals cases h
/-- o[i] = v, then the next row -/
theorem set_of {W : WX} {H : Hp} {b : List Addr} {S : Store} {ls : Ls} {σ : L2.St} {d2 d3 d : PV.D} {u u3 v : V} {D : Ends} (rl : RL G H b ls σ) (r : Rel G H b S) (h2 : RV G H b d2 u) (h3 : RV G H b d3 u3) (h : RV G H b d v) (w : WantS G W H b (bindS (setIx d2 d3 d S) ls fun _ S4 => .ok (.next ls) S4) D) :
    ∃ b S d2 d3 d S', Rel G H b S ∧ RV G H b d2 u ∧ RV G H b d3 u3 ∧ RV G H b d v ∧ setIx d2 d3 d S = .ok () S' ∧ ∀ H' b', Post G H b H' b' S' → D.nx σ H' := by
  cases e : setIx d2 d3 d S with
  | ok un S4 =>
    rw [e] at w
    exact ⟨b, S, d2, d3, d, S4, r, h2, h3, h, e, fun H' b' p => wantS_next (w.mono p) H' b' _ (Post.refl p.rel) (p.rl rl)⟩
  | exc c ds S4 => exact (nx_set c ds S4 e).elim
  | bad =>
    rw [e] at w
    exact (wantS_bad w).elim
theorem ss_six {a i e : E} : SndS G F FK m N FT KT XT xo (.six a i e) := .mk' rfl rfl fun W X sc x g h => by
  simp only [ckS] at h
  split at h
  · rename_i l r p v pos
    simp only [Bool.and_eq_true, Bool.not_eq_true'] at h
    obtain ⟨⟨⟨⟨h1, h2⟩, h3⟩, h4⟩, h5⟩ := h
    refine (ps_asg ((snd (m := m) e).val W X sc v g.toStand h3) (pg_sub ((snd (m := m) a).val W X sc l g.toStand h4) ((snd (m := m) i).val W X sc r g.toStand h5) (set_D (G := G) (by have := g.room; omega)) (by intro _; cases r <;> first | rfl | (simp [isSlice] at h1))) sole_sub sole_sub').wk fun D σ H w => ?_
    obtain ⟨b, S, ls, rr, rl, w⟩ := w
    refine ⟨b, S, ls, rr, rl, (wantS_bind rl w).imp fun d S1 H1 b1 p1 _ w v rv1 => ⟨b1, S1, ls, p1.rel, p1.rl rl, (wantS_bind (p1.rl rl) w).imp fun d2 S2 H2 b2 p2 _ w u rv2 =>
      ⟨b2, S2, ls, p2.rel, p2.rl (p1.rl rl), (wantS_bind (p2.rl (p1.rl rl)) w).imp fun d3 S3 H3 b3 p3 _ w u3 rv3 => ?_⟩⟩⟩
    exact set_of (p3.rl (p2.rl (p1.rl rl))) p3.rel (p3.rv rv2) rv3 (p3.rv (p2.rv rv1)) w
  · cases h
theorem ss_aix {a i e : E} {o : Bo} : SndS G F FK m N FT KT XT xo (.aix a i o e) := .mk' rfl rfl fun W X sc x g h => by
  simp only [ckS] at h
  split at h
  · rename_i l r tp p v pos
    simp only [Bool.and_eq_true, Bool.not_eq_true', decide_eq_true_eq] at h
    obtain ⟨⟨⟨⟨⟨hop, h1⟩, rfl⟩, h3⟩, h4⟩, h5⟩ := h
    have ho := (snd (m := m) a).val W X sc l g.toStand h3
    have hi := (snd (m := m) i).val W X sc r g.toStand h4
    have he := (snd (m := m) e).val W X sc v g.toStand h5
    have hu : X.A.units + 1 < cLine := by have := g.room; omega
    have ha : ∀ ov iv new, augStore r ov iv new = (do holding [new, ov, iv] (setItem ov iv new); release [new, ov, iv] []; pure .next) := by intro _ _ _; cases r <;> first | rfl | (simp [isSlice] at h1)
    cases o with
    | add =>
      refine (ps_augS ho hi (get_D g.eK hu) he ip_add (set_D (G := G) hu) ha).wk fun D σ H w => ?_
      obtain ⟨b, S, ls, rr, rl, w⟩ := w
      refine ⟨b, S, ls, rr, rl, (wantS_bind rl w).imp fun d S1 H1 b1 p1 _ w v rv1 => ⟨b1, S1, ls, p1.rel, p1.rl rl, (wantS_bind (p1.rl rl) w).imp fun d2 S2 H2 b2 p2 _ w u rv2 => ?_⟩⟩
      split at w
      · rename_i x0 e3
        refine ⟨b2, S2, d, d2, p2.rel, p2.rv rv1, rv2, x0, S2, (by show opt (ixR d d2 S2) S2 = _; rw [e3]; rfl), fun v3 H3 b3 p3 rv3 => ?_⟩
        refine ⟨b3, S2, ls, p3.rel, p3.rl (p2.rl (p1.rl rl)), (wantS_bind (p3.rl (p2.rl (p1.rl rl))) (w.mono p3)).imp fun d4 S4 H4 b4 p4 _ w v4 rv4 => ?_⟩
        split at w
        · obtain rfl := rv_int.mp (p4.rv rv3)
          obtain rfl := rv_int.mp rv4
          exact ⟨_, _, rfl, rfl, set_of (p4.rl (p3.rl (p2.rl (p1.rl rl)))) p4.rel (p4.rv (p3.rv (p2.rv rv1))) (p4.rv (p3.rv rv2)) (rv_int.mpr rfl) w⟩
        · rename_i hh _ _; cases hh
        · exact (wantS_bad w).elim
      · exact (wantS_bad w).elim
    | sub =>
      refine (ps_augS ho hi (get_D g.eK hu) he ip_sub (set_D (G := G) hu) ha).wk fun D σ H w => ?_
      obtain ⟨b, S, ls, rr, rl, w⟩ := w
      refine ⟨b, S, ls, rr, rl, (wantS_bind rl w).imp fun d S1 H1 b1 p1 _ w v rv1 => ⟨b1, S1, ls, p1.rel, p1.rl rl, (wantS_bind (p1.rl rl) w).imp fun d2 S2 H2 b2 p2 _ w u rv2 => ?_⟩⟩
      split at w
      · rename_i x0 e3
        refine ⟨b2, S2, d, d2, p2.rel, p2.rv rv1, rv2, x0, S2, (by show opt (ixR d d2 S2) S2 = _; rw [e3]; rfl), fun v3 H3 b3 p3 rv3 => ?_⟩
        refine ⟨b3, S2, ls, p3.rel, p3.rl (p2.rl (p1.rl rl)), (wantS_bind (p3.rl (p2.rl (p1.rl rl))) (w.mono p3)).imp fun d4 S4 H4 b4 p4 _ w v4 rv4 => ?_⟩
        split at w
        · rename_i hh _ _; cases hh
        · obtain rfl := rv_int.mp (p4.rv rv3)
          obtain rfl := rv_int.mp rv4
          exact ⟨_, _, rfl, rfl, set_of (p4.rl (p3.rl (p2.rl (p1.rl rl)))) p4.rel (p4.rv (p3.rv (p2.rv rv1))) (p4.rv (p3.rv rv2)) (rv_int.mpr rfl) w⟩
        · exact (wantS_bad w).elim
      · exact (wantS_bad w).elim
    | _ => simp [augC] at hop
  · cases h
/-- a test, then the rest -/
theorem st1t {W : WX} {ft : Ls → Store → R Bool} {k : Ls → Bool → Store → R Fl} {σ : L2.St} {H : Hp} {D : Ends} {Q : Bool → Hp → Prop} (h : tS G W (fun ls S => bindS (ft ls S) ls (k ls)) D σ H)
    (hk : ∀ b S ls d H1 b1 S1, Rel G H b S → RL G H b ls σ → Post G H b H1 b1 S1 → RL G H1 b1 ls σ → WantS G W H1 b1 (k ls d S1) D → Q d H1) : tT G W ft σ H Q := by
  obtain ⟨b, S, ls, r, rl, w⟩ := h
  exact ⟨b, S, ls, r, rl, (wantS_bind rl w).imp fun d S1 H1 b1 p1 _ w => hk b S ls d H1 b1 S1 r rl p1 (p1.rl rl) w⟩
theorem ss_ite {c : E} {a b : S} (ha : SndS G F FK m N FT KT XT xo a) (hb : SndS G F FK m N FT KT XT xo b) : SndS G F FK m N FT KT XT xo (.ite c a b) := .mk' rfl rfl fun W X sc x g h => by
  simp only [ckS] at h
  split at h
  · simp only [Bool.and_eq_true] at h
    obtain ⟨⟨h1, h2⟩, h3⟩ := h
    refine (ps_if ((snd (m := m) c).tst W X sc _ g.toStand h1) (ha.ss W X sc _ g h2) (hb.ss W X sc _ g h3)).wk fun D σ H w => ?_
    refine st1t w fun b S ls d H1 b1 S1 r rl p1 rl1 w => ?_
    cases d with
    | true => exact ⟨b1, S1, ls, p1.rel, rl1, w⟩
    | false => exact ⟨b1, S1, ls, p1.rel, rl1, w⟩
  · cases h
theorem ss_ret {e : E} : SndS G F FK m N FT KT XT xo (.ret e) := .mk' rfl rfl fun W X sc x g h => by
  simp only [ckS] at h
  split at h
  · refine (ps_ret ((snd (m := m) e).val W X sc _ g.toStand h)).wk fun D σ H w => ?_
    exact st1 w fun b S ls d v H1 b1 S1 r rl p1 rv1 rl1 w => wantS_ret w v H1 b1 (Post.refl p1.rel) rv1
  · cases h
theorem ss_retN : SndS G F FK m N FT KT XT xo .retN := .mk' rfl rfl fun W X sc x g h => by
  simp only [ckS] at h
  split at h
  · exact ps_retN.wk fun D σ H ⟨b, S, ls, r, rl, w⟩ => wantS_ret w .non H b (Post.refl r) (rv_non.mpr rfl)
  · cases h
theorem ss_brk : SndS G F FK m N FT KT XT xo .brk := .mk' rfl rfl fun W X sc x g h => by
  simp only [ckS] at h
  split at h
  · exact ps_break.wk fun D σ H ⟨b, S, ls, r, rl, w⟩ => wantS_brk w H b σ (Post.refl r) rl
  · cases h
theorem ss_cnt : SndS G F FK m N FT KT XT xo .cnt := .mk' rfl rfl fun W X sc x g h => by
  simp only [ckS] at h
  split at h
  · exact ps_continue.wk fun D σ H ⟨b, S, ls, r, rl, w⟩ => wantS_cont w H b σ (Post.refl r) rl
  · cases h
theorem ss_pas : SndS G F FK m N FT KT XT xo .pas := .mk' rfl rfl fun W X sc x g h => by
  simp only [ckS] at h
  split at h
  · exact ps_pass.wk fun D σ H ⟨b, S, ls, r, rl, w⟩ => wantS_next w H b σ (Post.refl r) rl
  · exact ps_doc.wk fun D σ H ⟨b, S, ls, r, rl, w⟩ => wantS_next w H b σ (Post.refl r) rl
  · cases h
theorem ss_non : SndS G F FK m N FT KT XT xo .non := .mk' rfl rfl fun W X sc x g h => (Bool.false_ne_true h).elim
theorem ss_whl {c : E} {t : S} (hb : SndS G F FK m N FT KT XT xo t) : SndS G F FK m N FT KT XT xo (.whl c t) := .mk' rfl rfl fun W X sc x g h => by
  simp only [ckS] at h
  split at h
  · simp only [Bool.and_eq_true] at h
    refine (ps_while g.own ((snd (m := m) c).tst W X sc _ g.toStand h.1) (hb.ss W X sc _ g h.2)).wk fun D σ H w => ?_
    obtain ⟨b0, S0, ls0, r0, rl0, w0⟩ := w
    refine ⟨fun mm σ' H' => ∃ b S ls, Rel G H' b S ∧ RL G H' b ls σ' ∧ WantS G W H' b (whlL (fun ls S => evT F FK m c ls S) (fun ls S => exS F FK m t ls S) mm ls S) D, ⟨m, b0, S0, ls0, r0, rl0, w0⟩, ?_⟩
    rintro mm σ1 H1 ⟨b1, S1, ls1, r1, rl1, w⟩
    cases mm with
    | zero => exact (wantS_bad w).elim
    | succ mm =>
      unfold whlL at w
      split at w
      · rename_i S2 e2
        refine ⟨b1, S1, ls1, r1, rl1, ?_⟩
        show Wt _ _ _ (evT F FK m c ls1 S1) _ _
        rw [e2]
        intro H2 b2 p2
        show (if true = true then _ else _)
        rw [if_pos rfl]
        have w := w.mono p2
        refine ⟨fun σ' H' => ∃ b S ls, Rel G H' b S ∧ RL G H' b ls σ' ∧ WantS G W H' b (whlL (fun ls S => evT F FK m c ls S) (fun ls S => exS F FK m t ls S) mm ls S) D, fun σ' H' hn => ⟨mm, Nat.lt_succ_self _, hn⟩, b2, S2, ls1, p2.rel, p2.rl rl1, ?_⟩
        split at w
        · rename_i ls' S' e3
          exact ⟨_, _, e3, fun H' b' σ' p rl' => ⟨b', S', ls', p.rel, rl', w.mono p⟩⟩
        · rename_i ls' S' e3
          exact ⟨_, _, e3, fun H' b' σ' p rl' => ⟨b', S', ls', p.rel, rl', w.mono p⟩⟩
        · rename_i ls' S' e3
          exact ⟨_, _, e3, fun H' b' σ' p rl' => wantS_next (w.mono p) H' b' σ' (Post.refl p.rel) rl'⟩
        · rename_i n1 n2 n3
          obtain ⟨fl, S', e, q⟩ := w
          refine ⟨fl, S', e, ?_⟩
          cases fl with
          | next ls' => exact (n1 _ _ e).elim
          | brk ls' => exact (n3 _ _ e).elim
          | cont ls' => exact (n2 _ _ e).elim
          | ret d => exact q
          | exc ls' c ds => exact q
      · rename_i S2 e2
        refine ⟨b1, S1, ls1, r1, rl1, ?_⟩
        show Wt _ _ _ (evT F FK m c ls1 S1) _ _
        rw [e2]
        intro H2 b2 p2
        show (if false = true then _ else _)
        rw [if_neg Bool.false_ne_true]
        exact wantS_next (w.mono p2) H2 b2 σ1 (Post.refl p2.rel) (p2.rl rl1)
      · rename_i k ds S2 e2
        refine ⟨b1, S1, ls1, r1, rl1, ?_⟩
        show Wt _ _ _ (evT F FK m c ls1 S1) _ _
        rw [e2]
        exact fun cls d H' b' p x => wantS_ex w cls d H' b' σ1 p (p.rl rl1) x
      · exact (wantS_bad w).elim
  · cases h
theorem ss_for {t : Tg} {it : E} {bd : S} (hb : SndS G F FK m N FT KT XT xo bd) : SndS G F FK m N FT KT XT xo (.for t it bd) := .mk' rfl rfl fun W X sc x g h => by
  simp only [ckS] at h
  split at h
  · rename_i tg iter l pos
    simp only [Bool.and_eq_true] at h
    obtain ⟨⟨⟨⟨⟨h0, h1⟩, h2⟩, h3⟩, h4⟩, h5⟩ := h
    have hcalm := g.calm (no_xs h0)
    refine (ps_for g.own hcalm ((snd (m := m) it).itv W X sc tg iter g.toStand h3 (tt_of h5)) (snd_T g.eN g.nd hcalm g.eK (fun y hy => sto_of g hy) t tg h1) (hb.ss W X sc _ g h4) (fold_of (by simpa using h2) X.env)).wk fun D σ H w => ?_
    obtain ⟨b, S, ls, r, rl, w⟩ := w
    refine ⟨b, S, ls, r, rl, (wantS_bind rl w).imp fun J S1 H1 b1 p1 _ w T wk => ?_⟩
    have rl1 := p1.rl rl
    refine ⟨fun i mm σ' Hc => ∃ bc Sc lc, Post G H1 b1 Hc bc Sc ∧ RL G Hc bc lc σ' ∧ WantS G W Hc bc (forL (fun d S ls => asgT t d S ls) (fun ls S => exS F FK m bd ls S) J mm i lc Sc) D, ⟨m, b1, S1, ls, Post.refl p1.rel, rl1, w⟩, ?_⟩
    rintro i mm σc Hc ⟨bc, Sc, lc, pc, rlc, w⟩
    cases mm with
    | zero => exact (wantS_bad w).elim
    | succ mm =>
      obtain ⟨w1, w2⟩ := wk i Hc bc Sc pc.rel pc.old pc.grow pc.frz
      unfold forL at w
      split at w
      · exact (wantS_bad w).elim
      · rename_i e2
        exact .inl ⟨w1 e2, wantS_next w Hc bc σc (Post.refl pc.rel) rlc⟩
      · rename_i d e2
        obtain ⟨g1, g2⟩ := w2 d e2
        refine .inr ⟨g1, fun σ' Hc => ∃ bc Sc lc, Post G H1 b1 Hc bc Sc ∧ RL G Hc bc lc σ' ∧ WantS G W Hc bc (forL (fun d S ls => asgT t d S ls) (fun ls S => exS F FK m bd ls S) J mm (i + 1) lc Sc) D, fun σ' H' hn => ⟨mm, Nat.lt_succ_self _, hn⟩, fun x H2 hy => ?_⟩
        obtain ⟨b2, p2, rv2⟩ := g2 x H2 hy
        have w := w.mono p2
        have p02 := pc.trans p2
        split at w
        · exact (wantS_bad w).elim
        · rename_i ls1 e3
          refine ⟨b2, Sc, lc, d, ls1, p02.rel, p2.rl rlc, rv2, e3, fun σ3 rl3 kp => ⟨b2, Sc, ls1, p02.rel, rl3, ?_⟩⟩
          split at w
          · rename_i ls' S' e4
            exact ⟨_, _, e4, fun H' b' σ' p rl' => ⟨b', S', ls', p02.trans p, rl', w.mono p⟩⟩
          · rename_i ls' S' e4
            exact ⟨_, _, e4, fun H' b' σ' p rl' => ⟨b', S', ls', p02.trans p, rl', w.mono p⟩⟩
          · rename_i ls' S' e4
            exact ⟨_, _, e4, fun H' b' σ' p rl' => wantS_next (w.mono p) H' b' σ' (Post.refl p.rel) rl'⟩
          · rename_i n1 n2 n3
            obtain ⟨fl, S', e, q⟩ := w
            refine ⟨fl, S', e, ?_⟩
            cases fl with
            | next ls' => exact (n1 _ _ e).elim
            | brk ls' => exact (n3 _ _ e).elim
            | cont ls' => exact (n2 _ _ e).elim
            | ret d => exact q
            | exc ls' c ds => exact q
  · cases h

theorem StandS.nox {W : WX} {sc : Scope} {X : Cx} (g : StandS G W F FK N FT KT XT xo sc X) : StandS G noW F FK N FT KT XT xo sc X := { g with tk := takes_none5 }
theorem ss_lks {i : Nat} {t : S} (ht : SndS G F FK m N FT KT XT xo t) : SndS G F FK m N FT KT XT xo (.lks i t) := .mk' rfl rfl fun W X sc x g h => by
  simp only [ckS] at h
  rw [Bool.and_eq_true] at h
  have hx : G.xs ≠ some i := by rw [g.exs]; simpa using h.1
  refine (ps_lock (ht.s noW X sc x g.nox h.2)).wk fun D σ H w => ?_
  obtain ⟨b, S, ls, r, rl, w⟩ := w
  simp only [exS] at w
  split at w
  · rename_i n h1
    split at w
    · rename_i kvs h2
      obtain ⟨a, ws, bn, hd, hh⟩ := lock_of hx r rl h1 h2
      refine ⟨a, .dK ws, hd, trivial, fun od => ?_⟩
      obtain ⟨p1, hu⟩ := hh od
      split at w
      · rename_i d S1 e1
        refine ⟨b, _, ls, p1.rel, p1.rl rl, d, S1, e1, ?_⟩
        split at w
        · exact (wantS_bad w).elim
        · rename_i hne
          split at w
          · rename_i kvs' hs
            have fin : ∀ {H' : Hp} {b' : List Addr}, Post G (upd H a (.frz od (.dK ws))) b H' b' S1 → H' a = some (.frz od (.dK ws)) ∧ Post G H b (upd H' a (.dK ws)) b' (S1.set n (.dct kvs')) ∧ Grow H' (upd H' a (.dK ws)) := fun p2 => hu p2 hs
            cases d with
            | next ls' => exact fun H' b' σ' p2 rl' => ⟨(fin p2).1, wantS_next w _ b' σ' (fin p2).2.1 (rl_mono (Old.refl b') (fin p2).2.2 rl')⟩
            | brk ls' => exact fun H' b' σ' p2 rl' => ⟨(fin p2).1, wantS_brk w _ b' σ' (fin p2).2.1 (rl_mono (Old.refl b') (fin p2).2.2 rl')⟩
            | cont ls' => exact fun H' b' σ' p2 rl' => ⟨(fin p2).1, wantS_cont w _ b' σ' (fin p2).2.1 (rl_mono (Old.refl b') (fin p2).2.2 rl')⟩
            | ret d => exact fun v H' b' p2 rv => ⟨(fin p2).1, wantS_ret w v _ b' (fin p2).2.1 (RV.mono (Old.refl b') (fin p2).2.2 _ _ rv)⟩
            | exc ls' c ds => exact (hne ls' c ds rfl).elim
          · exact (wantS_bad w).elim
      · rename_i q hn
        obtain ⟨fl, S', e, _⟩ := w
        cases e
    · exact (wantS_bad w).elim
  · exact (wantS_bad w).elim
/-! ### raise, try -/
theorem ss_rse {c : Nat} {es : E} : SndS G F FK m N FT KT XT xo (.rse c es) := .mk' rfl rfl fun W X sc x g h => by
  simp only [ckS] at h
  split at h
  · rename_i y p l pos pos2
    simp only [Bool.and_eq_true] at h
    obtain ⟨⟨⟨h0, h1⟩, h2⟩, h3⟩ := h
    have hx := no_xs h0
    obtain ⟨hg, hd⟩ := gl_of g.esc h1
    split at h2
    · rename_i z fs hc
      simp only [Bool.and_eq_true, decide_eq_true_eq] at h2
      obtain ⟨⟨rfl, hl⟩, hle⟩ := h2
      have ih := snd (m := m) (G := G) (F := F) (FK := FK) (N := N) (FT := FT) (KT := KT) (XT := XT) (xo := xo) es
      have R := g.rs hx c z fs hc
      have hxt : G.xt[c]? = some (z, fs) := by rw [g.ext]; exact hc
      cases l with
      | nil =>
        have hf : fs = [] := List.eq_nil_of_length_eq_zero hl.symm
        refine (ps_raise (g.calm hx) g.tk (pmk_own0 (R.e0 hf) R.at_ R.kp (raises_own R.ex R.ty) hg hd)).wk fun D σ H w => ?_
        obtain ⟨b, S, ls, r, rl, w⟩ := w
        simp only [exS] at w
        rw [ih.nil0 ((ih.nlx sc [] h3).mpr rfl)] at w
        exact wantS_ex w _ _ H b σ (Post.refl r) rl ⟨rfl, z, fs, hxt, fun k f x e1 => by rw [hf] at e1; simp at e1⟩
      | cons e es' =>
        have hf : fs ≠ [] := fun q => by rw [q] at hl; simp at hl
        obtain ⟨T, fI, fd, k, iC, tI, F1, hr, hb⟩ := R.e1 hf
        have h6 := ih.noS sc _ h3
        rw [List.all_cons, Bool.and_eq_true] at h6
        refine (ps_raise (g.calm hx) g.tk (pmk_oex T iC tI F1 hr hb .nil pass0 hg R.at_ (ih.lst W X sc _ g.toStand h3) hd (star_of (by simpa using h6.1) _ _) (back_any h6.2))).wk fun D σ H w => ?_
        obtain ⟨b, S, ls, r, rl, w⟩ := w
        simp only [exS] at w
        refine ⟨b, S, ls, r, rl, (wantS_bind rl w).imp fun ds S1 H1 b1 p1 e1 w vs kv => ?_⟩
        have ln := ih.lnE sc _ h3 _ _ _ _ e1
        have lv : vs.length = fs.length := by rw [← kv.length, ln, hl]
        refine ⟨by omega, fun a ha => ?_⟩
        rw [List.append_nil]
        refine ⟨by simp [lv], a, vs, rfl, upd_same, fun dx ws hd' hne hw => ⟨rfl, dx, ws, upd_same, by rw [upd_ne hne, upd_same], ?_, ?_⟩⟩
        · rw [upd_ne hne] at hd'; exact hd'
        · rw [upd_ne hne] at hd'
          rw [del_upd ha]
          have p2 := p1.rel.newX (fs := ws) hd'
          refine wantS_ex w _ _ _ b1 σ p2 (p2.rl (p1.rl rl)) ⟨rfl, z, fs, hxt, fun k f x e1 e2 => ?_⟩
          obtain ⟨v, q1, q2⟩ := kv.get e2
          exact ⟨dx, ws, v, rfl, upd_same, hw k f v e1 q1, p2.rv q2⟩
    · cases h2
  · cases h
theorem ss_tr {t u : S} (ht : SndS G F FK m N FT KT XT xo t) (hu : SndS G F FK m N FT KT XT xo u) : SndS G F FK m N FT KT XT xo (.tr t u) := .mk' rfl rfl fun W X sc x g h => by
  simp only [ckS] at h
  split at h
  · rename_i body h₀ hds pos
    simp only [Bool.and_eq_true] at h
    obtain ⟨⟨h0, h1⟩, h2⟩ := h
    have hx := no_xs h0
    obtain ⟨l, hl, hw⟩ := hu.hs hx W X sc (h₀ :: hds) g h2
    refine (ps_tryH g.hs g.hf (eNd g.toStand) g.tk (tb := fun W' => tS G W' (exS F FK m t)) (fun W' pn xe tk own => ?_) hl).wk fun D σ H w => ?_
    · refine ht.ss W' (X.tr pn xe) sc body ?_ h1
      exact { eK := g.eK, eN := g.eN, nd := g.nd, esc := g.esc, exs := g.exs, ext := g.ext, calm := g.calm, room := g.room, mgb := g.mgb, call := g.call, callk := g.callk, tk := tk, xcl := fun c y fs h => ⟨(g.xcl c y fs h).at_, (g.xcl c y fs h).fl, (g.xcl c y fs h).xf⟩, xf := fun n => (n hx).elim, own := own, kind := g.kind, fn := g.fn, hs := g.hs, hf := g.hf, rs := fun n c y fs h => ⟨(g.rs n c y fs h).at_, (g.rs n c y fs h).kp, (g.rs n c y fs h).ex, (g.rs n c y fs h).ty, (g.rs n c y fs h).e0, (g.rs n c y fs h).e1⟩, exm := g.exm }
    · obtain ⟨b, S, ls, r, rl, w⟩ := w
      refine ⟨b, S, ls, r, rl, ?_⟩
      obtain ⟨fl, S', e, q⟩ := w
      simp only [exS] at e
      split at e
      · rename_i ls' c ds S1 e1
        refine ⟨_, _, e1, fun cls d H' b' σ' p rl' x => ?_⟩
        exact hw D c ds ls' S1 H' b' σ' cls d p.rel rl' x (WantS.mono p ⟨fl, S', e, q⟩)
      · rename_i hn
        refine ⟨fl, S', e, ?_⟩
        cases fl with
        | next ls' => exact q
        | brk ls' => exact q
        | cont ls' => exact q
        | ret d => exact q
        | exc ls' c ds => exact (hn _ _ _ _ e).elim
  · cases h
/-- the context of a suite -/
theorem StandS.suite {W : WX} {sc : Scope} {X : Cx} (g : StandS G W F FK N FT KT XT none sc X) (i : Nat) (a : Addr) (oe : Obj) (cls : Value) (d : Option Addr) (pn : List (Addr × Obj)) (hz : Zc cls d oe) (hf : ∃ vs, oe.data = .fields vs) :
    StandS (G.at (some i) (a, cls, d)) noW F FK N FT KT XT (some i) sc (X.suite a ((a, oe) :: pn)) := 
  { eK := g.eK, eN := g.eN, nd := g.nd, esc := g.esc, exs := rfl, ext := g.ext, calm := fun n => (by cases n), room := g.room, mgb := g.mgb, call := fun n => (by cases n), callk := fun n => (by cases n), tk := takes_none5, xcl := fun c y fs h => ⟨(g.xcl c y fs h).at_, (g.xcl c y fs h).fl, (g.xcl c y fs h).xf⟩, xf := fun n e te C nm pos T hno pe hb => pe_xf T hno hz hf pe hb, own := PassesOwn.never, kind := g.kind, fn := g.fn, hs := g.hs, hf := g.hf, rs := fun n => (by cases n), exm := g.exm }
theorem offW {i : Option Nat} {W : WX} {H : Hp} {b : List Addr} {r : R Fl} {D : Ends} {cur : Addr × Value × Option Addr} (hx : G.xs = none) (w : WantS G W H b (offH i r) D) : WantS (G.at (some (xSlot i)) cur) noW H b r (offE i D) := by
  have rlo : ∀ {H' : Hp} {b' : List Addr} {ls : Ls} {σ' : L2.St}, RL (G.at (some (xSlot i)) cur) H' b' ls σ' → RL G H' b' (offL i ls) (match i with | none => σ' | some i => σ'.set i none) := fun h => by
    refine h.off ?_ hx
    cases i with
    | none => exact .inr rfl
    | some i => exact .inl rfl
  cases r with
  | bad => exact (wantS_bad w).elim
  | exc c ds S => exact (wantS_bad w).elim
  | ok fl S =>
    refine ⟨fl, S, rfl, ?_⟩
    cases fl with
    | next ls =>
      intro H' b' σ' p rl
      have q := wantS_next w H' b' _ (post_in.mp p) (rlo rl)
      cases i <;> exact q
    | brk ls =>
      intro H' b' σ' p rl
      have q := wantS_brk w H' b' _ (post_in.mp p) (rlo rl)
      cases i <;> exact q
    | cont ls =>
      intro H' b' σ' p rl
      have q := wantS_cont w H' b' _ (post_in.mp p) (rlo rl)
      cases i <;> exact q
    | ret d =>
      intro v H' b' p rv
      have q := wantS_ret w v H' b' (post_in.mp p) ((rv_in _ _).mp rv)
      cases i <;> exact q
    | exc ls c ds => exact (wantS_bad w).elim
theorem rl_none {H : Hp} {b : List Addr} {ls : Ls} {σ : L2.St} {v : Nat} (h : RL G H b ls σ) : RL G H b (ls.set v none) σ := by
  refine ⟨by simp [h.len], fun j x n e => ?_, fun j c ds n e => ?_⟩
  · by_cases q : v = j
    · subst q
      have hl := (List.getElem?_eq_some_iff.mp e).1
      rw [List.length_set] at hl
      rw [List.getElem?_set_self hl] at e
      cases e
    · rw [List.getElem?_set_ne q] at e
      exact h.at_ j x n e
  · by_cases q : v = j
    · subst q
      have hl := (List.getElem?_eq_some_iff.mp e).1
      rw [List.length_set] at hl
      rw [List.getElem?_set_self hl] at e
      cases e
    · rw [List.getElem?_set_ne q] at e
      exact h.ax j c ds n e
theorem ss_hd {k : Nat} {any : Bool} {i : Option Nat} {t u : S} (ht : ∀ (G : Gb) (xo : Option Nat), SndS G F FK m N FT KT XT xo t) (hu : SndS G F FK m N FT KT XT xo u) : SndS G F FK m N FT KT XT xo (.hd k any i t u) := by
  refine ⟨fun W X sc x g h => (Bool.false_ne_true h).elim, fun W X sc xs g h => (Bool.false_ne_true h).elim, fun hx W X sc hds g h => ?_⟩
  simp only [ckS] at h
  split at h
  · rename_i y np nm b₀ suite pos hds
    simp only [Bool.and_eq_true] at h
    obtain ⟨⟨⟨⟨h1, h2⟩, h3⟩, h4⟩, h5⟩ := h
    subst hx
    obtain ⟨hg, hd⟩ := gl_of g.esc h1
    split at h2
    · rename_i z fs hc
      simp only [Bool.and_eq_true, decide_eq_true_eq, beq_iff_eq] at h2
      obtain ⟨rfl, ha⟩ := h2
      obtain ⟨l, hl, hw⟩ := hu.hs rfl W X sc hds g h5
      have hnm : Names X z (.ref (G.cls k)) := ⟨hg, hd, .inl (g.xcl k z fs hc).at_⟩
      have hsu : ∀ (a : Addr) (oe : Obj) (cls : Value) (d : Option Addr) (pn : List (Addr × Obj)), Zc cls d oe → (∃ vs, oe.data = .fields vs) → PSs (X.suite a ((a, oe) :: pn)) (b₀ :: suite) (tS (G.at (some (xSlot i)) (a, cls, d)) noW (exS F FK m t)) :=
        fun a oe cls d pn hz hf => (ht _ _).ss noW _ sc _ (g.suite (xSlot i) a oe cls d pn hz hf) h4
      refine ⟨(.ref (G.cls k), i, fun a cls d => tS (G.at (some (xSlot i)) (a, cls, d)) noW (exS F FK m t)) :: l, ?_, ?_⟩
      · split at h3
        · exact .c0 hnm hsu hl
        · rename_i n i
          obtain ⟨n1, n2⟩ := nmL_of g h3
          refine .c1 hnm n1 ?_ hsu hl
          unfold Env.kindOf
          exact n2
        · cases h3
      · intro D c ds ls S H b σ cls d r rl x w
        obtain ⟨rfl, y2, fl2, hxt, _⟩ := id x
        rw [g.ext] at hxt
        refine ⟨_, g.exm c k y2 fl2 z fs hxt hc, fun e a na => ?_, fun e => ?_⟩
        · have ec : any = true ∨ c = k := by
            rw [Bool.or_eq_true, decide_eq_true_eq, decide_eq_true_eq] at e
            rcases e with e | e
            · exact .inr e
            · exact .inl (by rw [ha]; exact decide_eq_true e)
          have w : WantS G W H b (if any = true ∨ c = k then offH i (exS F FK m t (onH i c ds ls) S) else exH F FK m u c ds ls S) D := w
          rw [if_pos ec] at w
          refine ⟨b, S, onH i c ds ls, rel_in.mpr r, ?_, offW g.exs w⟩
          cases i with
          | some i => exact rl.on g.exs x i
          | none =>
            refine (RL.on0 (i := 4096) g.exs (rl_none rl) ?_)
            intro c2 ds2 e2
            by_cases hl : 4096 < ls.length
            · rw [show onH none c ds ls = ls.set 4096 none from rfl, List.getElem?_set_self hl] at e2
              cases e2
            · rw [show onH none c ds ls = ls.set 4096 none from rfl, List.getElem?_eq_none (by simp; omega)] at e2
              cases e2
        · have ec : ¬ (any = true ∨ c = k) := by
            rw [Bool.or_eq_false_iff, decide_eq_false_iff_not, decide_eq_false_iff_not] at e
            rintro (q | q)
            · rw [ha] at q
              exact e.2 (of_decide_eq_true q)
            · exact e.1 q
          have w : WantS G W H b (if any = true ∨ c = k then offH i (exS F FK m t (onH i c ds ls) S) else exH F FK m u c ds ls S) D := w
          rw [if_neg ec] at w
          exact hw D c ds ls S H b σ _ d r rl x w
    · cases h2
  · cases h
theorem snd_S : ∀ (s : S) (G : Gb) (xo : Option Nat), SndS G F FK m N FT KT XT xo s
  | .nil, G, xo => ss_nil
  | .cons a r, G, xo => ss_cons (snd_S a G xo) (snd_S r G xo)
  | .ex _, G, xo => ss_ex
  | .set _ _, G, xo => ss_set
  | .slc _ _ _ _ _ _, G, xo => ss_slc
  | .sdc _ _ _ _ _ _ _, G, xo => ss_sdc
  | .asg _ _, G, xo => ss_asg
  | .par2 _ _ _ _, G, xo => ss_par2
  | .par3 _ _ _ _ _ _, G, xo => ss_par3
  | .aug _ _ _, G, xo => ss_aug
  | .six _ _ _, G, xo => ss_six
  | .aix _ _ _ _, G, xo => ss_aix
  | .ite _ a b, G, xo => ss_ite (snd_S a G xo) (snd_S b G xo)
  | .whl _ b, G, xo => ss_whl (snd_S b G xo)
  | .for _ _ b, G, xo => ss_for (snd_S b G xo)
  | .ret _, G, xo => ss_ret
  | .retN, G, xo => ss_retN
  | .brk, G, xo => ss_brk
  | .cnt, G, xo => ss_cnt
  | .pas, G, xo => ss_pas
  | .lks _ s, G, xo => ss_lks (snd_S s G xo)
  | .rse _ _, G, xo => ss_rse
  | .tr a b, G, xo => ss_tr (snd_S a G xo) (snd_S b G xo)
  | .hd _ _ _ a b, G, xo => ss_hd (fun G xo => snd_S a G xo) (snd_S b G xo)
  | .non, G, xo => ss_non
end
end PV

set_option Elab.async false
set_option linter.all false
set_option maxRecDepth 100000
set_option maxHeartbeats 2000000
/-! PV: defs, by the depth of calls; the law's end. -/
namespace PV
open PySem PySem.Spec PyProof.Rows L2

/-- a def: how it stands in the text, and in PV -/
structure Fc where
  x : Str
  params : Arguments
  body : List Stmt
  sc : Scope
  dfl : List He.Dv
  N : List Str
  df : Df
def Fc.d (c : Fc) : He.DefD := ⟨(c.x, none), c.x, c.x, c.params, c.body, c.sc, c.dfl, []⟩
def dvB : He.Dv → D → Bool
  | .non, .non => true
  | .bl b, .bl c => b == c
  | .int i, .int j => decide (i = j)
  | .str x, .str y => decide (x = y) && strOk x
  | _, _ => false
def dvBs : List He.Dv → List D → Bool
  | [], [] => true
  | v :: vs, d :: ds => dvB v d && dvBs vs ds
  | _, _ => false
def ftOf (C : List Fc) : List (Str × Nat × Nat) := C.map fun c => (c.x, c.df.np, c.df.dfl.length)
def Fc.ck (FT : List (Str × Nat × Nat)) (KT : List (Nat × Nat × List Str)) (XT : List (Str × List Str)) (c : Fc) : Bool :=
  C8.scC c.N c.df.ps c.sc && (ckS c.N FT KT XT none c.df.body).ss c.sc c.body && decide (c.df.ps.length = c.df.np) && decide (c.N.length = c.df.nl) && dvBs c.dfl c.df.dfl
section
variable {G : Gb} {H : Hp} {b : List Addr}
theorem dv_ok {K : PySem.W.Frag} {v : He.Dv} {d : D} (h : dvB v d = true) : RV G H b d (v.v K) := by
  cases v <;> cases d <;> simp only [dvB] at h <;> try (cases h; done)
  · exact rv_non.mpr rfl
  · obtain rfl := eq_of_beq h
    exact rv_bl.mpr rfl
  · obtain rfl := of_decide_eq_true h
    exact rv_int.mpr rfl
  · rw [Bool.and_eq_true] at h
    obtain rfl := of_decide_eq_true h.1
    exact rv_str.mpr ⟨rfl, small1000' (of_decide_eq_true h.2)⟩
theorem dvs_ok {K : PySem.W.Frag} : ∀ {vs : List He.Dv} {ds : List D}, dvBs vs ds = true → RVs G H b ds (vs.map (He.Dv.v K))
  | [], [], _ => RVs.nil
  | [], _ :: _, h => by cases h
  | _ :: _, [], h => by cases h
  | v :: vs, d :: ds, h => by
    rw [dvBs, Bool.and_eq_true] at h
    exact RVs.cons (dv_ok h.1) (dvs_ok h.2)
end
/-- n values are written, the defaults fill up -/
def BindC (c : Fc) : Prop := ∀ (K : PySem.W.Frag) (a : Addr) (fd : FuncData), FunD K c.x c.x c.params c.body c.sc (c.dfl.map (He.Dv.v K)) [] a fd → ∀ n, n ≤ c.df.np → c.df.np - n ≤ c.df.dfl.length →
  ∃ ds, Vals ((c.dfl.map (He.Dv.v K)).drop (c.df.dfl.length - (c.df.np - n))) ds ∧ Binds K fd c.df.ps ds
/-- n values are written, the others by their names -/
def KBindC (c : Fc) (n : Nat) (ks : List Str) : Prop := ks = c.df.ps.drop n ∧ ∀ (K : PySem.W.Frag) (a : Addr) (fd : FuncData), FunD K c.x c.x c.params c.body c.sc (c.dfl.map (He.Dv.v K)) [] a fd → KBn K fd c.df.ps n ks (· ++ ·) (· ++ ·)
theorem BindC.of0 {c : Fc} (h0 : c.dfl = []) (h1 : c.df.dfl = [])
    (h : ∀ (kV doc pm : Value) (an : Option Addr) (cdv ct : Value) (us : List Value), us.length = c.df.ps.length → bindArgs (PySem.W.fnOf c.x c.x c.params c.body c.sc .none kV doc pm an cdv ct) ⟨us, []⟩ = pure (c.df.ps.zip us)) : BindC c := fun K a fd F n h2 h3 => by
  rw [h0] at F ⊢
  exact ⟨[], by simpa using (Paired.nil : Vals [] []), FunD.bindsN F h⟩
theorem BindC.of1 {c : Fc} (h0 : c.dfl ≠ []) (hl : c.dfl.length = c.df.dfl.length) (hp : c.df.ps.length = c.df.np)
    (h : ∀ n, n ≤ c.df.np → c.df.np - n ≤ c.df.dfl.length → ∀ (T : Addr) (kV doc pm : Value) (an : Option Addr) (cdv ct : Value) (us its : List Value), us.length = n → its.length = c.dfl.length →
      ∃ k, bindArgs (PySem.W.fnOf c.x c.x c.params c.body c.sc (.ref T) kV doc pm an cdv ct) ⟨us, []⟩ = seqItems? (.ref T) >>= k ∧ k (some its.toArray) = pure (c.df.ps.zip (us ++ its.drop (c.df.dfl.length - (c.df.np - n))))) : BindC c := fun K a fd F n h2 h3 => by
  refine FunD.binds1 F n (c.df.dfl.length - (c.df.np - n)) (by simpa using h0) (by rw [List.length_map, hl]; omega) fun T kV doc pm an cdv ct us its l1 l2 => ?_
  exact h n h2 h3 T kV doc pm an cdv ct us its l1 (by simpa using l2)
theorem KBindC.of0 {c : Fc} {n : Nat} {ks : List Str} (h0 : c.dfl = []) (hk : ks = c.df.ps.drop n)
    (h : ∀ (kV doc pm : Value) (an : Option Addr) (cdv ct : Value) (us ws : List Value), us.length = n → ws.length = ks.length → bindArgs (PySem.W.fnOf c.x c.x c.params c.body c.sc .none kV doc pm an cdv ct) ⟨us, ks.zip ws⟩ = pure (c.df.ps.zip (us ++ ws))) : KBindC c n ks := by
  refine ⟨hk, fun K a fd F => ?_⟩
  rw [h0] at F
  obtain ⟨oc, od, dV, kV, doc, pm, an, cdv, ct, osl, rfl, lk, hcd, hD, hK⟩ := F.ex
  rcases hD with ⟨_, rfl⟩ | ⟨e, _⟩
  · exact ⟨fun s us ws _ l1 l2 => .of_eq (h kV doc pm an cdv ct us ws l1 l2), fun r1 r2 => r1.append r2⟩
  · exact absurd rfl e

/-- what a def promises, n calls deep -/
def spN (G : Gb) (P : List Df) (m n f np : Nat) : Sp := fun vs H Q Z => vs.length = np ∧ ∃ b S ds, Rel G H b S ∧ RVs G H b ds vs ∧ Wt G H b (runN P m n f ds S) Z fun d _ H' b' => ∀ v, RV G H' b' d v → Q v H'
def callF (P : List Df) (m n : Nat) : Nat → List D → Store → R D := fun f ds S => match P[f]? with
  | some df => match fill df ds with
    | some full => runN P m n f full S
    | none => .bad
  | none => .bad
def callFK (P : List Df) (m n : Nat) : Nat → List Str → List D → List D → Store → R D := fun f ks ds es S => match P[f]? with
  | some df => match fillK df ks ds es with
    | some full => runN P m n f full S
    | none => .bad
  | none => .bad
theorem runN_succ (P : List Df) (m n f : Nat) (ds : List D) (S : Store) : runN P m (n + 1) f ds S = match P[f]? with
    | none => .bad
    | some df => if ds.length = df.np then bodyEnd (exS (callF P m n) (callFK P m n) m df.body (startD df ds) S) else .bad := rfl
section
variable {C : List Fc} {KT : List (Nat × Nat × List Str)} {m : Nat} {prog : Program} {w : World} {base : Heap} {mg : Str → Option Value} {G : Gb}
theorem ft_at {f : Nat} {c : Fc} (h : C[f]? = some c) : (ftOf C)[f]? = some (c.x, c.df.np, c.df.dfl.length) := by
  unfold ftOf
  rw [List.getElem?_map, h]; rfl
theorem of_ft {f : Nat} {y : Str} {np nd : Nat} (h : (ftOf C)[f]? = some (y, np, nd)) : ∃ c, C[f]? = some c ∧ y = c.x ∧ np = c.df.np ∧ nd = c.df.dfl.length := by
  unfold ftOf at h
  rw [List.getElem?_map] at h
  cases q : C[f]? with
  | none => rw [q] at h; cases h
  | some c =>
    rw [q] at h
    cases h
    exact ⟨c, rfl, rfl, rfl, rfl⟩
theorem p_at {f : Nat} {c : Fc} (h : C[f]? = some c) : (C.map (·.df))[f]? = some c.df := by rw [List.getElem?_map, h]; rfl
theorem dvBs_len : ∀ {vs : List He.Dv} {ds : List D}, dvBs vs ds = true → vs.length = ds.length
  | [], [], _ => rfl
  | [], _ :: _, h => by cases h
  | _ :: _, [], h => by cases h
  | _ :: _, _ :: _, h => by
    rw [dvBs, Bool.and_eq_true] at h
    rw [List.length_cons, List.length_cons, dvBs_len h.2]
/-- an exception class of the text: where it stands, how it is made -/
structure XFacts (prog : Program) (w : World) (K : PySem.W.Frag) (mg : Str → Option Value) (base : Heap) (G : Gb) (c : Nat) (y : Str) (fs : List Str) : Prop where
  at_ : mg y = some (.ref (G.cls c))
  xf : ∀ f ∈ fs, XfC K (G.cls c) ∧ PySem.W.findIn K (.ref (G.cls c)) f = some none
  kp : PySem.W.keepIn K (.ref (G.cls c)) = true
  ex : PySem.W.subIn K (.ref (G.cls c)) (.type "BaseException") = some true
  ty : PySem.W.typeIn K (.ref (G.cls c)) = some (.type "type")
  e0 : fs = [] → PySem.W.excIn K (G.cls c) He.veBase "ValueError.__new__" = true
  e1 : fs ≠ [] → OexC K (G.cls c) ∧ ∃ fI fd, PySem.W.findIn K (.ref (G.cls c)) "__init__" = some (some (.ref fI)) ∧ PySem.W.typeIn K (.ref fI) = some (.type "function") ∧
    FnOk prog w K mg base CX0 1 fI fd ("self" :: fs) (spX (G.cls c) fs) ∧ Binds K fd ("self" :: fs) []
structure XAll (prog : Program) (w : World) (K : PySem.W.Frag) (mg : Str → Option Value) (base : Heap) (G : Gb) : Prop where
  one : ∀ c y fs, G.xt[c]? = some (y, fs) → XFacts prog w K mg base G c y fs
  exm : ∀ (c k : Nat) (y : Str) (fs : List Str) (z : Str) (gs : List Str), G.xt[c]? = some (y, fs) → G.xt[k]? = some (z, gs) → PySem.W.exmOne K (.ref (G.cls c)) (.ref (G.cls k)) = some (decide (c = k) || decide (z = "ToldError"))
/-- THE RULE: every def runs as its Df says -/
theorem fn_all (hck : ∀ c ∈ C, c.ck (ftOf C) KT G.xt = true) (hB : ∀ c ∈ C, BindC c) (hKB : ∀ f n ks, (f, n, ks) ∈ KT → ∃ c, C[f]? = some c ∧ KBindC c n ks ∧ n ≤ c.df.ps.length)
    (hF : ∀ c ∈ C, ∃ fd, FunD G.K c.x c.x c.params c.body c.sc (c.dfl.map (He.Dv.v G.K)) [] (He.ga G.K c.x) fd) (hG : ∀ c ∈ C, mg c.x = some (.ref (He.ga G.K c.x))) (hm : ∀ y ∈ bNames, mg y = none) (hxs : G.xs = none) (hX : XAll prog w G.K mg base G) :
    ∀ (n f : Nat) (c : Fc) (fd : FuncData), C[f]? = some c → FunD G.K c.x c.x c.params c.body c.sc (c.dfl.map (He.Dv.v G.K)) [] (He.ga G.K c.x) fd → FnOk prog w G.K mg base (L2.CX prog w) (n + 2) (He.ga G.K c.x) fd c.df.ps (spN G (C.map (·.df)) m n f c.df.np) := by
  have hnp : ∀ c ∈ C, c.df.ps.length = c.df.np := fun c hc => by
    have h := hck c hc
    unfold Fc.ck at h
    simp only [Bool.and_eq_true, decide_eq_true_eq] at h
    exact h.1.1.2
  intro n
  induction n with
  | zero =>
    intro f c fd hc F
    exact ⟨fun vs H Q E h => by rw [hnp c (List.mem_of_getElem? hc)]; exact h.1, fun A outer s H args us vs Q E _ _ _ _ h => by
      obtain ⟨_, b, S, ds, _, _, h⟩ := h
      exact (show False from h).elim⟩
  | succ n ih =>
    intro f c fd hc F
    have hm' := List.mem_of_getElem? hc
    have h := hck c hm'
    unfold Fc.ck at h
    simp only [Bool.and_eq_true, decide_eq_true_eq] at h
    obtain ⟨⟨⟨⟨k1, k2⟩, k3⟩, k4⟩, k5⟩ := h
    have sc := C8.fnScope_by k1
    refine F.ok (k := n + 2) sc (fun vs H Q E h => by rw [k3]; exact h.1) fun cdv A outer s H vs Q E hr h => ?_
    refine ⟨tS G (fun cls d _ H => E cls d H) (exS (callF (C.map (·.df)) m n) (callFK (C.map (·.df)) m n) m c.df.body), ?_, ?_⟩
    · refine (snd_S c.df.body G none).ss _ _ c.sc c.body ?_ k2
      refine { eK := rfl, eN := rfl, nd := sc.nd, esc := rfl, exs := hxs, ext := rfl, calm := fun _ => rfl, room := (by have := hr.units; exact this), mgb := hm, call := fun _ => ?_, callk := fun _ => ?_, tk := takes_of rfl rfl rfl rfl, xcl := fun k y fs hk => ⟨(hX.one k y fs hk).at_, hk, (hX.one k y fs hk).xf⟩, xf := fun z => (z rfl).elim, own := passes_of rfl, kind := sc.kind, fn := fun _ => rfl, hs := rfl, hf := rfl, rs := fun _ k y fs hk => ⟨(hX.one k y fs hk).at_, (hX.one k y fs hk).kp, (hX.one k y fs hk).ex, (hX.one k y fs hk).ty, (hX.one k y fs hk).e0, fun z => ?_⟩, exm := hX.exm }
      · intro f2 y np nd n2 hft hle hd
        obtain ⟨c2, hc2, rfl, rfl, rfl⟩ := of_ft hft
        have hm2 := List.mem_of_getElem? hc2
        obtain ⟨fd2, F2⟩ := hF c2 hm2
        obtain ⟨ds, v1, v2⟩ := hB c2 hm2 G.K _ fd2 F2 n2 hle hd
        refine ⟨_, fd2, c2.df.ps, ds, _, _, n + 2, hG c2 hm2, F2.kp, ih f2 c2 fd2 hc2 F2, hr, v2, v1, ?_⟩
        intro H b S vs es Q Z r rv hl w
        have k5' : dvBs c2.dfl c2.df.dfl = true := by
          have h := hck c2 hm2
          unfold Fc.ck at h
          simp only [Bool.and_eq_true, decide_eq_true_eq] at h
          exact h.2
        have hl2 := dvBs_len k5'
        unfold callF at w
        rw [p_at hc2] at w
        simp only [fill] at w
        split at w
        · rename_i full e
          split at e
          · rename_i hh
            cases e
            have rr := rv.append ((dvs_ok (G := G) (H := H) (b := b) (K := G.K) k5').drop (c2.df.dfl.length - (c2.df.np - es.length)))
            rw [hl] at rr w hh
            exact ⟨by rw [← rr.length]; exact hh.1, b, S, _, r, rr, w⟩
          · cases e
        · exact (show False from w).elim
      · intro f2 y np nd n2 ks hft hk
        obtain ⟨c2, hc2, rfl, rfl, rfl⟩ := of_ft hft
        obtain ⟨c3, hc3, ⟨hks, kb⟩, hle⟩ := hKB f2 n2 ks hk
        rw [hc2] at hc3
        cases hc3
        have hm2 := List.mem_of_getElem? hc2
        obtain ⟨fd2, F2⟩ := hF c2 hm2
        refine ⟨_, fd2, c2.df.ps, _, _, _, n + 2, hG c2 hm2, F2.kp, ih f2 c2 fd2 hc2 F2, hr, kb G.K _ fd2 F2, ?_⟩
        intro H b S vs ws es fs Q Z r rv rw' l1 l2 w
        unfold callFK at w
        rw [p_at hc2] at w
        simp only [fillK] at w
        split at w
        · rename_i full e
          split at e
          · cases e
            have rr := rv.append rw'
            refine ⟨?_, b, S, _, r, rr, w⟩
            rw [← rr.length, List.length_append, l1, l2, hks, List.length_drop, ← hnp c2 hm2]
            omega
          · cases e
        · exact (show False from w).elim
      · obtain ⟨T, fI, fd', q1, q2, q3, q4⟩ := (hX.one k y fs hk).e1 z
        exact ⟨T, fI, fd', 1, q1, q2, q3, hr.mono (by omega), q4⟩
    · obtain ⟨hl, b, S, ds, r, rv, w⟩ := h
      refine ⟨b, S, startD c.df ds, r, RL.start rv k4.symm, ?_⟩
      rw [runN_succ, p_at hc] at w
      simp only at w
      split at w
      · generalize exS (callF (C.map (·.df)) m n) (callFK (C.map (·.df)) m n) m c.df.body (startD c.df ds) S = rr at w
        cases rr with
        | ok fl S1 =>
          cases fl with
          | next ls' => exact ⟨_, _, rfl, fun H' b' σ' p rl => w H' b' p .non (rv_non.mpr rfl)⟩
          | ret d' => exact ⟨_, _, rfl, fun v H' b' p rv => w H' b' p v rv⟩
          | brk ls' => exact (show False from w).elim
          | cont ls' => exact (show False from w).elim
          | exc ls' k es => exact ⟨_, _, rfl, fun cls d H' b' σ' p rl x => w cls d H' b' p x⟩
        | exc k ds S1 => exact (show False from w).elim
        | bad => exact (show False from w).elim
      · exact (show False from w).elim
/-- a def that lets nothing out -/
theorem fn_cx0 {k : Nat} {f : Addr} {fd : FuncData} {ps : List Str} {K : PySem.W.Frag} {sp : Sp} (F : FnOk prog w K mg base (L2.CX prog w) k f fd ps sp) : FnOk prog w K mg base CX0 k f fd ps (fun vs H Q _ => sp vs H Q fun _ _ _ => False) := by
  refine ⟨fun vs H Q E h => F.len vs H Q _ h, fun A outer s H args us vs Q E hr e0 hb r h => codeAny_mono (F.run A outer s H args us vs Q _ hr e0 hb r h) fun r s' hq => ?_⟩
  cases r with
  | ok fl => cases fl <;> exact hq
  | error e =>
    obtain ⟨_, _, _, _, _, _, _, _, _, _, _, _, z⟩ := hq
    exact z.elim
end
end PV

set_option Elab.async false
set_option linter.all false
set_option maxRecDepth 100000
set_option maxHeartbeats 2000000
/-! PV: an exception class's own __init__: super().__init__(..), then the fields. -/
namespace L2
open PySem PySem.Spec PyProof.Rows
theorem Inv.pin1 {X : Cx} {pins : List (Addr × Obj)} {σ : St} {H : Hp} {s : Shared} {u : Addr} {o : Obj} (I : Inv X pins σ H s) (hu : s.heap.get? u = some o) (hn : H u = none) (hL : u ≠ X.env.locals) (hF : u ∉ X.fs) (hc : ∀ v, o.data ≠ .cell v) : Inv X ((u, o) :: pins) σ H s :=
  ⟨I.ok, I.os, I.bare, I.base, I.loc, I.cell, I.free, I.freeC, fun p hp => by
    rcases List.mem_append.mp hp with h | h
    · exact I.pin p (List.mem_append_left _ h)
    · rcases List.mem_cons.mp h with e | h
      · rw [e]; exact ⟨hu, hn, hL, hF, hc⟩
      · exact I.pin p (List.mem_append_right _ h), I.hok, I.len⟩
end L2
namespace PV
open PySem PySem.Spec PyProof.Rows L2 PySem.W NdefX

/-! ### the shape of the text -/
def isNm (x : Str) : Expr → Bool
  | .Name y _ => decide (y = x)
  | _ => false
def nmsOk : List Str → List Expr → Bool
  | [], [] => true
  | f :: fs, e :: es => isNm f e && nmsOk fs es
  | _, _ => false
def stOk (f : Str) : Stmt → Bool
  | .Assign [.Attribute (.Name s _) g _] (.Name y _) _ => decide (s = "self") && decide (g = f) && decide (y = f)
  | _ => false
def stsOk : List Str → List Stmt → Bool
  | [], [] => true
  | f :: fs, x :: xs => stOk f x && stsOk fs xs
  | _, _ => false
def iniOk (fs : List Str) : List Stmt → Bool
  | .Expr (.Call (.Attribute (.Call (.Name u _) [] [] _) m _) args [] _) _ :: r => decide (u = "super") && decide (m = "__init__") && nmsOk fs args && stsOk fs r
  | _ => false
/-- the names -/
def iniN (fs : List Str) : List Str := ("self" : Str) :: (fs ++ [("__class__" : Str)])

/-- an __init__ as it stands behind the top -/
structure IniD (prog : Program) (K : Frag) (C fI : Addr) (fs : List Str) (fd : FuncData) : Prop where
  ex : ∃ (name qual : Str) (params : Arguments) (body : List Stmt) (scope : Scope) (kV doc pm ct oc : Value) (an od : Option Addr) (osl : Array (Option Value)) (cda cc : Addr) (ccl cl : Value) (cdd cld : Option Addr) (ccs csl : Array (Option Value)) (vs : Array Value) (file : Str) (tf : Tok) (p0 p1 ap cp ep : Pos) (args : List Expr) (rest : List Stmt),
    fd = ksFn name qual params body scope .none kV doc pm an (.ref cda) ct cc ∧ K.lookup fI = some ⟨oc, od, .func fd, osl⟩ ∧ codeIn K (.ref cda) qual = true ∧ K.lookup cda = some ⟨ccl, cdd, .fields vs, ccs⟩ ∧ vs[2]? = some (.str file tf) ∧ ((prog.main.file : Str) == file) = true ∧
    K.lookup cc = some ⟨cl, cld, .cell (some (.ref C)), csl⟩ ∧ body = .Expr (.Call (.Attribute (.Call (.Name "super" p0) [] [] p1) "__init__" ap) args [] cp) ep :: rest ∧ nmsOk fs args = true ∧ stsOk fs rest = true ∧
    nscB (iniN fs) (("self" : Str) :: fs) [("__class__" : Str)] scope = true ∧ scope.names.lookup ("super" : Str) = some .globalImplicit ∧ scope.names.lookup ("ValueError" : Str) = none ∧ (params.posonlyargs ++ params.args).head?.map (·.arg) = some "self" ∧
    (∀ us : List Value, us.length = fs.length + 1 → bindArgs fd ⟨us, []⟩ = pure ((("self" : Str) :: fs).zip us)) ∧ (ap.endLine == cp.line) = true
/-- what the class has -/
structure IniC (prog : Program) (K : Frag) (C : Addr) (fs : List Str) : Prop where
  T : OexC K C
  ini : excInitIn K C He.veBase "ValueError.__new__" = true
  hm : ks_superIn K C C "__init__" = some (some (.builtin "ValueError.__init__"))
  hB : subIn K (.ref C) (.type "ValueError") = some true
  op : nsIn K cStatics "thirdparty.any" = some none
  no : ∀ f ∈ fs, findIn K (.ref C) f = some none
  sup : nsIn K mainGlobals "super" = some none
  top : (prog.main.scope.names.lookup ("super" : Str)).isSome = false
  fnd : fs.Nodup
  few : fs.length ≤ 10
  nd2 : ∀ y ∈ iniN fs, (y == ("__debug__" : Str)) = false ∧ (y == ("__classdict__" : Str)) = false

section
variable {prog : Program} {w : World} {K : Frag} {mg : Str → Option Value} {base : Heap} {C fI : Addr} {fs : List Str} {fd : FuncData}
theorem nms_len : ∀ {fs : List Str} {es : List Expr}, nmsOk fs es = true → es.length = fs.length
  | [], [], _ => rfl
  | [], _ :: _, h => by simp [nmsOk] at h
  | _ :: _, [], h => by simp [nmsOk] at h
  | f :: fs, e :: es, h => by
    rw [nmsOk, Bool.and_eq_true] at h
    rw [List.length_cons, List.length_cons, nms_len h.2]
theorem nms_at : ∀ {fs : List Str} {es : List Expr} {i : Nat} {f : Str}, nmsOk fs es = true → fs[i]? = some f → ∃ p, es[i]? = some (.Name f p)
  | [], _, _, _, _, e => by simp at e
  | _ :: _, [], _, _, h, _ => by simp [nmsOk] at h
  | f :: fs, x :: es, 0, g, h, e => by
    rw [nmsOk, Bool.and_eq_true] at h
    simp at e
    subst e
    cases x with
    | Name y p =>
      have := of_decide_eq_true (show decide (y = f) = true from h.1)
      subst this
      exact ⟨p, rfl⟩
    | _ => simp [isNm] at h
  | f :: fs, x :: es, i + 1, g, h, e => by
    rw [nmsOk, Bool.and_eq_true] at h
    exact nms_at (i := i) h.2 (by simpa using e)
theorem nms_star : ∀ {fs : List Str} {es : List Expr}, nmsOk fs es = true → es.all (fun e => !isStar e) = true
  | [], [], _ => rfl
  | [], _ :: _, h => by simp [nmsOk] at h
  | _ :: _, [], h => by simp [nmsOk] at h
  | f :: fs, e :: es, h => by
    rw [nmsOk, Bool.and_eq_true] at h
    rw [List.all_cons, nms_star h.2]
    cases e <;> first | rfl | (simp [isNm] at h)
/-- the values in the slots ix -/
def rdN (σ : L2.St) : List Nat → (List V → Prop) → Prop
  | [], k => k []
  | i :: ix, k => ∃ v, σ[i]? = some (some v) ∧ rdN σ ix fun vs => k (v :: vs)
theorem pa_names {X : Cx} (hv : ∀ y ∈ X.N, Vis X.env.scope y) (hd : ∀ y ∈ X.N, (y == ("__debug__" : Str)) = false ∧ (y == ("__classdict__" : Str)) = false) : ∀ (es : List Expr) (ix : List Nat), es.length = ix.length → (∀ (k i : Nat) (e : Expr), es[k]? = some e → ix[k]? = some i → ∃ y p, e = Expr.Name y p ∧ X.N[i]? = some y) →
    PA X es fun σ H Q => rdN σ ix fun vs => Q vs H
  | [], [], _, _ => pa_nil
  | e :: es, i :: ix, hl, h => by
    obtain ⟨y, p, rfl, hy⟩ := h 0 i e rfl rfl
    have hm := List.mem_of_getElem? hy
    exact (pa_cons (pe_var (i := i) hy (hv y hm) (hd y hm).1 (hd y hm).2) (pa_names hv hd es ix (by simpa using hl) fun k i e e1 e2 => h (k + 1) i e (by simpa using e1) (by simpa using e2)) (star_of rfl es X.env)).wk fun σ H Q q => q
  | [], _ :: _, hl, _ => by simp at hl
  | _ :: _, [], hl, _ => by simp at hl
theorem rd_range {σ : L2.St} : ∀ (ws : List V) (j : Nat) (k : List V → Prop), (∀ i v, ws[i]? = some v → σ[j + i]? = some (some v)) → k ws → rdN σ (List.range' j ws.length) k
  | [], _, _, _, h => h
  | v :: ws, j, k, hs, h => by
    rw [List.length_cons, List.range'_succ]
    refine ⟨v, hs 0 v rfl, rd_range ws (j + 1) _ (fun i u e => ?_) h⟩
    have := hs (i + 1) u (by simpa using e)
    rw [show j + 1 + i = j + (i + 1) by omega]
    exact this
/-- self.f = f, one after the other -/
def tR (K : Frag) : List Str → Nat → TS
  | [], _ => tNext
  | f :: r, j => tSeq (tOst K f (tVar 0) (tVar j)) (tR K r (j + 1))
theorem pss_sts {X : Cx} {fs : List Str} (hN : X.N = iniN fs) (hv : ∀ y ∈ X.N, Vis X.env.scope y) (hd : ∀ y ∈ X.N, (y == ("__debug__" : Str)) = false ∧ (y == ("__classdict__" : Str)) = false) : ∀ (todo : List Str) (j : Nat) (rest : List Stmt), stsOk todo rest = true → (∀ i f, todo[i]? = some f → X.N[j + i]? = some f) → PSs X rest (tR X.K todo j)
  | [], _, [], _, _ => pss_nil
  | [], _, _ :: _, h, _ => by simp [stsOk] at h
  | _ :: _, _, [], h, _ => by simp [stsOk] at h
  | f :: r, j, x :: xs, h, hn => by
    rw [stsOk, Bool.and_eq_true] at h
    obtain ⟨h1, h2⟩ := h
    have ih := pss_sts hN hv hd r (j + 1) xs h2 fun i g e => by
      have := hn (i + 1) g (by simpa using e)
      rw [show j + 1 + i = j + (i + 1) by omega]
      exact this
    unfold stOk at h1
    split at h1
    · rename_i s sp g gp y yp pos
      simp only [Bool.and_eq_true, decide_eq_true_eq] at h1
      obtain ⟨⟨rfl, rfl⟩, rfl⟩ := h1
      have e0 : X.N[0]? = some ("self" : Str) := by rw [hN]; rfl
      have e1 := hn 0 y rfl
      have m0 := List.mem_of_getElem? e0
      have m1 := List.mem_of_getElem? e1
      exact pss_cons (ps_ost (pe_var (i := 0) e0 (hv _ m0) (hd _ m0).1 (hd _ m0).2) (pe_var (i := j + 0) e1 (hv _ m1) (hd _ m1).1 (hd _ m1).2) (by rfl)) ih
    · cases h1
theorem lookup_ne {f g : Str} {y : V} {es : List (Str × V)} (h : g ≠ f) : ((f, y) :: es).lookup g = es.lookup g := by rw [lookup_put, if_neg h]
/-- the further fields -/
theorem tR_more {X : Cx} (T : IniC prog X.K C fs) {a : Addr} {ws : List V} {D : Ends} {σ : L2.St} {H0 : Hp} {dx : Addr} (hl : ws.length = fs.length) (h0 : σ[0]? = some (some (.ref a))) (hs : ∀ i v, ws[i]? = some v → σ[1 + i]? = some (some v)) (ne : dx ≠ a)
    (fin : ∀ es, (∀ (k : Nat) (f : Str) (v : V), fs[k]? = some f → ws[k]? = some v → es.lookup f = some v) → D.nx σ (upd (upd H0 dx (exd dx es)) a (exo a C (some dx)))) :
    ∀ (n : Nat) (todo : List Str) (es : List (Str × V)), fs.drop n = todo → n ≤ fs.length → es.length ≤ n → (∀ (k : Nat) (f : Str) (v : V), k < n → fs[k]? = some f → ws[k]? = some v → es.lookup f = some v) →
      tR X.K todo (1 + n) D σ (upd (upd H0 dx (exd dx es)) a (exo a C (some dx))) := by
  intro n todo
  induction todo generalizing n with
  | nil =>
    intro es h1 h2 h3 h4
    have hn : fs.length ≤ n := List.drop_eq_nil_iff.mp h1
    exact fin es fun k f v e1 e2 => h4 k f v (by have := (List.getElem?_eq_some_iff.mp e1).1; omega) e1 e2
  | cons f r ih =>
    intro es h1 h2 h3 h4
    have hlt : n < fs.length := by
      rcases Nat.lt_or_ge n fs.length with q | q
      · exact q
      · rw [List.drop_of_length_le q] at h1; cases h1
    have hf : fs[n]? = some f := by
      have : (fs.drop n)[0]? = some f := by rw [h1]; rfl
      rwa [List.getElem?_drop, Nat.add_zero] at this
    have hr : fs.drop (n + 1) = r := by
      have : (fs.drop n).drop 1 = r := by rw [h1]; rfl
      rwa [List.drop_drop] at this
    obtain ⟨y, hy⟩ : ∃ y, ws[n]? = some y := ⟨ws[n]'(by omega), List.getElem?_eq_getElem _⟩
    have hm := List.mem_of_getElem? hf
    have few := T.few
    refine ⟨y, hs n y hy, .ref a, h0, a, C, rfl, T.T, T.no f hm, .inr ⟨dx, es, upd_same, by rw [upd_ne ne, upd_same], by omega, ?_⟩⟩
    have eq : upd (upd (upd H0 dx (exd dx es)) a (exo a C (some dx))) dx (exd dx ((f, y) :: es)) = upd (upd H0 dx (exd dx ((f, y) :: es))) a (exo a C (some dx)) := by
      funext z
      by_cases z1 : z = dx
      · rw [z1, upd_same, upd_ne ne, upd_same]
      · rw [upd_ne z1]
        by_cases z2 : z = a
        · rw [z2, upd_same, upd_same]
        · rw [upd_ne z2, upd_ne z2, upd_ne z1, upd_ne z1]
    show tR X.K r (1 + n + 1) D σ _
    rw [eq, show 1 + n + 1 = 1 + (n + 1) by omega]
    refine ih (n + 1) ((f, y) :: es) hr (by omega) (by simp; omega) fun k g v hk e1 e2 => ?_
    by_cases hkn : k = n
    · subst hkn
      rw [hf] at e1
      rw [hy] at e2
      cases e1
      cases e2
      rw [lookup_put, if_pos rfl]
    · have hne : g ≠ f := fun z => by
        subst z
        have b1 := (List.getElem?_eq_some_iff.mp e1).1
        obtain ⟨_, q1⟩ := List.getElem?_eq_some_iff.mp e1
        obtain ⟨_, q2⟩ := List.getElem?_eq_some_iff.mp hf
        exact hkn ((List.getElem_inj T.fnd).mp (q1.trans q2.symm))
      rw [lookup_ne hne]
      exact h4 k g v (by omega) e1 e2
theorem tR_all {X : Cx} (T : IniC prog X.K C fs) (hne : fs ≠ []) {a : Addr} {ws : List V} {D : Ends} {σ : L2.St} {H : Hp} (hl : ws.length = fs.length) (h0 : σ[0]? = some (some (.ref a))) (hs : ∀ i v, ws[i]? = some v → σ[1 + i]? = some (some v)) (ha : H a = some (exo a C none))
    (fin : ∀ dx es, H dx = none → dx ≠ a → (∀ (k : Nat) (f : Str) (v : V), fs[k]? = some f → ws[k]? = some v → es.lookup f = some v) → D.nx σ (upd (upd H dx (exd dx es)) a (exo a C (some dx)))) : tR X.K fs 1 D σ H := by
  cases hfs : fs with
  | nil => exact absurd hfs hne
  | cons f r =>
    obtain ⟨y, hy⟩ : ∃ y, ws[0]? = some y := ⟨ws[0]'(by rw [hl, hfs]; simp), List.getElem?_eq_getElem _⟩
    have hf : fs[0]? = some f := by rw [hfs]; rfl
    refine ⟨y, hs 0 y hy, .ref a, h0, a, C, rfl, T.T, T.no f (List.mem_of_getElem? hf), .inl ⟨ha, fun dx hd nd => ?_⟩⟩
    show tR X.K r (1 + 1) D σ _
    refine tR_more T hl h0 hs nd (fun es h => fin dx es hd nd h) 1 r [(f, y)] (by rw [hfs]; rfl) (by rw [hfs]; simp) (by simp) fun k g v hk e1 e2 => ?_
    obtain rfl : k = 0 := by omega
    rw [hf] at e1
    rw [hy] at e2
    cases e1
    cases e2
    rw [lookup_put, if_pos rfl]
theorem cw1 {M : Model} {A : Around} {E : Value → Shared → Prop} {s : Shared} {u x : Addr} {i : String} {pos : Pos} {env : Env} {e : Expr} {rest : List Expr} {Q : Value → Shared → Prop}
    (hu : s.heap.get? u = some (kxs_mw i x)) (h : wpAny M A (spliced (backTo pos (starEach (e :: rest) env))) (fun us t => KxsAt i u x t.heap ∧ wpAny M A (call (.ref u) us) Q E t) E s)
    (he : starEach (e :: rest) env = (false, eval e env) :: starEach rest env) (hp : (backTo pos (starEach rest env)).any (·.1) = false) :
    wpAny M A (callWith pos (.ref u) [] (backTo pos (starEach (e :: rest) env)) []) Q E s :=
  kxs_callWith1 (h₀ := ⟨#[], s.heap.life⟩) (L := u + 1) (news := [(u, kxs_mw i x)]) (fun q hq => by
    rw [List.mem_singleton] at hq
    subst hq
    exact ⟨hu, Nat.ne_of_lt (Nat.lt_succ_self u), rfl⟩) (List.mem_singleton_self _) h he hp
theorem ns_look {ps : List Str} {us : List Value} {u : Value} {p : Str} (h : us = u :: us.drop 1) (hn : p ∉ ps) : ((p :: ps).zip us).reverse.lookup p = some u := by
  rw [h, List.zip_cons_cons, List.reverse_cons, List.lookup_append]
  rw [look_none fun v hv => hn (List.of_mem_zip (List.mem_reverse.mp hv)).1]
  simp [List.lookup]
theorem call_mw {A : Around} {E : Value → Shared → Prop} {u e t0 : Addr} {s : Shared} {us : List Value} {Q : Value → Shared → Prop} (X : K.In s.heap) (ini : excInitIn K C He.veBase "ValueError.__new__" = true) (hu : s.heap.get? u = some (kxs_mw "ValueError.__init__" e))
    (he : s.heap.get? e = some ({ cls := .ref C, dict := none, data := .fields #[.ref t0, .none, .none, .none, .bool false, .none] } : Obj)) (hz : us.length ≤ sizeLine)
    (fin : ∀ h', (∀ b o, b ≠ e → s.heap.get? b = some o → h'.get? b = some o) → (∃ t1 : Addr, h'.get? e = some ({ cls := .ref C, dict := none, data := .fields #[.ref t1, .none, .none, .none, .bool false, .none] } : Obj)) → Q .none { s with heap := h' }) :
    wpAny (model prog w) A (call (.ref u) us) Q E s := by
  obtain ⟨h, g, d, t, os⟩ := s
  refine wpAny_call (codeAny_of_tree ?_)
  change wpAny _ _ (callAny (.ref u) ⟨us, []⟩) _ _ _
  simp only [callAny]
  refine wpAny_bind (wpAny_load hu ?_)
  simp only [kxs_mw]
  rw [if_pos (by decide)]
  change wpAny _ _ (if (Value.type "method-wrapper" != Value.type "method") = true then _ else _) _ _ _
  rw [if_pos (by decide)]
  obtain ⟨_, _, _, _, _, _, _, _, _, _, _, _, _, _, _, _, there, _⟩ := excInit_of X ini
  have B := PySem.F.excBase_ValueError
  exact wpAny_bind (check_bound_init B.toExcCallFacts there he rfl (wpAny_pure ⟨plainId_quiet B.init.plain _, codeAny_builtin B.initEntry (exc_init_tree (cls := .ref C) (dv := none) (c2 := .none) (c3 := .none) (b4 := .bool false) he hz fun h' k e' _ => fin h' k ⟨_, e'⟩)⟩))
theorem he_of {o : Expr} {name : Str} {apos pos : Pos} {args : List Expr} {env : Env} (few : methodCallForm (args.length + 0) (backTo pos (starEach args env)) [] = true) (hl : (apos.endLine == pos.line) = true) : eval (.Call (.Attribute o name apos) args [] pos) env = (do
    let ov ← attributeBase o name env (eval o env)
    standAt apos.atName
    let (f, first) ← holding [ov] (getMethod ov name (do return (← importBound o env).getD true))
    callWith pos f first (backTo pos (starEach args env)) []) := by
  show (do
    let ov ← attributeBase o name env (eval o env)
    standAt apos.atName
    methodCall o name apos pos env ov (args.length + 0) (backTo pos (starEach args env)) []) = _
  unfold methodCall methodCallPos calleeOf
  simp only [few, hl, Bool.not_true, Bool.false_or, if_true, pure_bind]
theorem few_of {fs : List Str} {args : List Expr} {pos : Pos} {env : Env} (h : nmsOk fs args = true) (hf : fs.length ≤ 10) : methodCallForm (args.length + 0) (backTo pos (starEach args env)) [] = true := by
  unfold methodCallForm
  rw [back_all (nms_star h)]
  have := nms_len h
  simp
  omega
abbrev iniF (name qual : Str) (params : Arguments) (body : List Stmt) (scope : Scope) (cc cda : Addr) : NF := ⟨name, qual, params, body, scope, [(("__class__" : Str), cc)], cda⟩
theorem fn_xinit (D : IniD prog K C fI fs fd) (T : IniC prog K C fs) (hne : fs ≠ []) : FnOk prog w K mg base CX0 1 fI fd (("self" : Str) :: fs) (spX C fs) := by
  obtain ⟨name, qual, params, body, scope, kV, doc, pm, ct, oc, an, od, osl, cda, cc, ccl, cl, cdd, cld, ccs, csl, vs0, file, tf, p0, p1, ap, cp, ep, args, rest, rfl, lk, hcd, lkc, hvs, hfile, lkcc, hbd, hnm, hst, hsc, hks, _, hp, hbind, hline⟩ := D.ex
  have S := nscope_by hsc
  refine ⟨fun vs H Q E h => by simpa using h.1, fun A outer s H as us vs Q E hr e0 hb r hsp => ?_⟩
  obtain ⟨hl, a, ws, rfl, ha, hq⟩ := hsp
  have hlw : ws.length = fs.length := by simpa using hl
  have base_ : ∀ b o, base.get? b = some o → s.heap.get? b = some o := fun b o z => (e0.bs b o z).1
  have KX := e0.mod.kin.keeps base_
  have lim := e0.mod.nolimit.keeps base_
  obtain ⟨u0, ur, rfl⟩ : ∃ u0 ur, us = u0 :: ur := by
    cases r with
    | cons _ _ => exact ⟨_, _, rfl⟩
  have ru : u0 = Value.ref a := by
    cases r with
    | cons h _ => exact h
  subst ru
  have hnd : ("self" : Str) ∉ fs := by
    have := S.nd
    unfold iniN at this
    exact fun m => (List.nodup_cons.mp this).1 (List.mem_append_left _ m)
  refine ks_codeAny_call_defAt (fd := ksFn name qual params body scope .none kV doc pm an (.ref cda) ct cc) (body := body) (binds := (("self" : Str) :: fs).zip (Value.ref a :: ur)) (by have := hr.depth; exact this) (KX _ _ lk) rfl lim (codeRec_of KX hcd) rfl hb S.nocell (fun y hy => S.par y.1 (List.of_mem_zip hy).1) (fun h₁ hns kp => ?_) S.co S.gen S.kind
  have hcellB : ∃ o, base.get? cc = some o := ⟨_, e0.mod.kin _ _ lkcc⟩
  have C1 : CellsAt (iniF name qual params body scope cc cda).cl [(("__class__" : Str))] [none] s.heap H := by
    have one : ∀ {y : Str} {c : Addr}, List.lookup y [(("__class__" : Str), cc)] = some c → y = ("__class__" : Str) ∧ c = cc := fun {y c} e => by
      simp only [List.lookup] at e
      split at e
      · rename_i z
        exact ⟨eq_of_beq z, (Option.some.inj e).symm⟩
      · cases e
    refine ⟨rfl, fun y c e => ?_, fun x y c e1 e2 => (one e1).1.trans (one e2).1.symm, fun i y e => ?_⟩
    · obtain ⟨rfl, rfl⟩ := one e
      obtain ⟨o, ho⟩ := hcellB
      exact ⟨(e0.bs _ _ ho).2, _, _, KX _ _ lkcc, rfl⟩
    · cases i with
      | zero =>
        simp at e
        subst e
        exact ⟨cc, by simp [List.lookup], fun v z => by simp at z⟩
      | succ i => simp at e
  have I := inv_startN (CX := CX0) (P := prog) (w := w) (N := iniN fs) (f := fI) (E := E) (F := iniF name qual params body scope cc cda) (tk := s.toks + ((("self" : Str) :: fs).zip (Value.ref a :: ur)).length) S hr.hd e0 (by simpa using hl) r C1 hns kp
  show _root_.PySem.wpAt (model prog w) (A.deeper (envF (iniF name qual params body scope cc cda) fI s.heap.objs.size)) (.func body (envF (iniF name qual params body scope cc cda) fI s.heap.objs.size)) (execs body (envF (iniF name qual params body scope cc cda) fI s.heap.objs.size)) _ _ _
  -- the class
  obtain ⟨nm, N', qn, bs, bm, hdct, sn, sub, ab, col, dd, k0, k1, k2, k3, k5, hC, hT⟩ := excInit_of KX T.ini
  obtain ⟨cd, hcl⟩ : ∃ cd, clsIn K C = some cd := by
    have := T.hm
    unfold ks_superIn at this
    cases e : clsIn K C with
    | none => rw [e] at this; cases this
    | some cd => exact ⟨cd, rfl⟩
  obtain ⟨oD, hoD, hoD2⟩ : ∃ oD, K.lookup C = some oD ∧ oD.data = .cls cd := by
    unfold clsIn at hcl
    split at hcl
    · rename_i c d cd' sl ho
      cases hcl
      exact ⟨_, ho, rfl⟩
    · cases hcl
  have hCs : mroIn K C (.ref C) = some true := by
    obtain ⟨nm', q', N2, bs', bm', sn', sub', ab', col', dd', j0, j1, j2, j3, j5, hC', _⟩ := T.T.cls
    unfold mroIn
    have : clsIn K C = some { name := nm', bases := bs', mro := .ref C :: bm', ns := N2, qualname := q', hasDict := true, slotNames := sn', subclasses := sub', abstract := ab', collection := col', hasDel := false } := by unfold clsIn; rw [hC'] <;> rfl
    rw [this]
    simp
  rw [hbd]
  have hnm2 := hnm
  have hi : interactive (envF (iniF name qual params body scope cc cda) fI s.heap.objs.size) = false := by simp [interactive, S.kind]
  refine ks_wpAt_execs_cons (ks_wpAt_Expr_any (ks_wpAt_MethodCall ?_ (he_of (few_of hnm T.few) hline)) (by rw [← hbd]; exact hi) (by rfl))
  have h1self : ((("self" : Str) :: fs).zip (Value.ref a :: ur)).reverse.lookup ("self" : Str) = some (.ref a) := ns_look rfl hnd
  obtain ⟨t1, hoe⟩ := exo_at I.hok ha
  obtain ⟨hp0, g, d, tk, os⟩ := s
  have hoe : h₁.get? a = some ({ cls := .ref C, dict := none, data := .fields #[.ref t1, .none, .none, .none, .bool false, .none] } : Obj) := hoe
  have KX1 : K.In h₁ := KX.keeps kp
  obtain ⟨ar, har, hara⟩ : ∃ ar, (params.posonlyargs ++ params.args).head? = some ar ∧ ar.arg = "self" := by
    cases e : (params.posonlyargs ++ params.args).head? with
    | none => rw [e] at hp; cases hp
    | some ar => rw [e] at hp; exact ⟨ar, rfl, Option.some.inj hp⟩
  refine ks_wpAt_super_base (env := envF (iniF name qual params _ scope cc cda) fI hp0.objs.size) hks (S.frk _ (List.mem_singleton_self _)) rfl rfl (KX1 _ _ lk) rfl har rfl (KX1 _ _ lkc) rfl hvs hfile T.top ?_
  obtain ⟨mb, hb1, hb2⟩ := e0.mod.blt
  have bk : ∀ b o, base.get? b = some o → h₁.get? b = some o := fun b o e => kp b o (e0.bs b o e).1
  refine ks_loadName_global S.kind hks (PySem.Calls.loadGlobal_builtin (e0.mod.glob.keeps bk) (mg_none_of e0.mod.kin e0.mod.glob T.sup) (hb1.keeps bk) ((hb2 _ (by decide)).trans (by decide +kernel)) ⟨rfl, ?_⟩)
  refine wpAny_loadName_free S.kind (S.frk _ (List.mem_singleton_self _)) rfl ⟨_, KX1 _ _ lkcc, rfl⟩ ?_
  rw [hara]
  refine wpAny_loadName_local S.kind (S.par _ List.mem_cons_self) hns h1self ?_
  refine ks_wpAny_isType_cls (KX1 _ _ hoD) hoD2 ⟨rfl, ?_⟩
  refine ks_wpAny_call_super (KX1 _ _ hoD) hoD2 hoe rfl (fun c e => by cases e) (looks_mroIn KX1 hCs) (fun h2 hso k2 => ?_)
  have kp2 : ∀ b o, hp0.get? b = some o → h2.get? b = some o := fun b o e => k2 b o (kp b o e)
  have I2 := I.kept (t' := tk + ((("self" : Str) :: fs).zip (Value.ref a :: ur)).length) k2
  have KX2 : K.In h2 := KX1.keeps k2
  have hoe2 := k2 _ _ hoe
  have hI : Looks (model prog w) h2 (isInstance (.ref a) (.type "ValueError")) true :=
    (show Looks (model prog w) h2 (typeOf (.ref a)) (.ref C) from fun A Q E s k q => wpAny_typeOf_ref (k _ _ hoe2) q).andThen (looks_subIn KX2 T.hB)
  have haC : a ≠ C := fun z => by
    have e1 := KX2 _ _ hoD
    rw [z] at hoe2
    rw [hoe2] at e1
    cases e1
    cases hoD2
  have hal : alongIn K "__init__" ((cd.mro.dropWhile (· != .ref C)).drop 1) = some (some (.builtin "ValueError.__init__")) := by
    have := T.hm
    unfold ks_superIn at this
    rw [hcl] at this
    exact this
  refine kxs_getMethod kxs_ValueError hso (looks_opaque KX2 T.op) (l₀ := cd.mro) (fun A Q E s k q => wpAny_bind ((looks_clsIn KX2 hcl) A _ E s k (wpAny_pure q))) rfl KX2 hal hI haC (by decide) ?_
  have ku : ∀ b o, h2.get? b = some o → (h2.push (kxs_mw "ValueError.__init__" a)).get? b = some o := fun b o e => Heap.get?_push_of_some _ e
  have I3 := I2.kept (t' := tk + ((("self" : Str) :: fs).zip (Value.ref a :: ur)).length + 1) ku
  have hu : (h2.push (kxs_mw "ValueError.__init__" a)).get? h2.objs.size = some (kxs_mw "ValueError.__init__" a) := Heap.get?_push_at rfl rfl
  have hLs : hp0.objs.size < h2.objs.size := by
    obtain ⟨o, _, _, e, _⟩ := hns
    exact Heap.lt_size (k2 _ _ e)
  have I4 := I3.pin1 (u := h2.objs.size) (o := kxs_mw "ValueError.__init__" a) hu (I2.hok.fresh (Nat.le_refl _)) (fun z => by
      have z' : h2.objs.size = hp0.objs.size := z
      omega) (fun hm => by
      obtain ⟨_, o, ho, _⟩ := I3.ok.funs.mem hm
      exact absurd (Heap.lt_size (kp2 _ _ ho)) (Nat.lt_irrefl _)) (fun v z => by cases z)
  have hv : ∀ y ∈ iniN fs, Vis scope y := fun y hy => by
    rcases List.mem_cons.mp hy with rfl | hy
    · exact .inl (S.par _ List.mem_cons_self)
    · rcases List.mem_append.mp hy with hy | hy
      · exact .inl (S.par _ (List.mem_cons_of_mem _ hy))
      · rw [List.mem_singleton] at hy
        subst hy
        exact .inr (.inr (S.frk _ (List.mem_singleton_self _)))
  cases args with
  | nil =>
    have := nms_len hnm
    exact absurd (List.eq_nil_of_length_eq_zero this.symm) hne
  | cons e es =>
    have st := nms_star hnm
    rw [List.all_cons, Bool.and_eq_true] at st
    have s1 := star_of (e := e) (by simpa using st.1) es (envF (iniF name qual params (Stmt.Expr (.Call (.Attribute (.Call (.Name "super" p0) [] [] p1) "__init__" ap) (e :: es) [] cp) ep :: rest) scope cc cda) fI hp0.objs.size)
    have hix : ∀ (k i : Nat) (e' : Expr), (e :: es)[k]? = some e' → (List.range' 1 fs.length)[k]? = some i → ∃ y p, e' = Expr.Name y p ∧ (iniN fs)[i]? = some y := by
      intro k i e1 h1 h2'
      have hk : k < fs.length := by have := (List.getElem?_eq_some_iff.mp h1).1; rw [nms_len hnm] at this; exact this
      obtain ⟨p, hp'⟩ := nms_at hnm (List.getElem?_eq_getElem hk)
      rw [h1] at hp'
      cases hp'
      refine ⟨_, p, rfl, ?_⟩
      rw [List.getElem?_range' hk] at h2'
      cases h2'
      unfold iniN
      rw [show 1 + 1 * k = k + 1 by omega, List.getElem?_cons_succ, List.getElem?_append_left hk, List.getElem?_eq_getElem hk]
    have hsl : ∀ i v, ws[i]? = some v → (startF (iniN fs) (V.ref a :: ws) [none])[1 + i]? = some (some v) := by
      intro i v hv
      have hi := (List.getElem?_eq_some_iff.mp hv).1
      unfold startF
      rw [List.getElem?_append_left (by simp; omega), Nat.add_comm 1 i, List.map_cons, List.getElem?_cons_succ, List.getElem?_map, hv]
      rfl
    have hrd : rdN (startF (iniN fs) (V.ref a :: ws) [none]) (List.range' 1 fs.length) fun vs => vs = ws ∧ H = H := by
      rw [← hlw]
      exact rd_range ws 1 _ hsl ⟨rfl, rfl⟩
    have A1 := (pa_names (X := ncx CX0 prog w K mg base (iniN fs) (iniF name qual params body scope cc cda) fI A outer ⟨hp0, g, d, tk, os⟩ H E) hv T.nd2 (e :: es) (List.range' 1 fs.length) (by rw [nms_len hnm]; simp) hix).run cp _ _ (startF (iniN fs) (V.ref a :: ws) [none]) H (fun vs H1 => vs = ws ∧ H1 = H) I4 hrd
    refine cw1 (i := "ValueError.__init__") (x := a) hu (wpAny_mono A1 (fun us s2 hh => ?_) fun e' s' z => z) s1 (back_any st.2)
    obtain ⟨vs, H1, I5, rv, rfl, rfl⟩ := hh
    have hu5 := (I5.pin (h2.objs.size, kxs_mw "ValueError.__init__" a) (List.mem_append_right _ List.mem_cons_self)).1
    refine ⟨hu5, ?_⟩
    obtain ⟨t5, hoe5⟩ := exo_at I5.hok ha
    have KX5 : K.In s2.heap := I5.kIn
    have hz5 : us.length ≤ sizeLine := by
      rw [← rv.length, hlw, sizeLine_eq]
      have := T.few
      omega
    obtain ⟨h5, g5, d5, tk5, os5⟩ := s2
    refine call_mw KX5 T.ini hu5 hoe5 hz5 fun h6 k6 ⟨t6, hx6⟩ => ?_
    have eu : upd H1 a (exo a C none) = H1 := by
      funext b
      by_cases hb : b = a
      · rw [hb, upd_same, ha]
      · rw [upd_ne hb]
    have J := I5.write (t' := tk5) (x := a) (e := a) (o := exo a C none) (by rw [ha]; exact True.intro) (.inl rfl) k6 ⟨_, hx6⟩ (exo_ok hx6)
    rw [eu] at J
    have hN0 : ∀ i f, fs[i]? = some f → (iniN fs)[1 + i]? = some f := fun i f e => by
      have hi := (List.getElem?_eq_some_iff.mp e).1
      unfold iniN
      rw [Nat.add_comm, List.getElem?_cons_succ, List.getElem?_append_left hi, e]
    have PR := (pss_sts (X := ncx CX0 prog w K mg base (iniN fs) (iniF name qual params body scope cc cda) fI A outer ⟨hp0, g, d, tk, os⟩ H1 E) (fs := fs) rfl hv T.nd2 fs 1 rest hst hN0).run _ _ (startF (iniN fs) (V.ref a :: vs) [none]) H1 { nx := fun _ H' => Q .non H', rt := Q } J
      (tR_all (X := ncx CX0 prog w K mg base (iniN fs) (iniF name qual params body scope cc cda) fI A outer ⟨hp0, g, d, tk, os⟩ H1 E) T hne hlw rfl hsl ha fun dx es hd nd hw => hq dx es hd nd hw)
    refine wpAt_of_wpAny (wpAny_mono PR (fun fl s' hs => ?_) fun e' s' z => z)
    have fin : ∀ {σ' : L2.St} {H' : Hp} {v : V} {u : Value} {pn : List (Addr × Obj)}, Inv (ncx CX0 prog w K mg base (iniN fs) (iniF name qual params body scope cc cda) fI A outer ⟨hp0, g, d, tk, os⟩ H1 E) pn σ' H' s' → L2.RelV v u → Q v H' → CE outer prog w H1 ⟨hp0, g, d, tk, os⟩ Q u s' :=
      fun {σ' H' v u pn} J rv q => ⟨v, H', J.os, J.bare, J.base, J.hok, rv, q⟩
    cases fl with
    | ret u =>
      obtain ⟨v, σ', H', J6, rv, q⟩ := hs
      exact fin J6 rv q
    | next =>
      obtain ⟨σ', H', J, q⟩ := hs
      exact fin (u := Value.none) (v := V.non) J rfl q
    | brk =>
      obtain ⟨_, _, _, q⟩ := hs
      exact False.elim q
    | cont =>
      obtain ⟨_, _, _, q⟩ := hs
      exact False.elim q
end
end PV

set_option Elab.async false
set_option linter.all false
set_option maxRecDepth 100000
set_option maxHeartbeats 2000000
/-! PV: exception classes as they stand behind the top: a check by K. -/
namespace PV
open PySem PySem.Spec PyProof.Rows L2 PySem.W NdefX

/-- an exception class of the text: its name, its instances' fields, its own __init__ (where there are fields) -/
structure Xc where
  y : Str
  fs : List Str
  params : Arguments
  body : List Stmt
  sc : Scope
def oexB (K : Frag) (C : Addr) : Bool := (match K.lookup C with
  | some ⟨.type c, _, .cls cd, sl⟩ => (match cd.mro, sl.toList with
    | .ref C' :: bm, [_, _, _, _, some (.builtin n), _] => decide (c = "type") && (C' == C && (n == "ValueError.__new__" && (!cd.hasDel && (cd.hasDict && PySem.HandSPX.refsVE bm))))
    | _, _ => false)
  | _ => false)
def fI (K : Frag) (x : Xc) : Addr := He.ma K (He.ga K x.y) "__init__"
def iniCB (prog : Program) (K : Frag) (C : Addr) (x : Xc) : Bool :=
  oexB K C && (decide (findIn K (.ref C) "__setattr__" = some (some (.builtin "object.__setattr__"))) && (excInitIn K C He.veBase "ValueError.__new__" && (decide (ks_superIn K C C "__init__" = some (some (.builtin "ValueError.__init__"))) && (decide (subIn K (.ref C) (.type "ValueError") = some true) &&
    (decide (nsIn K cStatics "thirdparty.any" = some none) && (decide (nsIn K mainGlobals "super" = some none) && (!(prog.main.scope.names.lookup ("super" : Str)).isSome && (decide (findIn K (.ref C) "__init__" = some (some (.ref (fI K x)))) && decide (typeIn K (.ref (fI K x)) = some (.type "function"))))))))))
def isNon : Value → Bool
  | .none => true
  | _ => false
def iniDB (prog : Program) (K : Frag) (C : Addr) (x : Xc) : Bool := match K.lookup (fI K x) with
  | some ⟨_, _, .func fd, _⟩ => (match fd.closure, fd.code with
    | [(n, cc)], .ref cda => decide (n = "__class__") && (decide (fd.globals = mainGlobals) && (decide (fd.builtins = builtinsNs) && (isNon fd.defaults && (codeIn K (.ref cda) fd.qualname && ((match K.lookup cda with
      | some ⟨_, _, .fields vs, _⟩ => (match (vs[2]? : Option Value) with
        | some (.str file _) => (prog.main.file : Str) == file
        | _ => false)
      | _ => false) && (match K.lookup cc with
      | some ⟨_, _, .cell (some (.ref D)), _⟩ => D == C
      | _ => false))))))
    | _, _ => false)
  | _ => false
def xcB (prog : Program) (K : Frag) (x : Xc) : Bool :=
  (He.Fa.glo x.y).ok K && (keepIn K (.ref (He.ga K x.y)) && (decide (subIn K (.ref (He.ga K x.y)) (.type "BaseException") = some true) && (decide (typeIn K (.ref (He.ga K x.y)) = some (.type "type")) &&
    ((x.fs.all fun f => xfB K (He.ga K x.y) && decide (findIn K (.ref (He.ga K x.y)) f = some none)) && (if x.fs.isEmpty then excIn K (He.ga K x.y) He.veBase "ValueError.__new__" else iniCB prog K (He.ga K x.y) x && iniDB prog K (He.ga K x.y) x)))))
def xmB (K : Frag) (xc : List Xc) : Bool := (List.range xc.length).all fun i => (List.range xc.length).all fun k => match xc[i]?, xc[k]? with
  | some x, some z => decide (exmOne K (.ref (He.ga K x.y)) (.ref (He.ga K z.y)) = some (decide (i = k) || decide (z.y = "ToldError")))
  | _, _ => false
/-- what the text says of an __init__ -/
def Xc.okS (x : Xc) : Bool := x.fs.isEmpty || (iniOk x.fs x.body && (nscB (iniN x.fs) (("self" : Str) :: x.fs) [(("__class__" : Str))] x.sc && (decide (x.sc.names.lookup ("super" : Str) = some .globalImplicit) && (decide (x.sc.names.lookup ("ValueError" : Str) = none) && (decide ((x.params.posonlyargs ++ x.params.args).head?.map (·.arg) = some "self") &&
  (decide x.fs.Nodup && (decide (x.fs.length ≤ 10) && ((iniN x.fs).all fun y => !(y == ("__debug__" : Str)) && !(y == ("__classdict__" : Str)))))))) && (match x.body with
    | .Expr (.Call (.Attribute _ _ ap) _ _ cp) _ :: _ => ap.endLine == cp.line
    | _ => false)))
/-- how it binds -/
def Xc.binds (x : Xc) : Prop := x.fs = [] ∨ ∀ (name qual : Str) (kV doc pm cdv ct : Value) (an : Option Addr) (cc : Addr) (us : List Value), us.length = x.fs.length + 1 →
  bindArgs (ksFn name qual x.params x.body x.sc .none kV doc pm an cdv ct cc) ⟨us, []⟩ = pure ((("self" : Str) :: x.fs).zip us)
abbrev FnI : Type := Option (Arguments × FuncBody × Scope)
def iniObs (K : Frag) (x : Xc) : FnI := if x.fs.isEmpty then none else match K.lookup (fI K x) with
  | some ⟨_, _, .func fd, _⟩ => some (fd.params, fd.body, fd.scope)
  | _ => none
def iniVal (x : Xc) : FnI := if x.fs.isEmpty then none else some (x.params, .stmts x.body, x.sc)

section
variable {prog : Program} {K : Frag} {x : Xc} {C : Addr}
theorem oexB_ok (h : oexB K C = true) : ∃ nm q N bs bm sn sub ab col dd k0 k1 k2 k3 k5, K.lookup C = some (excClassObj nm q C N bs bm true sn sub ab col dd k0 k1 k2 k3 k5 "ValueError.__new__") ∧ PySem.HandSPX.refsVE bm = true := by
  unfold oexB at h
  split at h
  · rename_i c dd cd sl ho
    split at h
    · rename_i C' bm k0 k1 k2 k3 n k5 hm hs
      simp only [Bool.and_eq_true, beq_iff_eq, Bool.not_eq_true', decide_eq_true_eq] at h
      obtain ⟨rfl, rfl, rfl, hdel, hdict, hve⟩ := h
      obtain ⟨nm, bs, mro, ns, qn, hd, sn, sub, ab, col, del⟩ := cd
      dsimp only at hm hdel hdict
      subst hm hdel hdict
      have hsl : sl = #[k0, k1, k2, k3, some (.builtin "ValueError.__new__"), k5] := by
        obtain ⟨l⟩ := sl
        simp only at hs
        rw [hs]
      subst hsl
      exact ⟨nm, qn, ns, bs, bm, sn, sub, ab, col, dd, k0, k1, k2, k3, k5, ho, hve⟩
    · cases h
  · cases h
theorem iniOk_ok {fs : List Str} {body : List Stmt} (h : iniOk fs body = true) : ∃ p0 p1 ap cp ep args rest, body = .Expr (.Call (.Attribute (.Call (.Name "super" p0) [] [] p1) "__init__" ap) args [] cp) ep :: rest ∧ nmsOk fs args = true ∧ stsOk fs rest = true := by
  unfold iniOk at h
  split at h
  · simp only [Bool.and_eq_true, decide_eq_true_eq] at h
    obtain ⟨⟨⟨rfl, rfl⟩, h3⟩, h4⟩ := h
    exact ⟨_, _, _, _, _, _, _, rfl, h3, h4⟩
  · cases h
theorem ini_ok (hC : C = He.ga K x.y) (hne : x.fs ≠ []) (h1 : iniCB prog K C x = true) (h2 : iniDB prog K C x = true) (h3 : x.okS = true) (h4 : x.binds) (h5 : iniObs K x = iniVal x) (hex : subIn K (.ref C) (.type "BaseException") = some true) (hty : typeIn K (.ref C) = some (.type "type")) (hk : keepIn K (.ref C) = true)
    (hno : ∀ f ∈ x.fs, findIn K (.ref C) f = some none) : IniC prog K C x.fs ∧ ∃ fd, IniD prog K C (fI K x) x.fs fd ∧ (∀ us : List Value, us.length = x.fs.length + 1 → bindArgs fd ⟨us, []⟩ = pure ((("self" : Str) :: x.fs).zip us)) ∧ findIn K (.ref C) "__init__" = some (some (.ref (fI K x))) ∧ typeIn K (.ref (fI K x)) = some (.type "function") := by
  have he : x.fs.isEmpty = false := by cases e : x.fs with | nil => exact absurd e hne | cons _ _ => rfl
  unfold iniCB at h1
  simp only [Bool.and_eq_true, decide_eq_true_eq, Bool.not_eq_true'] at h1
  obtain ⟨a1, a2, a3, a4, a5, a6, a7, a8, a9, a10⟩ := h1
  unfold Xc.okS at h3
  rw [he] at h3
  simp only [Bool.false_or, Bool.and_eq_true, decide_eq_true_eq] at h3
  obtain ⟨b1, ⟨b2, b3, b4, b5, b6, b7, b8⟩, b9⟩ := h3
  obtain ⟨p0, p1, ap, cp, ep, args, rest, c1, c2, c3⟩ := iniOk_ok b1
  have bb : ∀ (name qual : Str) (kV doc pm cdv ct : Value) (an : Option Addr) (cc : Addr) (us : List Value), us.length = x.fs.length + 1 → bindArgs (ksFn name qual x.params x.body x.sc .none kV doc pm an cdv ct cc) ⟨us, []⟩ = pure ((("self" : Str) :: x.fs).zip us) := h4.resolve_left hne
  refine ⟨⟨⟨oexB_ok a1, a2, hex, hty, hk⟩, a3, a4, a5, a6, hno, a7, a8, b6, b7, fun y hy => ?_⟩, ?_⟩
  · have := List.all_eq_true.mp b8 y hy
    simp only [Bool.and_eq_true, Bool.not_eq_true'] at this
    exact this
  · unfold iniDB at h2
    unfold iniObs iniVal at h5
    rw [he] at h5
    simp only [Bool.false_eq_true, if_false] at h5
    split at h2
    · rename_i oc od fd osl ho
      rw [ho] at h5
      simp only [Option.some.injEq, Prod.mk.injEq] at h5
      obtain ⟨d1, d2, d3⟩ := h5
      split at h2
      · rename_i n cc cda hcl hcode
        simp only [Bool.and_eq_true, decide_eq_true_eq] at h2
        obtain ⟨rfl, e2, e3, e4, e5, e6, e7⟩ := h2
        obtain ⟨n1, n2, n3, n4, n5, n6, n7, n8, n9, n10, n11, n12, n13, n14, n15⟩ := fd
        dsimp only at d1 d2 d3 hcl hcode e2 e3 e4 e5
        subst d1 d2 d3 hcl hcode e2 e3
        have e8 : n8 = .none := by cases n8 <;> first | rfl | (simp [isNon] at e4)
        subst e8
        split at e6
        · rename_i ccl cdd vs ccs hcd
          split at e6
          · rename_i file tf hvs
            split at e7
            · rename_i cl cld D csl hcc
              obtain rfl : D = C := eq_of_beq e7
              rw [c1] at b9
              refine ⟨_, ⟨n1, n2, x.params, x.body, x.sc, n9, n10, n11, n14, oc, n12, od, osl, cda, cc, ccl, cl, cdd, cld, ccs, csl, vs, file, tf, p0, p1, ap, cp, ep, args, rest, rfl, ho, e5, hcd, hvs, e6, hcc, c1, c2, c3, b2, b3, b4, b5, fun us hl => bb _ _ _ _ _ _ _ _ _ us hl, b9⟩, fun us hl => bb _ _ _ _ _ _ _ _ _ us hl, a9, a10⟩
            · cases e7
          · cases e6
        · cases e6
      · cases h2
    · cases h2
end
/-! ### the hook -/
abbrev AlV : Type := He.AlD × Bool × List FnI
def obsV (prog : Program) (fa : List He.Fa) (fn : List He.DefD) (xc : List Xc) (K : Frag) : AlV := (He.obsD fa fn K, (xc.all (xcB prog K) && xmB K xc), xc.map (iniObs K))
def valV (fn : List He.DefD) (xc : List Xc) : AlV := (He.valD fn, true, xc.map iniVal)
def frV (n : Nat) (g : Addr → Option Obj) : Frag := He.frG g (cStatics :: He.asD g n)
def obsVG (prog : Program) (n : Nat) (fa : List He.Fa) (fn : List He.DefD) (xc : List Xc) (g : Addr → Option Obj) : AlV := obsV prog fa fn xc (frV n g)
structure SaysV (prog : Program) (fa : List He.Fa) (fn : List He.DefD) (xc : List Xc) (K : Frag) : Prop where
  e : obsV prog fa fn xc K = valV fn xc
def hookV (prog : Program) (n : Nat) (fa : List He.Fa) (fn : List He.DefD) (xc : List Xc) : Hook where
  α := AlV
  obs := fun s => obsVG prog n fa fn xc s.heap.get?
  val := fun _ => valV fn xc
  says := fun _ h => ∃ K : Frag, K.In h ∧ SaysV prog fa fn xc K
  of := fun _ _ e => ⟨_, He.frG_in, ⟨e⟩⟩
  keeps := fun _ _ _ ⟨K, hK, c⟩ k => ⟨K, Frag.In.keeps hK k, c⟩
theorem obsVG_eq {prog : Program} {n : Nat} {fa : List He.Fa} {fn : List He.DefD} {xc : List Xc} {g : Addr → Option Obj} {s : Shared} (h : ∀ a, g a = s.heap.get? a) : obsVG prog n fa fn xc g = (hookV prog n fa fn xc).obs s := by
  have e : g = s.heap.get? := funext h
  rw [e] <;> rfl
section
variable {prog : Program} {w : World} {fa : List He.Fa} {fn : List He.DefD} {xc : List Xc} {K : Frag}
theorem SaysV.d (c : SaysV prog fa fn xc K) : He.SaysD fa fn K := congrArg (fun z : AlV => z.1) c.e
theorem SaysV.b (c : SaysV prog fa fn xc K) : (xc.all (xcB prog K) && xmB K xc) = true := congrArg (fun z : AlV => z.2.1) c.e
theorem SaysV.i (c : SaysV prog fa fn xc K) {x : Xc} (hx : x ∈ xc) : iniObs K x = iniVal x := by
  have e : xc.map (iniObs K) = xc.map iniVal := congrArg (fun z : AlV => z.2.2) c.e
  obtain ⟨i, hi⟩ := List.getElem?_of_mem hx
  have e2 : (xc.map (iniObs K))[i]? = (xc.map iniVal)[i]? := by rw [e]
  rw [List.getElem?_map, List.getElem?_map, hi] at e2
  exact Option.some.inj e2
def clsOf (K : Frag) (xc : List Xc) (c : Nat) : Addr := match xc[c]? with
  | some x => He.ga K x.y
  | none => 0
def gbV (K : Frag) (xc : List Xc) : Gb := ⟨K, clsOf K xc, xc.map fun x => (x.y, x.fs), none, (0, .none, none)⟩
theorem xall (c : SaysV prog fa fn xc K) (hs : xc.all Xc.okS = true) (hb : ∀ x ∈ xc, x.binds) {mg : Str → Option Value} {base h : Heap} (X : K.In h) (G : h.Ns mainGlobals mg) : XAll prog w K mg base (gbV K xc) := by
  have cb := c.b
  rw [Bool.and_eq_true] at cb
  have at_ : ∀ {c : Nat} {y : Str} {fs : List Str}, (gbV K xc).xt[c]? = some (y, fs) → ∃ x, xc[c]? = some x ∧ y = x.y ∧ fs = x.fs ∧ (gbV K xc).cls c = He.ga K x.y := fun {c y fs} e => by
    have e : (xc.map fun x => (x.y, x.fs))[c]? = some (y, fs) := e
    rw [List.getElem?_map] at e
    cases q : xc[c]? with
    | none => rw [q] at e; cases e
    | some x =>
      rw [q] at e
      cases e
      refine ⟨x, rfl, rfl, rfl, ?_⟩
      show clsOf K xc c = _
      unfold clsOf
      rw [q]
  refine ⟨fun k y fs e => ?_, fun k1 k2 y fs z gs e1 e2 => ?_⟩
  · obtain ⟨x, hx, rfl, rfl, hc⟩ := at_ e
    have hm := List.mem_of_getElem? hx
    have q := List.all_eq_true.mp cb.1 x hm
    have okS := List.all_eq_true.mp hs x hm
    unfold xcB at q
    simp only [Bool.and_eq_true, decide_eq_true_eq] at q
    obtain ⟨q1, q2, q3, q4, q5, q6⟩ := q
    have hno : ∀ f ∈ x.fs, XfC K (He.ga K x.y) ∧ findIn K (.ref (He.ga K x.y)) f = some none := fun f hf => by
      have := List.all_eq_true.mp q5 f hf
      rw [Bool.and_eq_true, decide_eq_true_eq] at this
      exact ⟨xfB_ok this.1, this.2⟩
    rw [← hc] at q2 q3 q4 hno
    refine ⟨by rw [hc]; exact He.glo_ok X G q1, hno, q2, q3, q4, fun z => ?_, fun z => ?_⟩
    · rw [z] at q6
      rw [hc]
      simpa using q6
    · have he : x.fs.isEmpty = false := by cases e : x.fs with | nil => exact absurd e z | cons _ _ => rfl
      rw [he] at q6
      simp only [Bool.false_eq_true, if_false, Bool.and_eq_true] at q6
      rw [← hc] at q6
      obtain ⟨T, fd, D, hbd, i1, i2⟩ := ini_ok hc z q6.1 q6.2 okS (hb x hm) (c.i hm) q3 q4 q2 fun f hf => (hno f hf).2
      refine ⟨T.T, _, fd, i1, i2, fn_xinit D T z, fun s us _ hl => ?_⟩
      rw [List.append_nil] at hl ⊢
      exact .of_eq (hbd us (by simpa using hl))
  · obtain ⟨x1, h1, rfl, rfl, c1⟩ := at_ e1
    obtain ⟨x2, h2, rfl, rfl, c2⟩ := at_ e2
    have l1 := (List.getElem?_eq_some_iff.mp h1).1
    have l2 := (List.getElem?_eq_some_iff.mp h2).1
    have q := cb.2
    unfold xmB at q
    have q := List.all_eq_true.mp (List.all_eq_true.mp q k1 (List.mem_range.mpr l1)) k2 (List.mem_range.mpr l2)
    rw [h1, h2] at q
    rw [c1, c2]
    exact of_decide_eq_true q
end
end PV

set_option Elab.async false
set_option linter.all false
set_option maxRecDepth 100000
set_option maxHeartbeats 1000000
/-! PV: its own calculus: what a run must come to. -/
namespace PV
open PySem

class Kt (α : Type) where
  f : α → Store → Prop
  e : Nat → List D → Store → Prop
/-- nothing is raised -/
abbrev nE : Nat → List D → Store → Prop := fun _ _ _ => False
/-- a statement's expression raises -/
abbrev xF (QF : Kt Fl) (ls : Ls) : Nat → List D → Store → Prop := fun c ds S => QF.f (.exc ls c ds) S
def augD (o : Bo) (x y : D) : Option D :=
  match o, x, y with
  | .add, .int a, .int b => some (.int (a + b))
  | .sub, .int a, .int b => some (.int (a - b))
  | _, _, _ => none
@[simp] theorem aug_add {a b : Int} : augD .add (.int a) (.int b) = some (.int (a + b)) := (rfl)
@[simp] theorem aug_sub {a b : Int} : augD .sub (.int a) (.int b) = some (.int (a - b)) := (rfl)
/-- how a turn of a for ends -/
def turnQ (N : Ls → Store → Prop) (QF : Fl → Store → Prop) : Fl → Store → Prop := fun fl S' => match fl with
  | .next ls' => N ls' S'
  | .cont ls' => N ls' S'
  | .brk ls' => QF (.next ls') S'
  | .ret d => QF (.ret d) S'
  | .exc ls' c ds => QF (.exc ls' c ds) S'
@[simp] theorem tq_exc {N : Ls → Store → Prop} {QF : Fl → Store → Prop} {ls : Ls} {c : Nat} {ds : List D} {S : Store} : turnQ N QF (.exc ls c ds) S = QF (.exc ls c ds) S := (rfl)
@[simp] theorem tq_next {N : Ls → Store → Prop} {QF : Fl → Store → Prop} {ls : Ls} {S : Store} : turnQ N QF (.next ls) S = N ls S := (rfl)
@[simp] theorem tq_cont {N : Ls → Store → Prop} {QF : Fl → Store → Prop} {ls : Ls} {S : Store} : turnQ N QF (.cont ls) S = N ls S := (rfl)
@[simp] theorem tq_brk {N : Ls → Store → Prop} {QF : Fl → Store → Prop} {ls : Ls} {S : Store} : turnQ N QF (.brk ls) S = QF (.next ls) S := (rfl)
@[simp] theorem tq_ret {N : Ls → Store → Prop} {QF : Fl → Store → Prop} {d : D} {S : Store} : turnQ N QF (.ret d) S = QF (.ret d) S := (rfl)

/-! ### the operations at constructors -/
section
variable {S : Store} {i j : Int} {x y : Str} {ds es : List D} {n k : Nat} {d e : D}
@[simp] theorem mulOk_iff : (mulOk i j = true) = ((-(2 ^ 64) < i ∧ i < 2 ^ 64) ∨ (-(2 ^ 64) < j ∧ j < 2 ^ 64)) := by simp [mulOk]
@[simp] theorem b_add : binD .add (.int i) (.int j) S = .ok (.int (i + j)) S := (rfl)
@[simp] theorem b_adds : binD .add (.str x) (.str y) S = if x.length + y.length ≤ sizeLine then .ok (.str (x ++ y)) S else .bad := (rfl)
@[simp] theorem b_addt : binD .add (.tup ds) (.tup es) S = if ds.length + es.length ≤ sizeLine then .ok (.tup (ds ++ es)) S else .bad := (rfl)
@[simp] theorem b_addl : binD .add (.ref n) (.ref k) S = match S[n]?, S[k]? with
      | some (.lst xs), some (.lst ys) => if xs.length + ys.length ≤ sizeLine then new (.lst (xs ++ ys)) S else .bad
      | _, _ => .bad := (rfl)
@[simp] theorem b_sub : binD .sub (.int i) (.int j) S = .ok (.int (i - j)) S := (rfl)
@[simp] theorem b_mul : binD .mul (.int i) (.int j) S = if mulOk i j then .ok (.int (i * j)) S else .bad := (rfl)
@[simp] theorem b_muls : binD .mul (.str x) (.int i) S = if x.length ≤ 1000 ∧ i < 1000 ∧ -1000 < i then .ok (.str (Txt.mul x i)) S else .bad := (rfl)
@[simp] theorem b_fdiv : binD .fdiv (.int i) (.int j) S = if 0 < j ∧ j < 1073741824 then .ok (.int (i / j)) S else .bad := (rfl)
@[simp] theorem b_mod : binD .mod (.int i) (.int j) S = if 0 < j then .ok (.int (i % j)) S else .bad := (rfl)
@[simp] theorem b_pow : binD .pow (.int i) (.int j) S = if 0 ≤ j ∧ j ≤ 1000000 ∧ i.natAbs < 2 ^ 64 then .ok (.int (i ^ j.toNat)) S else .bad := (rfl)
@[simp] theorem c_eqi : cmpD .eq (.int i) (.int j) S = some (decide (i = j)) := (rfl)
@[simp] theorem c_eqs : cmpD .eq (.str x) (.str y) S = some (decide (x = y)) := (rfl)
@[simp] theorem c_nei : cmpD .ne (.int i) (.int j) S = some (!decide (i = j)) := (rfl)
@[simp] theorem c_nes : cmpD .ne (.str x) (.str y) S = some (!decide (x = y)) := (rfl)
@[simp] theorem c_eqr : cmpD .eq (.ref n) (.ref k) S = eqD (.ref n) (.ref k) S := (rfl)
@[simp] theorem c_ner : cmpD .ne (.ref n) (.ref k) S = (eqD (.ref n) (.ref k) S).map (!·) := (rfl)
@[simp] theorem c_eqt : cmpD .eq (.tup ds) (.tup es) S = eqD (.tup ds) (.tup es) S := (rfl)
@[simp] theorem c_net : cmpD .ne (.tup ds) (.tup es) S = (eqD (.tup ds) (.tup es) S).map (!·) := (rfl)
/-- beside an empty list -/
theorem eq_nil (h1 : S[n]? = some (.lst ds)) (h2 : S[k]? = some (.lst [])) : eqD (.ref n) (.ref k) S = some ds.isEmpty := by
  unfold eqD
  simp only [eqS, lenD, h1, h2]
  cases ds <;> rfl
@[simp] theorem c_lti : cmpD .lt (.int i) (.int j) S = some (decide (i < j)) := (rfl)
@[simp] theorem c_lei : cmpD .le (.int i) (.int j) S = some (decide (i ≤ j)) := (rfl)
@[simp] theorem c_gti : cmpD .gt (.int i) (.int j) S = some (decide (j < i)) := (rfl)
@[simp] theorem c_gei : cmpD .ge (.int i) (.int j) S = some (decide (j ≤ i)) := (rfl)
@[simp] theorem c_is : cmpD .is d .non S = some (match d with | .non => true | _ => false) := (rfl)
@[simp] theorem c_isn : cmpD .isn d .non S = some (!(match d with | .non => true | _ => false)) := (rfl)
@[simp] theorem c_in : cmpD .isin d e S = inD d e S := (rfl)
@[simp] theorem c_nin : cmpD .nin d e S = (inD d e S).map (!·) := (rfl)
@[simp] theorem f_int : fbD .int [.int i] S = .ok (.int i) S := (rfl)
@[simp] theorem f_lens : fbD .len [.str x] S = .ok (.int x.length) S := (rfl)
@[simp] theorem f_lent : fbD .len [.tup ds] S = .ok (.int ds.length) S := (rfl)
@[simp] theorem f_lenr : fbD .len [.rol ds] S = .ok (.int ds.length) S := (rfl)
@[simp] theorem f_lenl : fbD .len [.ref n] S = match S[n]? with
      | some (.lst xs) => .ok (.int xs.length) S
      | some (.dct kvs) => .ok (.int kvs.length) S
      | _ => .bad := (rfl)
@[simp] theorem f_abs : fbD .abs [.int i] S = .ok (.int (if i < 0 then -i else i)) S := (rfl)
@[simp] theorem f_max : fbD .max [.int i, .int j] S = .ok (.int (if j > i then j else i)) S := (rfl)
@[simp] theorem f_min : fbD .min [.int i, .int j] S = .ok (.int (if j < i then j else i)) S := (rfl)
@[simp] theorem f_list : fbD .list [d] S = match seqD d S with
      | some xs => new (.lst xs) S
      | none => .bad := (rfl)
@[simp] theorem x_tup : ixD (.tup ds) (.int i) S = L2.atI ds i := (rfl)
@[simp] theorem x_rol : ixD (.rol ds) (.int i) S = L2.atI ds i := (rfl)
@[simp] theorem x_str : ixD (.str x) (.int i) S = (L2.atI x.cps.toList i).map fun c => .str ⟨#[c]⟩ := (rfl)
@[simp] theorem x_ref : ixD (.ref n) (.int i) S = match S[n]? with
    | some (.lst ds) => L2.atI ds i
    | some (.dct kvs) => valG kvs (.inl i)
    | some (.dcl kvs) => valG kvs (.inl i)
    | _ => none := (rfl)
@[simp] theorem x_refs : ixD (.ref n) (.str x) S = match S[n]? with
    | some (.dct kvs) => valG kvs (.inr x)
    | some (.dcl kvs) => valG kvs (.inr x)
    | _ => none := (rfl)
@[simp] theorem xr_ref : ixR (.ref n) d S = ixD (.ref n) d S := (rfl)
@[simp] theorem st_ref : setIx (.ref n) (.int i) e S = match S[n]? with
    | some (.lst ds) => match L2.ixN ds.length i with
      | some j => .ok () (S.set n (.lst (ds.set j e)))
      | none => .bad
    | some (.dct kvs) => if kvs.length < sizeLine then .ok () (S.set n (.dct (putG kvs (.inl i) e))) else .bad
    | _ => .bad := (rfl)
@[simp] theorem st_refs : setIx (.ref n) (.str x) e S = match S[n]? with
    | some (.dct kvs) => if kvs.length < sizeLine then .ok () (S.set n (.dct (putG kvs (.inr x) e))) else .bad
    | _ => .bad := (rfl)
@[simp] theorem tr_bl {b : Bool} : truD (.bl b) S = some b := (rfl)
@[simp] theorem tr_non : truD .non S = some false := (rfl)
@[simp] theorem tr_int : truD (.int i) S = some (i != 0) := (rfl)
@[simp] theorem tr_tup : truD (.tup ds) S = some (!ds.isEmpty) := (rfl)
@[simp] theorem tr_ref : truD (.ref n) S = match S[n]? with
    | some (.lst ds) => some (!ds.isEmpty)
    | some (.dct kvs) => some (!kvs.isEmpty)
    | _ => none := (rfl)
@[simp] theorem sq_tup : seqD (.tup ds) S = some ds := (rfl)
@[simp] theorem sq_rol : seqD (.rol ds) S = some ds := (rfl)
@[simp] theorem sq_ref : seqD (.ref n) S = match S[n]? with
    | some (.lst ds) => some ds
    | _ => none := (rfl)
@[simp] theorem as_nm {d : D} {ls : Ls} : asgT (.nm n) d S ls = some (ls.set n (some d)) := (rfl)
@[simp] theorem as_tup {t : Tg} {d : D} {ls : Ls} : asgT (.tup t) d S ls = match seqD d S with
    | some ds => asgTs t ds S ls
    | none => none := (rfl)
@[simp] theorem as_nil {ls : Ls} : asgTs .nil [] S ls = some ls := (rfl)
@[simp] theorem as_cons {t r : Tg} {d : D} {ls : Ls} : asgTs (.cons t r) (d :: ds) S ls = match asgT t d S ls with
      | some ls' => asgTs r ds S ls'
      | none => none := (rfl)
@[simp] theorem f_intb {b : Bool} : fbD .int [.bl b] S = .ok (.int (if b then 1 else 0)) S := (rfl)
@[simp] theorem f_tuple : fbD .tuple [d] S = match seqD d S with
      | some xs => .ok (.tup xs) S
      | none => .bad := (rfl)
@[simp] theorem f_sum : fbD .sum [.ref n] S = match S[n]? with
      | some (.lst xs) => match asInts xs with
        | some ns => .ok (.int ns.sum) S
        | none => .bad
      | _ => .bad := (rfl)
@[simp] theorem f_sorted : fbD .sorted [.ref n] S = match S[n]? with
      | some (.lst xs) => match sortD xs with
        | some ys => new (.lst ys) S
        | none => .bad
      | some (.dct kvs) => match sortD (kvs.map fun p => dOfKey p.1) with
        | some ys => new (.lst ys) S
        | none => .bad
      | _ => .bad := (rfl)
@[simp] theorem f_all : fbD .all [.ref n] S = match S[n]? with
      | some (.lst xs) => match asBls xs with
        | some bs => .ok (.bl (bs.all id)) S
        | none => .bad
      | _ => .bad := (rfl)
@[simp] theorem f_any : fbD .any [.ref n] S = match S[n]? with
      | some (.lst xs) => match asBls xs with
        | some bs => .ok (.bl (bs.any id)) S
        | none => .bad
      | _ => .bad := (rfl)
@[simp] theorem sl_tup {lo hi : Option Int} : slD (.tup ds) lo hi S = .ok (.tup (cut ds lo hi)) S := (rfl)
@[simp] theorem sl_rol {lo hi : Option Int} : slD (.rol ds) lo hi S = new (.lst (cut ds lo hi)) S := (rfl)
@[simp] theorem sl_str {lo hi : Option Int} : slD (.str x) lo hi S = .ok (.str (L2.cutS x lo hi)) S := (rfl)
@[simp] theorem sl_ref {lo hi : Option Int} : slD (.ref n) lo hi S = match S[n]? with
    | some (.lst ds) => new (.lst (cut ds lo hi)) S
    | _ => .bad := (rfl)
theorem cut_hi {α : Type} {xs : List α} {i : Int} (h : 0 ≤ i) : cut xs none (some i) = xs.take i.toNat := by
  unfold cut HT.sIx
  simp only [List.drop_zero]
  rw [if_neg (by omega), Nat.sub_zero, List.take_eq_take_min (i := i.toNat)]
theorem cut_lo {α : Type} {xs : List α} {i : Int} (h : 0 ≤ i) : cut xs (some i) none = xs.drop i.toNat := by
  unfold cut HT.sIx
  simp only
  rw [if_neg (by omega), List.take_of_length_le (by simp)]
  rcases Nat.le_total i.toNat xs.length with q | q
  · rw [Nat.min_eq_left q]
  · rw [Nat.min_eq_right q, List.drop_of_length_le (Nat.le_refl _), List.drop_of_length_le q]
@[simp] theorem cut_hi_l {α : Type} {xs : List α} {n : Nat} : cut xs none (some (no_index (OfNat.ofNat n))) = xs.take n := cut_hi (i := (n : Int)) (by omega)
@[simp] theorem cut_lo_l {α : Type} {xs : List α} {n : Nat} : cut xs (some (no_index (OfNat.ofNat n))) none = xs.drop n := cut_lo (i := (n : Int)) (by omega)
@[simp] theorem cut_hi_n {α : Type} {xs : List α} {n : Nat} : cut xs none (some (n : Int)) = xs.take n := cut_hi (i := (n : Int)) (by omega)
@[simp] theorem cut_lo_n {α : Type} {xs : List α} {n : Nat} : cut xs (some (n : Int)) none = xs.drop n := cut_lo (i := (n : Int)) (by omega)
@[simp] theorem m_append : mtD .append (.ref n) [d] S = match S[n]? with
      | some (.lst xs) => if xs.length < sizeLine then .ok .non (S.set n (.lst (xs ++ [d]))) else .bad
      | _ => .bad := (rfl)
@[simp] theorem m_extend : mtD .extend (.ref n) [.ref k] S = match S[n]?, S[k]? with
      | some (.lst xs), some (.lst ys) => if xs.length + ys.length ≤ sizeLine then .ok .non (S.set n (.lst (xs ++ ys))) else .bad
      | _, _ => .bad := (rfl)
@[simp] theorem m_pop : mtD .pop (.ref n) [] S = match S[n]? with
      | some (.lst xs) => match xs[xs.length - 1]? with
        | some y => .ok y (S.set n (.lst xs.dropLast))
        | none => .bad
      | _ => .bad := (rfl)
@[simp] theorem m_popAt : mtD .popAt (.ref n) [.int i] S = match S[n]? with
      | some (.lst xs) => match L2.ixN xs.length i with
        | some k => match xs[k]? with
          | some y => .ok y (S.set n (.lst (xs.eraseIdx k)))
          | none => .bad
        | none => .bad
      | _ => .bad := (rfl)
@[simp] theorem m_join : mtD .join (.str x) [d] S = match seqD d S with
      | some xs => match asStrs xs with
        | some ys => if ((Txt.join x ys).length ≤ sizeLine ∧ (ys.map (·.length)).sum + ys.length * x.length ≤ 16777216) then .ok (.str (Txt.join x ys)) S else .bad
        | none => .bad
      | none => .bad := (rfl)
@[simp] theorem ty_ref {q : Mt} : mtTy q (.ref n) S = match S[n]? with
    | some (.lst _) => match q with
      | .join => false
      | _ => true
    | _ => false := (rfl)
@[simp] theorem ty_str : mtTy .join (.str x) S = true := (rfl)
@[simp] theorem is_non {t : Tk} : isiD t .non S = some false := (rfl)
@[simp] theorem is_bl {t : Tk} {b : Bool} : isiD t (.bl b) S = some (match t with | .bool => true | .int => true | _ => false) := (rfl)
@[simp] theorem is_int {t : Tk} : isiD t (.int i) S = some (match t with | .int => true | _ => false) := (rfl)
@[simp] theorem is_str {t : Tk} : isiD t (.str x) S = some (match t with | .str => true | _ => false) := (rfl)
@[simp] theorem is_tup {t : Tk} : isiD t (.tup ds) S = some (match t with | .tuple => true | _ => false) := (rfl)
@[simp] theorem is_ref {t : Tk} : isiD t (.ref n) S = match S[n]? with
    | some (.lst _) => some (match t with | .list => true | _ => false)
    | _ => none := (rfl)
@[simp] theorem nx_tup : (ItV.tup ds).nxt n S = some ds[n]? := (rfl)
@[simp] theorem nx_rol : (ItV.rol ds).nxt n S = some ds[n]? := (rfl)
@[simp] theorem nx_obj : (ItV.obj k).nxt n S = match S[k]? with
    | some (.lst ds) => some ds[n]?
    | _ => none := (rfl)
@[simp] theorem nx_keys : (ItV.keys k).nxt n S = match S[k]? with
    | some (.dcl kvs) => some ((kvs[n]?).map fun p => dOfKey p.1)
    | _ => none := (rfl)
@[simp] theorem nx_rng : (ItV.rng i k).nxt n S = some (if n < k then some (.int (i + n)) else none) := (rfl)
@[simp] theorem wipe_nil {ls : Ls} : wipeD ls [] = ls := (rfl)
@[simp] theorem wipe_cons {ls : Ls} {v : Nat} {vs : List Nat} : wipeD ls (v :: vs) = (wipeD ls vs).set v none := (rfl)
@[simp] theorem c_eqb {a b : Bool} : cmpD .eq (.bl a) (.bl b) S = some (decide (a = b)) := (rfl)
end

namespace Z
/-- a run comes to what Q says (Q stands as an instance, for simp leaves it alone) -/
def wq {α : Type} (r : R α) [Q : Kt α] : Prop :=
  match r with
  | .ok a S => Q.f a S
  | .exc c ds S => Q.e c ds S
  | .bad => False
def wpx {α : Type} (E : Nat → List D → Store → Prop) (r : R α) (Q : α → Store → Prop) : Prop := @wq α r ⟨Q, E⟩
def wp {α : Type} (r : R α) (Q : α → Store → Prop) : Prop := @wq α r ⟨Q, nE⟩
theorem wp_def {α : Type} {r : R α} {Q : α → Store → Prop} : wp r Q ↔ ∃ a S, r = .ok a S ∧ Q a S := by
  cases r with
  | ok a S => exact ⟨fun h => ⟨a, S, rfl, h⟩, fun ⟨_, _, e, q⟩ => by cases e; exact q⟩
  | exc c ds S => exact ⟨fun h => False.elim h, fun ⟨_, _, e, q⟩ => by cases e⟩
  | bad => exact ⟨fun h => False.elim h, fun ⟨_, _, e, q⟩ => by cases e⟩
theorem wp_mono {α : Type} {r : R α} {Q : α → Store → Prop} {Q' : Kt α} (h : wp r Q) (k : ∀ a S, Q a S → Q'.f a S) : @wq α r Q' := by
  cases r with
  | ok a S => exact k a S h
  | exc c ds S => exact h.elim
  | bad => exact h
theorem wpx_mono {α : Type} {r : R α} {E : Nat → List D → Store → Prop} {Q : α → Store → Prop} {Q' : Kt α} (h : wpx E r Q) (k : ∀ a S, Q a S → Q'.f a S) (k' : ∀ c ds S, E c ds S → Q'.e c ds S) : @wq α r Q' := by
  cases r with
  | ok a S => exact k a S h
  | exc c ds S => exact k' c ds S h
  | bad => exact h
@[simp] theorem wp_ok {α : Type} {a : α} {S : Store} {Q : Kt α} : @wq α (.ok a S) Q = Q.f a S := (rfl)
@[simp] theorem wp_exc {α : Type} {c : Nat} {ds : List D} {S : Store} {Q : Kt α} : @wq α (.exc c ds S) Q = Q.e c ds S := (rfl)
@[simp] theorem wp_bad {α : Type} {Q : Kt α} : @wq α .bad Q = False := (rfl)
@[simp] theorem wp_bind {α β : Type} {r : R α} {k : α → Store → R β} {Q : Kt β} : @wq β (r.bind k) Q = wpx Q.e r fun a S => @wq β (k a S) Q := by cases r <;> rfl
@[simp] theorem wp_bindS {α : Type} {r : R α} {ls : Ls} {k : α → Store → R Fl} {Q : Kt Fl} : @wq Fl (bindS r ls k) Q = wpx (xF Q ls) r fun a S => @wq Fl (k a S) Q := by cases r <;> rfl
@[simp] theorem wp_opt {α : Type} {o : Option α} {S : Store} {Q : Kt α} : @wq α (opt o S) Q = match o with | some a => Q.f a S | none => False := by cases o <;> rfl
@[simp] theorem wp_new {o : O} {S : Store} {Q : Kt D} : @wq D (new o S) Q = Q.f (.ref S.length) (S ++ [o]) := (rfl)
@[simp] theorem wp_ite {α : Type} {c : Prop} [Decidable c] {a b : R α} {Q : Kt α} : @wq α (if c then a else b) Q = if c then @wq α a Q else @wq α b Q := by by_cases h : c <;> simp [h]
theorem wb {α β : Type} {r : R α} {k : α → Store → R β} {E : Nat → List D → Store → Prop} {Q : β → Store → Prop} : wpx E (r.bind k) Q = wpx E r fun a S => wpx E (k a S) Q := by cases r <;> rfl
theorem wo {α : Type} {o : Option α} {S : Store} {E : Nat → List D → Store → Prop} {Q : α → Store → Prop} : wpx E (opt o S) Q = match o with | some a => Q a S | none => False := by cases o <;> rfl
theorem wk {α : Type} {a : α} {S : Store} {E : Nat → List D → Store → Prop} {Q : α → Store → Prop} : wpx E (.ok a S) Q = Q a S := (rfl)
theorem wk' {α : Type} {a : α} {S : Store} {Q : α → Store → Prop} : wp (.ok a S) Q = Q a S := (rfl)
theorem wq_wp {α : Type} {r : R α} {Q : Kt α} : @wq α r Q = wpx Q.e r Q.f := (rfl)
section
variable {F : Nat → List D → Store → R D} {FK : Nat → List Str → List D → List D → Store → R D} {m : Nat} {ls : Ls} {S : Store} {Q : Kt D} {QB : Kt Bool} {QL : Kt (List D)} {QI : Kt ItV} {QF : Kt Fl}
@[simp] theorem e_non : @wq _ ((ev F FK m .non).val ls S) Q = Q.f .non S := (rfl)
@[simp] theorem e_bl {b} : @wq _ ((ev F FK m (.bl b)).val ls S) Q = Q.f (.bl b) S := (rfl)
@[simp] theorem e_int {b} : @wq _ ((ev F FK m (.int b)).val ls S) Q = Q.f (.int b) S := (rfl)
@[simp] theorem e_str {b} : @wq _ ((ev F FK m (.str b)).val ls S) Q = Q.f (.str b) S := (rfl)
theorem e_v' {i} : @wq _ ((ev F FK m (.v i)).val ls S) Q = @wq _ (match ls[i]? with | some (some d) => .ok d S | _ => .bad) Q := (rfl)
@[simp] theorem e_v {i} : @wq _ ((ev F FK m (.v i)).val ls S) Q = match ls[i]? with | some (some d) => Q.f d S | _ => False := by
  rw [e_v']
  split <;> simp_all
@[simp] theorem e_bin {o a b} : @wq _ ((ev F FK m (.bin o a b)).val ls S) Q = wpx Q.e ((ev F FK m a).val ls S) fun x S1 => wpx Q.e ((ev F FK m b).val ls S1) fun y S2 => @wq _ (binD o x y S2) Q := by
  show @wq _ (R.bind _ _) Q = _
  simp
@[simp] theorem e_neg {a} : @wq _ ((ev F FK m (.neg a)).val ls S) Q = wpx Q.e ((ev F FK m a).val ls S) fun x S1 => @wq _ (match x with | .int i => .ok (.int (-i)) S1 | _ => .bad) Q := by
  show @wq _ (R.bind _ _) Q = _
  simp only [wp_bind] <;> rfl
@[simp] theorem e_no {a} : @wq _ ((ev F FK m (.no a)).val ls S) Q = wpx Q.e ((ev F FK m a).val ls S) fun x S1 => @wq _ (opt ((truD x S1).map fun k => .bl (!k)) S1) Q := by
  show @wq _ (R.bind _ _) Q = _
  simp only [wp_bind]
@[simp] theorem t_no {a} : @wq _ ((ev F FK m (.no a)).tst ls S) QB = wpx QB.e ((ev F FK m a).tst ls S) fun k S1 => QB.f (!k) S1 := by
  show @wq _ (R.bind _ _) QB = _
  simp only [wp_bind, wp_ok]
@[simp] theorem e_bo {k es} : @wq _ ((ev F FK m (.bo k es)).val ls S) Q = @wq _ ((ev F FK m es).bov k ls S) Q := (rfl)
@[simp] theorem t_bo {k es} : @wq _ ((ev F FK m (.bo k es)).tst ls S) QB = @wq _ ((ev F FK m es).bot k ls S) QB := (rfl)
@[simp] theorem bv_one {k a} : @wq _ ((ev F FK m (.cons a .nil)).bov k ls S) Q = @wq _ ((ev F FK m a).val ls S) Q := (rfl)
@[simp] theorem bt_one {k a} : @wq _ ((ev F FK m (.cons a .nil)).bot k ls S) QB = @wq _ ((ev F FK m a).tst ls S) QB := (rfl)
@[simp] theorem bv_cons {k a b r} : @wq _ ((ev F FK m (.cons a (.cons b r))).bov k ls S) Q = wpx Q.e ((ev F FK m a).val ls S) fun x S1 => @wq _ (match truD x S1 with | some t => if t = k then (ev F FK m (.cons b r)).bov k ls S1 else .ok x S1 | none => .bad) Q := by
  show @wq _ (R.bind _ _) Q = _
  simp only [wp_bind] <;> rfl
@[simp] theorem bt_cons {k a b r} : @wq _ ((ev F FK m (.cons a (.cons b r))).bot k ls S) QB = wpx QB.e ((ev F FK m a).tst ls S) fun t S1 => if t = k then @wq _ ((ev F FK m (.cons b r)).bot k ls S1) QB else QB.f t S1 := by
  show @wq _ (R.bind _ _) QB = _
  simp only [wp_bind]
  congr 1
  funext t S1
  by_cases h : t = k <;> simp [h]
@[simp] theorem e_cmp {o a b} : @wq _ ((ev F FK m (.cmp o a b)).val ls S) Q = wpx Q.e ((ev F FK m a).val ls S) fun x S1 => wpx Q.e ((ev F FK m b).val ls S1) fun y S2 => @wq _ (opt ((cmpD o x y S2).map .bl) S2) Q := by
  show @wq _ (R.bind _ _) Q = _
  simp only [wp_bind]
@[simp] theorem t_cmp {o a b} : @wq _ ((ev F FK m (.cmp o a b)).tst ls S) QB = wpx QB.e ((ev F FK m a).val ls S) fun x S1 => wpx QB.e ((ev F FK m b).val ls S1) fun y S2 => @wq _ (opt (cmpD o x y S2) S2) QB := by
  show wpx QB.e (tru (R.bind _ _)) QB.f = _
  unfold tru
  simp only [wb]
  congr 1
  funext x S1
  congr 1
  funext y S2
  rw [wq_wp]
  cases cmpD o x y S2 <;> rfl
@[simp] theorem e_chn {o p a b c} : @wq _ ((ev F FK m (.chn o p a b c)).val ls S) Q = wpx Q.e ((ev F FK m a).val ls S) fun x S1 => wpx Q.e ((ev F FK m b).val ls S1) fun y S2 => @wq _ (match cmpD o x y S2 with
    | some true => ((ev F FK m c).val ls S2).bind fun z S3 => opt ((cmpD p y z S3).map .bl) S3
    | some false => .ok (.bl false) S2
    | none => .bad) Q := by
  show @wq _ (R.bind _ _) Q = _
  simp only [wp_bind] <;> rfl
@[simp] theorem e_ite {c a b} : @wq _ ((ev F FK m (.ite c a b)).val ls S) Q = wpx Q.e ((ev F FK m c).tst ls S) fun k S1 => if k then @wq _ ((ev F FK m a).val ls S1) Q else @wq _ ((ev F FK m b).val ls S1) Q := by
  show @wq _ (R.bind _ _) Q = _
  simp only [wp_bind]
  congr 1
  funext k S1
  cases k <;> rfl
@[simp] theorem e_tup {es} : @wq _ ((ev F FK m (.tup es)).val ls S) Q = wpx Q.e ((ev F FK m es).lst ls S) fun ds S1 => if ds.length ≤ sizeLine then Q.f (.tup ds) S1 else False := by
  show @wq _ (R.bind _ _) Q = _
  simp only [wp_bind]
  congr 1
  funext ds S1
  by_cases h : ds.length ≤ sizeLine <;> simp [h]
@[simp] theorem e_lst {es} : @wq _ ((ev F FK m (.lst es)).val ls S) Q = wpx Q.e ((ev F FK m es).lst ls S) fun ds S1 => if ds.length ≤ sizeLine then Q.f (.ref S1.length) (S1 ++ [.lst ds]) else False := by
  show @wq _ (R.bind _ _) Q = _
  simp only [wp_bind]
  congr 1
  funext ds S1
  by_cases h : ds.length ≤ sizeLine <;> simp [h]
@[simp] theorem l_nil : @wq _ ((ev F FK m .nil).lst ls S) QL = QL.f [] S := (rfl)
@[simp] theorem l_cons {a r} : @wq _ ((ev F FK m (.cons a r)).lst ls S) QL = wpx QL.e ((ev F FK m a).val ls S) fun x S1 => wpx QL.e ((ev F FK m r).lst ls S1) fun xs S2 => QL.f (x :: xs) S2 := by
  show @wq _ (R.bind _ _) QL = _
  simp only [wp_bind, wp_ok]
@[simp] theorem e_ix {a i} : @wq _ ((ev F FK m (.ix a i)).val ls S) Q = wpx Q.e ((ev F FK m a).val ls S) fun x S1 => wpx Q.e ((ev F FK m i).val ls S1) fun y S2 => @wq _ (opt (ixD x y S2) S2) Q := by
  show @wq _ (R.bind _ _) Q = _
  simp only [wp_bind]
@[simp] theorem p_nil : (ev F FK m .nil).part ls S = .ok none S := (rfl)
theorem part_val {e} (h : (ev F FK m e).nl = false) {QO : Kt (Option Int)} : @wq _ ((ev F FK m e).part ls S) QO = wpx QO.e ((ev F FK m e).val ls S) fun x S1 => match x with | .int i => QO.f (some i) S1 | _ => False := by
  unfold Sm.part
  rw [h]
  show @wq _ (R.bind _ _) QO = _
  simp only [wp_bind]
  congr 1
  funext x S1
  cases x <;> rfl
@[simp] theorem p_v {i} {QO : Kt (Option Int)} : @wq _ ((ev F FK m (.v i)).part ls S) QO = wpx QO.e ((ev F FK m (.v i)).val ls S) fun x S1 => match x with | .int i => QO.f (some i) S1 | _ => False := part_val rfl
@[simp] theorem p_int {i} {QO : Kt (Option Int)} : @wq _ ((ev F FK m (.int i)).part ls S) QO = QO.f (some i) S := (rfl)
@[simp] theorem p_bin {o a b} {QO : Kt (Option Int)} : @wq _ ((ev F FK m (.bin o a b)).part ls S) QO = wpx QO.e ((ev F FK m (.bin o a b)).val ls S) fun x S1 => match x with | .int i => QO.f (some i) S1 | _ => False := part_val rfl
@[simp] theorem p_call {f es} {QO : Kt (Option Int)} : @wq _ ((ev F FK m (.call f es)).part ls S) QO = wpx QO.e ((ev F FK m (.call f es)).val ls S) fun x S1 => match x with | .int i => QO.f (some i) S1 | _ => False := part_val rfl
@[simp] theorem p_bi {f es} {QO : Kt (Option Int)} : @wq _ ((ev F FK m (.bi f es)).part ls S) QO = wpx QO.e ((ev F FK m (.bi f es)).val ls S) fun x S1 => match x with | .int i => QO.f (some i) S1 | _ => False := part_val rfl
@[simp] theorem e_sl {a lo hi} : @wq _ ((ev F FK m (.sl a lo hi)).val ls S) Q = wpx Q.e ((ev F FK m a).val ls S) fun x S1 => wpx Q.e ((ev F FK m lo).part ls S1) fun l S2 => wpx Q.e ((ev F FK m hi).part ls S2) fun u S3 => @wq _ (slD x l u S3) Q := by
  show @wq _ (R.bind _ _) Q = _
  simp only [wp_bind]
@[simp] theorem e_dnew : @wq _ ((ev F FK m .dnew).val ls S) Q = Q.f (.ref S.length) (S ++ [.dct []]) := (rfl)
@[simp] theorem e_call {f es} : @wq _ ((ev F FK m (.call f es)).val ls S) Q = wpx Q.e ((ev F FK m es).lst ls S) fun ds S1 => @wq _ (F f ds S1) Q := by
  show @wq _ (R.bind _ _) Q = _
  simp only [wp_bind]
@[simp] theorem e_callk {f ks es eks} : @wq _ ((ev F FK m (.callk f ks es eks)).val ls S) Q = wpx Q.e ((ev F FK m es).lst ls S) fun ds S1 => wpx Q.e ((ev F FK m eks).lst ls S1) fun es S2 => @wq _ (FK f ks ds es S2) Q := by
  show @wq _ (R.bind _ _) Q = _
  simp only [wp_bind]
@[simp] theorem e_bi {f es} : @wq _ ((ev F FK m (.bi f es)).val ls S) Q = wpx Q.e ((ev F FK m es).lst ls S) fun ds S1 => @wq _ (fbD f ds S1) Q := by
  show @wq _ (R.bind _ _) Q = _
  simp only [wp_bind]
@[simp] theorem e_isi {t a} : @wq _ ((ev F FK m (.isi t a)).val ls S) Q = wpx Q.e ((ev F FK m a).val ls S) fun x S1 => @wq _ (opt ((isiD t x S1).map .bl) S1) Q := by
  show @wq _ (R.bind _ _) Q = _
  simp only [wp_bind]
@[simp] theorem t_isi {t a} : @wq _ ((ev F FK m (.isi t a)).tst ls S) QB = wpx QB.e ((ev F FK m a).val ls S) fun x S1 => @wq _ (opt (isiD t x S1) S1) QB := by
  show wpx QB.e (tru (R.bind _ _)) QB.f = _
  unfold tru
  simp only [wb]
  congr 1
  funext x S1
  rw [wq_wp]
  cases isiD t x S1 <;> rfl
@[simp] theorem e_mt {k a es} : @wq _ ((ev F FK m (.mt k a es)).val ls S) Q = wpx Q.e ((ev F FK m a).val ls S) fun x S1 => if mtTy k x S1 then wpx Q.e ((ev F FK m es).lst ls S1) fun ds S2 => @wq _ (mtD k x ds S2) Q else False := by
  show @wq _ (R.bind _ _) Q = _
  simp only [wp_bind]
  congr 1
  funext x S1
  cases mtTy k x S1 <;> simp
@[simp] theorem e_lc {own t it c e} : @wq _ ((ev F FK m (.lc own t it c e)).val ls S) Q = wpx Q.e ((ev F FK m it).itv ls S) fun J S1 =>
    @wq _ (lcL (fun d S ls => asgT t d S ls) (fun ls S => (ev F FK m c).cond ls S) (fun ls S => (ev F FK m e).val ls S) J S1.length (wipeD ls (own.map (·.2))) m 0 (S1 ++ [.lst []])) Q := by
  show @wq _ (R.bind _ _) Q = _
  simp only [wp_bind]
@[simp] theorem i_q {a} : @wq _ ((ev F FK m (.q a)).itv ls S) QI = wpx QI.e ((ev F FK m a).val ls S) fun x S1 => @wq _ (match x with
    | .tup ds => .ok (.tup ds) S1
    | .rol ds => .ok (.rol ds) S1
    | .ref n => match S1[n]? with
      | some (.lst _) => .ok (.obj n) S1
      | some (.dcl _) => .ok (.keys n) S1
      | _ => .bad
    | _ => .bad) QI := by
  show @wq _ (R.bind _ _) QI = _
  simp only [wp_bind] <;> rfl
@[simp] theorem i_qr {a} : @wq _ ((ev F FK m (.qr a)).itv ls S) QI = wpx QI.e ((ev F FK m a).val ls S) fun x S1 => match x with
    | .int i => if -(2 ^ 62) ≤ i ∧ i < 2 ^ 62 then QI.f (.rng 0 i.toNat) S1 else False
    | _ => False := by
  show @wq _ (R.bind _ _) QI = _
  simp only [wp_bind]
  congr 1
  funext x S1
  cases x <;> try rfl
  rename_i i
  by_cases h : -(2 ^ 62) ≤ i ∧ i < 2 ^ 62 <;> simp [h]
@[simp] theorem i_qr2 {a b} : @wq _ ((ev F FK m (.qr2 a b)).itv ls S) QI = wpx QI.e ((ev F FK m a).val ls S) fun x S1 => wpx QI.e ((ev F FK m b).val ls S1) fun y S2 => match x, y with
    | .int i, .int j => if -(2 ^ 62) ≤ i ∧ i < 2 ^ 62 ∧ -(2 ^ 62) ≤ j ∧ j < 2 ^ 62 then QI.f (.rng i (j - i).toNat) S2 else False
    | _, _ => False := by
  show @wq _ (R.bind _ _) QI = _
  simp only [wp_bind]
  congr 1
  funext x S1
  congr 1
  funext y S2
  cases x <;> cases y <;> try rfl
  rename_i i j
  by_cases h : -(2 ^ 62) ≤ i ∧ i < 2 ^ 62 ∧ -(2 ^ 62) ≤ j ∧ j < 2 ^ 62 <;> simp [h]
theorem t_of' {e} (h : (ev F FK m e).tst = fun ls S => tru ((ev F FK m e).val ls S)) : @wq _ ((ev F FK m e).tst ls S) QB = wpx QB.e ((ev F FK m e).val ls S) fun x S1 => @wq _ (opt (truD x S1) S1) QB := by
  rw [h]
  show @wq _ (tru _) QB = _
  unfold tru
  simp only [wp_bind]
@[simp] theorem t_v {i} : @wq _ ((ev F FK m (.v i)).tst ls S) QB = wpx QB.e ((ev F FK m (.v i)).val ls S) fun x S1 => @wq _ (opt (truD x S1) S1) QB := t_of' rfl
@[simp] theorem t_bl {b} : @wq _ ((ev F FK m (.bl b)).tst ls S) QB = QB.f b S := (rfl)
@[simp] theorem t_call {f es} : @wq _ ((ev F FK m (.call f es)).tst ls S) QB = wpx QB.e ((ev F FK m (.call f es)).val ls S) fun x S1 => @wq _ (opt (truD x S1) S1) QB := t_of' rfl
@[simp] theorem t_callk {f ks es eks} : @wq _ ((ev F FK m (.callk f ks es eks)).tst ls S) QB = wpx QB.e ((ev F FK m (.callk f ks es eks)).val ls S) fun x S1 => @wq _ (opt (truD x S1) S1) QB := t_of' rfl
@[simp] theorem t_bi {f es} : @wq _ ((ev F FK m (.bi f es)).tst ls S) QB = wpx QB.e ((ev F FK m (.bi f es)).val ls S) fun x S1 => @wq _ (opt (truD x S1) S1) QB := t_of' rfl
@[simp] theorem t_ix {a i} : @wq _ ((ev F FK m (.ix a i)).tst ls S) QB = wpx QB.e ((ev F FK m (.ix a i)).val ls S) fun x S1 => @wq _ (opt (truD x S1) S1) QB := t_of' rfl
@[simp] theorem t_bin {o a i} : @wq _ ((ev F FK m (.bin o a i)).tst ls S) QB = wpx QB.e ((ev F FK m (.bin o a i)).val ls S) fun x S1 => @wq _ (opt (truD x S1) S1) QB := t_of' rfl
@[simp] theorem t_lc {own t it c e} : @wq _ ((ev F FK m (.lc own t it c e)).tst ls S) QB = wpx QB.e ((ev F FK m (.lc own t it c e)).val ls S) fun x S1 => @wq _ (opt (truD x S1) S1) QB := t_of' rfl
@[simp] theorem t_chn {o p a b c} : @wq _ ((ev F FK m (.chn o p a b c)).tst ls S) QB = wpx QB.e ((ev F FK m (.chn o p a b c)).val ls S) fun x S1 => @wq _ (opt (truD x S1) S1) QB := t_of' rfl

@[simp] theorem k_nil : @wq _ ((ev F FK m .nil).cond ls S) QB = QB.f true S := (rfl)
@[simp] theorem k_cmp {o a b} : @wq _ ((ev F FK m (.cmp o a b)).cond ls S) QB = @wq _ ((ev F FK m (.cmp o a b)).tst ls S) QB := (rfl)
@[simp] theorem k_no {a} : @wq _ ((ev F FK m (.no a)).cond ls S) QB = @wq _ ((ev F FK m (.no a)).tst ls S) QB := (rfl)
@[simp] theorem k_bo {k es} : @wq _ ((ev F FK m (.bo k es)).cond ls S) QB = @wq _ ((ev F FK m (.bo k es)).tst ls S) QB := (rfl)
@[simp] theorem k_isi {t a} : @wq _ ((ev F FK m (.isi t a)).cond ls S) QB = @wq _ ((ev F FK m (.isi t a)).tst ls S) QB := (rfl)
@[simp] theorem k_call {f es} : @wq _ ((ev F FK m (.call f es)).cond ls S) QB = @wq _ ((ev F FK m (.call f es)).tst ls S) QB := (rfl)
@[simp] theorem k_chn {o p a b c} : @wq _ ((ev F FK m (.chn o p a b c)).cond ls S) QB = @wq _ ((ev F FK m (.chn o p a b c)).tst ls S) QB := (rfl)
@[simp] theorem k_v {i} : @wq _ ((ev F FK m (.v i)).cond ls S) QB = @wq _ ((ev F FK m (.v i)).tst ls S) QB := (rfl)
@[simp] theorem k_ix {a i} : @wq _ ((ev F FK m (.ix a i)).cond ls S) QB = @wq _ ((ev F FK m (.ix a i)).tst ls S) QB := (rfl)
@[simp] theorem k_bi {f es} : @wq _ ((ev F FK m (.bi f es)).cond ls S) QB = @wq _ ((ev F FK m (.bi f es)).tst ls S) QB := (rfl)
/-! statements -/
@[simp] theorem s_nil : @wq _ (exS F FK m .nil ls S) QF = QF.f (.next ls) S := (rfl)
@[simp] theorem s_cons {a r} : @wq _ (exS F FK m (.cons a r) ls S) QF = wpx QF.e (exS F FK m a ls S) fun fl S' => match fl with
    | .next ls' => @wq _ (exS F FK m r ls' S') QF
    | q => QF.f q S' := by
  show @wq _ (match exS F FK m a ls S with | .ok (.next ls) S' => exS F FK m r ls S' | q => q) QF = _
  cases exS F FK m a ls S with
  | ok fl S' => cases fl <;> rfl
  | exc c ds S' => rfl
  | bad => rfl
@[simp] theorem s_ex {e} : @wq _ (exS F FK m (.ex e) ls S) QF = wpx (xF QF ls) ((ev F FK m e).val ls S) fun _ S1 => QF.f (.next ls) S1 := by
  show @wq _ (bindS _ _ _) QF = _
  simp only [wp_bindS, wp_ok]
@[simp] theorem s_set {i e} : @wq _ (exS F FK m (.set i e) ls S) QF = wpx (xF QF ls) ((ev F FK m e).val ls S) fun x S1 => QF.f (.next (ls.set i (some x))) S1 := by
  show @wq _ (bindS _ _ _) QF = _
  simp only [wp_bindS, wp_ok]
@[simp] theorem s_slc {i own t it c e} : @wq _ (exS F FK m (.slc i own t it c e) ls S) QF = wpx (xF QF ls) ((ev F FK m (.lc own t it c e)).val ls S) fun x S1 => QF.f (.next (ls.set i (some x))) S1 := by
  show @wq _ (bindS _ _ _) QF = _
  simp only [wp_bindS, wp_ok]
@[simp] theorem s_asg {t e} : @wq _ (exS F FK m (.asg t e) ls S) QF = wpx (xF QF ls) ((ev F FK m e).val ls S) fun x S1 => match asgT t x S1 ls with | some ls' => QF.f (.next ls') S1 | none => False := by
  show @wq _ (bindS _ _ _) QF = _
  simp only [wp_bindS]
  congr 1
  funext x S1
  cases asgT t x S1 ls <;> rfl
@[simp] theorem s_par2 {i j a b} : @wq _ (exS F FK m (.par2 i j a b) ls S) QF = wpx (xF QF ls) ((ev F FK m a).val ls S) fun x S1 => wpx (xF QF ls) ((ev F FK m b).val ls S1) fun y S2 => QF.f (.next ((ls.set i (some x)).set j (some y))) S2 := by
  show @wq _ (bindS _ _ _) QF = _
  simp only [wp_bindS, wp_ok]
@[simp] theorem s_par3 {i j l a b c} : @wq _ (exS F FK m (.par3 i j l a b c) ls S) QF = wpx (xF QF ls) ((ev F FK m a).val ls S) fun x S1 => wpx (xF QF ls) ((ev F FK m b).val ls S1) fun y S2 => wpx (xF QF ls) ((ev F FK m c).val ls S2) fun z S3 => QF.f (.next (((ls.set i (some x)).set j (some y)).set l (some z))) S3 := by
  show @wq _ (bindS _ _ _) QF = _
  simp only [wp_bindS, wp_ok]
@[simp] theorem s_aug {i o e} : @wq _ (exS F FK m (.aug i o e) ls S) QF = match ls[i]? with
    | some (some x) => wpx (xF QF ls) ((ev F FK m e).val ls S) fun y S1 => wpx (xF QF ls) (opt (augD o x y) S1) fun z S2 => QF.f (.next (ls.set i (some z))) S2
    | _ => False := by
  show @wq _ (match ls[i]? with
    | some (some x) => bindS (evE F FK m e ls S) ls fun y S1 => match o, x, y with
      | .add, .int a, .int b => .ok (.next (ls.set i (some (.int (a + b))))) S1
      | .sub, .int a, .int b => .ok (.next (ls.set i (some (.int (a - b))))) S1
      | _, _, _ => .bad
    | _ => .bad) QF = _
  split
  · rename_i x h
    simp only [wp_bindS]
    congr 1
    funext y S1
    cases o <;> cases x <;> cases y <;> rfl
  · rfl
@[simp] theorem s_six {a i e} : @wq _ (exS F FK m (.six a i e) ls S) QF = wpx (xF QF ls) ((ev F FK m e).val ls S) fun x S1 => wpx (xF QF ls) ((ev F FK m a).val ls S1) fun y S2 => wpx (xF QF ls) ((ev F FK m i).val ls S2) fun z S3 => wpx (xF QF ls) (setIx y z x S3) fun _ S4 => QF.f (.next ls) S4 := by
  show @wq _ (bindS _ _ _) QF = _
  simp only [wp_bindS, wp_ok]
@[simp] theorem s_aix {a i o e} : @wq _ (exS F FK m (.aix a i o e) ls S) QF = wpx (xF QF ls) ((ev F FK m a).val ls S) fun y S1 => wpx (xF QF ls) ((ev F FK m i).val ls S1) fun z S2 => wpx (xF QF ls) (opt (ixR y z S2) S2) fun x S2 => wpx (xF QF ls) ((ev F FK m e).val ls S2) fun w S3 =>
    wpx (xF QF ls) (opt (augD o x w) S3) fun u S3 => wpx (xF QF ls) (setIx y z u S3) fun _ S4 => QF.f (.next ls) S4 := by
  show @wq _ (bindS _ _ _) QF = _
  simp only [wp_bindS]
  congr 1
  funext y S1
  congr 1
  funext z S2
  cases ixR y z S2 with
  | none => rfl
  | some x =>
    show @wq _ (bindS _ _ _) QF = wpx (xF QF ls) (opt (some x) S2) _
    simp only [wp_bindS, wo]
    congr 1
    funext w S3
    cases o <;> cases x <;> cases w <;> first | rfl | (simp only [augD, wo, wp_bindS]; rfl)
@[simp] theorem s_ite {c a b} : @wq _ (exS F FK m (.ite c a b) ls S) QF = wpx (xF QF ls) ((ev F FK m c).tst ls S) fun k S1 => if k then @wq _ (exS F FK m a ls S1) QF else @wq _ (exS F FK m b ls S1) QF := by
  show @wq _ (bindS _ _ _) QF = _
  simp only [wp_bindS]
  congr 1
  funext k S1
  cases k <;> rfl
@[simp] theorem s_whl {c b} : @wq _ (exS F FK m (.whl c b) ls S) QF = @wq _ (whlL (fun ls S => (ev F FK m c).tst ls S) (fun ls S => exS F FK m b ls S) m ls S) QF := (rfl)
@[simp] theorem s_for {t it b} : @wq _ (exS F FK m (.for t it b) ls S) QF = wpx (xF QF ls) ((ev F FK m it).itv ls S) fun J S1 => @wq _ (forL (fun d S ls => asgT t d S ls) (fun ls S => exS F FK m b ls S) J m 0 ls S1) QF := by
  show @wq _ (bindS _ _ _) QF = _
  simp only [wp_bindS]
@[simp] theorem s_ret {e} : @wq _ (exS F FK m (.ret e) ls S) QF = wpx (xF QF ls) ((ev F FK m e).val ls S) fun x S1 => QF.f (.ret x) S1 := by
  show @wq _ (bindS _ _ _) QF = _
  simp only [wp_bindS, wp_ok]
@[simp] theorem s_retN : @wq _ (exS F FK m .retN ls S) QF = QF.f (.ret .non) S := (rfl)
@[simp] theorem s_brk : @wq _ (exS F FK m .brk ls S) QF = QF.f (.brk ls) S := (rfl)
@[simp] theorem s_cnt : @wq _ (exS F FK m .cnt ls S) QF = QF.f (.cont ls) S := (rfl)
@[simp] theorem s_rse {c es} : @wq _ (exS F FK m (.rse c es) ls S) QF = wpx (xF QF ls) ((ev F FK m es).lst ls S) fun ds S1 => QF.f (.exc ls c ds) S1 := by
  show @wq _ (bindS _ _ _) QF = _
  simp only [wp_bindS, wp_ok]
@[simp] theorem s_tr {b hs} : @wq _ (exS F FK m (.tr b hs) ls S) QF = wpx QF.e (exS F FK m b ls S) fun fl S' => match fl with
    | .exc ls' c ds => @wq _ (exH F FK m hs c ds ls' S') QF
    | q => QF.f q S' := by
  show @wq _ (match exS F FK m b ls S with | .ok (.exc ls' c ds) S' => exH F FK m hs c ds ls' S' | q => q) QF = _
  cases exS F FK m b ls S with
  | ok fl S' => cases fl <;> rfl
  | exc c ds S' => rfl
  | bad => rfl
@[simp] theorem h_nil {c ds} : @wq _ (exH F FK m .nil c ds ls S) QF = QF.f (.exc ls c ds) S := (rfl)
@[simp] theorem h_hd {k any i h r c ds} : @wq _ (exH F FK m (.hd k any i h r) c ds ls S) QF = if any = true ∨ c = k then wp (exS F FK m h (onH i c ds ls) S) fun fl S' => (match fl with
    | .next ls' => QF.f (.next (offL i ls')) S'
    | .brk ls' => QF.f (.brk (offL i ls')) S'
    | .cont ls' => QF.f (.cont (offL i ls')) S'
    | .ret d => QF.f (.ret d) S'
    | .exc _ _ _ => False) else @wq _ (exH F FK m r c ds ls S) QF := by
  show @wq _ (if any = true ∨ c = k then offH i (exS F FK m h (onH i c ds ls) S) else exH F FK m r c ds ls S) QF = _
  by_cases hc : any = true ∨ c = k
  · rw [if_pos hc, if_pos hc]
    cases exS F FK m h (onH i c ds ls) S with
    | ok fl S' => cases fl <;> rfl
    | exc c ds S' => rfl
    | bad => rfl
  · rw [if_neg hc, if_neg hc]
@[simp] theorem e_xf {i c k} : @wq _ ((ev F FK m (.xf i c k)).val ls S) Q = match ls[i]? with
    | some (some (.exv c' ds)) => if c' = c then @wq _ (opt ds[k]? S) Q else False
    | _ => False := by
  have e1 : (ev F FK m (.xf i c k)).val ls S = (match ls[i]? with | some (some (.exv c' ds)) => if c' = c then opt ds[k]? S else .bad | _ => R.bad) := rfl
  rw [e1]
  split
  · split <;> rfl
  · rfl
@[simp] theorem s_pas : @wq _ (exS F FK m .pas ls S) QF = QF.f (.next ls) S := (rfl)
end
/-! ### loops -/
/-- a for: I before turn i; n turns at most -/
theorem wp_for {g : D → Store → Ls → Option Ls} {body : Ls → Store → R Fl} {J : ItV} {QF : Fl → Store → Prop} (I : Nat → Ls → Store → Prop) (n : Nat)
    (step : ∀ i ls S, I i ls S → (J.nxt i S = some none ∧ QF (.next ls) S) ∨ (i < n ∧ ∃ d ls1, J.nxt i S = some (some d) ∧ g d S ls = some ls1 ∧ wp (body ls1 S) fun fl S' => match fl with
      | .next ls' => I (i + 1) ls' S'
      | .cont ls' => I (i + 1) ls' S'
      | .brk ls' => QF (.next ls') S'
      | .ret d => QF (.ret d) S'
      | .exc ls' c ds => QF (.exc ls' c ds) S')) : ∀ (m i : Nat) (ls : Ls) (S : Store), n < m + i → I i ls S → i ≤ n → wp (forL g body J m i ls S) QF
  | 0, i, ls, S, hm, h, hi => by omega
  | m + 1, i, ls, S, hm, h, hi => by
    rcases step i ls S h with ⟨e, q⟩ | ⟨hn, d, ls1, e1, e2, q⟩
    · unfold forL
      rw [e]
      exact q
    · unfold forL
      rw [e1]
      simp only [e2]
      cases hb : body ls1 S with
      | ok fl S' =>
        rw [hb] at q
        cases fl with
        | next ls' => exact wp_for I n step m (i + 1) ls' S' (by omega) q (by omega)
        | cont ls' => exact wp_for I n step m (i + 1) ls' S' (by omega) q (by omega)
        | brk ls' => exact q
        | ret d => exact q
        | exc ls' c ds => exact q
      | exc c ds S' => rw [hb] at q; exact q
      | bad => rw [hb] at q; exact q
/-- a while: I with what falls -/
theorem wp_whl {c : Ls → Store → R Bool} {body : Ls → Store → R Fl} {QF : Fl → Store → Prop} (I : Nat → Ls → Store → Prop)
    (step : ∀ k ls S, I k ls S → wpx (fun c ds S1 => QF (.exc ls c ds) S1) (c ls S) fun t S1 => if t = true then 0 < k ∧ wp (body ls S1) fun fl S' => match fl with
      | .next ls' => ∃ k', k' < k ∧ I k' ls' S'
      | .cont ls' => ∃ k', k' < k ∧ I k' ls' S'
      | .brk ls' => QF (.next ls') S'
      | .ret d => QF (.ret d) S'
      | .exc ls' c ds => QF (.exc ls' c ds) S' else QF (.next ls) S1) : ∀ (m k : Nat) (ls : Ls) (S : Store), k < m → I k ls S → wp (whlL c body m ls S) QF
  | 0, k, ls, S, hm, h => by omega
  | m + 1, k, ls, S, hm, h => by
    have q := step k ls S h
    unfold whlL
    cases hc : c ls S with
    | ok t S1 =>
      rw [hc] at q
      cases t with
      | true =>
        simp only [wk, wk', if_true] at q
        obtain ⟨hk, q⟩ := q
        simp only
        cases hb : body ls S1 with
        | ok fl S' =>
          rw [hb] at q
          cases fl with
          | next ls' =>
            obtain ⟨k', h1, h2⟩ := q
            exact wp_whl I step m k' ls' S' (by omega) h2
          | cont ls' =>
            obtain ⟨k', h1, h2⟩ := q
            exact wp_whl I step m k' ls' S' (by omega) h2
          | brk ls' => exact q
          | ret d => exact q
          | exc ls' c ds => exact q
        | exc c ds S' => rw [hb] at q; exact q
        | bad => rw [hb] at q; exact q
      | false =>
        simp only [wk, wk', Bool.false_eq_true, if_false] at q
        exact q
    | exc c ds S' => rw [hc] at q; exact q
    | bad => rw [hc] at q; exact q
/-- a comprehension: I before turn i, the list so far beside -/
theorem wp_lc {g : D → Store → Ls → Option Ls} {c : Ls → Store → R Bool} {e : Ls → Store → R D} {J : ItV} {r : Nat} {w : Ls} {Q : D → Store → Prop} (I : Nat → Store → Prop) (n : Nat)
    (step : ∀ i S, I i S → (J.nxt i S = some none ∧ Q (.ref r) S) ∨ (i < n ∧ ∃ d ls1, J.nxt i S = some (some d) ∧ g d S w = some ls1 ∧ wp (c ls1 S) fun t S1 => if t = true then wp (e ls1 S1) fun y S2 => ∃ acc, S2[r]? = some (.lst acc) ∧ acc.length < sizeLine ∧ I (i + 1) (S2.set r (.lst (acc ++ [y])))
      else I (i + 1) S1)) : ∀ (m i : Nat) (S : Store), n < m + i → I i S → i ≤ n → wp (lcL g c e J r w m i S) Q
  | 0, i, S, hm, h, hi => by omega
  | m + 1, i, S, hm, h, hi => by
    rcases step i S h with ⟨e, q⟩ | ⟨hn, d, ls1, e1, e2, q⟩
    · unfold lcL
      rw [e]
      exact q
    · unfold lcL
      rw [e1]
      simp only [e2]
      cases hc : c ls1 S with
      | ok t S1 =>
        rw [hc] at q
        cases t with
        | true =>
          simp only [wk, wk', if_true] at q
          simp only
          cases he : e ls1 S1 with
          | ok y S2 =>
            rw [he] at q
            obtain ⟨acc, a1, a2, a3⟩ := q
            simp only [a1, if_pos a2]
            exact wp_lc I n step m (i + 1) _ (by omega) a3 (by omega)
          | exc c ds S' => rw [he] at q; exact q
          | bad => rw [he] at q; exact q
        | false =>
          simp only [wk, wk', Bool.false_eq_true, if_false] at q
          exact wp_lc I n step m (i + 1) _ (by omega) q (by omega)
      | exc c ds S' => rw [hc] at q; exact q
      | bad => rw [hc] at q; exact q

/-- over lo, lo + 1, .. -/
theorem wp_rng {v k : Nat} {lo : Int} {body : Ls → Store → R Fl} {QF : Kt Fl} {m : Nat} {ls : Ls} {S : Store} (I : Nat → Ls → Store → Prop) (hm : k < m) (h0 : I 0 ls S)
    (step : ∀ i ls S, i < k → I i ls S → wp (body (ls.set v (some (.int (lo + i)))) S) (turnQ (I (i + 1)) QF.f)) (fin : ∀ ls S, I k ls S → QF.f (.next ls) S) : @wq _ (forL (fun d _ ls => some (ls.set v (some d))) body (.rng lo k) m 0 ls S) QF := by
  refine wp_mono (Q := QF.f) (wp_for (fun i ls S => i ≤ k ∧ I i ls S) k (fun i ls S ⟨hi, h⟩ => ?_) m 0 ls S (by omega) ⟨by omega, h0⟩ (by omega)) fun _ _ q => q
  by_cases c : i < k
  · refine .inr ⟨c, _, _, by rw [nx_rng, if_pos c], rfl, ?_⟩
    refine wp_mono (step i ls S c h) fun fl S' q => ?_
    cases fl with
    | next ls' => exact ⟨c, q⟩
    | cont ls' => exact ⟨c, q⟩
    | brk ls' => exact q
    | ret d => exact q
    | exc ls' c ds => exact q
  · have e : i = k := by omega
    subst e
    exact .inl ⟨by rw [nx_rng, if_neg c], fin ls S h⟩
/-- over what never changes -/
theorem wp_seq {J : ItV} {ds : List D} {g : D → Store → Ls → Option Ls} {body : Ls → Store → R Fl} {QF : Kt Fl} {m : Nat} {ls : Ls} {S : Store} (hJ : J = .tup ds ∨ J = .rol ds) (I : Nat → Ls → Store → Prop) (hm : ds.length < m) (h0 : I 0 ls S)
    (step : ∀ i d ls S, ds[i]? = some d → I i ls S → ∃ ls1, g d S ls = some ls1 ∧ wp (body ls1 S) (turnQ (I (i + 1)) QF.f)) (fin : ∀ ls S, I ds.length ls S → QF.f (.next ls) S) : @wq _ (forL g body J m 0 ls S) QF := by
  have nx : ∀ i S, J.nxt i S = some ds[i]? := fun i S => by rcases hJ with rfl | rfl <;> rfl
  refine wp_mono (Q := QF.f) (wp_for (fun i ls S => i ≤ ds.length ∧ I i ls S) ds.length (fun i ls S ⟨hi, h⟩ => ?_) m 0 ls S (by omega) ⟨by omega, h0⟩ (by omega)) fun _ _ q => q
  by_cases c : i < ds.length
  · have e := List.getElem?_eq_getElem c
    obtain ⟨ls1, e1, q⟩ := step i _ ls S e h
    refine .inr ⟨c, _, ls1, by rw [nx, e], e1, ?_⟩
    refine wp_mono q fun fl S' q => ?_
    cases fl with
    | next ls' => exact ⟨c, q⟩
    | cont ls' => exact ⟨c, q⟩
    | brk ls' => exact q
    | ret d => exact q
    | exc ls' c ds => exact q
  · have e : i = ds.length := by omega
    subst e
    exact .inl ⟨by rw [nx, List.getElem?_eq_none (Nat.le_refl _)], fin ls S h⟩
/-- over a list that stands -/
theorem wp_obj {r : Nat} {ds : List D} {g : D → Store → Ls → Option Ls} {body : Ls → Store → R Fl} {QF : Kt Fl} {m : Nat} {ls : Ls} {S : Store} (I : Nat → Ls → Store → Prop) (hS : ∀ i ls S, I i ls S → S[r]? = some (.lst ds)) (hm : ds.length < m) (h0 : I 0 ls S)
    (step : ∀ i d ls S, ds[i]? = some d → I i ls S → ∃ ls1, g d S ls = some ls1 ∧ wp (body ls1 S) (turnQ (I (i + 1)) QF.f)) (fin : ∀ ls S, I ds.length ls S → QF.f (.next ls) S) : @wq _ (forL g body (.obj r) m 0 ls S) QF := by
  refine wp_mono (Q := QF.f) (wp_for (fun i ls S => i ≤ ds.length ∧ I i ls S) ds.length (fun i ls S ⟨hi, h⟩ => ?_) m 0 ls S (by omega) ⟨by omega, h0⟩ (by omega)) fun _ _ q => q
  have nx : (ItV.obj r).nxt i S = some ds[i]? := by rw [nx_obj, hS i ls S h]
  by_cases c : i < ds.length
  · have e := List.getElem?_eq_getElem c
    obtain ⟨ls1, e1, q⟩ := step i _ ls S e h
    refine .inr ⟨c, _, ls1, by rw [nx, e], e1, ?_⟩
    refine wp_mono q fun fl S' q => ?_
    cases fl with
    | next ls' => exact ⟨c, q⟩
    | cont ls' => exact ⟨c, q⟩
    | brk ls' => exact q
    | ret d => exact q
    | exc ls' c ds => exact q
  · have e : i = ds.length := by omega
    subst e
    exact .inl ⟨by rw [nx, List.getElem?_eq_none (Nat.le_refl _)], fin ls S h⟩
/-- how a turn of a comprehension goes: r its list -/
def lcTurn (r : Nat) (c : Ls → Store → R Bool) (e : Ls → Store → R D) (I : List D → Store → Prop) (acc : List D) (ls1 : Ls) (S : Store) : Prop :=
  wp (c ls1 S) fun t S1 => if t = true then wp (e ls1 S1) fun y S2 => S2[r]? = some (.lst acc) ∧ acc.length < sizeLine ∧ I (acc ++ [y]) (S2.set r (.lst (acc ++ [y]))) else S1[r]? = some (.lst acc) ∧ I acc S1
theorem wp_lcG {J : ItV} {k : Nat} {g : D → Store → Ls → Option Ls} {c : Ls → Store → R Bool} {e : Ls → Store → R D} {r : Nat} {w : Ls} {Q : Kt D} {m : Nat} {S : Store} (I : Nat → List D → Store → Prop) (hm : k < m) (h0 : I 0 [] S) (hr : S[r]? = some (.lst []))
    (nx : ∀ i acc S, i ≤ k → I i acc S → (i = k ∧ J.nxt i S = some none) ∨ ∃ d ls1, i < k ∧ J.nxt i S = some (some d) ∧ g d S w = some ls1 ∧ (S[r]? = some (.lst acc) → lcTurn r c e (I (i + 1)) acc ls1 S)) (fin : ∀ acc S, I k acc S → S[r]? = some (.lst acc) → Q.f (.ref r) S) : @wq _ (lcL g c e J r w m 0 S) Q := by
  refine wp_mono (Q := Q.f) (wp_lc (fun i S => i ≤ k ∧ ∃ acc, S[r]? = some (.lst acc) ∧ I i acc S) k (fun i S ⟨hi, acc, ha, h⟩ => ?_) m 0 S (by omega) ⟨by omega, [], hr, h0⟩ (by omega)) fun _ _ q => q
  rcases nx i acc S hi h with ⟨rfl, e1⟩ | ⟨d, ls1, hk, e1, e2, q⟩
  · exact .inl ⟨e1, fin acc S h ha⟩
  · refine .inr ⟨hk, d, ls1, e1, e2, ?_⟩
    refine wp_mono (q ha) fun t S1 q => ?_
    cases t with
    | true =>
      rw [if_pos rfl] at q
      show (if true = true then _ else _)
      rw [if_pos rfl]
      refine wp_mono q fun y S2 ⟨a1, a2, a3⟩ => ⟨acc, a1, a2, hk, acc ++ [y], ?_, a3⟩
      exact List.getElem?_set_self (by
        rcases Nat.lt_or_ge r S2.length with z | z
        · exact z
        · rw [List.getElem?_eq_none z] at a1; cases a1)
    | false =>
      rw [if_neg Bool.false_ne_true] at q
      show (if false = true then _ else _)
      rw [if_neg Bool.false_ne_true]
      exact ⟨hk, acc, q.1, q.2⟩
theorem wp_lcR {v k : Nat} {lo : Int} {c : Ls → Store → R Bool} {e : Ls → Store → R D} {r : Nat} {w : Ls} {Q : Kt D} {m : Nat} {S : Store} (I : Nat → List D → Store → Prop) (hm : k < m) (h0 : I 0 [] S) (hr : S[r]? = some (.lst []))
    (step : ∀ i acc S, i < k → I i acc S → S[r]? = some (.lst acc) → lcTurn r c e (I (i + 1)) acc (w.set v (some (.int (lo + i)))) S) (fin : ∀ acc S, I k acc S → S[r]? = some (.lst acc) → Q.f (.ref r) S) : @wq _ (lcL (fun d _ ls => some (ls.set v (some d))) c e (.rng lo k) r w m 0 S) Q := by
  refine wp_lcG I hm h0 hr (fun i acc S hi h => ?_) fin
  by_cases c : i < k
  · exact .inr ⟨_, _, c, by rw [nx_rng, if_pos c], rfl, step i acc S c h⟩
  · exact .inl ⟨by omega, by rw [nx_rng, if_neg c]⟩
theorem wp_lcT {J : ItV} {ds : List D} {g : D → Store → Ls → Option Ls} {c : Ls → Store → R Bool} {e : Ls → Store → R D} {r : Nat} {w : Ls} {Q : Kt D} {m : Nat} {S : Store} (hJ : J = .tup ds ∨ J = .rol ds) (I : Nat → List D → Store → Prop) (hm : ds.length < m) (h0 : I 0 [] S) (hr : S[r]? = some (.lst []))
    (step : ∀ i d acc S, ds[i]? = some d → I i acc S → S[r]? = some (.lst acc) → ∃ ls1, g d S w = some ls1 ∧ lcTurn r c e (I (i + 1)) acc ls1 S) (fin : ∀ acc S, I ds.length acc S → S[r]? = some (.lst acc) → Q.f (.ref r) S) : @wq _ (lcL g c e J r w m 0 S) Q := by
  have nx : ∀ i S, J.nxt i S = some ds[i]? := fun i S => by rcases hJ with rfl | rfl <;> rfl
  -- the target is asked for before the list is known to stand
  refine wp_mono (Q := Q.f) (wp_lc (fun i S => i ≤ ds.length ∧ ∃ acc, S[r]? = some (.lst acc) ∧ I i acc S) ds.length (fun i S ⟨hi, acc, ha, h⟩ => ?_) m 0 S (by omega) ⟨by omega, [], hr, h0⟩ (by omega)) fun _ _ q => q
  by_cases cc : i < ds.length
  · have e1 := List.getElem?_eq_getElem cc
    obtain ⟨ls1, e2, q⟩ := step i _ acc S e1 h ha
    refine .inr ⟨cc, _, ls1, by rw [nx, e1], e2, ?_⟩
    refine wp_mono q fun t S1 q => ?_
    cases t with
    | true =>
      rw [if_pos rfl] at q
      show (if true = true then _ else _)
      rw [if_pos rfl]
      refine wp_mono q fun y S2 ⟨a1, a2, a3⟩ => ⟨acc, a1, a2, cc, acc ++ [y], ?_, a3⟩
      exact List.getElem?_set_self (by
        rcases Nat.lt_or_ge r S2.length with z | z
        · exact z
        · rw [List.getElem?_eq_none z] at a1; cases a1)
    | false =>
      rw [if_neg Bool.false_ne_true] at q
      show (if false = true then _ else _)
      rw [if_neg Bool.false_ne_true]
      exact ⟨cc, acc, q.1, q.2⟩
  · have e : i = ds.length := by omega
    subst e
    exact .inl ⟨by rw [nx, List.getElem?_eq_none (Nat.le_refl _)], fin acc S h ha⟩
theorem wp_lcO {n : Nat} {ds : List D} {g : D → Store → Ls → Option Ls} {c : Ls → Store → R Bool} {e : Ls → Store → R D} {r : Nat} {w : Ls} {Q : Kt D} {m : Nat} {S : Store} (I : Nat → List D → Store → Prop) (hS : ∀ i acc S, I i acc S → S[n]? = some (.lst ds)) (hm : ds.length < m) (h0 : I 0 [] S) (hr : S[r]? = some (.lst []))
    (step : ∀ i d acc S, ds[i]? = some d → I i acc S → S[r]? = some (.lst acc) → ∃ ls1, g d S w = some ls1 ∧ lcTurn r c e (I (i + 1)) acc ls1 S) (fin : ∀ acc S, I ds.length acc S → S[r]? = some (.lst acc) → Q.f (.ref r) S) : @wq _ (lcL g c e (.obj n) r w m 0 S) Q := by
  refine wp_mono (Q := Q.f) (wp_lc (fun i S => i ≤ ds.length ∧ ∃ acc, S[r]? = some (.lst acc) ∧ I i acc S) ds.length (fun i S ⟨hi, acc, ha, h⟩ => ?_) m 0 S (by omega) ⟨by omega, [], hr, h0⟩ (by omega)) fun _ _ q => q
  have nx : (ItV.obj n).nxt i S = some ds[i]? := by rw [nx_obj, hS i acc S h]
  by_cases cc : i < ds.length
  · have e1 := List.getElem?_eq_getElem cc
    obtain ⟨ls1, e2, q⟩ := step i _ acc S e1 h ha
    refine .inr ⟨cc, _, ls1, by rw [nx, e1], e2, ?_⟩
    refine wp_mono q fun t S1 q => ?_
    cases t with
    | true =>
      rw [if_pos rfl] at q
      show (if true = true then _ else _)
      rw [if_pos rfl]
      refine wp_mono q fun y S2 ⟨a1, a2, a3⟩ => ⟨acc, a1, a2, cc, acc ++ [y], ?_, a3⟩
      exact List.getElem?_set_self (by
        rcases Nat.lt_or_ge r S2.length with z | z
        · exact z
        · rw [List.getElem?_eq_none z] at a1; cases a1)
    | false =>
      rw [if_neg Bool.false_ne_true] at q
      show (if false = true then _ else _)
      rw [if_neg Bool.false_ne_true]
      exact ⟨cc, acc, q.1, q.2⟩
  · have e : i = ds.length := by omega
    subst e
    exact .inl ⟨by rw [nx, List.getElem?_eq_none (Nat.le_refl _)], fin acc S h ha⟩

/-- a call -/
theorem wpx_callF {P : List Df} {m n f : Nat} {df : Df} {ds full : List D} {S : Store} {E : Nat → List D → Store → Prop} {Q : D → Store → Prop} (h : P[f]? = some df) (hf : fill df ds = some full)
    (w : wp (exS (callF P m n) (callFK P m n) m df.body (startD df full) S) fun fl S' => match fl with
      | .next _ => Q .non S'
      | .ret d => Q d S'
      | .exc _ c ds => E c ds S'
      | _ => False) : wpx E (callF P m (n + 1) f ds S) Q := by
  unfold callF
  rw [h]
  simp only [hf]
  rw [runN_succ, h]
  have hl : full.length = df.np := by
    unfold fill at hf
    simp only at hf
    split at hf
    · rename_i c
      cases hf
      exact c.1
    · cases hf
  simp only [hl, if_true]
  revert w
  generalize exS (callF P m n) (callFK P m n) m df.body (startD df full) S = r
  intro w
  cases r with
  | ok fl S' => cases fl <;> exact w
  | exc c ds S' => exact (show False from w).elim
  | bad => exact w
theorem wp_callF {P : List Df} {m n f : Nat} {df : Df} {ds full : List D} {S : Store} {Q : D → Store → Prop} (h : P[f]? = some df) (hf : fill df ds = some full)
    (w : wp (exS (callF P m n) (callFK P m n) m df.body (startD df full) S) fun fl S' => match fl with
      | .next _ => Q .non S'
      | .ret d => Q d S'
      | _ => False) : wp (callF P m (n + 1) f ds S) Q := by
  refine wpx_callF (E := nE) h hf ?_
  revert w
  generalize exS (callF P m n) (callFK P m n) m df.body (startD df full) S = r
  intro w
  cases r with
  | ok fl S' => cases fl <;> exact w
  | exc c ds S' => exact w
  | bad => exact w
theorem wpx_callFK {P : List Df} {m n f : Nat} {ks : List Str} {df : Df} {ds es full : List D} {S : Store} {E : Nat → List D → Store → Prop} {Q : D → Store → Prop} (h : P[f]? = some df) (hf : fillK df ks ds es = some full)
    (w : wpx E (callF P m n f full S) Q) (hq : fill df full = some full) : wpx E (callFK P m n f ks ds es S) Q := by
  unfold callF at w
  unfold callFK
  rw [h] at w ⊢
  simp only [hf, hq] at w ⊢
  exact w
theorem wp_callFK {P : List Df} {m n f : Nat} {ks : List Str} {df : Df} {ds es full : List D} {S : Store} {Q : D → Store → Prop} (h : P[f]? = some df) (hf : fillK df ks ds es = some full)
    (w : wp (callF P m n f full S) Q) (hq : fill df full = some full) : wp (callFK P m n f ks ds es S) Q := wpx_callFK (E := nE) h hf w hq
end Z

/-- the same as a structure: nothing unfolds it -/
structure wq {α : Type} (r : R α) [Q : Kt α] : Prop where
  run : @Z.wq α r Q
def wpx {α : Type} (E : Nat → List D → Store → Prop) (r : R α) (Q : α → Store → Prop) : Prop := @wq α r ⟨Q, E⟩
def wp {α : Type} (r : R α) (Q : α → Store → Prop) : Prop := @wq α r ⟨Q, nE⟩
theorem wq_eq : @wq = @Z.wq := by
  funext α r Q
  exact propext ⟨fun h => @wq.run α r Q h, fun h => @wq.mk α r Q h⟩
theorem wpx_eq : @wpx = @Z.wpx := by
  funext α E r Q
  exact propext ⟨fun h => @wq.run α r ⟨Q, E⟩ h, fun h => @wq.mk α r ⟨Q, E⟩ h⟩
theorem wp_eq : @wp = @Z.wp := by
  funext α r Q
  exact propext ⟨fun h => @wq.run α r ⟨Q, nE⟩ h, fun h => @wq.mk α r ⟨Q, nE⟩ h⟩
def lcTurn (r : Nat) (c : Ls → Store → R Bool) (e : Ls → Store → R D) (I : List D → Store → Prop) (acc : List D) (ls1 : Ls) (S : Store) : Prop :=
  wp (c ls1 S) fun t S1 => if t = true then wp (e ls1 S1) fun y S2 => S2[r]? = some (.lst acc) ∧ acc.length < sizeLine ∧ I (acc ++ [y]) (S2.set r (.lst (acc ++ [y]))) else S1[r]? = some (.lst acc) ∧ I acc S1
theorem lcTurn_eq : @lcTurn = @Z.lcTurn := by
  funext r c e I acc ls1 S
  unfold lcTurn Z.lcTurn
  rw [wp_eq]
section
variable {F : Nat → List D → Store → R D} {FK : Nat → List Str → List D → List D → Store → R D} {m : Nat} {ls : Ls} {S : Store}
@[simp] theorem p_nil : (ev F FK m .nil).part ls S = .ok none S := (rfl)
end
theorem wp_def {α : Type} {r : R α} {Q : α → Store → Prop} : wp r Q ↔ ∃ a S, r = .ok a S ∧ Q a S := by have hZ := @Z.wp_def; (try rw [← wpx_eq] at hZ); (try rw [← wp_eq] at hZ); (try rw [← lcTurn_eq] at hZ); (try rw [← wq_eq] at hZ); first | exact hZ | (apply hZ <;> assumption)
theorem wp_mono {α : Type} {r : R α} {Q : α → Store → Prop} {Q' : Kt α} (h : wp r Q) (k : ∀ a S, Q a S → Q'.f a S) : @wq α r Q' := by have hZ := @Z.wp_mono; (try rw [← wpx_eq] at hZ); (try rw [← wp_eq] at hZ); (try rw [← lcTurn_eq] at hZ); (try rw [← wq_eq] at hZ); first | exact hZ | (apply hZ <;> assumption)
theorem wpx_mono {α : Type} {r : R α} {E : Nat → List D → Store → Prop} {Q : α → Store → Prop} {Q' : Kt α} (h : wpx E r Q) (k : ∀ a S, Q a S → Q'.f a S) (k' : ∀ c ds S, E c ds S → Q'.e c ds S) : @wq α r Q' := by have hZ := @Z.wpx_mono; (try rw [← wpx_eq] at hZ); (try rw [← wp_eq] at hZ); (try rw [← lcTurn_eq] at hZ); (try rw [← wq_eq] at hZ); first | exact hZ | (apply hZ <;> assumption)
@[simp] theorem wp_ok {α : Type} {a : α} {S : Store} {Q : Kt α} : @wq α (.ok a S) Q = Q.f a S := by have hZ := @Z.wp_ok; (try rw [← wpx_eq] at hZ); (try rw [← wp_eq] at hZ); (try rw [← lcTurn_eq] at hZ); (try rw [← wq_eq] at hZ); first | exact hZ | (apply hZ <;> assumption)
@[simp] theorem wp_exc {α : Type} {c : Nat} {ds : List D} {S : Store} {Q : Kt α} : @wq α (.exc c ds S) Q = Q.e c ds S := by have hZ := @Z.wp_exc; (try rw [← wpx_eq] at hZ); (try rw [← wp_eq] at hZ); (try rw [← lcTurn_eq] at hZ); (try rw [← wq_eq] at hZ); first | exact hZ | (apply hZ <;> assumption)
@[simp] theorem wp_bad {α : Type} {Q : Kt α} : @wq α .bad Q = False := by have hZ := @Z.wp_bad; (try rw [← wpx_eq] at hZ); (try rw [← wp_eq] at hZ); (try rw [← lcTurn_eq] at hZ); (try rw [← wq_eq] at hZ); first | exact hZ | (apply hZ <;> assumption)
@[simp] theorem wp_bind {α β : Type} {r : R α} {k : α → Store → R β} {Q : Kt β} : @wq β (r.bind k) Q = wpx Q.e r fun a S => @wq β (k a S) Q := by have hZ := @Z.wp_bind; (try rw [← wpx_eq] at hZ); (try rw [← wp_eq] at hZ); (try rw [← lcTurn_eq] at hZ); (try rw [← wq_eq] at hZ); first | exact hZ | (apply hZ <;> assumption)
@[simp] theorem wp_bindS {α : Type} {r : R α} {ls : Ls} {k : α → Store → R Fl} {Q : Kt Fl} : @wq Fl (bindS r ls k) Q = wpx (xF Q ls) r fun a S => @wq Fl (k a S) Q := by have hZ := @Z.wp_bindS; (try rw [← wpx_eq] at hZ); (try rw [← wp_eq] at hZ); (try rw [← lcTurn_eq] at hZ); (try rw [← wq_eq] at hZ); first | exact hZ | (apply hZ <;> assumption)
@[simp] theorem wp_opt {α : Type} {o : Option α} {S : Store} {Q : Kt α} : @wq α (opt o S) Q = match o with | some a => Q.f a S | none => False := by have hZ := @Z.wp_opt; (try rw [← wpx_eq] at hZ); (try rw [← wp_eq] at hZ); (try rw [← lcTurn_eq] at hZ); (try rw [← wq_eq] at hZ); first | exact hZ | (apply hZ <;> assumption)
@[simp] theorem wp_new {o : O} {S : Store} {Q : Kt D} : @wq D (new o S) Q = Q.f (.ref S.length) (S ++ [o]) := by have hZ := @Z.wp_new; (try rw [← wpx_eq] at hZ); (try rw [← wp_eq] at hZ); (try rw [← lcTurn_eq] at hZ); (try rw [← wq_eq] at hZ); first | exact hZ | (apply hZ <;> assumption)
@[simp] theorem wp_ite {α : Type} {c : Prop} [Decidable c] {a b : R α} {Q : Kt α} : @wq α (if c then a else b) Q = if c then @wq α a Q else @wq α b Q := by have hZ := @Z.wp_ite; (try rw [← wpx_eq] at hZ); (try rw [← wp_eq] at hZ); (try rw [← lcTurn_eq] at hZ); (try rw [← wq_eq] at hZ); first | exact hZ | (apply hZ <;> assumption)
section
variable {F : Nat → List D → Store → R D} {FK : Nat → List Str → List D → List D → Store → R D} {m : Nat} {ls : Ls} {S : Store} {Q : Kt D} {QB : Kt Bool} {QL : Kt (List D)} {QI : Kt ItV} {QF : Kt Fl}
@[simp] theorem e_non : @wq _ ((ev F FK m .non).val ls S) Q = Q.f .non S := by have hZ := @Z.e_non; (try rw [← wpx_eq] at hZ); (try rw [← wp_eq] at hZ); (try rw [← lcTurn_eq] at hZ); (try rw [← wq_eq] at hZ); first | exact hZ | (apply hZ <;> assumption)
@[simp] theorem e_bl {b} : @wq _ ((ev F FK m (.bl b)).val ls S) Q = Q.f (.bl b) S := by have hZ := @Z.e_bl; (try rw [← wpx_eq] at hZ); (try rw [← wp_eq] at hZ); (try rw [← lcTurn_eq] at hZ); (try rw [← wq_eq] at hZ); first | exact hZ | (apply hZ <;> assumption)
@[simp] theorem e_int {b} : @wq _ ((ev F FK m (.int b)).val ls S) Q = Q.f (.int b) S := by have hZ := @Z.e_int; (try rw [← wpx_eq] at hZ); (try rw [← wp_eq] at hZ); (try rw [← lcTurn_eq] at hZ); (try rw [← wq_eq] at hZ); first | exact hZ | (apply hZ <;> assumption)
@[simp] theorem e_str {b} : @wq _ ((ev F FK m (.str b)).val ls S) Q = Q.f (.str b) S := by have hZ := @Z.e_str; (try rw [← wpx_eq] at hZ); (try rw [← wp_eq] at hZ); (try rw [← lcTurn_eq] at hZ); (try rw [← wq_eq] at hZ); first | exact hZ | (apply hZ <;> assumption)
theorem e_v' {i} : @wq _ ((ev F FK m (.v i)).val ls S) Q = @wq _ (match ls[i]? with | some (some d) => .ok d S | _ => .bad) Q := by have hZ := @Z.e_v'; (try rw [← wpx_eq] at hZ); (try rw [← wp_eq] at hZ); (try rw [← lcTurn_eq] at hZ); (try rw [← wq_eq] at hZ); first | exact hZ | (apply hZ <;> assumption)
@[simp] theorem e_v {i} : @wq _ ((ev F FK m (.v i)).val ls S) Q = match ls[i]? with | some (some d) => Q.f d S | _ => False := by have hZ := @Z.e_v; (try rw [← wpx_eq] at hZ); (try rw [← wp_eq] at hZ); (try rw [← lcTurn_eq] at hZ); (try rw [← wq_eq] at hZ); first | exact hZ | (apply hZ <;> assumption)
@[simp] theorem e_bin {o a b} : @wq _ ((ev F FK m (.bin o a b)).val ls S) Q = wpx Q.e ((ev F FK m a).val ls S) fun x S1 => wpx Q.e ((ev F FK m b).val ls S1) fun y S2 => @wq _ (binD o x y S2) Q := by have hZ := @Z.e_bin; (try rw [← wpx_eq] at hZ); (try rw [← wp_eq] at hZ); (try rw [← lcTurn_eq] at hZ); (try rw [← wq_eq] at hZ); first | exact hZ | (apply hZ <;> assumption)
@[simp] theorem e_neg {a} : @wq _ ((ev F FK m (.neg a)).val ls S) Q = wpx Q.e ((ev F FK m a).val ls S) fun x S1 => @wq _ (match x with | .int i => .ok (.int (-i)) S1 | _ => .bad) Q := by have hZ := @Z.e_neg; (try rw [← wpx_eq] at hZ); (try rw [← wp_eq] at hZ); (try rw [← lcTurn_eq] at hZ); (try rw [← wq_eq] at hZ); first | exact hZ | (apply hZ <;> assumption)
@[simp] theorem e_no {a} : @wq _ ((ev F FK m (.no a)).val ls S) Q = wpx Q.e ((ev F FK m a).val ls S) fun x S1 => @wq _ (opt ((truD x S1).map fun k => .bl (!k)) S1) Q := by have hZ := @Z.e_no; (try rw [← wpx_eq] at hZ); (try rw [← wp_eq] at hZ); (try rw [← lcTurn_eq] at hZ); (try rw [← wq_eq] at hZ); first | exact hZ | (apply hZ <;> assumption)
@[simp] theorem t_no {a} : @wq _ ((ev F FK m (.no a)).tst ls S) QB = wpx QB.e ((ev F FK m a).tst ls S) fun k S1 => QB.f (!k) S1 := by have hZ := @Z.t_no; (try rw [← wpx_eq] at hZ); (try rw [← wp_eq] at hZ); (try rw [← lcTurn_eq] at hZ); (try rw [← wq_eq] at hZ); first | exact hZ | (apply hZ <;> assumption)
@[simp] theorem e_bo {k es} : @wq _ ((ev F FK m (.bo k es)).val ls S) Q = @wq _ ((ev F FK m es).bov k ls S) Q := by have hZ := @Z.e_bo; (try rw [← wpx_eq] at hZ); (try rw [← wp_eq] at hZ); (try rw [← lcTurn_eq] at hZ); (try rw [← wq_eq] at hZ); first | exact hZ | (apply hZ <;> assumption)
@[simp] theorem t_bo {k es} : @wq _ ((ev F FK m (.bo k es)).tst ls S) QB = @wq _ ((ev F FK m es).bot k ls S) QB := by have hZ := @Z.t_bo; (try rw [← wpx_eq] at hZ); (try rw [← wp_eq] at hZ); (try rw [← lcTurn_eq] at hZ); (try rw [← wq_eq] at hZ); first | exact hZ | (apply hZ <;> assumption)
@[simp] theorem bv_one {k a} : @wq _ ((ev F FK m (.cons a .nil)).bov k ls S) Q = @wq _ ((ev F FK m a).val ls S) Q := by have hZ := @Z.bv_one; (try rw [← wpx_eq] at hZ); (try rw [← wp_eq] at hZ); (try rw [← lcTurn_eq] at hZ); (try rw [← wq_eq] at hZ); first | exact hZ | (apply hZ <;> assumption)
@[simp] theorem bt_one {k a} : @wq _ ((ev F FK m (.cons a .nil)).bot k ls S) QB = @wq _ ((ev F FK m a).tst ls S) QB := by have hZ := @Z.bt_one; (try rw [← wpx_eq] at hZ); (try rw [← wp_eq] at hZ); (try rw [← lcTurn_eq] at hZ); (try rw [← wq_eq] at hZ); first | exact hZ | (apply hZ <;> assumption)
@[simp] theorem bv_cons {k a b r} : @wq _ ((ev F FK m (.cons a (.cons b r))).bov k ls S) Q = wpx Q.e ((ev F FK m a).val ls S) fun x S1 => @wq _ (match truD x S1 with | some t => if t = k then (ev F FK m (.cons b r)).bov k ls S1 else .ok x S1 | none => .bad) Q := by have hZ := @Z.bv_cons; (try rw [← wpx_eq] at hZ); (try rw [← wp_eq] at hZ); (try rw [← lcTurn_eq] at hZ); (try rw [← wq_eq] at hZ); first | exact hZ | (apply hZ <;> assumption)
@[simp] theorem bt_cons {k a b r} : @wq _ ((ev F FK m (.cons a (.cons b r))).bot k ls S) QB = wpx QB.e ((ev F FK m a).tst ls S) fun t S1 => if t = k then @wq _ ((ev F FK m (.cons b r)).bot k ls S1) QB else QB.f t S1 := by have hZ := @Z.bt_cons; (try rw [← wpx_eq] at hZ); (try rw [← wp_eq] at hZ); (try rw [← lcTurn_eq] at hZ); (try rw [← wq_eq] at hZ); first | exact hZ | (apply hZ <;> assumption)
@[simp] theorem e_cmp {o a b} : @wq _ ((ev F FK m (.cmp o a b)).val ls S) Q = wpx Q.e ((ev F FK m a).val ls S) fun x S1 => wpx Q.e ((ev F FK m b).val ls S1) fun y S2 => @wq _ (opt ((cmpD o x y S2).map .bl) S2) Q := by have hZ := @Z.e_cmp; (try rw [← wpx_eq] at hZ); (try rw [← wp_eq] at hZ); (try rw [← lcTurn_eq] at hZ); (try rw [← wq_eq] at hZ); first | exact hZ | (apply hZ <;> assumption)
@[simp] theorem t_cmp {o a b} : @wq _ ((ev F FK m (.cmp o a b)).tst ls S) QB = wpx QB.e ((ev F FK m a).val ls S) fun x S1 => wpx QB.e ((ev F FK m b).val ls S1) fun y S2 => @wq _ (opt (cmpD o x y S2) S2) QB := by have hZ := @Z.t_cmp; (try rw [← wpx_eq] at hZ); (try rw [← wp_eq] at hZ); (try rw [← lcTurn_eq] at hZ); (try rw [← wq_eq] at hZ); first | exact hZ | (apply hZ <;> assumption)
@[simp] theorem e_chn {o p a b c} : @wq _ ((ev F FK m (.chn o p a b c)).val ls S) Q = wpx Q.e ((ev F FK m a).val ls S) fun x S1 => wpx Q.e ((ev F FK m b).val ls S1) fun y S2 => @wq _ (match cmpD o x y S2 with
    | some true => ((ev F FK m c).val ls S2).bind fun z S3 => opt ((cmpD p y z S3).map .bl) S3
    | some false => .ok (.bl false) S2
    | none => .bad) Q := by have hZ := @Z.e_chn; (try rw [← wpx_eq] at hZ); (try rw [← wp_eq] at hZ); (try rw [← lcTurn_eq] at hZ); (try rw [← wq_eq] at hZ); first | exact hZ | (apply hZ <;> assumption)
@[simp] theorem e_ite {c a b} : @wq _ ((ev F FK m (.ite c a b)).val ls S) Q = wpx Q.e ((ev F FK m c).tst ls S) fun k S1 => if k then @wq _ ((ev F FK m a).val ls S1) Q else @wq _ ((ev F FK m b).val ls S1) Q := by have hZ := @Z.e_ite; (try rw [← wpx_eq] at hZ); (try rw [← wp_eq] at hZ); (try rw [← lcTurn_eq] at hZ); (try rw [← wq_eq] at hZ); first | exact hZ | (apply hZ <;> assumption)
@[simp] theorem e_tup {es} : @wq _ ((ev F FK m (.tup es)).val ls S) Q = wpx Q.e ((ev F FK m es).lst ls S) fun ds S1 => if ds.length ≤ sizeLine then Q.f (.tup ds) S1 else False := by have hZ := @Z.e_tup; (try rw [← wpx_eq] at hZ); (try rw [← wp_eq] at hZ); (try rw [← lcTurn_eq] at hZ); (try rw [← wq_eq] at hZ); first | exact hZ | (apply hZ <;> assumption)
@[simp] theorem e_lst {es} : @wq _ ((ev F FK m (.lst es)).val ls S) Q = wpx Q.e ((ev F FK m es).lst ls S) fun ds S1 => if ds.length ≤ sizeLine then Q.f (.ref S1.length) (S1 ++ [.lst ds]) else False := by have hZ := @Z.e_lst; (try rw [← wpx_eq] at hZ); (try rw [← wp_eq] at hZ); (try rw [← lcTurn_eq] at hZ); (try rw [← wq_eq] at hZ); first | exact hZ | (apply hZ <;> assumption)
@[simp] theorem l_nil : @wq _ ((ev F FK m .nil).lst ls S) QL = QL.f [] S := by have hZ := @Z.l_nil; (try rw [← wpx_eq] at hZ); (try rw [← wp_eq] at hZ); (try rw [← lcTurn_eq] at hZ); (try rw [← wq_eq] at hZ); first | exact hZ | (apply hZ <;> assumption)
@[simp] theorem l_cons {a r} : @wq _ ((ev F FK m (.cons a r)).lst ls S) QL = wpx QL.e ((ev F FK m a).val ls S) fun x S1 => wpx QL.e ((ev F FK m r).lst ls S1) fun xs S2 => QL.f (x :: xs) S2 := by have hZ := @Z.l_cons; (try rw [← wpx_eq] at hZ); (try rw [← wp_eq] at hZ); (try rw [← lcTurn_eq] at hZ); (try rw [← wq_eq] at hZ); first | exact hZ | (apply hZ <;> assumption)
@[simp] theorem e_ix {a i} : @wq _ ((ev F FK m (.ix a i)).val ls S) Q = wpx Q.e ((ev F FK m a).val ls S) fun x S1 => wpx Q.e ((ev F FK m i).val ls S1) fun y S2 => @wq _ (opt (ixD x y S2) S2) Q := by have hZ := @Z.e_ix; (try rw [← wpx_eq] at hZ); (try rw [← wp_eq] at hZ); (try rw [← lcTurn_eq] at hZ); (try rw [← wq_eq] at hZ); first | exact hZ | (apply hZ <;> assumption)
theorem part_val {e} (h : (ev F FK m e).nl = false) {QO : Kt (Option Int)} : @wq _ ((ev F FK m e).part ls S) QO = wpx QO.e ((ev F FK m e).val ls S) fun x S1 => match x with | .int i => QO.f (some i) S1 | _ => False := by have hZ := @Z.part_val; (try rw [← wpx_eq] at hZ); (try rw [← wp_eq] at hZ); (try rw [← lcTurn_eq] at hZ); (try rw [← wq_eq] at hZ); first | exact hZ | (apply hZ <;> assumption)
@[simp] theorem p_v {i} {QO : Kt (Option Int)} : @wq _ ((ev F FK m (.v i)).part ls S) QO = wpx QO.e ((ev F FK m (.v i)).val ls S) fun x S1 => match x with | .int i => QO.f (some i) S1 | _ => False := by have hZ := @Z.p_v; (try rw [← wpx_eq] at hZ); (try rw [← wp_eq] at hZ); (try rw [← lcTurn_eq] at hZ); (try rw [← wq_eq] at hZ); first | exact hZ | (apply hZ <;> assumption)
@[simp] theorem p_int {i} {QO : Kt (Option Int)} : @wq _ ((ev F FK m (.int i)).part ls S) QO = QO.f (some i) S := by have hZ := @Z.p_int; (try rw [← wpx_eq] at hZ); (try rw [← wp_eq] at hZ); (try rw [← lcTurn_eq] at hZ); (try rw [← wq_eq] at hZ); first | exact hZ | (apply hZ <;> assumption)
@[simp] theorem p_bin {o a b} {QO : Kt (Option Int)} : @wq _ ((ev F FK m (.bin o a b)).part ls S) QO = wpx QO.e ((ev F FK m (.bin o a b)).val ls S) fun x S1 => match x with | .int i => QO.f (some i) S1 | _ => False := by have hZ := @Z.p_bin; (try rw [← wpx_eq] at hZ); (try rw [← wp_eq] at hZ); (try rw [← lcTurn_eq] at hZ); (try rw [← wq_eq] at hZ); first | exact hZ | (apply hZ <;> assumption)
@[simp] theorem p_call {f es} {QO : Kt (Option Int)} : @wq _ ((ev F FK m (.call f es)).part ls S) QO = wpx QO.e ((ev F FK m (.call f es)).val ls S) fun x S1 => match x with | .int i => QO.f (some i) S1 | _ => False := by have hZ := @Z.p_call; (try rw [← wpx_eq] at hZ); (try rw [← wp_eq] at hZ); (try rw [← lcTurn_eq] at hZ); (try rw [← wq_eq] at hZ); first | exact hZ | (apply hZ <;> assumption)
@[simp] theorem p_bi {f es} {QO : Kt (Option Int)} : @wq _ ((ev F FK m (.bi f es)).part ls S) QO = wpx QO.e ((ev F FK m (.bi f es)).val ls S) fun x S1 => match x with | .int i => QO.f (some i) S1 | _ => False := by have hZ := @Z.p_bi; (try rw [← wpx_eq] at hZ); (try rw [← wp_eq] at hZ); (try rw [← lcTurn_eq] at hZ); (try rw [← wq_eq] at hZ); first | exact hZ | (apply hZ <;> assumption)
@[simp] theorem e_sl {a lo hi} : @wq _ ((ev F FK m (.sl a lo hi)).val ls S) Q = wpx Q.e ((ev F FK m a).val ls S) fun x S1 => wpx Q.e ((ev F FK m lo).part ls S1) fun l S2 => wpx Q.e ((ev F FK m hi).part ls S2) fun u S3 => @wq _ (slD x l u S3) Q := by have hZ := @Z.e_sl; (try rw [← wpx_eq] at hZ); (try rw [← wp_eq] at hZ); (try rw [← lcTurn_eq] at hZ); (try rw [← wq_eq] at hZ); first | exact hZ | (apply hZ <;> assumption)
@[simp] theorem e_dnew : @wq _ ((ev F FK m .dnew).val ls S) Q = Q.f (.ref S.length) (S ++ [.dct []]) := by have hZ := @Z.e_dnew; (try rw [← wpx_eq] at hZ); (try rw [← wp_eq] at hZ); (try rw [← lcTurn_eq] at hZ); (try rw [← wq_eq] at hZ); first | exact hZ | (apply hZ <;> assumption)
@[simp] theorem e_call {f es} : @wq _ ((ev F FK m (.call f es)).val ls S) Q = wpx Q.e ((ev F FK m es).lst ls S) fun ds S1 => @wq _ (F f ds S1) Q := by have hZ := @Z.e_call; (try rw [← wpx_eq] at hZ); (try rw [← wp_eq] at hZ); (try rw [← lcTurn_eq] at hZ); (try rw [← wq_eq] at hZ); first | exact hZ | (apply hZ <;> assumption)
@[simp] theorem e_callk {f ks es eks} : @wq _ ((ev F FK m (.callk f ks es eks)).val ls S) Q = wpx Q.e ((ev F FK m es).lst ls S) fun ds S1 => wpx Q.e ((ev F FK m eks).lst ls S1) fun es S2 => @wq _ (FK f ks ds es S2) Q := by have hZ := @Z.e_callk; (try rw [← wpx_eq] at hZ); (try rw [← wp_eq] at hZ); (try rw [← lcTurn_eq] at hZ); (try rw [← wq_eq] at hZ); first | exact hZ | (apply hZ <;> assumption)
@[simp] theorem e_bi {f es} : @wq _ ((ev F FK m (.bi f es)).val ls S) Q = wpx Q.e ((ev F FK m es).lst ls S) fun ds S1 => @wq _ (fbD f ds S1) Q := by have hZ := @Z.e_bi; (try rw [← wpx_eq] at hZ); (try rw [← wp_eq] at hZ); (try rw [← lcTurn_eq] at hZ); (try rw [← wq_eq] at hZ); first | exact hZ | (apply hZ <;> assumption)
@[simp] theorem e_isi {t a} : @wq _ ((ev F FK m (.isi t a)).val ls S) Q = wpx Q.e ((ev F FK m a).val ls S) fun x S1 => @wq _ (opt ((isiD t x S1).map .bl) S1) Q := by have hZ := @Z.e_isi; (try rw [← wpx_eq] at hZ); (try rw [← wp_eq] at hZ); (try rw [← lcTurn_eq] at hZ); (try rw [← wq_eq] at hZ); first | exact hZ | (apply hZ <;> assumption)
@[simp] theorem t_isi {t a} : @wq _ ((ev F FK m (.isi t a)).tst ls S) QB = wpx QB.e ((ev F FK m a).val ls S) fun x S1 => @wq _ (opt (isiD t x S1) S1) QB := by have hZ := @Z.t_isi; (try rw [← wpx_eq] at hZ); (try rw [← wp_eq] at hZ); (try rw [← lcTurn_eq] at hZ); (try rw [← wq_eq] at hZ); first | exact hZ | (apply hZ <;> assumption)
@[simp] theorem e_mt {k a es} : @wq _ ((ev F FK m (.mt k a es)).val ls S) Q = wpx Q.e ((ev F FK m a).val ls S) fun x S1 => if mtTy k x S1 then wpx Q.e ((ev F FK m es).lst ls S1) fun ds S2 => @wq _ (mtD k x ds S2) Q else False := by have hZ := @Z.e_mt; (try rw [← wpx_eq] at hZ); (try rw [← wp_eq] at hZ); (try rw [← lcTurn_eq] at hZ); (try rw [← wq_eq] at hZ); first | exact hZ | (apply hZ <;> assumption)
@[simp] theorem e_lc {own t it c e} : @wq _ ((ev F FK m (.lc own t it c e)).val ls S) Q = wpx Q.e ((ev F FK m it).itv ls S) fun J S1 =>
    @wq _ (lcL (fun d S ls => asgT t d S ls) (fun ls S => (ev F FK m c).cond ls S) (fun ls S => (ev F FK m e).val ls S) J S1.length (wipeD ls (own.map (·.2))) m 0 (S1 ++ [.lst []])) Q := by have hZ := @Z.e_lc; (try rw [← wpx_eq] at hZ); (try rw [← wp_eq] at hZ); (try rw [← lcTurn_eq] at hZ); (try rw [← wq_eq] at hZ); first | exact hZ | (apply hZ <;> assumption)
@[simp] theorem i_q {a} : @wq _ ((ev F FK m (.q a)).itv ls S) QI = wpx QI.e ((ev F FK m a).val ls S) fun x S1 => @wq _ (match x with
    | .tup ds => .ok (.tup ds) S1
    | .rol ds => .ok (.rol ds) S1
    | .ref n => match S1[n]? with
      | some (.lst _) => .ok (.obj n) S1
      | some (.dcl _) => .ok (.keys n) S1
      | _ => .bad
    | _ => .bad) QI := by have hZ := @Z.i_q; (try rw [← wpx_eq] at hZ); (try rw [← wp_eq] at hZ); (try rw [← lcTurn_eq] at hZ); (try rw [← wq_eq] at hZ); first | exact hZ | (apply hZ <;> assumption)
@[simp] theorem i_qr {a} : @wq _ ((ev F FK m (.qr a)).itv ls S) QI = wpx QI.e ((ev F FK m a).val ls S) fun x S1 => match x with
    | .int i => if -(2 ^ 62) ≤ i ∧ i < 2 ^ 62 then QI.f (.rng 0 i.toNat) S1 else False
    | _ => False := by have hZ := @Z.i_qr; (try rw [← wpx_eq] at hZ); (try rw [← wp_eq] at hZ); (try rw [← lcTurn_eq] at hZ); (try rw [← wq_eq] at hZ); first | exact hZ | (apply hZ <;> assumption)
@[simp] theorem i_qr2 {a b} : @wq _ ((ev F FK m (.qr2 a b)).itv ls S) QI = wpx QI.e ((ev F FK m a).val ls S) fun x S1 => wpx QI.e ((ev F FK m b).val ls S1) fun y S2 => match x, y with
    | .int i, .int j => if -(2 ^ 62) ≤ i ∧ i < 2 ^ 62 ∧ -(2 ^ 62) ≤ j ∧ j < 2 ^ 62 then QI.f (.rng i (j - i).toNat) S2 else False
    | _, _ => False := by have hZ := @Z.i_qr2; (try rw [← wpx_eq] at hZ); (try rw [← wp_eq] at hZ); (try rw [← lcTurn_eq] at hZ); (try rw [← wq_eq] at hZ); first | exact hZ | (apply hZ <;> assumption)
theorem t_of' {e} (h : (ev F FK m e).tst = fun ls S => tru ((ev F FK m e).val ls S)) : @wq _ ((ev F FK m e).tst ls S) QB = wpx QB.e ((ev F FK m e).val ls S) fun x S1 => @wq _ (opt (truD x S1) S1) QB := by have hZ := @Z.t_of'; (try rw [← wpx_eq] at hZ); (try rw [← wp_eq] at hZ); (try rw [← lcTurn_eq] at hZ); (try rw [← wq_eq] at hZ); first | exact hZ | (apply hZ <;> assumption)
@[simp] theorem t_v {i} : @wq _ ((ev F FK m (.v i)).tst ls S) QB = wpx QB.e ((ev F FK m (.v i)).val ls S) fun x S1 => @wq _ (opt (truD x S1) S1) QB := by have hZ := @Z.t_v; (try rw [← wpx_eq] at hZ); (try rw [← wp_eq] at hZ); (try rw [← lcTurn_eq] at hZ); (try rw [← wq_eq] at hZ); first | exact hZ | (apply hZ <;> assumption)
@[simp] theorem t_bl {b} : @wq _ ((ev F FK m (.bl b)).tst ls S) QB = QB.f b S := by have hZ := @Z.t_bl; (try rw [← wpx_eq] at hZ); (try rw [← wp_eq] at hZ); (try rw [← lcTurn_eq] at hZ); (try rw [← wq_eq] at hZ); first | exact hZ | (apply hZ <;> assumption)
@[simp] theorem t_call {f es} : @wq _ ((ev F FK m (.call f es)).tst ls S) QB = wpx QB.e ((ev F FK m (.call f es)).val ls S) fun x S1 => @wq _ (opt (truD x S1) S1) QB := by have hZ := @Z.t_call; (try rw [← wpx_eq] at hZ); (try rw [← wp_eq] at hZ); (try rw [← lcTurn_eq] at hZ); (try rw [← wq_eq] at hZ); first | exact hZ | (apply hZ <;> assumption)
@[simp] theorem t_callk {f ks es eks} : @wq _ ((ev F FK m (.callk f ks es eks)).tst ls S) QB = wpx QB.e ((ev F FK m (.callk f ks es eks)).val ls S) fun x S1 => @wq _ (opt (truD x S1) S1) QB := by have hZ := @Z.t_callk; (try rw [← wpx_eq] at hZ); (try rw [← wp_eq] at hZ); (try rw [← lcTurn_eq] at hZ); (try rw [← wq_eq] at hZ); first | exact hZ | (apply hZ <;> assumption)
@[simp] theorem t_bi {f es} : @wq _ ((ev F FK m (.bi f es)).tst ls S) QB = wpx QB.e ((ev F FK m (.bi f es)).val ls S) fun x S1 => @wq _ (opt (truD x S1) S1) QB := by have hZ := @Z.t_bi; (try rw [← wpx_eq] at hZ); (try rw [← wp_eq] at hZ); (try rw [← lcTurn_eq] at hZ); (try rw [← wq_eq] at hZ); first | exact hZ | (apply hZ <;> assumption)
@[simp] theorem t_ix {a i} : @wq _ ((ev F FK m (.ix a i)).tst ls S) QB = wpx QB.e ((ev F FK m (.ix a i)).val ls S) fun x S1 => @wq _ (opt (truD x S1) S1) QB := by have hZ := @Z.t_ix; (try rw [← wpx_eq] at hZ); (try rw [← wp_eq] at hZ); (try rw [← lcTurn_eq] at hZ); (try rw [← wq_eq] at hZ); first | exact hZ | (apply hZ <;> assumption)
@[simp] theorem t_bin {o a i} : @wq _ ((ev F FK m (.bin o a i)).tst ls S) QB = wpx QB.e ((ev F FK m (.bin o a i)).val ls S) fun x S1 => @wq _ (opt (truD x S1) S1) QB := by have hZ := @Z.t_bin; (try rw [← wpx_eq] at hZ); (try rw [← wp_eq] at hZ); (try rw [← lcTurn_eq] at hZ); (try rw [← wq_eq] at hZ); first | exact hZ | (apply hZ <;> assumption)
@[simp] theorem t_lc {own t it c e} : @wq _ ((ev F FK m (.lc own t it c e)).tst ls S) QB = wpx QB.e ((ev F FK m (.lc own t it c e)).val ls S) fun x S1 => @wq _ (opt (truD x S1) S1) QB := by have hZ := @Z.t_lc; (try rw [← wpx_eq] at hZ); (try rw [← wp_eq] at hZ); (try rw [← lcTurn_eq] at hZ); (try rw [← wq_eq] at hZ); first | exact hZ | (apply hZ <;> assumption)
@[simp] theorem t_chn {o p a b c} : @wq _ ((ev F FK m (.chn o p a b c)).tst ls S) QB = wpx QB.e ((ev F FK m (.chn o p a b c)).val ls S) fun x S1 => @wq _ (opt (truD x S1) S1) QB := by have hZ := @Z.t_chn; (try rw [← wpx_eq] at hZ); (try rw [← wp_eq] at hZ); (try rw [← lcTurn_eq] at hZ); (try rw [← wq_eq] at hZ); first | exact hZ | (apply hZ <;> assumption)
@[simp] theorem k_nil : @wq _ ((ev F FK m .nil).cond ls S) QB = QB.f true S := by have hZ := @Z.k_nil; (try rw [← wpx_eq] at hZ); (try rw [← wp_eq] at hZ); (try rw [← lcTurn_eq] at hZ); (try rw [← wq_eq] at hZ); first | exact hZ | (apply hZ <;> assumption)
@[simp] theorem k_cmp {o a b} : @wq _ ((ev F FK m (.cmp o a b)).cond ls S) QB = @wq _ ((ev F FK m (.cmp o a b)).tst ls S) QB := by have hZ := @Z.k_cmp; (try rw [← wpx_eq] at hZ); (try rw [← wp_eq] at hZ); (try rw [← lcTurn_eq] at hZ); (try rw [← wq_eq] at hZ); first | exact hZ | (apply hZ <;> assumption)
@[simp] theorem k_no {a} : @wq _ ((ev F FK m (.no a)).cond ls S) QB = @wq _ ((ev F FK m (.no a)).tst ls S) QB := by have hZ := @Z.k_no; (try rw [← wpx_eq] at hZ); (try rw [← wp_eq] at hZ); (try rw [← lcTurn_eq] at hZ); (try rw [← wq_eq] at hZ); first | exact hZ | (apply hZ <;> assumption)
@[simp] theorem k_bo {k es} : @wq _ ((ev F FK m (.bo k es)).cond ls S) QB = @wq _ ((ev F FK m (.bo k es)).tst ls S) QB := by have hZ := @Z.k_bo; (try rw [← wpx_eq] at hZ); (try rw [← wp_eq] at hZ); (try rw [← lcTurn_eq] at hZ); (try rw [← wq_eq] at hZ); first | exact hZ | (apply hZ <;> assumption)
@[simp] theorem k_isi {t a} : @wq _ ((ev F FK m (.isi t a)).cond ls S) QB = @wq _ ((ev F FK m (.isi t a)).tst ls S) QB := by have hZ := @Z.k_isi; (try rw [← wpx_eq] at hZ); (try rw [← wp_eq] at hZ); (try rw [← lcTurn_eq] at hZ); (try rw [← wq_eq] at hZ); first | exact hZ | (apply hZ <;> assumption)
@[simp] theorem k_call {f es} : @wq _ ((ev F FK m (.call f es)).cond ls S) QB = @wq _ ((ev F FK m (.call f es)).tst ls S) QB := by have hZ := @Z.k_call; (try rw [← wpx_eq] at hZ); (try rw [← wp_eq] at hZ); (try rw [← lcTurn_eq] at hZ); (try rw [← wq_eq] at hZ); first | exact hZ | (apply hZ <;> assumption)
@[simp] theorem k_chn {o p a b c} : @wq _ ((ev F FK m (.chn o p a b c)).cond ls S) QB = @wq _ ((ev F FK m (.chn o p a b c)).tst ls S) QB := by have hZ := @Z.k_chn; (try rw [← wpx_eq] at hZ); (try rw [← wp_eq] at hZ); (try rw [← lcTurn_eq] at hZ); (try rw [← wq_eq] at hZ); first | exact hZ | (apply hZ <;> assumption)
@[simp] theorem k_v {i} : @wq _ ((ev F FK m (.v i)).cond ls S) QB = @wq _ ((ev F FK m (.v i)).tst ls S) QB := by have hZ := @Z.k_v; (try rw [← wpx_eq] at hZ); (try rw [← wp_eq] at hZ); (try rw [← lcTurn_eq] at hZ); (try rw [← wq_eq] at hZ); first | exact hZ | (apply hZ <;> assumption)
@[simp] theorem k_ix {a i} : @wq _ ((ev F FK m (.ix a i)).cond ls S) QB = @wq _ ((ev F FK m (.ix a i)).tst ls S) QB := by have hZ := @Z.k_ix; (try rw [← wpx_eq] at hZ); (try rw [← wp_eq] at hZ); (try rw [← lcTurn_eq] at hZ); (try rw [← wq_eq] at hZ); first | exact hZ | (apply hZ <;> assumption)
@[simp] theorem k_bi {f es} : @wq _ ((ev F FK m (.bi f es)).cond ls S) QB = @wq _ ((ev F FK m (.bi f es)).tst ls S) QB := by have hZ := @Z.k_bi; (try rw [← wpx_eq] at hZ); (try rw [← wp_eq] at hZ); (try rw [← lcTurn_eq] at hZ); (try rw [← wq_eq] at hZ); first | exact hZ | (apply hZ <;> assumption)
@[simp] theorem s_nil : @wq _ (exS F FK m .nil ls S) QF = QF.f (.next ls) S := by have hZ := @Z.s_nil; (try rw [← wpx_eq] at hZ); (try rw [← wp_eq] at hZ); (try rw [← lcTurn_eq] at hZ); (try rw [← wq_eq] at hZ); first | exact hZ | (apply hZ <;> assumption)
@[simp] theorem s_cons {a r} : @wq _ (exS F FK m (.cons a r) ls S) QF = wpx QF.e (exS F FK m a ls S) fun fl S' => match fl with
    | .next ls' => @wq _ (exS F FK m r ls' S') QF
    | q => QF.f q S' := by have hZ := @Z.s_cons; (try rw [← wpx_eq] at hZ); (try rw [← wp_eq] at hZ); (try rw [← lcTurn_eq] at hZ); (try rw [← wq_eq] at hZ); first | exact hZ | (apply hZ <;> assumption)
@[simp] theorem s_ex {e} : @wq _ (exS F FK m (.ex e) ls S) QF = wpx (xF QF ls) ((ev F FK m e).val ls S) fun _ S1 => QF.f (.next ls) S1 := by have hZ := @Z.s_ex; (try rw [← wpx_eq] at hZ); (try rw [← wp_eq] at hZ); (try rw [← lcTurn_eq] at hZ); (try rw [← wq_eq] at hZ); first | exact hZ | (apply hZ <;> assumption)
@[simp] theorem s_set {i e} : @wq _ (exS F FK m (.set i e) ls S) QF = wpx (xF QF ls) ((ev F FK m e).val ls S) fun x S1 => QF.f (.next (ls.set i (some x))) S1 := by have hZ := @Z.s_set; (try rw [← wpx_eq] at hZ); (try rw [← wp_eq] at hZ); (try rw [← lcTurn_eq] at hZ); (try rw [← wq_eq] at hZ); first | exact hZ | (apply hZ <;> assumption)
@[simp] theorem s_slc {i own t it c e} : @wq _ (exS F FK m (.slc i own t it c e) ls S) QF = wpx (xF QF ls) ((ev F FK m (.lc own t it c e)).val ls S) fun x S1 => QF.f (.next (ls.set i (some x))) S1 := by have hZ := @Z.s_slc; (try rw [← wpx_eq] at hZ); (try rw [← wp_eq] at hZ); (try rw [← lcTurn_eq] at hZ); (try rw [← wq_eq] at hZ); first | exact hZ | (apply hZ <;> assumption)
@[simp] theorem s_asg {t e} : @wq _ (exS F FK m (.asg t e) ls S) QF = wpx (xF QF ls) ((ev F FK m e).val ls S) fun x S1 => match asgT t x S1 ls with | some ls' => QF.f (.next ls') S1 | none => False := by have hZ := @Z.s_asg; (try rw [← wpx_eq] at hZ); (try rw [← wp_eq] at hZ); (try rw [← lcTurn_eq] at hZ); (try rw [← wq_eq] at hZ); first | exact hZ | (apply hZ <;> assumption)
@[simp] theorem s_par2 {i j a b} : @wq _ (exS F FK m (.par2 i j a b) ls S) QF = wpx (xF QF ls) ((ev F FK m a).val ls S) fun x S1 => wpx (xF QF ls) ((ev F FK m b).val ls S1) fun y S2 => QF.f (.next ((ls.set i (some x)).set j (some y))) S2 := by have hZ := @Z.s_par2; (try rw [← wpx_eq] at hZ); (try rw [← wp_eq] at hZ); (try rw [← lcTurn_eq] at hZ); (try rw [← wq_eq] at hZ); first | exact hZ | (apply hZ <;> assumption)
@[simp] theorem s_par3 {i j l a b c} : @wq _ (exS F FK m (.par3 i j l a b c) ls S) QF = wpx (xF QF ls) ((ev F FK m a).val ls S) fun x S1 => wpx (xF QF ls) ((ev F FK m b).val ls S1) fun y S2 => wpx (xF QF ls) ((ev F FK m c).val ls S2) fun z S3 => QF.f (.next (((ls.set i (some x)).set j (some y)).set l (some z))) S3 := by have hZ := @Z.s_par3; (try rw [← wpx_eq] at hZ); (try rw [← wp_eq] at hZ); (try rw [← lcTurn_eq] at hZ); (try rw [← wq_eq] at hZ); first | exact hZ | (apply hZ <;> assumption)
@[simp] theorem s_aug {i o e} : @wq _ (exS F FK m (.aug i o e) ls S) QF = match ls[i]? with
    | some (some x) => wpx (xF QF ls) ((ev F FK m e).val ls S) fun y S1 => wpx (xF QF ls) (opt (augD o x y) S1) fun z S2 => QF.f (.next (ls.set i (some z))) S2
    | _ => False := by have hZ := @Z.s_aug; (try rw [← wpx_eq] at hZ); (try rw [← wp_eq] at hZ); (try rw [← lcTurn_eq] at hZ); (try rw [← wq_eq] at hZ); first | exact hZ | (apply hZ <;> assumption)
@[simp] theorem s_six {a i e} : @wq _ (exS F FK m (.six a i e) ls S) QF = wpx (xF QF ls) ((ev F FK m e).val ls S) fun x S1 => wpx (xF QF ls) ((ev F FK m a).val ls S1) fun y S2 => wpx (xF QF ls) ((ev F FK m i).val ls S2) fun z S3 => wpx (xF QF ls) (setIx y z x S3) fun _ S4 => QF.f (.next ls) S4 := by have hZ := @Z.s_six; (try rw [← wpx_eq] at hZ); (try rw [← wp_eq] at hZ); (try rw [← lcTurn_eq] at hZ); (try rw [← wq_eq] at hZ); first | exact hZ | (apply hZ <;> assumption)
@[simp] theorem s_aix {a i o e} : @wq _ (exS F FK m (.aix a i o e) ls S) QF = wpx (xF QF ls) ((ev F FK m a).val ls S) fun y S1 => wpx (xF QF ls) ((ev F FK m i).val ls S1) fun z S2 => wpx (xF QF ls) (opt (ixR y z S2) S2) fun x S2 => wpx (xF QF ls) ((ev F FK m e).val ls S2) fun w S3 =>
    wpx (xF QF ls) (opt (augD o x w) S3) fun u S3 => wpx (xF QF ls) (setIx y z u S3) fun _ S4 => QF.f (.next ls) S4 := by have hZ := @Z.s_aix; (try rw [← wpx_eq] at hZ); (try rw [← wp_eq] at hZ); (try rw [← lcTurn_eq] at hZ); (try rw [← wq_eq] at hZ); first | exact hZ | (apply hZ <;> assumption)
@[simp] theorem s_ite {c a b} : @wq _ (exS F FK m (.ite c a b) ls S) QF = wpx (xF QF ls) ((ev F FK m c).tst ls S) fun k S1 => if k then @wq _ (exS F FK m a ls S1) QF else @wq _ (exS F FK m b ls S1) QF := by have hZ := @Z.s_ite; (try rw [← wpx_eq] at hZ); (try rw [← wp_eq] at hZ); (try rw [← lcTurn_eq] at hZ); (try rw [← wq_eq] at hZ); first | exact hZ | (apply hZ <;> assumption)
@[simp] theorem s_whl {c b} : @wq _ (exS F FK m (.whl c b) ls S) QF = @wq _ (whlL (fun ls S => (ev F FK m c).tst ls S) (fun ls S => exS F FK m b ls S) m ls S) QF := by have hZ := @Z.s_whl; (try rw [← wpx_eq] at hZ); (try rw [← wp_eq] at hZ); (try rw [← lcTurn_eq] at hZ); (try rw [← wq_eq] at hZ); first | exact hZ | (apply hZ <;> assumption)
@[simp] theorem s_for {t it b} : @wq _ (exS F FK m (.for t it b) ls S) QF = wpx (xF QF ls) ((ev F FK m it).itv ls S) fun J S1 => @wq _ (forL (fun d S ls => asgT t d S ls) (fun ls S => exS F FK m b ls S) J m 0 ls S1) QF := by have hZ := @Z.s_for; (try rw [← wpx_eq] at hZ); (try rw [← wp_eq] at hZ); (try rw [← lcTurn_eq] at hZ); (try rw [← wq_eq] at hZ); first | exact hZ | (apply hZ <;> assumption)
@[simp] theorem s_ret {e} : @wq _ (exS F FK m (.ret e) ls S) QF = wpx (xF QF ls) ((ev F FK m e).val ls S) fun x S1 => QF.f (.ret x) S1 := by have hZ := @Z.s_ret; (try rw [← wpx_eq] at hZ); (try rw [← wp_eq] at hZ); (try rw [← lcTurn_eq] at hZ); (try rw [← wq_eq] at hZ); first | exact hZ | (apply hZ <;> assumption)
@[simp] theorem s_retN : @wq _ (exS F FK m .retN ls S) QF = QF.f (.ret .non) S := by have hZ := @Z.s_retN; (try rw [← wpx_eq] at hZ); (try rw [← wp_eq] at hZ); (try rw [← lcTurn_eq] at hZ); (try rw [← wq_eq] at hZ); first | exact hZ | (apply hZ <;> assumption)
@[simp] theorem s_brk : @wq _ (exS F FK m .brk ls S) QF = QF.f (.brk ls) S := by have hZ := @Z.s_brk; (try rw [← wpx_eq] at hZ); (try rw [← wp_eq] at hZ); (try rw [← lcTurn_eq] at hZ); (try rw [← wq_eq] at hZ); first | exact hZ | (apply hZ <;> assumption)
@[simp] theorem s_cnt : @wq _ (exS F FK m .cnt ls S) QF = QF.f (.cont ls) S := by have hZ := @Z.s_cnt; (try rw [← wpx_eq] at hZ); (try rw [← wp_eq] at hZ); (try rw [← lcTurn_eq] at hZ); (try rw [← wq_eq] at hZ); first | exact hZ | (apply hZ <;> assumption)
@[simp] theorem s_rse {c es} : @wq _ (exS F FK m (.rse c es) ls S) QF = wpx (xF QF ls) ((ev F FK m es).lst ls S) fun ds S1 => QF.f (.exc ls c ds) S1 := by have hZ := @Z.s_rse; (try rw [← wpx_eq] at hZ); (try rw [← wp_eq] at hZ); (try rw [← lcTurn_eq] at hZ); (try rw [← wq_eq] at hZ); first | exact hZ | (apply hZ <;> assumption)
@[simp] theorem s_tr {b hs} : @wq _ (exS F FK m (.tr b hs) ls S) QF = wpx QF.e (exS F FK m b ls S) fun fl S' => match fl with
    | .exc ls' c ds => @wq _ (exH F FK m hs c ds ls' S') QF
    | q => QF.f q S' := by have hZ := @Z.s_tr; (try rw [← wpx_eq] at hZ); (try rw [← wp_eq] at hZ); (try rw [← lcTurn_eq] at hZ); (try rw [← wq_eq] at hZ); first | exact hZ | (apply hZ <;> assumption)
@[simp] theorem h_nil {c ds} : @wq _ (exH F FK m .nil c ds ls S) QF = QF.f (.exc ls c ds) S := by have hZ := @Z.h_nil; (try rw [← wpx_eq] at hZ); (try rw [← wp_eq] at hZ); (try rw [← lcTurn_eq] at hZ); (try rw [← wq_eq] at hZ); first | exact hZ | (apply hZ <;> assumption)
@[simp] theorem h_hd {k any i h r c ds} : @wq _ (exH F FK m (.hd k any i h r) c ds ls S) QF = if any = true ∨ c = k then wp (exS F FK m h (onH i c ds ls) S) fun fl S' => (match fl with
    | .next ls' => QF.f (.next (offL i ls')) S'
    | .brk ls' => QF.f (.brk (offL i ls')) S'
    | .cont ls' => QF.f (.cont (offL i ls')) S'
    | .ret d => QF.f (.ret d) S'
    | .exc _ _ _ => False) else @wq _ (exH F FK m r c ds ls S) QF := by have hZ := @Z.h_hd; (try rw [← wpx_eq] at hZ); (try rw [← wp_eq] at hZ); (try rw [← lcTurn_eq] at hZ); (try rw [← wq_eq] at hZ); first | exact hZ | (apply hZ <;> assumption)
@[simp] theorem e_xf {i c k} : @wq _ ((ev F FK m (.xf i c k)).val ls S) Q = match ls[i]? with
    | some (some (.exv c' ds)) => if c' = c then @wq _ (opt ds[k]? S) Q else False
    | _ => False := by have hZ := @Z.e_xf; (try rw [← wpx_eq] at hZ); (try rw [← wp_eq] at hZ); (try rw [← lcTurn_eq] at hZ); (try rw [← wq_eq] at hZ); first | exact hZ | (apply hZ <;> assumption)
@[simp] theorem s_pas : @wq _ (exS F FK m .pas ls S) QF = QF.f (.next ls) S := by have hZ := @Z.s_pas; (try rw [← wpx_eq] at hZ); (try rw [← wp_eq] at hZ); (try rw [← lcTurn_eq] at hZ); (try rw [← wq_eq] at hZ); first | exact hZ | (apply hZ <;> assumption)
end
theorem wp_for {g : D → Store → Ls → Option Ls} {body : Ls → Store → R Fl} {J : ItV} {QF : Fl → Store → Prop} (I : Nat → Ls → Store → Prop) (n : Nat)
    (step : ∀ i ls S, I i ls S → (J.nxt i S = some none ∧ QF (.next ls) S) ∨ (i < n ∧ ∃ d ls1, J.nxt i S = some (some d) ∧ g d S ls = some ls1 ∧ wp (body ls1 S) fun fl S' => match fl with
      | .next ls' => I (i + 1) ls' S'
      | .cont ls' => I (i + 1) ls' S'
      | .brk ls' => QF (.next ls') S'
      | .ret d => QF (.ret d) S'
      | .exc ls' c ds => QF (.exc ls' c ds) S')) : ∀ (m i : Nat) (ls : Ls) (S : Store), n < m + i → I i ls S → i ≤ n → wp (forL g body J m i ls S) QF := by have hZ := @Z.wp_for; (try rw [← wpx_eq] at hZ); (try rw [← wp_eq] at hZ); (try rw [← lcTurn_eq] at hZ); (try rw [← wq_eq] at hZ); first | exact hZ | (apply hZ <;> assumption)
theorem wp_whl {c : Ls → Store → R Bool} {body : Ls → Store → R Fl} {QF : Fl → Store → Prop} (I : Nat → Ls → Store → Prop)
    (step : ∀ k ls S, I k ls S → wpx (fun c ds S1 => QF (.exc ls c ds) S1) (c ls S) fun t S1 => if t = true then 0 < k ∧ wp (body ls S1) fun fl S' => match fl with
      | .next ls' => ∃ k', k' < k ∧ I k' ls' S'
      | .cont ls' => ∃ k', k' < k ∧ I k' ls' S'
      | .brk ls' => QF (.next ls') S'
      | .ret d => QF (.ret d) S'
      | .exc ls' c ds => QF (.exc ls' c ds) S' else QF (.next ls) S1) : ∀ (m k : Nat) (ls : Ls) (S : Store), k < m → I k ls S → wp (whlL c body m ls S) QF := by have hZ := @Z.wp_whl; (try rw [← wpx_eq] at hZ); (try rw [← wp_eq] at hZ); (try rw [← lcTurn_eq] at hZ); (try rw [← wq_eq] at hZ); first | exact hZ | (apply hZ <;> assumption)
theorem wp_lc {g : D → Store → Ls → Option Ls} {c : Ls → Store → R Bool} {e : Ls → Store → R D} {J : ItV} {r : Nat} {w : Ls} {Q : D → Store → Prop} (I : Nat → Store → Prop) (n : Nat)
    (step : ∀ i S, I i S → (J.nxt i S = some none ∧ Q (.ref r) S) ∨ (i < n ∧ ∃ d ls1, J.nxt i S = some (some d) ∧ g d S w = some ls1 ∧ wp (c ls1 S) fun t S1 => if t = true then wp (e ls1 S1) fun y S2 => ∃ acc, S2[r]? = some (.lst acc) ∧ acc.length < sizeLine ∧ I (i + 1) (S2.set r (.lst (acc ++ [y])))
      else I (i + 1) S1)) : ∀ (m i : Nat) (S : Store), n < m + i → I i S → i ≤ n → wp (lcL g c e J r w m i S) Q := by have hZ := @Z.wp_lc; (try rw [← wpx_eq] at hZ); (try rw [← wp_eq] at hZ); (try rw [← lcTurn_eq] at hZ); (try rw [← wq_eq] at hZ); first | exact hZ | (apply hZ <;> assumption)
theorem wp_rng {v k : Nat} {lo : Int} {body : Ls → Store → R Fl} {QF : Kt Fl} {m : Nat} {ls : Ls} {S : Store} (I : Nat → Ls → Store → Prop) (hm : k < m) (h0 : I 0 ls S)
    (step : ∀ i ls S, i < k → I i ls S → wp (body (ls.set v (some (.int (lo + i)))) S) (turnQ (I (i + 1)) QF.f)) (fin : ∀ ls S, I k ls S → QF.f (.next ls) S) : @wq _ (forL (fun d _ ls => some (ls.set v (some d))) body (.rng lo k) m 0 ls S) QF := by have hZ := @Z.wp_rng; (try rw [← wpx_eq] at hZ); (try rw [← wp_eq] at hZ); (try rw [← lcTurn_eq] at hZ); (try rw [← wq_eq] at hZ); first | exact hZ | (apply hZ <;> assumption)
theorem wp_seq {J : ItV} {ds : List D} {g : D → Store → Ls → Option Ls} {body : Ls → Store → R Fl} {QF : Kt Fl} {m : Nat} {ls : Ls} {S : Store} (hJ : J = .tup ds ∨ J = .rol ds) (I : Nat → Ls → Store → Prop) (hm : ds.length < m) (h0 : I 0 ls S)
    (step : ∀ i d ls S, ds[i]? = some d → I i ls S → ∃ ls1, g d S ls = some ls1 ∧ wp (body ls1 S) (turnQ (I (i + 1)) QF.f)) (fin : ∀ ls S, I ds.length ls S → QF.f (.next ls) S) : @wq _ (forL g body J m 0 ls S) QF := by have hZ := @Z.wp_seq; (try rw [← wpx_eq] at hZ); (try rw [← wp_eq] at hZ); (try rw [← lcTurn_eq] at hZ); (try rw [← wq_eq] at hZ); first | exact hZ | (apply hZ <;> assumption)
theorem wp_obj {r : Nat} {ds : List D} {g : D → Store → Ls → Option Ls} {body : Ls → Store → R Fl} {QF : Kt Fl} {m : Nat} {ls : Ls} {S : Store} (I : Nat → Ls → Store → Prop) (hS : ∀ i ls S, I i ls S → S[r]? = some (.lst ds)) (hm : ds.length < m) (h0 : I 0 ls S)
    (step : ∀ i d ls S, ds[i]? = some d → I i ls S → ∃ ls1, g d S ls = some ls1 ∧ wp (body ls1 S) (turnQ (I (i + 1)) QF.f)) (fin : ∀ ls S, I ds.length ls S → QF.f (.next ls) S) : @wq _ (forL g body (.obj r) m 0 ls S) QF := by have hZ := @Z.wp_obj; (try rw [← wpx_eq] at hZ); (try rw [← wp_eq] at hZ); (try rw [← lcTurn_eq] at hZ); (try rw [← wq_eq] at hZ); first | exact hZ | (apply hZ <;> assumption)
theorem wp_lcG {J : ItV} {k : Nat} {g : D → Store → Ls → Option Ls} {c : Ls → Store → R Bool} {e : Ls → Store → R D} {r : Nat} {w : Ls} {Q : Kt D} {m : Nat} {S : Store} (I : Nat → List D → Store → Prop) (hm : k < m) (h0 : I 0 [] S) (hr : S[r]? = some (.lst []))
    (nx : ∀ i acc S, i ≤ k → I i acc S → (i = k ∧ J.nxt i S = some none) ∨ ∃ d ls1, i < k ∧ J.nxt i S = some (some d) ∧ g d S w = some ls1 ∧ (S[r]? = some (.lst acc) → lcTurn r c e (I (i + 1)) acc ls1 S)) (fin : ∀ acc S, I k acc S → S[r]? = some (.lst acc) → Q.f (.ref r) S) : @wq _ (lcL g c e J r w m 0 S) Q := by have hZ := @Z.wp_lcG; (try rw [← wpx_eq] at hZ); (try rw [← wp_eq] at hZ); (try rw [← lcTurn_eq] at hZ); (try rw [← wq_eq] at hZ); first | exact hZ | (apply hZ <;> assumption)
theorem wp_lcR {v k : Nat} {lo : Int} {c : Ls → Store → R Bool} {e : Ls → Store → R D} {r : Nat} {w : Ls} {Q : Kt D} {m : Nat} {S : Store} (I : Nat → List D → Store → Prop) (hm : k < m) (h0 : I 0 [] S) (hr : S[r]? = some (.lst []))
    (step : ∀ i acc S, i < k → I i acc S → S[r]? = some (.lst acc) → lcTurn r c e (I (i + 1)) acc (w.set v (some (.int (lo + i)))) S) (fin : ∀ acc S, I k acc S → S[r]? = some (.lst acc) → Q.f (.ref r) S) : @wq _ (lcL (fun d _ ls => some (ls.set v (some d))) c e (.rng lo k) r w m 0 S) Q := by have hZ := @Z.wp_lcR; (try rw [← wpx_eq] at hZ); (try rw [← wp_eq] at hZ); (try rw [← lcTurn_eq] at hZ); (try rw [← wq_eq] at hZ); first | exact hZ | (apply hZ <;> assumption)
theorem wp_lcT {J : ItV} {ds : List D} {g : D → Store → Ls → Option Ls} {c : Ls → Store → R Bool} {e : Ls → Store → R D} {r : Nat} {w : Ls} {Q : Kt D} {m : Nat} {S : Store} (hJ : J = .tup ds ∨ J = .rol ds) (I : Nat → List D → Store → Prop) (hm : ds.length < m) (h0 : I 0 [] S) (hr : S[r]? = some (.lst []))
    (step : ∀ i d acc S, ds[i]? = some d → I i acc S → S[r]? = some (.lst acc) → ∃ ls1, g d S w = some ls1 ∧ lcTurn r c e (I (i + 1)) acc ls1 S) (fin : ∀ acc S, I ds.length acc S → S[r]? = some (.lst acc) → Q.f (.ref r) S) : @wq _ (lcL g c e J r w m 0 S) Q := by have hZ := @Z.wp_lcT; (try rw [← wpx_eq] at hZ); (try rw [← wp_eq] at hZ); (try rw [← lcTurn_eq] at hZ); (try rw [← wq_eq] at hZ); first | exact hZ | (apply hZ <;> assumption)
theorem wp_lcO {n : Nat} {ds : List D} {g : D → Store → Ls → Option Ls} {c : Ls → Store → R Bool} {e : Ls → Store → R D} {r : Nat} {w : Ls} {Q : Kt D} {m : Nat} {S : Store} (I : Nat → List D → Store → Prop) (hS : ∀ i acc S, I i acc S → S[n]? = some (.lst ds)) (hm : ds.length < m) (h0 : I 0 [] S) (hr : S[r]? = some (.lst []))
    (step : ∀ i d acc S, ds[i]? = some d → I i acc S → S[r]? = some (.lst acc) → ∃ ls1, g d S w = some ls1 ∧ lcTurn r c e (I (i + 1)) acc ls1 S) (fin : ∀ acc S, I ds.length acc S → S[r]? = some (.lst acc) → Q.f (.ref r) S) : @wq _ (lcL g c e (.obj n) r w m 0 S) Q := by have hZ := @Z.wp_lcO; (try rw [← wpx_eq] at hZ); (try rw [← wp_eq] at hZ); (try rw [← lcTurn_eq] at hZ); (try rw [← wq_eq] at hZ); first | exact hZ | (apply hZ <;> assumption)
theorem wpx_callF {P : List Df} {m n f : Nat} {df : Df} {ds full : List D} {S : Store} {E : Nat → List D → Store → Prop} {Q : D → Store → Prop} (h : P[f]? = some df) (hf : fill df ds = some full)
    (w : wp (exS (callF P m n) (callFK P m n) m df.body (startD df full) S) fun fl S' => match fl with
      | .next _ => Q .non S'
      | .ret d => Q d S'
      | .exc _ c ds => E c ds S'
      | _ => False) : wpx E (callF P m (n + 1) f ds S) Q := by have hZ := @Z.wpx_callF; (try rw [← wpx_eq] at hZ); (try rw [← wp_eq] at hZ); (try rw [← lcTurn_eq] at hZ); (try rw [← wq_eq] at hZ); first | exact hZ | (apply hZ <;> assumption)
theorem wp_callF {P : List Df} {m n f : Nat} {df : Df} {ds full : List D} {S : Store} {Q : D → Store → Prop} (h : P[f]? = some df) (hf : fill df ds = some full)
    (w : wp (exS (callF P m n) (callFK P m n) m df.body (startD df full) S) fun fl S' => match fl with
      | .next _ => Q .non S'
      | .ret d => Q d S'
      | _ => False) : wp (callF P m (n + 1) f ds S) Q := by have hZ := @Z.wp_callF; (try rw [← wpx_eq] at hZ); (try rw [← wp_eq] at hZ); (try rw [← lcTurn_eq] at hZ); (try rw [← wq_eq] at hZ); first | exact hZ | (apply hZ <;> assumption)
theorem wpx_callFK {P : List Df} {m n f : Nat} {ks : List Str} {df : Df} {ds es full : List D} {S : Store} {E : Nat → List D → Store → Prop} {Q : D → Store → Prop} (h : P[f]? = some df) (hf : fillK df ks ds es = some full)
    (w : wpx E (callF P m n f full S) Q) (hq : fill df full = some full) : wpx E (callFK P m n f ks ds es S) Q := by have hZ := @Z.wpx_callFK; (try rw [← wpx_eq] at hZ); (try rw [← wp_eq] at hZ); (try rw [← lcTurn_eq] at hZ); (try rw [← wq_eq] at hZ); first | exact hZ | (apply hZ <;> assumption)
theorem wp_callFK {P : List Df} {m n f : Nat} {ks : List Str} {df : Df} {ds es full : List D} {S : Store} {Q : D → Store → Prop} (h : P[f]? = some df) (hf : fillK df ks ds es = some full)
    (w : wp (callF P m n f full S) Q) (hq : fill df full = some full) : wp (callFK P m n f ks ds es S) Q := by have hZ := @Z.wp_callFK; (try rw [← wpx_eq] at hZ); (try rw [← wp_eq] at hZ); (try rw [← lcTurn_eq] at hZ); (try rw [← wq_eq] at hZ); first | exact hZ | (apply hZ <;> assumption)

@[simp↓] theorem wp_wq {α : Type} {r : R α} {Q : α → Store → Prop} : wp r Q = @wq α r ⟨Q, nE⟩ := (rfl)
@[simp↓] theorem wpx_wq {α : Type} {r : R α} {E : Nat → List D → Store → Prop} {Q : α → Store → Prop} : wpx E r Q = @wq α r ⟨Q, E⟩ := (rfl)
section
variable {F : Nat → List D → Store → R D} {FK : Nat → List Str → List D → List D → Store → R D} {m : Nat} {ls : Ls} {S : Store} {Q : Kt D} {QF : Kt Fl}
@[simp] theorem e_lk {i : Nat} {e : E} : @wq _ ((ev F FK m (.lk i e)).val ls S) Q = match ls[i]? with
    | some (some (.ref n)) => match S[n]? with
      | some (.dct kvs) => wp ((ev F FK m e).val ls (S.set n (.dcl kvs))) fun d S1 => match S1[n]? with
        | some (.dcl kvs') => Q.f d (S1.set n (.dct kvs'))
        | _ => False
      | _ => False
    | _ => False := by
  have e1 : (ev F FK m (.lk i e)).val ls S = match ls[i]? with
    | some (some (.ref n)) => match S[n]? with
      | some (.dct kvs) => match (ev F FK m e).val ls (S.set n (.dcl kvs)) with
        | .ok d S1 => match S1[n]? with
          | some (.dcl kvs') => .ok d (S1.set n (.dct kvs'))
          | _ => .bad
        | _ => .bad
      | _ => .bad
    | _ => .bad := rfl
  rw [e1]
  split
  · rename_i n h1
    split
    · rename_i kvs h2
      rw [wp_wq]
      split
      · rename_i d S1 e2
        rw [e2]
        simp only [wp_ok]
        split <;> simp only [wp_ok, wp_bad]
      · rename_i hn
        rw [wp_bad]
        cases e3 : (ev F FK m e).val ls (S.set n (.dcl kvs)) with
        | ok d S1 => exact (hn _ _ e3).elim
        | exc c ds S1 => simp only [wp_exc]
        | bad => simp only [wp_bad]
    · rw [wp_bad]
  · rw [wp_bad]
@[simp] theorem s_lks {i : Nat} {t : PV.S} : @wq _ (exS F FK m (.lks i t) ls S) QF = match ls[i]? with
    | some (some (.ref n)) => match S[n]? with
      | some (.dct kvs) => wp (exS F FK m t ls (S.set n (.dcl kvs))) fun d S1 => match d with
        | .exc _ _ _ => False
        | d => match S1[n]? with
          | some (.dcl kvs') => QF.f d (S1.set n (.dct kvs'))
          | _ => False
      | _ => False
    | _ => False := by
  have e1 : exS F FK m (.lks i t) ls S = match ls[i]? with
    | some (some (.ref n)) => match S[n]? with
      | some (.dct kvs) => match exS F FK m t ls (S.set n (.dcl kvs)) with
        | .ok d S1 => match d with
          | .exc _ _ _ => .bad
          | _ => match S1[n]? with
            | some (.dcl kvs') => .ok d (S1.set n (.dct kvs'))
            | _ => .bad
        | _ => .bad
      | _ => .bad
    | _ => .bad := rfl
  rw [e1]
  split
  · rename_i n h1
    split
    · rename_i kvs h2
      rw [wp_wq]
      cases e3 : exS F FK m t ls (S.set n (.dcl kvs)) with
      | ok d S1 =>
        cases d with
        | exc ls' c ds => simp only [wp_bad, wp_ok]
        | _ =>
          simp only [wp_ok]
          split <;> simp only [wp_ok, wp_bad]
      | exc c ds S1 => simp only [wp_exc, wp_bad]
      | bad => simp only [wp_bad]
    · rw [wp_bad]
  · rw [wp_bad]
end
end PV

set_option Elab.async false
set_option linter.all false
set_option maxRecDepth 100000
set_option maxHeartbeats 2000000
/-! PV: the head of a law. -/
namespace PV
open PySem PySem.Spec PyProof.Rows L2
def faOf (C : List Fc) : List He.Fa := (C.map fun c => He.Fa.glo c.x) ++ bNames.map He.Fa.free
theorem says_all {fa : List He.Fa} {fn : List He.DefD} {K : PySem.W.Frag} (c : He.SaysD fa fn K) {f : He.Fa} (h : f ∈ fa) : f.ok K = true := by
  obtain ⟨i, hi⟩ := List.getElem?_of_mem h
  exact c.fact i hi
/-- the law's function: how it is bound, what it is told, what it promises -/
structure LawF (C : List Fc) (m n f : Nat) (c : Fc) : Prop where
  at_ : C[f]? = some c
  x : c.x = "law"
  dfl : c.dfl = []
  ps : c.df.ps = (["script"] : List Str)
  np : c.df.np = 1
  bind : ∀ (kV doc pm : Value) (an : Option Addr) (cdv ct : Value) (us : List Value), us.length = (["script"] : List Str).length → bindArgs (PySem.W.fnOf c.x c.x c.params c.body c.sc .none kV doc pm an cdv ct) ⟨us, []⟩ = pure ((["script"] : List Str).zip us)
  walk : ∀ ns : List Int, wp (callF (C.map (·.df)) m n f [.rol (ns.map D.int)] []) fun d S' => d = .bl true
section
variable {C : List Fc} {KT : List (Nat × Nat × List Str)} {m n f : Nat} {c : Fc} {prog : Program} {w : World} {K : PySem.W.Frag} {h : Heap} {mg : Str → Option Value} {fa : Addr}
theorem rvs_int {G : Gb} {H : Hp} {b : List Addr} : ∀ ns : List Int, RVs G H b (ns.map D.int) (ns.map V.int)
  | [] => RVs.nil
  | n :: ns => RVs.cons (rv_int.mpr rfl) (rvs_int ns)
variable {xc : List Xc}
abbrev xtOf (xc : List Xc) : List (Str × List Str) := xc.map fun x => (x.y, x.fs)
abbrev spL (K : PySem.W.Frag) (xc : List Xc) (P : List Df) (m n f : Nat) : Sp := fun vs H Q _ => spN (gbV K xc) P m n f 1 vs H Q fun _ _ _ => False
theorem law_head (L : LawF C m n f c) (hck : ∀ c ∈ C, c.ck (ftOf C) KT (xtOf xc) = true) (hB : ∀ c ∈ C, BindC c) (hKB : ∀ f n ks, (f, n, ks) ∈ KT → ∃ c, C[f]? = some c ∧ KBindC c n ks ∧ n ≤ c.df.ps.length)
    (hxs : xc.all Xc.okS = true) (hxb : ∀ x ∈ xc, x.binds) (X : K.In h) (G : h.Ns mainGlobals mg) (hfa : mg ("law" : Str) = some (.ref fa)) (says : SaysV prog (faOf C) (C.map Fc.d) xc K) :
    ∃ fd : FuncData, (∀ (s : Shared) (v : Value), BindsTo s fd ⟨[v], []⟩ [("script", v)]) ∧
      (∀ (H : Hp) (a : Addr) (ns : List Int), Only H → SqL K H a (ns.map V.int) → spL K xc (C.map (·.df)) m n f [.ref a] H (fun v _ => v = .bl true) fun _ _ _ => False) ∧
      ∀ base : Heap, K.In base → base.Ns mainGlobals mg → FnOk prog w K mg base CX0 (n + 2) fa fd ["script"] (spL K xc (C.map (·.df)) m n f) := by
  have hF : ∀ c ∈ C, ∃ fd, FunD (gbV K xc).K c.x c.x c.params c.body c.sc (c.dfl.map (He.Dv.v (gbV K xc).K)) [] (He.ga (gbV K xc).K c.x) fd := fun c hc => by
    obtain ⟨i, hi⟩ := List.getElem?_of_mem hc
    exact says.d.def_ i (d := c.d) (by rw [List.getElem?_map, hi]; rfl)
  have hG : ∀ c ∈ C, mg c.x = some (.ref (He.ga (gbV K xc).K c.x)) := fun c hc => He.glo_ok X G (says_all says.d (List.mem_append_left _ (List.mem_map.mpr ⟨c, hc, rfl⟩)))
  have hm : ∀ y ∈ bNames, mg y = none := fun y hy => He.free_ok X G (says_all says.d (List.mem_append_right _ (List.mem_map.mpr ⟨y, hy, rfl⟩)))
  have mc := List.mem_of_getElem? L.at_
  obtain ⟨fd, F⟩ := hF c mc
  have e := hfa.symm.trans (L.x ▸ hG c mc)
  have e2 : fa = He.ga K c.x := by rw [L.x]; exact Value.ref.inj (Option.some.inj e)
  refine ⟨fd, fun s v => ?_, fun H a ns hO hS => ?_, fun base _ _ => ?_⟩
  · have F' := F
    rw [L.dfl] at F'
    exact FunD.bindsA (ps := ["script"]) F' L.bind s [v] rfl
  · refine ⟨rfl, [], [], [.rol (ns.map D.int)], ⟨rfl, List.nodup_nil, fun n o a h _ => by simp at h⟩, RVs.cons ?_ RVs.nil, ?_⟩
    · refine rv_rol.mpr ⟨a, ns.map V.int, rfl, ?_, rvs_int ns⟩
      rcases hS with q | q
      · rcases hO a with z | ⟨o, xs, z⟩
        · rcases q with q | ⟨o', q⟩ <;> (rw [z] at q; cases q)
        · rcases q with q | ⟨o', q⟩
          · rw [z] at q
            cases q
          · rw [z] at q
            cases q
            exact .inl ⟨o, z⟩
      · exact .inr q
    · obtain ⟨d, S', e, rfl⟩ := wp_def.mp (L.walk ns)
      have hp : (C.map (·.df))[f]? = some c.df := p_at L.at_
      have hf : fill c.df [.rol (ns.map D.int)] = some [.rol (ns.map D.int)] := by
        unfold fill
        have := L.np
        simp [this]
      unfold callF at e
      rw [hp] at e
      simp only [hf] at e
      rw [e]
      exact fun H' b' p v r => rv_bl.mp r
  · have r := fn_all (prog := prog) (w := w) (base := base) (m := m) (G := gbV K xc) hck hB hKB hF hG hm rfl (xall says hxs hxb X G) n f c fd L.at_ F
    rw [L.ps, L.np] at r
    rw [e2]
    exact fn_cx0 r
end
end PV

set_option Elab.async false
set_option linter.all false
set_option maxRecDepth 100000
set_option maxHeartbeats 1000000
/-! PV: the wp rules of enumerate, reversed, zip, dict displays and comprehensions, [::-1]. -/
namespace PV
open PySem PySem.Spec PyProof.Rows L2

section
variable {F : Nat → List D → Store → R D} {FK : Nat → List Str → List D → List D → Store → R D} {m : Nat} {ls : Ls} {S : Store} {Q : Kt D} {QB : Kt Bool} {QI : Kt ItV} {QF : Kt Fl}
theorem wpx_congr {α : Type} {E : Nat → List D → Store → Prop} {r : R α} {k k' : α → Store → Prop} (h : ∀ a S, k a S = k' a S) : wpx E r k = wpx E r k' := by
  have e : k = k' := funext fun a => funext fun S => h a S
  rw [e]
@[simp] theorem e_slr {a} : @wq _ ((ev F FK m (.slr a)).val ls S) Q = wpx Q.e ((ev F FK m a).val ls S) fun x S1 => @wq _ (revD x S1) Q := by
  show @wq _ (R.bind _ _) Q = _
  rw [wp_bind]
@[simp] theorem rev_tup {ds : List D} : revD (.tup ds) S = .ok (.tup ds.reverse) S := rfl
@[simp] theorem e_dd2 {a b c d} : @wq _ ((ev F FK m (.dd2 a b c d)).val ls S) Q = wpx Q.e ((ev F FK m a).val ls (S ++ [.dct []])) fun x S1 => wpx Q.e ((ev F FK m b).val ls S1) fun y S2 => wpx Q.e ((ev F FK m c).val ls S2) fun z S3 => wpx Q.e ((ev F FK m d).val ls S3) fun u S4 =>
    @wq _ (dd2D S.length x y z u S4) Q := by
  show @wq _ (R.bind _ _) Q = _
  rw [wp_bind]
  refine wpx_congr fun x S1 => ?_
  rw [wp_bind]
  refine wpx_congr fun y S2 => ?_
  rw [wp_bind]
  refine wpx_congr fun z S3 => ?_
  rw [wp_bind]
@[simp] theorem e_dc {own t it c k e} : @wq _ ((ev F FK m (.dc own t it c k e)).val ls S) Q = wpx Q.e ((ev F FK m it).itv ls S) fun J S1 =>
    @wq _ (dcL (fun d S ls => asgT t d S ls) (fun ls S => (ev F FK m c).cond ls S) (fun ls S => (ev F FK m k).val ls S) (fun ls S => (ev F FK m e).val ls S) J S1.length (wipeD ls (own.map (·.2))) m 0 (S1 ++ [.dct []])) Q := by
  show @wq _ (R.bind _ _) Q = _
  rw [wp_bind]
@[simp] theorem s_sdc {i own t it c k e} : @wq _ (exS F FK m (.sdc i own t it c k e) ls S) QF = wpx (xF QF ls) ((ev F FK m (.dc own t it c k e)).val ls S) fun x S1 => QF.f (.next (ls.set i (some x))) S1 := by
  show @wq _ (bindS _ _ _) QF = _
  rw [wp_bindS]
  exact wpx_congr fun x S1 => wp_ok
@[simp] theorem p_neg {a} {QO : Kt (Option Int)} : @wq _ ((ev F FK m (.neg a)).part ls S) QO = wpx QO.e ((ev F FK m (.neg a)).val ls S) fun x S1 => match x with | .int i => QO.f (some i) S1 | _ => False := part_val rfl
theorem seqI_wq {d : D} {k : List D → ItV} : @wq _ (seqI d S k) QI = match seqD d S with
    | some ds => QI.f (k ds) S
    | none => False := by
  unfold seqI
  cases seqD d S with
  | none => exact wp_bad
  | some ds => exact wp_ok
@[simp] theorem i_qe {a} : @wq _ ((ev F FK m (.qe a)).itv ls S) QI = wpx QI.e ((ev F FK m a).val ls S) fun x S1 => match seqD x S1 with
    | some _ => QI.f (.enu x) S1
    | none => False := by
  show @wq _ (R.bind _ _) QI = _
  rw [wp_bind]
  exact wpx_congr fun x S1 => seqI_wq
@[simp] theorem i_qv {a} : @wq _ ((ev F FK m (.qv a)).itv ls S) QI = wpx QI.e ((ev F FK m a).val ls S) fun x S1 => match seqD x S1 with
    | some ds => QI.f (.rev x ds.length) S1
    | none => False := by
  show @wq _ (R.bind _ _) QI = _
  rw [wp_bind]
  exact wpx_congr fun x S1 => seqI_wq
@[simp] theorem i_qz2 {a b} : @wq _ ((ev F FK m (.qz2 a b)).itv ls S) QI = wpx QI.e ((ev F FK m a).val ls S) fun x S1 => wpx QI.e ((ev F FK m b).val ls S1) fun y S2 => match seqD x S2, seqD y S2 with
    | some _, some _ => QI.f (.zip2 x y) S2
    | _, _ => False := by
  show @wq _ (R.bind _ _) QI = _
  rw [wp_bind]
  refine wpx_congr fun x S1 => ?_
  rw [wp_bind]
  refine wpx_congr fun y S2 => ?_
  cases e1 : seqD x S2 with
  | none => exact wp_bad
  | some xs =>
    simp only [e1]
    rw [seqI_wq]
    cases seqD y S2 <;> rfl
@[simp] theorem i_qz3 {a b c} : @wq _ ((ev F FK m (.qz3 a b c)).itv ls S) QI = wpx QI.e ((ev F FK m a).val ls S) fun x S1 => wpx QI.e ((ev F FK m b).val ls S1) fun y S2 => wpx QI.e ((ev F FK m c).val ls S2) fun z S3 => match seqD x S3, seqD y S3, seqD z S3 with
    | some _, some _, some _ => QI.f (.zip3 x y z) S3
    | _, _, _ => False := by
  show @wq _ (R.bind _ _) QI = _
  rw [wp_bind]
  refine wpx_congr fun x S1 => ?_
  rw [wp_bind]
  refine wpx_congr fun y S2 => ?_
  rw [wp_bind]
  refine wpx_congr fun z S3 => ?_
  cases e1 : seqD x S3 with
  | none => exact wp_bad
  | some xs =>
    cases e2 : seqD y S3 with
    | none => exact wp_bad
    | some ys =>
      simp only [e1, e2]
      rw [seqI_wq]
      cases seqD z S3 <;> rfl
@[simp] theorem t_slr {a} : @wq _ ((ev F FK m (.slr a)).tst ls S) QB = wpx QB.e ((ev F FK m (.slr a)).val ls S) fun x S1 => @wq _ (opt (truD x S1) S1) QB := by
  show @wq _ (R.bind _ _) QB = _
  rw [wp_bind]
  rfl
end

section
variable {S : Store} {n : Nat} {k : Int} {ds : List D} {a b : Bool}
@[simp] theorem b_mull : binD .mul (.ref n) (.int k) S = match S[n]? with
  | some (.lst ds) => if -(2 ^ 63) ≤ k ∧ k < 2 ^ 63 ∧ ds.length * k.toNat ≤ sizeLine then new (.lst (List.replicate k.toNat ds).flatten) S else .bad
  | _ => .bad := (rfl)
@[simp] theorem f_sumt : fbD .sum [.tup ds] S = match asInts ds with
  | some ns => .ok (.int ns.sum) S
  | none => .bad := (rfl)
@[simp] theorem f_maxl : fbD .max [.ref n] S = match S[n]? with
  | some (.lst xs) => match asInts xs with
    | some (i :: r) => .ok (.int (maxL i r)) S
    | _ => .bad
  | _ => .bad := (rfl)
@[simp] theorem f_minl : fbD .min [.ref n] S = match S[n]? with
  | some (.lst xs) => match asInts xs with
    | some (i :: r) => .ok (.int (minL i r)) S
    | _ => .bad
  | _ => .bad := (rfl)
@[simp] theorem f_str : fbD .str [.int k] S = if k.natAbs.log2 < 1920 ∧ (toString k : Str).length ≤ sizeLine then .ok (.str (toString k)) S else .bad := (rfl)
@[simp] theorem c_isb : cmpD .is (.bl a) (.bl b) S = some (decide (a = b)) := (rfl)
@[simp] theorem c_isnb : cmpD .isn (.bl a) (.bl b) S = some (!decide (a = b)) := (rfl)
theorem cut_mid {α : Type} {xs : List α} {i j : Nat} (h : i ≤ j) (h2 : j ≤ xs.length) : cut xs (some (i : Int)) (some (j : Int)) = (xs.drop i).take (j - i) := by
  have f : ∀ (k d : Nat), k ≤ xs.length → HT.sIx xs.length d (some (k : Int)) = k := fun k d hk => by
    unfold HT.sIx
    simp only
    rw [if_neg (by omega)]
    omega
  unfold cut
  rw [f i _ (by omega), f j _ h2]
end

/-! ### what the walks hand out -/
def enuL : Nat → List D → List D
  | _, [] => []
  | i, x :: r => .tup [.int (i : Nat), x] :: enuL (i + 1) r
theorem enuL_len : ∀ (xs : List D) (i : Nat), (enuL i xs).length = xs.length
  | [], _ => rfl
  | _ :: r, i => by rw [enuL, List.length_cons, List.length_cons, enuL_len r (i + 1)]
theorem enuL_get : ∀ (xs : List D) (i j : Nat), (enuL i xs)[j]? = xs[j]?.map fun x => .tup [.int ((i + j : Nat) : Int), x]
  | [], _, _ => by simp [enuL]
  | x :: r, i, 0 => by simp [enuL]
  | x :: r, i, j + 1 => by
    rw [enuL, List.getElem?_cons_succ, List.getElem?_cons_succ, enuL_get r (i + 1) j]
    have e : i + 1 + j = i + (j + 1) := by omega
    rw [e]
def pairL (xs ys : List D) : List D := List.zipWith (fun x y => D.tup [x, y]) xs ys
def tripL : List D → List D → List D → List D
  | x :: xs, y :: ys, z :: zs => .tup [x, y, z] :: tripL xs ys zs
  | _, _, _ => []
theorem tripL_len : ∀ (xs ys zs : List D), (tripL xs ys zs).length = min (min xs.length ys.length) zs.length
  | [], _, _ => by simp [tripL]
  | _ :: _, [], _ => by simp [tripL]
  | _ :: _, _ :: _, [] => by simp [tripL]
  | x :: xs, y :: ys, z :: zs => by
    rw [tripL, List.length_cons, tripL_len xs ys zs, List.length_cons, List.length_cons, List.length_cons]
    omega
theorem tripL_get : ∀ (xs ys zs : List D) (i : Nat), (tripL xs ys zs)[i]? = match xs[i]?, ys[i]?, zs[i]? with
    | some x, some y, some z => some (.tup [x, y, z])
    | _, _, _ => none
  | [], _, _, i => by simp [tripL]
  | x :: xs, [], _, i => by
    simp only [tripL, List.getElem?_nil]
    split <;> simp_all
  | x :: xs, y :: ys, [], i => by
    simp only [tripL, List.getElem?_nil]
    split <;> simp_all
  | x :: xs, y :: ys, z :: zs, 0 => by simp [tripL]
  | x :: xs, y :: ys, z :: zs, i + 1 => by
    rw [tripL, List.getElem?_cons_succ, List.getElem?_cons_succ, List.getElem?_cons_succ, List.getElem?_cons_succ, tripL_get xs ys zs i]
theorem nx_enu {d : D} {xs : List D} {i : Nat} {S : Store} (e : seqD d S = some xs) (hi : i ≤ xs.length) : (ItV.enu d).nxt i S = some (enuL 0 xs)[i]? := by
  have c : ((0 + i : Nat) : Int) = (i : Int) := by omega
  rw [enuL_get, c]
  simp only [ItV.nxt, e]
  cases e2 : xs[i]? with
  | some x => rfl
  | none =>
    have := List.getElem?_eq_none_iff.mp e2
    simp only [Option.map_none]
    rw [if_pos (by omega)]
theorem nx_rev {d : D} {xs : List D} {i : Nat} {S : Store} (e : seqD d S = some xs) : (ItV.rev d xs.length).nxt i S = some xs.reverse[i]? := by
  simp only [ItV.nxt, e]
  by_cases h : i < xs.length
  · rw [if_pos h, List.getElem?_reverse h, List.getElem?_eq_getElem (by omega)]
  · rw [if_neg h, List.getElem?_eq_none (by simpa using h)]
theorem nx_zip2 {a b : D} {xs ys : List D} {i : Nat} {S : Store} (e1 : seqD a S = some xs) (e2 : seqD b S = some ys) (hi : i ≤ (pairL xs ys).length) : (ItV.zip2 a b).nxt i S = some (pairL xs ys)[i]? := by
  simp only [ItV.nxt, e1, e2]
  have hl : (pairL xs ys).length = min xs.length ys.length := by simp [pairL]
  unfold pairL at *
  rw [List.getElem?_zipWith]
  cases f1 : xs[i]? with
  | none =>
    have := List.getElem?_eq_none_iff.mp f1
    simp only
    rw [if_pos (by omega)]
  | some x =>
    cases f2 : ys[i]? with
    | none =>
      have := List.getElem?_eq_none_iff.mp f2
      simp only
      rw [if_pos (by omega)]
    | some y => rfl
theorem nx_zip3 {a b c : D} {xs ys zs : List D} {i : Nat} {S : Store} (e1 : seqD a S = some xs) (e2 : seqD b S = some ys) (e3 : seqD c S = some zs) (hi : i ≤ (tripL xs ys zs).length) : (ItV.zip3 a b c).nxt i S = some (tripL xs ys zs)[i]? := by
  simp only [ItV.nxt, e1, e2, e3]
  have hl := tripL_len xs ys zs
  rw [tripL_get]
  cases f1 : xs[i]? with
  | none =>
    have := List.getElem?_eq_none_iff.mp f1
    simp only
    rw [if_pos (by omega)]
  | some x =>
    cases f2 : ys[i]? with
    | none =>
      have := List.getElem?_eq_none_iff.mp f2
      simp only
      rw [if_pos (by omega)]
    | some y =>
      cases f3 : zs[i]? with
      | none =>
        have := List.getElem?_eq_none_iff.mp f3
        simp only
        rw [if_pos (by omega)]
      | some z => rfl

/-! ### loops over whatever hands out ds -/
theorem wp_its {J : ItV} {ds : List D} {g : D → Store → Ls → Option Ls} {body : Ls → Store → R Fl} {QF : Kt Fl} {m : Nat} {ls : Ls} {S : Store} (I : Nat → Ls → Store → Prop) (hJ : ∀ i ls S, i ≤ ds.length → I i ls S → J.nxt i S = some ds[i]?) (hm : ds.length < m) (h0 : I 0 ls S)
    (step : ∀ i d ls S, ds[i]? = some d → I i ls S → ∃ ls1, g d S ls = some ls1 ∧ wp (body ls1 S) (turnQ (I (i + 1)) QF.f)) (fin : ∀ ls S, I ds.length ls S → QF.f (.next ls) S) : @wq _ (forL g body J m 0 ls S) QF := by
  refine wp_mono (Q := QF.f) (wp_for (fun i ls S => i ≤ ds.length ∧ I i ls S) ds.length (fun i ls S ⟨hi, h⟩ => ?_) m 0 ls S (by omega) ⟨by omega, h0⟩ (by omega)) fun _ _ q => q
  by_cases c : i < ds.length
  · have e := List.getElem?_eq_getElem c
    obtain ⟨ls1, e1, q⟩ := step i _ ls S e h
    refine .inr ⟨c, _, ls1, by rw [hJ i ls S hi h, e], e1, ?_⟩
    refine wp_mono q fun fl S' q => ?_
    cases fl with
    | next ls' => exact ⟨c, q⟩
    | cont ls' => exact ⟨c, q⟩
    | brk ls' => exact q
    | ret d => exact q
    | exc ls' c ds => exact q
  · have e : i = ds.length := by omega
    subst e
    exact .inl ⟨by rw [hJ _ ls S (Nat.le_refl _) h, List.getElem?_eq_none (Nat.le_refl _)], fin ls S h⟩
theorem wp_lcI {J : ItV} {ds : List D} {g : D → Store → Ls → Option Ls} {c : Ls → Store → R Bool} {e : Ls → Store → R D} {r : Nat} {w : Ls} {Q : Kt D} {m : Nat} {S : Store} (I : Nat → List D → Store → Prop) (hJ : ∀ i acc S, i ≤ ds.length → I i acc S → J.nxt i S = some ds[i]?) (hm : ds.length < m) (h0 : I 0 [] S) (hr : S[r]? = some (.lst []))
    (step : ∀ i d acc S, ds[i]? = some d → I i acc S → S[r]? = some (.lst acc) → ∃ ls1, g d S w = some ls1 ∧ lcTurn r c e (I (i + 1)) acc ls1 S) (fin : ∀ acc S, I ds.length acc S → S[r]? = some (.lst acc) → Q.f (.ref r) S) : @wq _ (lcL g c e J r w m 0 S) Q := by
  refine wp_mono (Q := Q.f) (wp_lc (fun i S => i ≤ ds.length ∧ ∃ acc, S[r]? = some (.lst acc) ∧ I i acc S) ds.length (fun i S ⟨hi, acc, ha, h⟩ => ?_) m 0 S (by omega) ⟨by omega, [], hr, h0⟩ (by omega)) fun _ _ q => q
  by_cases cc : i < ds.length
  · have e1 := List.getElem?_eq_getElem cc
    obtain ⟨ls1, e2, q⟩ := step i _ acc S e1 h ha
    refine .inr ⟨cc, _, ls1, by rw [hJ i acc S hi h, e1], e2, ?_⟩
    refine wp_mono q fun t S1 q => ?_
    cases t with
    | true =>
      rw [if_pos rfl] at q
      show (if true = true then _ else _)
      rw [if_pos rfl]
      refine wp_mono q fun y S2 ⟨a1, a2, a3⟩ => ⟨acc, a1, a2, cc, acc ++ [y], ?_, a3⟩
      exact List.getElem?_set_self (List.getElem?_eq_some_iff.mp a1).1
    | false =>
      rw [if_neg Bool.false_ne_true] at q
      show (if false = true then _ else _)
      rw [if_neg Bool.false_ne_true]
      exact ⟨cc, acc, q.1, q.2⟩
  · have e : i = ds.length := by omega
    subst e
    exact .inl ⟨by rw [hJ _ acc S (Nat.le_refl _) h, List.getElem?_eq_none (Nat.le_refl _)], fin acc S h ha⟩
/-- how a turn of a dict comprehension goes -/
def dcTurn (r : Nat) (c : Ls → Store → R Bool) (k e : Ls → Store → R D) (I : List (Key × D) → Store → Prop) (acc : List (Key × D)) (ls1 : Ls) (S : Store) : Prop :=
  wp (c ls1 S) fun t S1 => if t = true then wp (k ls1 S1) fun y S2 => wp (e ls1 S2) fun z S3 => ∃ q, keyOf y = some q ∧ S3[r]? = some (.dct acc) ∧ acc.length < sizeLine ∧ I (putG acc q z) (S3.set r (.dct (putG acc q z))) else S1[r]? = some (.dct acc) ∧ I acc S1
theorem wp_dcI {J : ItV} {ds : List D} {g : D → Store → Ls → Option Ls} {c : Ls → Store → R Bool} {k e : Ls → Store → R D} {r : Nat} {w : Ls} {Q : Kt D} (I : Nat → List (Key × D) → Store → Prop) (hJ : ∀ i acc S, i ≤ ds.length → I i acc S → J.nxt i S = some ds[i]?)
    (step : ∀ i d acc S, ds[i]? = some d → I i acc S → S[r]? = some (.dct acc) → ∃ ls1, g d S w = some ls1 ∧ dcTurn r c k e (I (i + 1)) acc ls1 S) (fin : ∀ acc S, I ds.length acc S → S[r]? = some (.dct acc) → Q.f (.ref r) S) :
    ∀ (m i : Nat) (acc : List (Key × D)) (S : Store), ds.length < m + i → i ≤ ds.length → I i acc S → S[r]? = some (.dct acc) → @wq _ (dcL g c k e J r w m i S) Q
  | 0, i, acc, S, hm, hi, h, hr => by omega
  | m + 1, i, acc, S, hm, hi, h, hr => by
    unfold dcL
    rw [hJ i acc S hi h]
    by_cases cc : i < ds.length
    · have e1 := List.getElem?_eq_getElem cc
      obtain ⟨ls1, e2, q⟩ := step i _ acc S e1 h hr
      rw [e1]
      simp only [e2]
      obtain ⟨t, S1, e3, q⟩ := wp_def.mp q
      rw [e3]
      cases t with
      | true =>
        rw [if_pos rfl] at q
        obtain ⟨y, S2, e4, q⟩ := wp_def.mp q
        obtain ⟨z, S3, e5, q, a0, a1, a2, a3⟩ := wp_def.mp q
        simp only [e4, e5, a1, a0, if_pos a2]
        exact wp_dcI I hJ step fin m (i + 1) _ _ (by omega) (by omega) a3 (List.getElem?_set_self (List.getElem?_eq_some_iff.mp a1).1)
      | false =>
        rw [if_neg Bool.false_ne_true] at q
        exact wp_dcI I hJ step fin m (i + 1) acc S1 (by omega) (by omega) q.2 q.1
    · have e0 : i = ds.length := by omega
      subst e0
      rw [List.getElem?_eq_none (Nat.le_refl _)]
      exact (wp_ok (Q := Q)).mpr (fin acc S h hr)
end PV

set_option Elab.async false
set_option linter.all false
set_option maxRecDepth 100000
set_option maxHeartbeats 1000000
/-! The defs that every law of this row has, by PV. -/
namespace PV
open PySem

/-! ### stores that grow -/
/-- but for xs, what stood stands -/
structure Ext (xs : List Nat) (S S' : Store) : Prop where
  len : S.length ≤ S'.length
  at_ : ∀ j o, S[j]? = some o → j ∉ xs → S'[j]? = some o
theorem Ext.refl (xs : List Nat) (S : Store) : Ext xs S S := ⟨Nat.le_refl _, fun _ _ h _ => h⟩
theorem Ext.trans {xs : List Nat} {S S1 S2 : Store} (a : Ext xs S S1) (b : Ext xs S1 S2) : Ext xs S S2 := ⟨Nat.le_trans a.len b.len, fun j o h k => b.at_ j o (a.at_ j o h k) k⟩
theorem Ext.mono {xs ys : List Nat} {S S1 : Store} (a : Ext xs S S1) (h : ∀ x ∈ xs, x ∈ ys) : Ext ys S S1 := ⟨a.len, fun j o e k => a.at_ j o e fun z => k (h _ z)⟩
theorem Ext.push (xs : List Nat) (S : Store) (o : O) : Ext xs S (S ++ [o]) := ⟨by simp, fun j o' h _ => by
  rw [List.getElem?_append_left (by
    rcases Nat.lt_or_ge j S.length with q | q
    · exact q
    · rw [List.getElem?_eq_none q] at h; cases h)]
  exact h⟩
theorem Ext.set {xs : List Nat} (S : Store) {i : Nat} (h : i ∈ xs) (o : O) : Ext xs S (S.set i o) := ⟨by simp, fun j o' e k => by
  rw [List.getElem?_set_ne (fun q : i = j => k (by rw [← q]; exact h))]; exact e⟩
/-- what is newer than S0 may change too -/
theorem Ext.setN {xs : List Nat} {S0 S : Store} (a : Ext xs S0 S) {i : Nat} (h : S0.length ≤ i) (o : O) : Ext xs S0 (S.set i o) := ⟨by simpa using a.len, fun j o' e k => by
  have hj : j < S0.length := by
    rcases Nat.lt_or_ge j S0.length with q | q
    · exact q
    · rw [List.getElem?_eq_none q] at e; cases e
  rw [List.getElem?_set_ne (by omega)]
  exact a.at_ j o' e k⟩
theorem Ext.pushed {xs : List Nat} {S0 S : Store} (a : Ext xs S0 S) (o : O) : Ext xs S0 (S ++ [o]) := a.trans (Ext.push xs S o)
/-- back to where less stood -/
theorem Ext.less {xs : List Nat} {S0 S S' : Store} (a : Ext xs S0 S) (b : ∀ j o, j < S0.length → S[j]? = some o → j ∉ xs → S'[j]? = some o) (l : S0.length ≤ S'.length) : Ext xs S0 S' := ⟨l, fun j o e k => by
  have hj : j < S0.length := by
    rcases Nat.lt_or_ge j S0.length with q | q
    · exact q
    · rw [List.getElem?_eq_none q] at e; cases e
  exact b j o hj (a.at_ j o e k) k⟩
/-- changes of what is newer -/
theorem Ext.newer {xs ys : List Nat} {S0 S S' : Store} (a : Ext xs S0 S) (b : Ext ys S S') (h : ∀ y ∈ ys, S0.length ≤ y) : Ext xs S0 S' := ⟨Nat.le_trans a.len b.len, fun j o e k => by
  have hj : j < S0.length := by
    rcases Nat.lt_or_ge j S0.length with q | q
    · exact q
    · rw [List.getElem?_eq_none q] at e; cases e
  exact b.at_ j o (a.at_ j o e k) fun z => by have := h j z; omega⟩
theorem lt_of_some {α : Type} {l : List α} {i : Nat} {x : α} (h : l[i]? = some x) : i < l.length := by
  rcases Nat.lt_or_ge i l.length with q | q
  · exact q
  · rw [List.getElem?_eq_none q] at h; cases h
@[simp] theorem push_at {S : Store} {o : O} : (S ++ [o])[S.length]? = some o := by simp

/-- it stands there (simp is not to see it as a bound) -/
def Lt (j : Nat) (S : Store) : Prop := j < S.length
theorem Lt.of {S : Store} {j : Nat} {o : O} (h : S[j]? = some o) : Lt j S := lt_of_some h
section
variable {S t : Store} {i j k : Nat} {o o' : O}
@[simp] theorem ap_at0 : (S ++ t)[S.length]? = t[0]? := by rw [List.getElem?_append_right (Nat.le_refl _)]; simp
@[simp] theorem ap_at : (S ++ t)[S.length + k]? = t[k]? := by rw [List.getElem?_append_right (by omega)]; simp
@[simp] theorem ap_s0 : (S.set i o ++ t)[S.length]? = t[0]? := by rw [List.getElem?_append_right (by simp)]; simp
@[simp] theorem ap_s1 : (S.set i o ++ t)[S.length + k]? = t[k]? := by rw [List.getElem?_append_right (by simp)]; simp
@[simp] theorem ap_ss0 : ((S.set i o).set j o' ++ t)[S.length]? = t[0]? := by rw [List.getElem?_append_right (by simp)]; simp
@[simp] theorem ap_ss1 : ((S.set i o).set j o' ++ t)[S.length + k]? = t[k]? := by rw [List.getElem?_append_right (by simp)]; simp
@[simp] theorem ap_set0 : (S ++ t).set S.length o = S ++ t.set 0 o := by rw [List.set_append_right _ _ (Nat.le_refl _)]; simp
@[simp] theorem ap_set1 : (S ++ t).set (S.length + k) o = S ++ t.set k o := by rw [List.set_append_right _ _ (by omega)]; simp
@[simp] theorem ap_sset0 : (S.set i o' ++ t).set S.length o = S.set i o' ++ t.set 0 o := by rw [List.set_append_right _ _ (by simp)]; simp
@[simp] theorem ap_sset1 : (S.set i o' ++ t).set (S.length + k) o = S.set i o' ++ t.set k o := by rw [List.set_append_right _ _ (by simp)]; simp
theorem ap_lt (h : Lt j S) : (S ++ t)[j]? = S[j]? := List.getElem?_append_left h
theorem ap_slt (h : Lt j S) : (S.set i o ++ t)[j]? = (S.set i o)[j]? := List.getElem?_append_left (by rw [List.length_set]; exact h)
theorem set_lt (h : Lt j S) : (S ++ t).set j o = S.set j o ++ t := List.set_append_left _ _ h
theorem set_slt (h : Lt j S) : (S.set i o' ++ t).set j o = (S.set i o').set j o ++ t := List.set_append_left _ _ (by rw [List.length_set]; exact h)
theorem set_same (h : Lt j S) : (S.set j o)[j]? = some o := List.getElem?_set_self h
theorem set_ssame (h : Lt j S) : ((S.set i o').set j o)[j]? = some o := List.getElem?_set_self (by rw [List.length_set]; exact h)
theorem set_ne (h : i ≠ j) : (S.set i o)[j]? = S[j]? := List.getElem?_set_ne h
end
theorem ixN_ge {l : Nat} {i : Int} (h : 0 ≤ i) : L2.ixN l i = if i.toNat < l then some i.toNat else none := by
  unfold L2.ixN
  rw [if_pos h]
  by_cases c : i < l
  · rw [if_pos c, if_pos (by omega)]
  · rw [if_neg c, if_neg (by omega)]
theorem atI_ge {α : Type} {xs : List α} {i : Int} (h : 0 ≤ i) : L2.atI xs i = xs[i.toNat]? := by
  unfold L2.atI
  rw [ixN_ge h]
  by_cases c : i.toNat < xs.length
  · rw [if_pos c]; rfl
  · rw [if_neg c, List.getElem?_eq_none (by omega)]; rfl
@[simp] theorem atI_lit {α : Type} {xs : List α} {n : Nat} : L2.atI xs (no_index (OfNat.ofNat n)) = xs[n]? := atI_ge (i := (n : Int)) (by omega)
@[simp] theorem ixN_lit {l n : Nat} : L2.ixN l (no_index (OfNat.ofNat n)) = if n < l then some n else none := ixN_ge (i := (n : Int)) (by omega)
@[simp] theorem atI_natc {α : Type} {xs : List α} {n : Nat} : L2.atI xs (n : Int) = xs[n]? := atI_ge (i := (n : Int)) (by omega)
/-! ### the state that the draws come from -/
structure StOk (S : Store) (s k : Nat) : Prop where
  ex : ∃ (a b c sd e : Int) (cs : List Int), S[s]? = some (.lst [.int a, .int b, .int c, .int sd, .ref k, .int e]) ∧ S[k]? = some (.lst (cs.map D.int)) ∧ k ≠ s ∧ 0 ≤ a ∧ 0 ≤ b
theorem StOk.ext {S S' : Store} {s k : Nat} {xs : List Nat} (h : StOk S s k) (x : Ext xs S S') (n : s ∉ xs) (hk : k ∉ xs) : StOk S' s k := by
  obtain ⟨a, b, c, sd, e, cs, h1, h2, h3, h4, h5⟩ := h.ex
  exact ⟨a, b, c, sd, e, cs, x.at_ _ _ h1 n, x.at_ _ _ h2 hk, h3, h4, h5⟩
theorem StOk.push {S : Store} {s k : Nat} (h : StOk S s k) (o : O) : StOk (S ++ [o]) s k := h.ext (Ext.push [] S o) (by simp) (by simp)
theorem StOk.lt {S : Store} {s k : Nat} (h : StOk S s k) : s < S.length := by
  obtain ⟨a, b, c, sd, e, cs, h1, _⟩ := h.ex
  exact lt_of_some h1
theorem StOk.ltk {S : Store} {s k : Nat} (h : StOk S s k) : k < S.length := by
  obtain ⟨a, b, c, sd, e, cs, h1, h2, _⟩ := h.ex
  exact lt_of_some h2

def bMixed : S := .cons (.set 2 (.bin .mod (.bi .int (.cons (.bin .add (.bin .add (.bin .mul (.v 0) (.int 48271)) (.bin .mul (.v 1) (.int 69621))) (.int 97)) (.nil))) (.int 2147483647))) (.cons (.set 3 (.bin .mod (.bi .int (.cons (.bin .add (.bin .add (.bin .mul (.v 2) (.bin .add (.bin .add (.v 2) (.bin .mul (.int 2) (.v 1))) (.int 1))) (.bin .mul (.v 1) (.int 16807))) (.int 31)) (.nil))) (.int 2147483629))) (.cons (.ret (.bin .mod (.bi .int (.cons (.bin .add (.bin .mul (.v 3) (.int 40692)) (.v 2)) (.nil))) (.int 2147483587))) (.nil)))
def bTake (i : Nat) : S := .cons (.set 2 (.ix (.v 0) (.int 4))) (.cons (.aix (.v 0) (.int 2) .add (.int 1)) (.cons (.ite (.bo true (.cons (.cmp .eq (.ix (.v 0) (.int 0)) (.int 0)) (.cons (.cmp .lt (.ix (.v 0) (.int 1)) (.bi .len (.cons (.v 2) (.nil)))) (.nil)))) (.cons (.set 3 (.ix (.v 2) (.ix (.v 0) (.int 1)))) (.cons (.aix (.v 0) (.int 1) .add (.int 1)) (.cons (.ite (.cmp .lt (.bi .abs (.cons (.v 3) (.nil))) (.bin .pow (.int 10) (.int 18))) (.cons (.ret (.bin .mod (.bi .int (.cons (.call i (.cons (.v 3) (.cons (.ix (.v 0) (.int 2)) (.nil)))) (.nil))) (.v 1))) (.nil)) (.nil)) (.cons (.six (.v 0) (.int 0) (.bi .abs (.cons (.v 3) (.nil)))) (.cons (.six (.v 0) (.int 5) (.int 60)) (.nil)))))) (.nil)) (.cons (.ite (.cmp .eq (.ix (.v 0) (.int 0)) (.int 0)) (.cons (.ret (.bin .mod (.bi .int (.cons (.call i (.cons (.ix (.v 0) (.int 3)) (.cons (.ix (.v 0) (.int 2)) (.nil)))) (.nil))) (.v 1))) (.nil)) (.nil)) (.cons (.set 4 (.bin .mod (.bi .int (.cons (.ix (.v 0) (.int 0)) (.nil))) (.v 1))) (.cons (.aix (.v 0) (.int 5) .sub (.int 1)) (.cons (.six (.v 0) (.int 0) (.bin .mul (.bin .fdiv (.ix (.v 0) (.int 0)) (.v 1)) (.bi .int (.cons (.cmp .gt (.ix (.v 0) (.int 5)) (.int 0)) (.nil))))) (.cons (.ret (.v 4)) (.nil))))))))
section
variable {P : List Df} {m n : Nat} {ps : List Str}
theorem sp_mixed {f : Nat} (h : P[f]? = some ⟨2, 4, [], ps, bMixed⟩) (a b : Int) (S : Store) : wp (callF P m (n + 1) f [.int a, .int b] S) fun d S' => ∃ v, d = .int v ∧ S' = S := by
  refine wp_callF h rfl ?_
  simp [bMixed, startD]
  omega

theorem sp_take {f g : Nat} (h : P[f]? = some ⟨2, 5, [], ps, bTake g⟩) (hg : P[g]? = some ⟨2, 4, [], qs, bMixed⟩) {s k : Nat} {S : Store} (st : StOk S s k) {lim : Int} (h1 : 0 < lim) (h2 : lim < 1073741824) :
    wp (callF P m (n + 2) f [.ref s, .int lim] S) fun d S' => ∃ v, d = .int v ∧ 0 ≤ v ∧ v < lim ∧ StOk S' s k ∧ Ext [s] S S' := by
  obtain ⟨a, b, c, sd, e, cs, q1, q2, q3, q4, q5⟩ := st.ex
  refine wp_callF h rfl ?_
  have hs := lt_of_some q1
  have e1 : ∀ o, (S.set s o)[s]? = some o := fun o => List.getElem?_set_self hs
  have e2 : ∀ o, (S.set s o)[k]? = some (.lst (cs.map D.int)) := fun o => by rw [List.getElem?_set_ne q3.symm]; exact q2
  have stk : ∀ (a b c sd e : Int), 0 ≤ a → 0 ≤ b → StOk (S.set s (.lst [.int a, .int b, .int c, .int sd, .ref k, .int e])) s k := fun a b c sd e z1 z2 => ⟨a, b, c, sd, e, cs, e1 _, e2 _, q3, z1, z2⟩
  have ex : ∀ o, Ext [s] S (S.set s o) := fun o => Ext.set S (by simp) o
  have fin : ∀ (v a b c sd e : Int), 0 ≤ a → 0 ≤ b → 0 ≤ v % lim ∧ v % lim < lim ∧ StOk (S.set s (.lst [.int a, .int b, .int c, .int sd, .ref k, .int e])) s k ∧ Ext [s] S (S.set s (.lst [.int a, .int b, .int c, .int sd, .ref k, .int e])) :=
    fun v a b c sd e z1 z2 => ⟨Int.emod_nonneg _ (by omega), Int.emod_lt_of_pos _ h1, stk _ _ _ _ _ z1 z2, ex _⟩
  -- one draw of the state's number
  have tail : ∀ (a b c e : Int), 0 ≤ a → 0 ≤ b → (-18446744073709551616 < a / lim ∧ a / lim < 18446744073709551616 ∨ (-18446744073709551616 < if 1 < e then (1 : Int) else 0) ∧ (if 1 < e then (1 : Int) else 0) < 18446744073709551616) ∧ 0 ≤ a % lim ∧ a % lim < lim ∧ StOk (S.set s (.lst [.int (a / lim * (if 1 < e then 1 else 0)), .int b, .int c, .int sd, .ref k, .int (e - 1)])) s k ∧ Ext [s] S (S.set s (.lst [.int (a / lim * (if 1 < e then 1 else 0)), .int b, .int c, .int sd, .ref k, .int (e - 1)])) :=
    fun a b c e z1 z2 => ⟨.inr (by split <;> decide), fin a _ b c sd _ (Int.mul_nonneg (Int.ediv_nonneg z1 (by omega)) (by split <;> omega)) z2⟩
  simp [bTake, startD, q1, q2, e1, e2]
  by_cases ha : a = 0
  · subst ha
    simp only [if_true]
    by_cases hb : b < cs.length
    · rw [if_pos hb]
      have hb' : b.toNat < cs.length := by omega
      rw [atI_ge q5, List.getElem?_map, List.getElem?_eq_getElem hb']
      generalize cs[b.toNat] = cell
      simp [e1, e2, q2]
      by_cases hc : (if cell < 0 then -cell else cell) < 1000000000000000000
      · simp only [hc, if_true]
        refine wp_mono (sp_mixed hg _ _ _) ?_
        rintro _ _ ⟨v, rfl, rfl⟩
        simp [h1]
        exact fin v 0 (b + 1) (c + 1) sd e (by omega) (by omega)
      · simp only [hc, if_false]
        have hz : ¬ (if cell < 0 then -cell else cell) = 0 := by omega
        simp [e1, e2, q2, hz, h1, h2]
        exact fin _ _ (b + 1) _ sd _ (Int.ediv_nonneg (by split <;> omega) (by omega)) (by omega)
    · rw [if_neg hb]
      refine wp_mono (sp_mixed hg _ _ _) ?_
      rintro _ _ ⟨v, rfl, rfl⟩
      simp [h1]
      exact fin v 0 b (c + 1) sd e (by omega) (by omega)
  · simp [ha, e1, e2, q2, h1, h2]
    exact tail a b (c + 1) e q4 q5

def bPick (i : Nat) : S := .cons (.ret (.ix (.v 1) (.call i (.cons (.v 0) (.cons (.bi .len (.cons (.v 1) (.nil))) (.nil)))))) (.nil)
/-- the draws' defs stand at their places -/
structure Draws (P : List Df) (iM iT iP : Nat) : Prop where
  mix : ∃ ps, P[iM]? = some ⟨2, 4, [], ps, bMixed⟩
  take : ∃ ps, P[iT]? = some ⟨2, 5, [], ps, bTake iM⟩
  pick : ∃ ps, P[iP]? = some ⟨2, 2, [], ps, bPick iT⟩
/-- after a draw: k the list of the state's cells -/
structure Af (s k : Nat) (S S' : Store) : Prop where
  st : StOk S' s k
  ext : Ext [s] S S'
theorem Af.refl {s k : Nat} {S : Store} (h : StOk S s k) : Af s k S S := ⟨h, Ext.refl _ _⟩
theorem Af.trans {s k : Nat} {S S1 S2 : Store} (a : Af s k S S1) (b : Af s k S1 S2) : Af s k S S2 := ⟨b.st, a.ext.trans b.ext⟩
theorem Af.push {s k : Nat} {S S1 : Store} (a : Af s k S S1) (o : O) : Af s k S (S1 ++ [o]) := ⟨a.st.push o, a.ext.pushed o⟩
theorem Af.pushs {s k : Nat} {S S1 : Store} (a : Af s k S S1) : ∀ t : Store, Af s k S (S1 ++ t)
  | [] => by rw [List.append_nil]; exact a
  | o :: t => by
    have h := Af.pushs (a.push o) t
    rw [List.append_assoc] at h
    exact h
/-- a list that is newer than S may change -/
theorem Af.setN {s k : Nat} {S S1 : Store} (a : Af s k S S1) (st : StOk S s k) {i : Nat} (h : S.length ≤ i) (o : O) : Af s k S (S1.set i o) :=
  ⟨a.st.ext (xs := [i]) (Ext.set S1 (by simp) o) (by have := st.lt; simp; omega) (by have := st.ltk; simp; omega), a.ext.setN h o⟩
theorem Af.at_ {s k : Nat} {S S1 : Store} (a : Af s k S S1) {i : Nat} {o : O} (h : S[i]? = some o) (n : i ≠ s) : S1[i]? = some o := a.ext.at_ _ _ h (by simpa using n)
theorem Draws.tk {P : List Df} {iM iT iP m n : Nat} (d : Draws P iM iT iP) {s k : Nat} {S : Store} (st : StOk S s k) {lim : Int} (h1 : 0 < lim) (h2 : lim < 1073741824) :
    wp (callF P m (n + 2) iT [.ref s, .int lim] S) fun d S' => ∃ v, d = .int v ∧ 0 ≤ v ∧ v < lim ∧ Af s k S S' := by
  obtain ⟨_, h⟩ := d.mix
  obtain ⟨_, g⟩ := d.take
  exact wp_mono (sp_take g h st h1 h2) fun d S' ⟨v, e, a, b, c, x⟩ => ⟨v, e, a, b, c, x⟩
/-- one of a list's items -/
theorem Draws.pkL {P : List Df} {iM iT iP m n : Nat} (d : Draws P iM iT iP) {s k r : Nat} {S : Store} (st : StOk S s k) {ds : List D} (hk : S[r]? = some (.lst ds)) (hks : r ≠ s) (h1 : 0 < ds.length) (h2 : ds.length < 1073741824) :
    wp (callF P m (n + 3) iP [.ref s, .ref r] S) fun d S' => d ∈ ds ∧ Af s k S S' := by
  obtain ⟨_, h⟩ := d.pick
  refine wp_callF h rfl ?_
  simp [bPick, startD, hk]
  refine wp_mono (d.tk st (by omega) (by omega)) ?_
  rintro _ S' ⟨v, rfl, a, b, c⟩
  have e := c.at_ hk hks
  have hv : v.toNat < ds.length := by omega
  simp [e, atI_ge a, List.getElem?_eq_getElem hv]
  exact c
theorem Draws.pkT {P : List Df} {iM iT iP m n : Nat} (d : Draws P iM iT iP) {s k : Nat} {S : Store} (st : StOk S s k) {ds : List D} (h1 : 0 < ds.length) (h2 : ds.length < 1073741824) :
    wp (callF P m (n + 3) iP [.ref s, .tup ds] S) fun d S' => d ∈ ds ∧ Af s k S S' := by
  obtain ⟨_, h⟩ := d.pick
  refine wp_callF h rfl ?_
  simp [bPick, startD]
  refine wp_mono (d.tk st (by omega) (by omega)) ?_
  rintro _ S' ⟨v, rfl, a, b, c⟩
  have hv : v.toNat < ds.length := by omega
  simp [atI_ge a, List.getElem?_eq_getElem hv]
  exact c

def bShuf (i : Nat) : S := .cons (.set 2 (.bi .list (.cons (.v 1) (.nil)))) (.cons (.set 3 (.lst (.nil))) (.cons (.for (.nm 4) (.qr (.bi .len (.cons (.v 1) (.nil)))) (.cons (.set 5 (.call i (.cons (.v 0) (.cons (.bi .len (.cons (.v 2) (.nil))) (.nil))))) (.cons (.ex (.mt .append (.v 3) (.cons (.ix (.v 2) (.v 5)) (.nil)))) (.cons (.set 2 (.bin .add (.sl (.v 2) .nil (.v 5)) (.sl (.v 2) (.bin .add (.v 5) (.int 1)) .nil))) (.nil))))) (.cons (.ret (.v 3)) (.nil))))
theorem big : sizeLine = 16777216 := sizeLine_eq
theorem sp_shuf {P : List Df} {iM iT iP m n f : Nat} (d : Draws P iM iT iP) (h : P[f]? = some ⟨2, 6, [], ps, bShuf iT⟩) {s k : Nat} {S : Store} (st : StOk S s k) {a : D} {ds : List D} (ha : (a = .tup ds) ∨ (∃ k, a = .ref k ∧ k ≠ s ∧ S[k]? = some (.lst ds)))
    (h2 : ds.length < 10000) (hm : 10000 < m) : wp (callF P m (n + 3) f [.ref s, a] S) fun d S' => ∃ r es, d = .ref r ∧ S'[r]? = some (.lst es) ∧ es.Perm ds ∧ S.length ≤ r ∧ Af s k S S' := by
  have hs := st.lt
  have hb := big
  refine wp_callF h rfl ?_
  have hsq : seqD a S = some ds := by
    rcases ha with rfl | ⟨k, rfl, _, e⟩
    · rfl
    · simp [e]
  have lenA : ∀ t : Store, fbD .len [a] (S ++ t) = .ok (.int ds.length) (S ++ t) := fun t => by
    rcases ha with rfl | ⟨k, rfl, ks, e⟩
    · rfl
    · simp [ap_lt (Lt.of e), e]
  simp [bShuf, startD, hsq, lenA]
  refine ⟨by omega, ?_⟩
  refine wp_rng (fun i ls S' => ∃ l x y ls' fs, ls = [some (.ref s), some a, some (.ref l), some (.ref (S.length + 1)), x, y] ∧ S'[l]? = some (.lst ls') ∧ S'[S.length + 1]? = some (.lst fs) ∧ (fs ++ ls').Perm ds ∧ fs.length = i ∧ l ≠ S.length + 1 ∧ S.length ≤ l ∧ Af s k S S') (by omega) ?_ ?_ ?_
  · refine ⟨_, _, _, ds, [], rfl, ?_, ?_, by simp, rfl, by omega, by omega, ?_⟩
    · simp
    · simp
    · simpa using ((Af.refl st).push (.lst ds)).push (.lst [])
  · rintro i ls S' hi ⟨l, x, y, ls', fs, rfl, q1, q2, q3, q4, q5, q6, q8⟩
    have hpl := q3.length_eq
    rw [List.length_append] at hpl
    simp [q1]
    refine wp_mono (d.tk q8.st (lim := ls'.length) (by omega) (by omega)) ?_
    rintro _ S1 ⟨v, rfl, v1, v2, af⟩
    have hls : l ≠ s := by omega
    have hrs : S.length + 1 ≠ s := by omega
    have a1 := af.at_ q1 hls
    have a2 := af.at_ q2 hrs
    have hv : v.toNat < ls'.length := by omega
    have af2 := q8.trans af
    have e1 : (v + 1).toNat = v.toNat + 1 := by omega
    simp [a1, a2, atI_ge v1, List.getElem?_eq_getElem hv, set_ne q5.symm, ap_slt (Lt.of a1), ap_slt (Lt.of a2), set_same (Lt.of a2), cut_hi v1, cut_lo (i := v + 1) (by omega)]
    refine ⟨by omega, by omega, ?_, by omega, by have := lt_of_some a2; omega, by have := lt_of_some a2; omega, (af2.setN st (by omega) _).pushs _⟩
    rw [e1]
    refine List.Perm.trans ?_ q3
    refine List.Perm.append_left fs ?_
    have := (List.getElem_cons_drop hv).symm
    exact (List.perm_middle (a := ls'[v.toNat]) (l₁ := ls'.take v.toNat) (l₂ := ls'.drop (v.toNat + 1))).symm.trans (by rw [List.getElem_cons_drop hv, List.take_append_drop])
  · rintro ls S' ⟨l, x, y, ls', fs, rfl, q1, q2, q3, q4, q5, q6, q8⟩
    have hpl := q3.length_eq
    rw [List.length_append] at hpl
    simp
    have : ls' = [] := List.eq_nil_of_length_eq_zero (by omega)
    subst this
    exact ⟨fs, q2, by simpa using q3, q8⟩

def bStart (i : Nat) : S := .cons (.set 1 (.bi .len (.cons (.v 0) (.nil)))) (.cons (.for (.nm 2) (.q (.sl (.v 0) .nil (.int 63))) (.cons (.set 1 (.call i (.cons (.bin .add (.v 1) (.v 2)) (.cons (.int 5) (.nil))))) (.nil))) (.cons (.ret (.lst (.cons (.int 0) (.cons (.int 0) (.cons (.int 0) (.cons (.v 1) (.cons (.bi .list (.cons (.sl (.v 0) .nil (.int 63)) (.nil))) (.cons (.int 0) (.nil))))))))) (.nil)))
theorem sp_start {P : List Df} {iM m n f : Nat} (h : P[f]? = some ⟨1, 3, [], ps, bStart iM⟩) (hM : P[iM]? = some ⟨2, 4, [], qs, bMixed⟩) (ns : List Int) (S : Store) (hm : 10000 < m) :
    wp (callF P m (n + 2) f [.rol (ns.map D.int)] S) fun d S' => ∃ s k, d = .ref s ∧ StOk S' s k ∧ S.length ≤ s ∧ Ext [] S S' := by
  have hb := big
  refine wp_callF h rfl ?_
  simp [bStart, startD]
  refine wp_obj (ds := (ns.map D.int).take 63) (fun i ls S' => ∃ (seed : Int) (x : Option D), ls = [some (.rol (ns.map D.int)), some (.int seed), x] ∧ S' = S ++ [.lst ((ns.map D.int).take 63)]) ?_ ?_ ?_ ?_ ?_
  · rintro i ls S' ⟨seed, x, rfl, rfl⟩
    simp
  · rw [List.length_take]; omega
  · exact ⟨_, _, rfl, by simp⟩
  · rintro i d ls S' hd ⟨seed, x, rfl, rfl⟩
    obtain ⟨c, hc⟩ : ∃ c : Int, d = .int c := by
      rw [List.getElem?_take] at hd
      split at hd
      · rw [List.getElem?_map] at hd
        obtain ⟨c, _, rfl⟩ := Option.map_eq_some_iff.mp hd
        exact ⟨c, rfl⟩
      · cases hd
    subst hc
    refine ⟨_, rfl, ?_⟩
    simp
    refine wp_mono (sp_mixed hM _ _ _) ?_
    rintro _ _ ⟨v, rfl, rfl⟩
    simp
  · rintro ls S' ⟨seed, x, rfl, rfl⟩
    simp
    refine ⟨by omega, ⟨S.length + 2, ?_⟩, ?_⟩
    · refine ⟨0, 0, 0, seed, 0, ns.take 63, ?_, ?_, by omega, by omega, by omega⟩
      · simp
      · simp [List.map_take]
    · have := ((((Ext.refl [] S).pushed (.lst ((ns.map D.int).take 63))).pushed (.lst ((ns.map D.int).take 63))).pushed (.lst ((ns.map D.int).take 63))).pushed (.lst [.int 0, .int 0, .int 0, .int seed, .ref (S.length + 2), .int 0])
      simpa [List.map_take] using this

/-! ### alike -/
mutual
def dep : D → Nat
  | .tup ds => deps ds + 1
  | _ => 0
def deps : List D → Nat
  | [] => 0
  | d :: ds => max (dep d) (deps ds)
end
mutual
/-- plain values -/
def Pl : D → Prop
  | .non => True | .bl _ => True | .int _ => True | .str _ => True
  | .tup ds => ds.length < 10000 ∧ Pls ds
  | _ => False
def Pls : List D → Prop
  | [] => True
  | d :: ds => Pl d ∧ Pls ds
end
theorem deps_at : ∀ {ds : List D} {i : Nat} {d : D}, ds[i]? = some d → dep d ≤ deps ds
  | [], i, d, h => by simp at h
  | e :: ds, 0, d, h => by
    simp at h; subst h
    simp only [deps]; omega
  | e :: ds, i + 1, d, h => by
    simp at h
    have := deps_at h
    simp only [deps]; omega
theorem pls_at : ∀ {ds : List D} {i : Nat} {d : D}, Pls ds → ds[i]? = some d → Pl d
  | [], i, d, _, h => by simp at h
  | e :: ds, 0, d, p, h => by
    simp at h; subst h
    simp only [Pls] at p; exact p.1
  | e :: ds, i + 1, d, p, h => by
    simp at h
    simp only [Pls] at p
    exact pls_at p.2 h
def bSame (i : Nat) : S := .cons (.ite (.cmp .is (.v 1) (.non)) (.cons (.ret (.cmp .is (.v 0) (.non))) (.nil)) (.nil)) (.cons (.ite (.isi .bool (.v 1)) (.cons (.ret (.bo true (.cons (.isi .bool (.v 0)) (.cons (.cmp .eq (.v 0) (.v 1)) (.nil))))) (.nil)) (.nil)) (.cons (.ite (.isi .int (.v 1)) (.cons (.ret (.bo true (.cons (.isi .int (.v 0)) (.cons (.no (.isi .bool (.v 0))) (.cons (.cmp .eq (.v 0) (.v 1)) (.nil)))))) (.nil)) (.nil)) (.cons (.ite (.isi .str (.v 1)) (.cons (.ret (.bo true (.cons (.isi .str (.v 0)) (.cons (.cmp .eq (.v 0) (.v 1)) (.nil))))) (.nil)) (.nil)) (.cons (.ite (.bo false (.cons (.no (.isi .tuple (.v 0))) (.cons (.cmp .ne (.bi .len (.cons (.v 0) (.nil))) (.bi .len (.cons (.v 1) (.nil)))) (.nil)))) (.cons (.ret (.bl false)) (.nil)) (.nil)) (.cons (.for (.nm 2) (.qr (.bi .len (.cons (.v 1) (.nil)))) (.cons (.ite (.no (.call i (.cons (.ix (.v 0) (.v 2)) (.cons (.ix (.v 1) (.v 2)) (.nil))))) (.cons (.ret (.bl false)) (.nil)) (.nil)) (.nil))) (.cons (.ret (.bl true)) (.nil)))))))
theorem sp_same {P : List Df} {m f : Nat} (h : P[f]? = some ⟨2, 3, [], ps, bSame f⟩) (hm : 10000 < m) (S : Store) : ∀ (n : Nat) (d : D), dep d ≤ n → Pl d → wp (callF P m (n + 1) f [d, d] S) fun r S' => r = .bl true ∧ S' = S := by
  intro n
  induction n with
  | zero =>
    intro d hd hp
    refine wp_callF h rfl ?_
    cases d with
    | tup ds => simp [dep] at hd
    | rol ds => simp [Pl] at hp
    | ref k => simp [Pl] at hp
    | exv c es => simp [Pl] at hp
    | _ => simp [bSame, startD]
  | succ n ih =>
    intro d hd hp
    refine wp_callF h rfl ?_
    cases d with
    | rol ds => simp [Pl] at hp
    | ref k => simp [Pl] at hp
    | exv c es => simp [Pl] at hp
    | tup ds =>
      simp only [Pl] at hp
      simp only [dep] at hd
      simp [bSame, startD]
      refine ⟨by omega, ?_⟩
      refine wp_rng (fun i ls S' => ∃ x, ls = [some (.tup ds), some (.tup ds), x] ∧ S' = S) (by omega) ⟨_, rfl, rfl⟩ ?_ ?_
      · rintro i ls S' hi ⟨x, rfl, rfl⟩
        have e := List.getElem?_eq_getElem hi
        simp [e]
        refine wp_mono (ih _ (by have := deps_at e; omega) (pls_at hp.2 e)) ?_
        rintro _ _ ⟨rfl, rfl⟩
        simp
      · rintro ls S' ⟨x, rfl, rfl⟩
        simp
    | _ => simp [bSame, startD]
end
end PV

set_option Elab.async false
set_option linter.all false
set_option maxRecDepth 100000
set_option maxHeartbeats 1000000
/-! Names, by PV. -/
namespace PV
open PySem

@[simp] theorem asInts_map (ns : List Int) : asInts (ns.map D.int) = some ns := by
  induction ns with
  | nil => rfl
  | cons n ns ih => simp [asInts, ih]
@[simp] theorem asStrs_map (ns : List Str) : asStrs (ns.map D.str) = some ns := by
  induction ns with
  | nil => rfl
  | cons n ns ih => simp [asStrs, ih]
theorem sortD_strs {xs : List Str} (h : xs.length < 64) : sortD (xs.map D.str) = some ((isort leS xs).map D.str) := by
  unfold sortD
  rw [if_pos (by simpa using h)]
  cases xs with
  | nil => rfl
  | cons x xs =>
    have e : asInts ((x :: xs).map D.str) = none := rfl
    rw [e, asStrs_map]
theorem sortD_ints {xs : List Int} (h : xs.length < 64) : sortD (xs.map D.int) = some ((isort leI xs).map D.int) := by
  unfold sortD
  rw [if_pos (by simpa using h), asInts_map]
theorem isortS_sorted (xs : List Str) : (isort leS xs).Pairwise (fun a b => leS a b = true) := isort_sorted leS_trans leS_total xs

def sgn : List Nat := [97, 98, 99, 100, 101, 102, 103, 104, 105, 106, 107, 108, 109, 110, 111, 112, 113, 114, 115, 116, 117, 118, 119, 120, 121, 122, 48, 49, 50, 51, 52, 53, 54, 55, 56, 57, 46]
theorem sgn_eq : (Str.ofString "abcdefghijklmnopqrstuvwxyz0123456789.").cps.toList = sgn := by decide +kernel
theorem sgn_nodup : sgn.Nodup := by decide
theorem S_tl (l : List Nat) : (SX.S l).cps.toList = l := rfl
theorem join0 (ys : List (List Nat)) : (Txt.join (Str.ofString "") (ys.map SX.S)) = SX.S ys.flatten := by
  have e : Str.ofString "" = SX.S [] := by decide +kernel
  rw [e, SX.join_S]
  congr 1
  have key : ∀ ys : List (List Nat), TL.joinL [] ys = ys.flatten := by
    intro ys
    induction ys with
    | nil => rfl
    | cons p r ih =>
      cases r with
      | nil => simp [TL.joinL]
      | cons q r => simp only [TL.joinL, ih]; simp
  exact key ys
theorem cutS_hi {w : List Nat} {i : Int} (h : 0 ≤ i) : L2.cutS (SX.S w) none (some i) = SX.S (w.take i.toNat) := by
  unfold L2.cutS HT.sIx
  have l : (SX.S w).length = w.length := SX.S_len w
  simp only [List.drop_zero]
  rw [if_neg (by omega), l, Nat.sub_zero, ← List.take_eq_take_min]
def bNames_ (i : Nat) : S := .cons (.set 2 (.str "abcdefghijklmnopqrstuvwxyz0123456789.")) (.cons (.set 3 (.mt .join (.str "") (.cons (.lc [("k", 4)] (.nm 4) (.qr (.int 10)) .nil (.ix (.v 2) (.call i (.cons (.v 0) (.cons (.int 37) (.nil)))))) (.nil)))) (.cons (.set 5 (.call i (.cons (.v 0) (.cons (.int 37) (.nil))))) (.cons (.set 6 (.lst (.nil))) (.cons (.for (.nm 4) (.qr (.v 1)) (.cons (.set 7 (.call i (.cons (.v 0) (.cons (.int 11) (.nil))))) (.cons (.ex (.mt .append (.v 6) (.cons (.bin .add (.bin .add (.sl (.v 3) .nil (.v 7)) (.ix (.v 2) (.bin .mod (.bi .int (.cons (.bin .add (.v 5) (.v 4)) (.nil))) (.int 37)))) (.bin .mul (.ix (.v 2) (.bin .fdiv (.v 4) (.int 37))) (.bi .int (.cons (.cmp .gt (.v 1) (.int 37)) (.nil))))) (.nil)))) (.nil)))) (.cons (.ret (.bi .tuple (.cons (.bi .sorted (.cons (.v 6) (.nil))) (.nil)))) (.nil))))))
theorem getD_lt {α : Type} {l : List α} {i : Nat} {d : α} (h : i < l.length) : l.getD i d = l[i] := by simp [List.getD, List.getElem?_eq_getElem h]
theorem flat1 {α : Type} : ∀ ys : List α, (ys.map fun c => [c]).flatten = ys
  | [] => rfl
  | y :: ys => by simp [flat1 ys]
def sg (i : Nat) : Nat := sgn.getD i 0
theorem sg_lt {i : Nat} (h : i < sgn.length) : sg i = sgn[i] := getD_lt h
/-- how the k-th of many names ends -/
def suf (st many k : Nat) : List Nat := sg ((st + k) % 37) :: (if 37 < many then [sg (k / 37)] else [])
theorem suf_inj {st many k j : Nat} (hk : k < many) (hj : j < many) (hm : many ≤ 1000) (h : suf st many k = suf st many j) : k = j := by
  have l : sgn.length = 37 := rfl
  have e1 : (st + k) % 37 = (st + j) % 37 := by
    have := (List.cons.inj h).1
    have b1 : (st + k) % 37 < sgn.length := by omega
    have b2 : (st + j) % 37 < sgn.length := by omega
    rw [sg_lt b1, sg_lt b2] at this
    exact (List.getElem_inj sgn_nodup).mp this
  have t := (List.cons.inj h).2
  by_cases c : 37 < many
  · rw [if_pos c, if_pos c] at t
    have := (List.cons.inj t).1
    have b1 : k / 37 < sgn.length := by omega
    have b2 : j / 37 < sgn.length := by omega
    rw [sg_lt b1, sg_lt b2] at this
    have := (List.getElem_inj sgn_nodup).mp this
    omega
  · omega
section
variable {P : List Df} {iM iT iP m n f : Nat} {ps : List Str}
theorem sp_names (d : Draws P iM iT iP) (h : P[f]? = some ⟨2, 8, [], ps, bNames_ iT⟩) {s k : Nat} {S : Store} (st : StOk S s k) {many : Nat} (h2 : many < 64) (hm : 10000 < m) :
    wp (callF P m (n + 3) f [.ref s, .int many] S) fun d S' => ∃ xs : List Str, d = .tup (xs.map D.str) ∧ xs.length = many ∧ xs.Nodup ∧ xs.Pairwise (fun a b => leS a b = true) ∧ (∀ x ∈ xs, x.length ≤ 12 ∧ (many ≤ 37 → x.length ≤ 11)) ∧ Af s k S S' := by
  have hb := big
  refine wp_callF h rfl ?_
  simp [bNames_, startD]
  refine wp_lcR (fun i acc S' => ∃ ys : List Nat, acc = ys.map (fun c => .str (SX.S [c])) ∧ ys.length = i ∧ Af s k S S') (by omega) ⟨[], rfl, rfl, (Af.refl st).push _⟩ (by simp) ?_ ?_
  · rintro i acc S' hi ⟨ys, rfl, hy, af⟩ hr
    unfold lcTurn
    simp
    refine wp_mono (d.tk af.st (by decide) (by decide)) ?_
    rintro _ S1 ⟨v, rfl, v1, v2, af1⟩
    have hv : v.toNat < sgn.length := by show v.toNat < 37; omega
    simp [sgn_eq, atI_ge v1, List.getElem?_eq_getElem hv]
    have hs := st.lt
    have e := af1.at_ hr (by omega)
    refine ⟨e, by omega, ys ++ [sgn[v.toNat]], by simp, by simp [hy], (af.trans af1).setN st (Nat.le_refl _) _⟩
  · rintro acc S' ⟨ys, rfl, hy, af⟩ hr
    have em : ys.map (fun c => D.str (SX.S [c])) = ((ys.map fun c => [c]).map SX.S).map D.str := by simp
    simp [hr]
    rw [em, asStrs_map]
    simp only [join0]
    rw [flat1]
    have e0 : (Str.ofString "").length = 0 := by decide +kernel
    have e1 : ∀ ys : List Nat, (ys.map fun _ => 1).sum = ys.length := fun ys => by
      induction ys with
      | nil => rfl
      | cons y ys ih => rw [List.map_cons, List.sum_cons, ih, List.length_cons]; omega
    simp [SX.S_len, Function.comp_def, e0, e1]
    refine ⟨by omega, ?_⟩
    refine wp_mono (d.tk af.st (by decide) (by decide)) ?_
    intro d1 S1 hh
    clear e0 e1 em hr
    obtain ⟨v, rfl, v1, v2, af1⟩ := hh
    simp
    refine ⟨by omega, ?_⟩
    have af2 := af.trans af1
    refine wp_rng (fun i ls S' => ∃ (x y : Option D) (xs : List Str), ls = [some (.ref s), some (.int many), some (.str (Str.ofString "abcdefghijklmnopqrstuvwxyz0123456789.")), some (.str (SX.S ys)), x, some (.int v), some (.ref S1.length), y] ∧
        S'[S1.length]? = some (.lst (xs.map D.str)) ∧ xs.length = i ∧ (∀ (j : Nat) (x : Str), xs[j]? = some x → ∃ p : List Nat, p.length ≤ 10 ∧ x = SX.S (p ++ suf v.toNat many j)) ∧ Af s k S S') (by omega) ?_ ?_ ?_
    · exact ⟨_, _, [], rfl, by simp, rfl, by simp, by simpa using af2.push _⟩
    · rintro i ls S2 hi ⟨x, y, xs, rfl, q1, q2, q3, q4⟩
      simp
      refine wp_mono (d.tk q4.st (by decide) (by decide)) ?_
      rintro _ S3 ⟨w, rfl, w1, w2, af3⟩
      have hn : S1.length ≠ s := by have := st.lt; have := af2.ext.len; omega
      have e := af3.at_ q1 hn
      have l37 : sgn.length = 37 := rfl
      have b1 : ((v + (i : Int)) % 37).toNat < sgn.length := by omega
      have b0 : 0 ≤ (v + (i : Int)) % 37 := by omega
      have b2 : ((i : Int) / 37).toNat < sgn.length := by omega
      have b3 : 0 ≤ (i : Int) / 37 := by omega
      have g1 : sgn[((v + (i : Int)) % 37).toNat] = sg ((v.toNat + i) % 37) := by
        rw [sg_lt (by omega)]
        congr 1
        omega
      have g2 : sgn[((i : Int) / 37).toNat] = sg (i / 37) := by
        rw [sg_lt (by omega)]
        congr 1
      have g3 : ∀ c : Nat, (⟨#[c]⟩ : Str) = SX.S [c] := fun c => rfl
      have fin : ∀ p : List Nat, p = ys.take w.toNat ++ suf v.toNat many i → (∃ zs : List Str, xs.map D.str ++ [D.str (SX.S p)] = zs.map D.str ∧ zs.length = i + 1 ∧
          (∀ (j : Nat) (x : Str), zs[j]? = some x → ∃ p : List Nat, p.length ≤ 10 ∧ x = SX.S (p ++ suf v.toNat many j)) ∧ Af s k S (S3.set S1.length (.lst (xs.map D.str ++ [D.str (SX.S p)])))) := fun p hp => by
        refine ⟨xs ++ [SX.S p], by simp, by simp [q2], fun j x hx => ?_, (q4.trans af3).setN st (by have := af2.ext.len; omega) _⟩
        rcases Nat.lt_trichotomy j xs.length with c | c | c
        · rw [List.getElem?_append_left c] at hx
          exact q3 j x hx
        · rw [c, List.getElem?_append_right (Nat.le_refl _)] at hx
          simp at hx
          exact ⟨ys.take w.toNat, by simp; omega, by rw [← hx, hp, c, q2]⟩
        · rw [List.getElem?_append_right (by omega)] at hx
          have : j - xs.length = (j - xs.length - 1) + 1 := by omega
          rw [this] at hx
          simp at hx
      simp [sgn_eq, cutS_hi w1, atI_ge b0, atI_ge b3, List.getElem?_eq_getElem b1, List.getElem?_eq_getElem b2, e, g1, g2, g3, SX.S_len]
      refine ⟨by omega, ?_⟩
      by_cases c : 37 < many
      · have ci : (37 : Int) < many := by omega
        have hm1 : Txt.mul (SX.S [sg (i / 37)]) 1 = SX.S [sg (i / 37)] := rfl
        have hc := fin (ys.take w.toNat ++ [sg ((v.toNat + i) % 37), sg (i / 37)]) (by simp [suf, c])
        simp [ci, SX.S_len, hm1, str_len, e, SX.S_cat, set_same (Lt.of e)]
        refine ⟨by omega, by omega, ?_⟩
        simpa using hc
      · have ci : ¬ (37 : Int) < many := by omega
        have hm1 : Txt.mul (SX.S [sg (i / 37)]) 0 = SX.S [] := rfl
        have hc := fin (ys.take w.toNat ++ [sg ((v.toNat + i) % 37)]) (by simp [suf, c])
        simp [ci, SX.S_len, hm1, str_len, e, SX.S_cat, set_same (Lt.of e)]
        refine ⟨by omega, by omega, ?_⟩
        simpa using hc
    · rintro ls S2 ⟨x, y, xs, rfl, q1, q2, q3, q4⟩
      simp [q1]
      rw [sortD_strs (by omega)]
      simp
      have pm := isort_perm leS xs
      refine ⟨_, rfl, by rw [pm.length_eq, q2], ?_, isortS_sorted xs, fun x hx => ?_, q4.push _⟩
      · refine pm.nodup_iff.mpr ?_
        show List.Pairwise (fun a b => a ≠ b) xs
        rw [List.pairwise_iff_getElem]
        intro a b ha2 hb2 hab e
        have ha := List.getElem?_eq_getElem ha2
        have hb3 := List.getElem?_eq_getElem hb2
        obtain ⟨p, p1, p2⟩ := q3 a _ ha
        obtain ⟨p', p1', p2'⟩ := q3 b _ hb3
        rw [p2, p2'] at e
        have e2 := SX.S_inj e
        have l : (suf v.toNat many a).length = (suf v.toNat many b).length := by
          unfold suf
          by_cases c : 37 < many
          · rw [if_pos c, if_pos c]; rfl
          · rw [if_neg c, if_neg c]; rfl
        have := suf_inj (by omega) (by omega) (by omega) (List.append_inj' e2 l).2
        omega
      · obtain ⟨i, hi⟩ := List.mem_iff_getElem?.mp (pm.mem_iff.mp hx)
        obtain ⟨p, p1, rfl⟩ := q3 i x hi
        rw [SX.S_len, List.length_append]
        have : (suf v.toNat many i).length ≤ 2 ∧ (many ≤ 37 → (suf v.toNat many i).length ≤ 1) := by
          unfold suf
          by_cases c : 37 < many
          · rw [if_pos c]; exact ⟨Nat.le_refl _, fun z => by omega⟩
          · rw [if_neg c]; simp
        exact ⟨by omega, fun z => by have := this.2 z; omega⟩
end
end PV

set_option Elab.async false
set_option linter.all false
set_option maxRecDepth 100000
set_option maxHeartbeats 1000000
/-! Trees, by PV. -/
namespace PV
open PySem

inductive T where
  | leaf (c : Str) | node (n : Str) (ps : List T)
namespace T
mutual
def d : T → D
  | .leaf c => .str c
  | .node n ps => .tup [.str n, .tup (dL ps)]
def dL : List T → List D
  | [] => []
  | t :: ts => t.d :: dL ts
end
mutual
def sz : T → Nat
  | .leaf _ => 1
  | .node _ ps => szL ps + 1
def szL : List T → Nat
  | [] => 0
  | t :: ts => t.sz + szL ts
end
mutual
def dpt : T → Nat
  | .leaf _ => 0
  | .node _ ps => dptL ps + 1
def dptL : List T → Nat
  | [] => 0
  | t :: ts => max t.dpt (dptL ts)
end
mutual
/-- its knots, each with the one above -/
def kn : T → Option Str → List (Str × Option Str)
  | .leaf _, _ => []
  | .node n ps, ab => (n, ab) :: knL ps (some n)
def knL : List T → Option Str → List (Str × Option Str)
  | [], _ => []
  | t :: ts, ab => t.kn ab ++ knL ts ab
end
mutual
/-- its leaves -/
def lv : T → List Str
  | .leaf c => [c]
  | .node _ ps => lvL ps
def lvL : List T → List Str
  | [] => []
  | t :: ts => t.lv ++ lvL ts
end
mutual
/-- its leaves, each with the knot that holds it -/
def hd : T → Str → List (Str × Str)
  | .leaf c, n => [(c, n)]
  | .node n ps, _ => hdL ps n
def hdL : List T → Str → List (Str × Str)
  | [], _ => []
  | t :: ts, n => t.hd n ++ hdL ts n
end
mutual
/-- its knots, each with the one above and the leaves under it -/
def lo : T → Option Str → List (Str × List Str × Option Str)
  | .leaf _, _ => []
  | .node n ps, ab => (n, lvL ps, ab) :: loL ps (some n)
def loL : List T → Option Str → List (Str × List Str × Option Str)
  | [], _ => []
  | t :: ts, ab => t.lo ab ++ loL ts ab
end
def isNode : T → Bool
  | .leaf _ => false
  | .node _ _ => true
theorem dL_map : ∀ ts : List T, dL ts = ts.map d
  | [] => rfl
  | t :: ts => by rw [dL, dL_map ts]; rfl
theorem knL_app (ab : Option Str) : ∀ a b : List T, knL (a ++ b) ab = knL a ab ++ knL b ab
  | [], b => rfl
  | t :: ts, b => by rw [List.cons_append, knL, knL_app ab ts b, knL, List.append_assoc]
theorem lvL_app : ∀ a b : List T, lvL (a ++ b) = lvL a ++ lvL b
  | [], b => rfl
  | t :: ts, b => by rw [List.cons_append, lvL, lvL_app ts b, lvL, List.append_assoc]
theorem hdL_app (n : Str) : ∀ a b : List T, hdL (a ++ b) n = hdL a n ++ hdL b n
  | [], b => rfl
  | t :: ts, b => by rw [List.cons_append, hdL, hdL_app n ts b, hdL, List.append_assoc]
theorem loL_app (ab : Option Str) : ∀ a b : List T, loL (a ++ b) ab = loL a ab ++ loL b ab
  | [], b => rfl
  | t :: ts, b => by rw [List.cons_append, loL, loL_app ab ts b, loL, List.append_assoc]
theorem szL_app : ∀ a b : List T, szL (a ++ b) = szL a + szL b
  | [], b => by simp [szL]
  | t :: ts, b => by rw [List.cons_append, szL, szL_app ts b, szL]; omega
theorem dptL_at : ∀ {ts : List T} {i : Nat} {t : T}, ts[i]? = some t → t.dpt ≤ dptL ts
  | [], i, t, h => by simp at h
  | e :: ts, 0, t, h => by
    simp at h; subst h
    simp only [dptL]; omega
  | e :: ts, i + 1, t, h => by
    simp at h
    have := dptL_at h
    simp only [dptL]; omega
theorem szL_at : ∀ {ts : List T} {i : Nat} {t : T}, ts[i]? = some t → t.sz ≤ szL ts
  | [], i, t, h => by simp at h
  | e :: ts, 0, t, h => by
    simp at h; subst h
    simp only [szL]; omega
  | e :: ts, i + 1, t, h => by
    simp at h
    have := szL_at h
    simp only [szL]; omega
theorem szL_len : ∀ ts : List T, ts.length ≤ szL ts
  | [] => Nat.le_refl _
  | t :: ts => by
    have := szL_len ts
    have h : 1 ≤ t.sz := by cases t <;> simp [sz]
    simp only [szL, List.length_cons]; omega
theorem szL_take : ∀ (ts : List T) (i : Nat), szL (ts.take i) ≤ szL ts
  | [], i => by simp
  | t :: ts, 0 => by simp [szL]
  | t :: ts, i + 1 => by
    have := szL_take ts i
    simp only [List.take_succ_cons, szL]; omega
mutual
theorem kn_len : ∀ (t : T) (ab : Option Str), (t.kn ab).length ≤ t.sz
  | .leaf _, _ => by simp [kn]
  | .node n ps, ab => by
    have := knL_len ps (some n)
    simp only [kn, sz, List.length_cons]; omega
theorem knL_len : ∀ (ts : List T) (ab : Option Str), (knL ts ab).length ≤ szL ts
  | [], _ => by simp [knL]
  | t :: ts, ab => by
    have h1 := kn_len t ab
    have h2 := knL_len ts ab
    simp only [knL, szL, List.length_append]; omega
end
end T
def oD : Option Str → D
  | none => .non
  | some x => .str x
def kD (p : Str × Option Str) : D := .tup [.str p.1, oD p.2]
theorem take_at {α : Type} {l : List α} {i : Nat} {x : α} (h : l[i]? = some x) : l.take (i + 1) = l.take i ++ [x] := by
  rw [List.take_add_one, h]; rfl
theorem dL_at {ps : List T} {i : Nat} {d : D} (h : (T.dL ps)[i]? = some d) : ∃ t, ps[i]? = some t ∧ d = t.d := by
  rw [T.dL_map, List.getElem?_map] at h
  obtain ⟨t, h1, h2⟩ := Option.map_eq_some_iff.mp h
  exact ⟨t, h1, h2.symm⟩
@[simp] theorem dL_len (ps : List T) : (T.dL ps).length = ps.length := by rw [T.dL_map, List.length_map]
@[simp] theorem isi_T (t : T) (S : Store) : isiD .tuple t.d S = some t.isNode := by cases t <;> simp [T.d, T.isNode]
@[simp] theorem isi_S (t : T) (S : Store) : isiD .str t.d S = some (!t.isNode) := by cases t <;> simp [T.d, T.isNode]

def bKnotsOf (i : Nat) : S := .cons (.set 2 (.lst (.cons (.tup (.cons (.ix (.v 0) (.int 0)) (.cons (.v 1) (.nil)))) (.nil)))) (.cons (.for (.nm 3) (.q (.ix (.v 0) (.int 1))) (.cons (.ite (.isi .tuple (.v 3)) (.cons (.ex (.mt .extend (.v 2) (.cons (.call i (.cons (.v 3) (.cons (.ix (.v 0) (.int 0)) (.nil)))) (.nil)))) (.nil)) (.nil)) (.nil))) (.cons (.ret (.v 2)) (.nil)))
section
variable {P : List Df} {m f : Nat} {ps : List Str}
theorem sp_knots (h : P[f]? = some ⟨2, 4, [.non], ps, bKnotsOf f⟩) (hm : 10000 < m) : ∀ (n : Nat) (t : T) (ab : Option Str) (S : Store), t.isNode = true → t.dpt ≤ n → t.sz ≤ 5000 →
    wp (callF P m (n + 1) f [t.d, oD ab] S) fun d S' => ∃ r, d = .ref r ∧ S'[r]? = some (.lst ((t.kn ab).map kD)) ∧ S.length ≤ r ∧ Ext [] S S' := by
  have hb := big
  intro n
  induction n with
  | zero =>
    intro t ab S ht hd _
    cases t with
    | leaf c => cases ht
    | node n ps => simp [T.dpt] at hd
  | succ n ih =>
    intro t ab S ht hd hz
    cases t with
    | leaf c => cases ht
    | node nm qs =>
      simp only [T.dpt] at hd
      simp only [T.sz] at hz
      have hl := T.szL_len qs
      refine wp_callF h rfl ?_
      simp [bKnotsOf, startD, T.d]
      refine ⟨by omega, by omega, ?_⟩
      refine wp_seq (ds := T.dL qs) (.inl rfl) (fun i ls S' => ∃ x, ls = [some (.tup [.str nm, .tup (T.dL qs)]), some (oD ab), some (.ref S.length), x] ∧ S'[S.length]? = some (.lst (kD (nm, ab) :: (T.knL (qs.take i) (some nm)).map kD)) ∧ Ext [] S S') (by rw [dL_len]; omega) ?_ ?_ ?_
      · exact ⟨_, rfl, by simp [T.knL, kD], Ext.push _ _ _⟩
      · rintro i d ls S' hd' ⟨x, rfl, q1, q2⟩
        obtain ⟨t, e, rfl⟩ := dL_at hd'
        refine ⟨_, rfl, ?_⟩
        have ta := take_at e
        have hs := T.szL_at e
        have hdp := T.dptL_at e
        simp [q1]
        cases t with
        | leaf c =>
          simp [T.isNode, ta, T.knL_app, T.knL, T.kn]
          exact q2
        | node nm2 qs2 =>
          simp [T.isNode]
          refine wp_mono (ih (.node nm2 qs2) (some nm) S' rfl (by omega) (by omega)) ?_
          rintro _ S1 ⟨r, rfl, r1, r2, r3⟩
          have e1 := r3.at_ _ _ q1 (by simp)
          have l1 := T.knL_len (qs.take i) (some nm)
          have l2 := T.szL_take qs i
          have l3 := T.kn_len (.node nm2 qs2) (some nm)
          simp [e1, r1, set_same (Lt.of e1)]
          refine ⟨by omega, ?_, (q2.trans r3).setN (Nat.le_refl _) _⟩
          simp [ta, T.knL_app, T.knL]
      · rintro ls S' ⟨x, rfl, q1, q2⟩
        simp
        refine ⟨?_, q2⟩
        rw [q1]
        simp [T.kn]

theorem valG_put {α : Type} {kvs : List (L2.Key × α)} {k k' : L2.Key} {v : α} : valG (putG kvs k v) k' = if k' = k then some v else valG kvs k' := by
  unfold putG
  by_cases c : (kvs.any fun kv => decide (kv.1 = k)) = true
  · rw [if_pos c]
    unfold valG
    induction kvs with
    | nil => simp at c
    | cons p r ih =>
      obtain ⟨a, b⟩ := p
      by_cases ha : a = k
      · subst ha
        by_cases hk : k' = a
        · subst hk; simp
        · have hk' : ¬ a = k' := fun e => hk e.symm
          simp only [List.map_cons, if_true, List.find?_cons, decide_eq_false hk', hk, if_false]
          have key : ∀ r : List (L2.Key × α), ((r.map fun kv => if kv.1 = a then (kv.1, v) else kv).find? fun kv => decide (kv.1 = k')).map (·.2) = (r.find? fun kv => decide (kv.1 = k')).map (·.2) := by
            intro r
            induction r with
            | nil => rfl
            | cons q r ih2 =>
              obtain ⟨x, y⟩ := q
              by_cases hx : x = a
              · simp only [List.map_cons, List.find?_cons, hx, if_true, decide_eq_false hk', ih2]
              · by_cases hx2 : x = k'
                · simp only [List.map_cons, List.find?_cons, if_neg hx, decide_eq_true hx2]
                · simp only [List.map_cons, List.find?_cons, if_neg hx, decide_eq_false hx2, ih2]
          exact key r
      · have c' : (r.any fun kv => decide (kv.1 = k)) = true := by simpa [ha] using c
        by_cases hk : a = k'
        · subst hk
          simp [ha]
        · simp only [List.map_cons, if_neg ha, List.find?_cons, decide_eq_false hk]
          exact ih c'
  · rw [if_neg c]
    unfold valG
    rw [List.find?_append]
    by_cases hk : k' = k
    · subst hk
      have : kvs.find? (fun kv => decide (kv.1 = k')) = none := by
        rw [List.find?_eq_none]
        intro x hx
        have := fun q => c (List.any_eq_true.mpr ⟨x, hx, q⟩)
        exact this
      rw [this]; simp
    · have hk' : ¬ k = k' := fun e => hk e.symm
      simp [hk, hk']
theorem putG_len {α : Type} {kvs : List (L2.Key × α)} {k : L2.Key} {v : α} : (putG kvs k v).length ≤ kvs.length + 1 := by
  unfold putG
  split
  · rw [List.length_map]; omega
  · simp
theorem drop_at {α : Type} {l : List α} {i : Nat} {x : α} (h : l[i]? = some x) : l.drop i = x :: l.drop (i + 1) := by
  have hi := lt_of_some h
  rw [List.drop_eq_getElem_cons hi]
  rw [List.getElem?_eq_getElem hi] at h
  rw [Option.some.inj h]
theorem T.hd_node {t : T} (h : t.isNode = true) (a b : Str) : t.hd a = t.hd b := by
  cases t with
  | leaf c => cases h
  | node n ps => rfl
/-- what is known of holders: H all, ws what waits, rs what waits of the knot n's parts -/
structure HInv (H : List (Str × Str)) (ws : List T) (n : Str) (rs : List T) (kvs : List (L2.Key × D)) : Prop where
  nodes : ∀ w ∈ ws, w.isNode = true
  all : ∀ c h, (c, h) ∈ H → (c, h) ∈ T.hdL ws n ∨ (c, h) ∈ T.hdL rs n ∨ valG kvs (.inr c) = some (.str h)
  sub : ∀ p, p ∈ T.hdL ws n ∨ p ∈ T.hdL rs n → p ∈ H
  ks : ∀ p ∈ kvs, ∃ c, p.1 = .inr c
theorem HInv.leaf {H : List (Str × Str)} {ws rs : List T} {n c : Str} {kvs : List (L2.Key × D)} (fn : ∀ c h h', (c, h) ∈ H → (c, h') ∈ H → h = h') (i : HInv H ws n (.leaf c :: rs) kvs) : HInv H ws n rs (putG kvs (.inr c) (.str n)) := by
  refine ⟨i.nodes, fun c' h hh => ?_, fun p hp => i.sub p (hp.imp id fun q => by simp only [T.hdL]; exact List.mem_append_right _ q), fun p hp => ?_⟩
  · rw [valG_put]
    by_cases e : c' = c
    · subst e
      have := fn c' h n hh (i.sub (c', n) (.inr (by simp [T.hdL, T.hd])))
      subst this
      simp
    · have e2 : ¬ (Sum.inr c' : L2.Key) = .inr c := fun q => e (Sum.inr.inj q)
      rw [if_neg e2]
      rcases i.all c' h hh with q | q | q
      · exact .inl q
      · simp only [T.hdL, T.hd, List.cons_append, List.nil_append, List.mem_cons, Prod.mk.injEq] at q
        rcases q with ⟨q, _⟩ | q
        · exact absurd q e
        · exact .inr (.inl q)
      · exact .inr (.inr q)
  · unfold putG at hp
    split at hp
    · obtain ⟨q, hq, e⟩ := List.mem_map.mp hp
      obtain ⟨x, hx⟩ := i.ks q hq
      split at e
      · exact ⟨x, by rw [← e]; exact hx⟩
      · exact ⟨x, by rw [← e]; exact hx⟩
    · rcases List.mem_append.mp hp with hq | hq
      · exact i.ks p hq
      · simp at hq
        exact ⟨c, by rw [hq]⟩
theorem HInv.node {H : List (Str × Str)} {ws rs : List T} {n : Str} {t : T} {kvs : List (L2.Key × D)} (ht : t.isNode = true) (i : HInv H ws n (t :: rs) kvs) : HInv H (ws ++ [t]) n rs kvs := by
  refine ⟨fun w hw => ?_, fun c h hh => ?_, fun p hp => ?_, i.ks⟩
  · rcases List.mem_append.mp hw with q | q
    · exact i.nodes w q
    · simp at q; subst q; exact ht
  · rcases i.all c h hh with q | q | q
    · exact .inl (by rw [T.hdL_app]; exact List.mem_append_left _ q)
    · simp only [T.hdL] at q
      rcases List.mem_append.mp q with q | q
      · exact .inl (by rw [T.hdL_app]; simp only [T.hdL]; exact List.mem_append_right _ (List.mem_append_left _ q))
      · exact .inr (.inl q)
    · exact .inr (.inr q)
  · refine i.sub p ?_
    rw [T.hdL_app] at hp
    simp only [T.hdL, List.append_nil] at hp ⊢
    rcases hp with q | q
    · rcases List.mem_append.mp q with q | q
      · exact .inl q
      · exact .inr (List.mem_append_left _ q)
    · exact .inr (List.mem_append_right _ q)
theorem HInv.name {H : List (Str × Str)} {ws : List T} {n : Str} {kvs : List (L2.Key × D)} (i : HInv H ws n [] kvs) (n' : Str) : HInv H ws n' [] kvs := by
  have e : T.hdL ws n = T.hdL ws n' := by
    have nd := i.nodes
    clear i
    induction ws with
    | nil => rfl
    | cons w ws ih =>
      simp only [T.hdL]
      rw [ih (fun x hx => nd x (List.mem_cons_of_mem _ hx)), T.hd_node (nd w List.mem_cons_self) n n']
  exact ⟨i.nodes, fun c h hh => by rw [← e]; exact i.all c h hh, fun p hp => i.sub p (by rw [e]; exact hp), i.ks⟩
/-- the last is taken -/
theorem HInv.pop {H : List (Str × Str)} {ws : List T} {n n' : Str} {qs : List T} {kvs : List (L2.Key × D)} (i : HInv H (ws ++ [.node n qs]) n' [] kvs) : HInv H ws n qs kvs := by
  have i := i.name n
  refine ⟨fun w hw => i.nodes w (List.mem_append_left _ hw), fun c h hh => ?_, fun p hp => ?_, i.ks⟩
  · rcases i.all c h hh with q | q | q
    · rw [T.hdL_app] at q
      simp only [T.hdL, T.hd, List.append_nil] at q
      exact (List.mem_append.mp q).imp id .inl
    · simp [T.hdL] at q
    · exact .inr (.inr q)
  · refine i.sub p (.inl ?_)
    rw [T.hdL_app]
    simp only [T.hdL, T.hd, List.append_nil]
    exact List.mem_append.mpr hp

def bHolders : S := .cons (.set 1 (.dnew)) (.cons (.set 2 (.lst (.cons (.v 0) (.nil)))) (.cons (.whl (.v 2) (.cons (.asg (.tup (.cons (.nm 3) (.cons (.nm 4) (.nil)))) (.mt .pop (.v 2) (.nil))) (.cons (.for (.nm 5) (.q (.v 4)) (.cons (.ite (.isi .tuple (.v 5)) (.cons (.ex (.mt .append (.v 2) (.cons (.v 5) (.nil)))) (.nil)) (.cons (.six (.v 1) (.v 5) (.v 3)) (.nil))) (.nil))) (.nil)))) (.cons (.ret (.v 1)) (.nil))))
theorem sp_holders {n : Nat} (h : P[f]? = some ⟨1, 6, [], ps, bHolders⟩) (hm : 10000 < m) (t : T) (S : Store) (ht : t.isNode = true) (hz : t.sz ≤ 5000) (fn : ∀ c h h', (c, h) ∈ t.hd Str.empty → (c, h') ∈ t.hd Str.empty → h = h') :
    wp (callF P m (n + 1) f [t.d] S) fun d S' => ∃ r kvs, d = .ref r ∧ S'[r]? = some (.dct kvs) ∧ (∀ c h, (c, h) ∈ t.hd Str.empty → valG kvs (.inr c) = some (.str h)) ∧ S.length ≤ r ∧ Ext [] S S' := by
  have hb := big
  refine wp_callF h rfl ?_
  simp [bHolders, startD]
  refine ⟨by omega, ?_⟩
  refine wp_whl (fun k ls S' => ∃ x y z ws kvs, ls = [some t.d, some (.ref S.length), some (.ref (S.length + 1)), x, y, z] ∧ S'[S.length]? = some (.dct kvs) ∧ S'[S.length + 1]? = some (.lst (T.dL ws)) ∧ HInv (t.hd Str.empty) ws Str.empty [] kvs ∧ k = T.szL ws ∧ kvs.length + T.szL ws ≤ t.sz ∧ Ext [] S S') ?_ m t.sz _ _ (by omega) ?_
  · rintro k ls S' ⟨x, y, z, ws, kvs, rfl, q1, q2, q3, rfl, q5, q6⟩
    simp [q2]
    by_cases hw : ws = []
    · subst hw
      simp [T.dL]
      refine ⟨_, q1, fun c h hh => ?_, q6⟩
      rcases q3.all c h hh with q | q | q
      · simp [T.hdL] at q
      · simp [T.hdL] at q
      · exact q
    · obtain ⟨ws', w, rfl⟩ : ∃ ws' w, ws = ws' ++ [w] := ⟨ws.dropLast, ws.getLast hw, (List.dropLast_concat_getLast hw).symm⟩
      have hn : w.isNode = true := q3.nodes w (by simp)
      cases w with
      | leaf c => cases hn
      | node nm qs =>
        have hsz : T.szL (ws' ++ [.node nm qs]) = T.szL ws' + (T.szL qs + 1) := by rw [T.szL_app]; simp [T.szL, T.sz]
        have e1 : (T.dL (ws' ++ [T.node nm qs])) = T.dL ws' ++ [(T.node nm qs).d] := by simp [T.dL_map]
        rw [hsz] at q5 ⊢
        have l1 := T.szL_len qs
        simp [e1, q2, T.d]
        refine ⟨by omega, ?_⟩
        have hne : ∀ o, (S'.set (S.length + 1) o)[S.length]? = some (.dct kvs) := fun o => by rw [set_ne (by omega)]; exact q1
        obtain ⟨I, hI⟩ : ∃ I : Nat → Ls → Store → Prop, ∀ i ls S2, I i ls S2 ↔ ∃ z ws2 kvs2, ls = [some t.d, some (.ref S.length), some (.ref (S.length + 1)), some (.str nm), some (.tup (T.dL qs)), z] ∧ S2[S.length]? = some (.dct kvs2) ∧ S2[S.length + 1]? = some (.lst (T.dL ws2)) ∧ HInv (t.hd Str.empty) ws2 nm (qs.drop i) kvs2 ∧ T.szL ws2 + T.szL (qs.drop i) ≤ T.szL ws' + T.szL qs ∧ kvs2.length + T.szL ws2 + T.szL (qs.drop i) ≤ t.sz ∧ Ext [] S S2 := ⟨_, fun _ _ _ => Iff.rfl⟩
        refine wp_seq (ds := T.dL qs) (.inl rfl) I (by rw [dL_len]; omega) ?_ ?_ ?_
        · exact (hI _ _ _).mpr ⟨_, ws', kvs, rfl, hne _, set_same (Lt.of q2), q3.pop, by simp, by simp; omega, q6.setN (by omega) _⟩
        · intro i d ls S2 hd' hi
          obtain ⟨z, ws2, kvs2, rfl, p1, p2, p3, p4, p5, p6⟩ := (hI _ _ _).mp hi
          obtain ⟨u, e, rfl⟩ := dL_at hd'
          refine ⟨_, rfl, ?_⟩
          have da := drop_at e
          rw [da] at p3 p4 p5
          simp only [T.szL] at p4 p5
          have l2 := T.szL_len ws2
          cases u with
          | leaf c =>
            simp [T.isNode, T.d, p1]
            simp only [T.sz] at p4 p5
            refine ⟨by omega, (hI _ _ _).mpr ⟨_, ws2, _, rfl, set_same (Lt.of p1), ?_, p3.leaf fn, by omega, ?_, p6.setN (Nat.le_refl _) _⟩⟩
            · rw [set_ne (by omega)]; exact p2
            · have := putG_len (kvs := kvs2) (k := .inr c) (v := D.str nm); omega
          | node n2 q2' =>
            simp [T.isNode, p2]
            refine ⟨by omega, (hI _ _ _).mpr ⟨_, ws2 ++ [.node n2 q2'], kvs2, rfl, ?_, ?_, p3.node rfl, ?_, ?_, p6.setN (i := S.length + 1) (by omega) _⟩⟩
            · rw [set_ne (by omega)]; exact p1
            · rw [set_same (Lt.of p2)]; simp [T.dL_map]
            · rw [T.szL_app]; simp only [T.szL]; omega
            · rw [T.szL_app]; simp only [T.szL]; omega
        · intro ls S2 hi
          obtain ⟨z, ws2, kvs2, rfl, p1, p2, p3, p4, p5, p6⟩ := (hI _ _ _).mp hi
          rw [dL_len, List.drop_length] at p3 p4 p5
          simp only [T.szL] at p4 p5
          dsimp only
          rw [s_nil]
          dsimp only
          refine ⟨T.szL ws2, by omega, _, _, _, ws2, kvs2, rfl, p1, p2, p3.name _, rfl, by omega, p6⟩
  · refine ⟨_, _, _, [t], [], rfl, by simp, by simp [T.dL], ⟨by simpa using ht, fun c h hh => .inl (by simpa [T.hdL] using hh), fun p hp => by simpa [T.hdL] using hp, by simp⟩, by simp [T.szL], by simp [T.szL], ?_⟩
    simpa using ((Ext.refl [] S).pushed (.dct [])).pushed (.lst [t.d])

def bAbove : S := .cons (.par2 1 2 (.dnew) (.lst (.cons (.v 0) (.nil)))) (.cons (.for (.nm 3) (.qr (.int 10000)) (.cons (.ite (.cmp .eq (.v 2) (.lst (.nil))) (.cons (.brk) (.nil)) (.nil)) (.cons (.asg (.tup (.cons (.nm 4) (.cons (.nm 5) (.nil)))) (.mt .pop (.v 2) (.nil))) (.cons (.for (.nm 6) (.q (.v 5)) (.cons (.ite (.isi .str (.v 6)) (.cons (.six (.v 1) (.v 6) (.v 4)) (.nil)) (.cons (.ex (.mt .append (.v 2) (.cons (.v 6) (.nil)))) (.nil))) (.nil))) (.nil))))) (.cons (.ret (.v 1)) (.nil)))
theorem sp_above {n : Nat} (h : P[f]? = some ⟨1, 7, [], ps, bAbove⟩) (hm : 10000 < m) (t : T) (S : Store) (ht : t.isNode = true) (hz : t.sz ≤ 5000) (fn : ∀ c h h', (c, h) ∈ t.hd Str.empty → (c, h') ∈ t.hd Str.empty → h = h') :
    wp (callF P m (n + 1) f [t.d] S) fun d S' => ∃ r kvs, d = .ref r ∧ S'[r]? = some (.dct kvs) ∧ (∀ c h, (c, h) ∈ t.hd Str.empty → valG kvs (.inr c) = some (.str h)) ∧ S.length ≤ r ∧ Ext [] S S' := by
  have hb := big
  refine wp_callF h rfl ?_
  simp [bAbove, startD]
  refine ⟨by omega, ?_⟩
  obtain ⟨J, hJ⟩ : ∃ J : Nat → Ls → Store → Prop, ∀ i ls S', J i ls S' ↔ ∃ w x y z ws kvs, ls = [some t.d, some (.ref S.length), some (.ref (S.length + 1)), w, x, y, z] ∧ S'[S.length]? = some (.dct kvs) ∧ S'[S.length + 1]? = some (.lst (T.dL ws)) ∧ HInv (t.hd Str.empty) ws Str.empty [] kvs ∧ T.szL ws + i ≤ t.sz ∧ kvs.length + T.szL ws ≤ t.sz ∧ Ext [] S S' := ⟨_, fun _ _ _ => Iff.rfl⟩
  refine wp_rng J (by omega) ?_ ?_ ?_
  · refine (hJ _ _ _).mpr ⟨_, _, _, _, [t], [], rfl, by simp, by simp [T.dL], ⟨by simpa using ht, fun c h hh => .inl (by simpa [T.hdL] using hh), fun p hp => by simpa [T.hdL] using hp, by simp⟩, by simp [T.szL], by simp [T.szL], ?_⟩
    simpa using ((Ext.refl [] S).pushed (.dct [])).pushed (.lst [t.d])
  · intro k ls S' hk hj
    obtain ⟨w, x, y, z, ws, kvs, rfl, q1, q2, q3, q4, q5, q6⟩ := (hJ _ _ _).mp hj
    have he : eqD (.ref (S.length + 1)) (.ref S'.length) (S' ++ [.lst []]) = some ws.isEmpty := by
      rw [eq_nil (ds := T.dL ws) (by rw [ap_lt (Lt.of q2)]; exact q2) (by simp)]
      cases ws <;> rfl
    simp [he, ap_lt (Lt.of q2), q2]
    by_cases hw : ws = []
    · subst hw
      simp [T.dL]
      refine ⟨_, by rw [ap_lt (Lt.of q1)]; exact q1, fun c h hh => ?_, q6.pushed _⟩
      rcases q3.all c h hh with q | q | q
      · simp [T.hdL] at q
      · simp [T.hdL] at q
      · exact q
    · obtain ⟨ws', w, rfl⟩ : ∃ ws' w, ws = ws' ++ [w] := ⟨ws.dropLast, ws.getLast hw, (List.dropLast_concat_getLast hw).symm⟩
      have hn : w.isNode = true := q3.nodes w (by simp)
      cases w with
      | leaf c => cases hn
      | node nm qs =>
        have hsz : T.szL (ws' ++ [.node nm qs]) = T.szL ws' + (T.szL qs + 1) := by rw [T.szL_app]; simp [T.szL, T.sz]
        have e1 : (T.dL (ws' ++ [T.node nm qs])) = T.dL ws' ++ [(T.node nm qs).d] := by simp [T.dL_map]
        rw [hsz] at q5 q4
        have l1 := T.szL_len qs
        simp [hw, e1, T.d, set_lt (Lt.of q2)]
        obtain ⟨I, hI⟩ : ∃ I : Nat → Ls → Store → Prop, ∀ i ls S2, I i ls S2 ↔ ∃ z ws2 kvs2, ls = [some t.d, some (.ref S.length), some (.ref (S.length + 1)), some (.int k), some (.str nm), some (.tup (T.dL qs)), z] ∧ S2[S.length]? = some (.dct kvs2) ∧ S2[S.length + 1]? = some (.lst (T.dL ws2)) ∧ HInv (t.hd Str.empty) ws2 nm (qs.drop i) kvs2 ∧ T.szL ws2 + T.szL (qs.drop i) ≤ T.szL ws' + T.szL qs ∧ kvs2.length + T.szL ws2 + T.szL (qs.drop i) ≤ t.sz ∧ Ext [] S S2 := ⟨_, fun _ _ _ => Iff.rfl⟩
        refine wp_seq (ds := T.dL qs) (.inl rfl) I (by rw [dL_len]; omega) ?_ ?_ ?_
        · refine (hI _ _ _).mpr ⟨_, ws', kvs, rfl, ?_, ?_, q3.pop, by simp, by simp; omega, (q6.setN (by omega) _).pushed _⟩
          · rw [ap_slt (Lt.of q1), set_ne (by omega)]; exact q1
          · rw [ap_slt (Lt.of q2), set_same (Lt.of q2)]
        · intro i d ls S2 hd' hi
          obtain ⟨z, ws2, kvs2, rfl, p1, p2, p3, p4, p5, p6⟩ := (hI _ _ _).mp hi
          obtain ⟨u, e, rfl⟩ := dL_at hd'
          refine ⟨_, rfl, ?_⟩
          have da := drop_at e
          rw [da] at p3 p4 p5
          simp only [T.szL] at p4 p5
          have l2 := T.szL_len ws2
          cases u with
          | leaf c =>
            simp [T.isNode, T.d, p1]
            simp only [T.sz] at p4 p5
            refine ⟨by omega, (hI _ _ _).mpr ⟨_, ws2, _, rfl, set_same (Lt.of p1), ?_, p3.leaf fn, by omega, ?_, p6.setN (Nat.le_refl _) _⟩⟩
            · rw [set_ne (by omega)]; exact p2
            · have := putG_len (kvs := kvs2) (k := .inr c) (v := D.str nm); omega
          | node n2 q2' =>
            simp [T.isNode, p2]
            refine ⟨by omega, (hI _ _ _).mpr ⟨_, ws2 ++ [.node n2 q2'], kvs2, rfl, ?_, ?_, p3.node rfl, ?_, ?_, p6.setN (i := S.length + 1) (by omega) _⟩⟩
            · rw [set_ne (by omega)]; exact p1
            · rw [set_same (Lt.of p2)]; simp [T.dL_map]
            · rw [T.szL_app]; simp only [T.szL]; omega
            · rw [T.szL_app]; simp only [T.szL]; omega
        · intro ls S2 hi
          obtain ⟨z, ws2, kvs2, rfl, p1, p2, p3, p4, p5, p6⟩ := (hI _ _ _).mp hi
          rw [dL_len, List.drop_length] at p3 p4 p5
          simp only [T.szL] at p4 p5
          simp
          exact (hJ _ _ _).mpr ⟨_, _, _, _, ws2, kvs2, rfl, p1, p2, p3.name _, by omega, by omega, p6⟩
  · intro ls S' hj
    obtain ⟨w, x, y, z, ws, kvs, rfl, q1, q2, q3, q4, q5, q6⟩ := (hJ _ _ _).mp hj
    omega
end
end PV

set_option Elab.async false
set_option linter.all false
set_option maxRecDepth 100000
set_option maxHeartbeats 1000000
/-! A tree's knots with their leaves, by PV. -/
namespace PV
open PySem

theorem Lt.set {j i : Nat} {S : Store} {o : O} (h : Lt j S) : Lt j (S.set i o) := by unfold Lt at *; rw [List.length_set]; exact h
theorem Lt.app {j : Nat} {S t : Store} (h : Lt j S) : Lt j (S ++ t) := by unfold Lt at *; rw [List.length_append]; omega
/-- an entry that tells of a knot -/
def KE (S : Store) (bad : List Nat) (q : Str × List Str × Option Str) (d : D) : Prop :=
  ∃ (e c : Nat) (cs : List Str), d = .ref e ∧ S[e]? = some (.lst [.str q.1, .ref c, oD q.2.2]) ∧ S[c]? = some (.lst (cs.map D.str)) ∧ cs.Perm q.2.1 ∧ e ∉ bad ∧ c ∉ bad
inductive KN (S : Store) (bad : List Nat) : List (Str × List Str × Option Str) → List D → Prop where
  | nil : KN S bad [] []
  | cons {q d qs ds} : KE S bad q d → KN S bad qs ds → KN S bad (q :: qs) (d :: ds)
theorem KE.mono {S S' : Store} {bad bad' xs : List Nat} {q : Str × List Str × Option Str} {d : D} (h : KE S bad q d) (x : Ext xs S S') (hx : ∀ i ∈ xs, i ∈ bad) (hb : ∀ i ∈ bad', i ∈ bad ∨ S.length ≤ i) : KE S' bad' q d := by
  obtain ⟨e, c, cs, h1, h2, h3, h4, h5, h6⟩ := h
  have l1 := lt_of_some h2
  have l2 := lt_of_some h3
  exact ⟨e, c, cs, h1, x.at_ _ _ h2 fun z => h5 (hx _ z), x.at_ _ _ h3 fun z => h6 (hx _ z), h4, fun z => (hb _ z).elim h5 (by omega), fun z => (hb _ z).elim h6 (by omega)⟩
theorem KN.mono {S S' : Store} {bad bad' xs : List Nat} (x : Ext xs S S') (hx : ∀ i ∈ xs, i ∈ bad) (hb : ∀ i ∈ bad', i ∈ bad ∨ S.length ≤ i) : ∀ {qs : List (Str × List Str × Option Str)} {ds : List D}, KN S bad qs ds → KN S' bad' qs ds
  | _, _, .nil => .nil
  | _, _, .cons a b => .cons (a.mono x hx hb) (b.mono x hx hb)
theorem KN.app {S : Store} {bad : List Nat} : ∀ {qs rs : List (Str × List Str × Option Str)} {ds es : List D}, KN S bad qs ds → KN S bad rs es → KN S bad (qs ++ rs) (ds ++ es)
  | _, _, _, _, .nil, h => h
  | _, _, _, _, .cons a b, h => .cons a (b.app h)
theorem KN.len {S : Store} {bad : List Nat} : ∀ {qs : List (Str × List Str × Option Str)} {ds : List D}, KN S bad qs ds → qs.length = ds.length
  | _, _, .nil => rfl
  | _, _, .cons a b => by rw [List.length_cons, List.length_cons, b.len]
/-- what waits -/
def wD (p : T × Option Str) : D := .tup [p.1.d, oD p.2]
def loW (ws : List (T × Option Str)) : List (Str × List Str × Option Str) := ws.flatMap fun p => p.1.lo p.2
def szW (ws : List (T × Option Str)) : Nat := (ws.map fun p => p.1.sz).sum
theorem loW_filter (n : Str) : ∀ ps : List T, loW ((ps.filter T.isNode).map fun p => (p, some n)) = T.loL ps (some n)
  | [] => rfl
  | t :: ts => by
    have ih := loW_filter n ts
    cases t with
    | leaf c => simp only [List.filter_cons, T.isNode, T.loL, T.lo]; exact ih
    | node a b =>
      simp only [List.filter_cons, T.isNode, if_true, List.map_cons, T.loL]
      unfold loW at ih ⊢
      rw [List.flatMap_cons, ih]
theorem szW_filter (n : Str) : ∀ ps : List T, szW ((ps.filter T.isNode).map fun p => (p, some n)) ≤ T.szL ps
  | [] => Nat.le_refl _
  | t :: ts => by
    have ih := szW_filter n ts
    cases t with
    | leaf c => simp only [List.filter_cons, T.isNode, T.szL]; exact Nat.le_trans ih (by omega)
    | node a b =>
      simp only [List.filter_cons, T.isNode, if_true, List.map_cons, T.szL]
      unfold szW at ih ⊢
      rw [List.map_cons, List.sum_cons]
      dsimp only
      omega
theorem szW_len : ∀ ws : List (T × Option Str), ws.length ≤ szW ws
  | [] => Nat.le_refl _
  | w :: ws => by
    have ih := szW_len ws
    have h : 1 ≤ w.1.sz := by cases w.1 <;> simp [T.sz]
    unfold szW at ih ⊢
    rw [List.map_cons, List.sum_cons, List.length_cons]; omega
theorem loW_app (a b : List (T × Option Str)) : loW (a ++ b) = loW a ++ loW b := by unfold loW; rw [List.flatMap_append]
theorem szW_app (a b : List (T × Option Str)) : szW (a ++ b) = szW a + szW b := by unfold szW; rw [List.map_append, List.sum_append]

def bKnots : S := .cons (.par2 1 2 (.lst (.nil)) (.lst (.cons (.tup (.cons (.v 0) (.cons (.non) (.nil)))) (.nil)))) (.cons (.for (.nm 3) (.qr (.int 10000)) (.cons (.ite (.cmp .eq (.v 2) (.lst (.nil))) (.cons (.brk) (.nil)) (.nil)) (.cons (.asg (.tup (.cons (.tup (.cons (.nm 4) (.cons (.nm 5) (.nil)))) (.cons (.nm 6) (.nil)))) (.mt .popAt (.v 2) (.cons (.int 0) (.nil)))) (.cons (.par2 7 8 (.lst (.nil)) (.bi .list (.cons (.v 5) (.nil)))) (.cons (.for (.nm 9) (.qr (.int 10000)) (.cons (.ite (.cmp .eq (.v 8) (.lst (.nil))) (.cons (.brk) (.nil)) (.nil)) (.cons (.set 10 (.mt .pop (.v 8) (.nil))) (.cons (.ite (.isi .str (.v 10)) (.cons (.ex (.mt .append (.v 7) (.cons (.v 10) (.nil)))) (.nil)) (.cons (.set 8 (.bin .add (.v 8) (.bi .list (.cons (.ix (.v 10) (.int 1)) (.nil))))) (.nil))) (.nil))))) (.cons (.ex (.mt .append (.v 1) (.cons (.lst (.cons (.v 4) (.cons (.v 7) (.cons (.v 6) (.nil))))) (.nil)))) (.cons (.set 2 (.bin .add (.lc [("part", 10)] (.nm 10) (.q (.v 5)) (.no (.isi .str (.v 10))) (.tup (.cons (.v 10) (.cons (.v 4) (.nil))))) (.v 2))) (.nil)))))))) (.cons (.ret (.v 1)) (.nil)))
section
variable {P : List Df} {m f n : Nat} {ps : List Str}
theorem sp_lawknots (h : P[f]? = some ⟨1, 11, [], ps, bKnots⟩) (hm : 10000 < m) (t : T) (S : Store) (ht : t.isNode = true) (hz : t.sz ≤ 5000) (bad : List Nat) (hbad : ∀ b ∈ bad, b < S.length) :
    wp (callF P m (n + 1) f [t.d] S) fun d S' => ∃ r ds, d = .ref r ∧ S'[r]? = some (.lst ds) ∧ KN S' (r :: bad) (t.lo none) ds ∧ S.length ≤ r ∧ Ext [] S S' := by
  have hb := big
  refine wp_callF h rfl ?_
  simp [bKnots, startD]
  refine ⟨by omega, by omega, ?_⟩
  obtain ⟨J, hJ⟩ : ∃ J : Nat → Ls → Store → Prop, ∀ i ls S', J i ls S' ↔ ∃ l x3 x4 x5 x6 x7 x8 x9 x10 ws qs ds, ls = [some t.d, some (.ref S.length), some (.ref l), x3, x4, x5, x6, x7, x8, x9, x10] ∧ S'[S.length]? = some (.lst ds) ∧ S'[l]? = some (.lst (ws.map wD)) ∧ KN S' (S.length :: l :: bad) qs ds ∧ qs ++ loW ws = t.lo none ∧ szW ws + i ≤ t.sz ∧ ds.length + szW ws ≤ t.sz ∧ (∀ w ∈ ws, w.1.isNode = true) ∧ l ≠ S.length ∧ S.length ≤ l ∧ Ext [] S S' := ⟨_, fun _ _ _ => Iff.rfl⟩
  refine wp_rng J (by omega) ?_ ?_ ?_
  · refine (hJ _ _ _).mpr ⟨_, _, _, _, _, _, _, _, _, [(t, none)], [], [], rfl, by simp, by simp [wD, oD], .nil, by simp [loW], by simp [szW], by simp [szW], by simpa using ht, by omega, by omega, ?_⟩
    simpa using ((Ext.refl [] S).pushed (.lst [])).pushed (.lst [.tup [t.d, .non]])
  · intro k ls S' hk hj
    obtain ⟨l, x3, x4, x5, x6, x7, x8, x9, x10, ws, qs, ds, rfl, q1, q2, q3, q4, q5, q6, q7, q8, q9, q10⟩ := (hJ _ _ _).mp hj
    have he : eqD (.ref l) (.ref S'.length) (S' ++ [.lst []]) = some ws.isEmpty := by
      rw [eq_nil (ds := ws.map wD) (by rw [ap_lt (Lt.of q2)]; exact q2) (by simp)]
      cases ws <;> rfl
    cases ws with
    | nil =>
      simp [he]
      refine ⟨ds, by rw [ap_lt (Lt.of q1)]; exact q1, ?_, q10.pushed _⟩
      have : qs = t.lo none := by simpa [loW] using q4
      rw [← this]
      exact q3.mono (Ext.push [] S' (.lst [])) (by simp) (fun i hi => .inl ((List.mem_cons.mp hi).elim (fun z => by simp [z]) fun z => by simp [z]))
    | cons w ws =>
      obtain ⟨w, ab⟩ := w
      have hn : w.isNode = true := q7 (w, ab) List.mem_cons_self
      cases w with
      | leaf c => cases hn
      | node nm cs =>
        have l1 := T.szL_len cs
        have hsz : szW ((T.node nm cs, ab) :: ws) = T.szL cs + 1 + szW ws := by simp [szW, T.sz]
        rw [hsz] at q5 q6
        simp [he, ap_lt (Lt.of q2), q2, wD, T.d, set_lt (Lt.of q2)]
        generalize hS1 : S'.set l (.lst (ws.map wD)) = S1
        have a1 : S1[S.length]? = some (.lst ds) := by rw [← hS1, set_ne q8]; exact q1
        have a2 : S1[l]? = some (.lst (ws.map wD)) := by rw [← hS1]; exact set_same (Lt.of q2)
        have a3 : KN S1 (S.length :: l :: bad) qs ds := q3.mono (xs := [l]) (by rw [← hS1]; exact Ext.set S' (by simp) _) (by simp) (fun i hi => .inl hi)
        have a4 : Ext [] S S1 := by rw [← hS1]; exact q10.setN q9 _
        have a5 : S1.length = S'.length := by rw [← hS1, List.length_set]
        rw [← a5]
        have f1 := lt_of_some a1
        have f2 := lt_of_some a2
        obtain ⟨I, hI⟩ : ∃ I : Nat → Ls → Store → Prop, ∀ i ls S2, I i ls S2 ↔ ∃ N x9 x10 es ts, ls = [some t.d, some (.ref S.length), some (.ref l), some (.int k), some (.str nm), some (.tup (T.dL cs)), some (oD ab), some (.ref (S1.length + 1)), some (.ref N), x9, x10] ∧ S2[S1.length + 1]? = some (.lst (es.map D.str)) ∧ S2[N]? = some (.lst (T.dL ts)) ∧ (es ++ T.lvL ts).Perm (T.lvL cs) ∧ T.szL ts + i ≤ T.szL cs ∧ es.length + T.szL ts ≤ T.szL cs ∧ N ≠ S1.length + 1 ∧ S1.length ≤ N ∧ Ext [] S1 S2 := ⟨_, fun _ _ _ => Iff.rfl⟩
        refine wp_rng I (by omega) ?_ ?_ ?_
        · refine (hI _ _ _).mpr ⟨_, _, _, [], cs, rfl, by simp, by simp, by simp, by simp, by simp, by omega, by omega, ?_⟩
          simpa using (((Ext.refl [] S1).pushed (.lst [])).pushed (.lst [])).pushed (.lst (T.dL cs))
        · intro i ls S2 hi hj2
          obtain ⟨N, x9, x10, es, ts, rfl, b1, b2, b3, b4, b5, b6, b7, b8⟩ := (hI _ _ _).mp hj2
          have he : eqD (.ref N) (.ref S2.length) (S2 ++ [.lst []]) = some ts.isEmpty := by
            rw [eq_nil (ds := T.dL ts) (by rw [ap_lt (Lt.of b2)]; exact b2) (by simp)]
            cases ts <;> rfl
          have g1 := b8.at_ _ _ a1 (by simp)
          have g2 := b8.at_ _ _ a2 (by simp)
          by_cases hts : ts = []
          · subst hts
            simp [he, ap_lt (Lt.of g1), g1, set_lt (Lt.of g1)]
            obtain ⟨S3, hS3⟩ : ∃ S3 : Store, S3 = S2.set S.length (O.lst (ds ++ [D.ref (S2.length + 1)])) ++ [O.lst [], O.lst [D.str nm, D.ref (S1.length + 1), oD ab]] := ⟨_, rfl⟩
            have p0 : S3.length = S2.length + 2 := by rw [hS3]; simp
            have x3 : Ext [S.length] S2 S3 := by
              rw [hS3]
              have := ((Ext.set S2 (xs := [S.length]) (i := S.length) (by simp) (.lst (ds ++ [.ref (S2.length + 1)]))).pushed (.lst [])).pushed (.lst [.str nm, .ref (S1.length + 1), oD ab])
              simpa using this
            have c1 : S3[S.length]? = some (.lst (ds ++ [.ref (S2.length + 1)])) := by rw [hS3, ap_lt (Lt.of g1).set, set_same (Lt.of g1)]
            have c2 : S3[l]? = some (.lst (ws.map wD)) := x3.at_ _ _ g2 (by simpa using q8)
            have c3 : S3[S2.length + 1]? = some (.lst [.str nm, .ref (S1.length + 1), oD ab]) := by rw [hS3]; simp
            have c4 : S3[S1.length + 1]? = some (.lst (es.map D.str)) := x3.at_ _ _ b1 (by simp; omega)
            have hlb := b8.len
            have es_le : es.Perm (T.lvL cs) := by simpa [T.lvL] using b3
            have hSS : S2.set S.length (.lst (ds ++ [.ref (S2.length + 1)])) ++ [.lst [], .lst [.str nm, .ref (S1.length + 1), oD ab], .lst []] = S3 ++ [.lst []] := by rw [hS3]; simp
            rw [hSS, ← p0]
            have a4l := a4.len
            have nb : ∀ i, i ≠ S.length → i ≠ l → S.length ≤ i → i ∉ S.length :: l :: bad := fun i z1 z2 z3 z => by
              rcases List.mem_cons.mp z with q | q
              · exact z1 q
              · rcases List.mem_cons.mp q with q | q
                · exact z2 q
                · have := hbad i q; omega
            have k3 : KN S3 (S.length :: l :: bad) (qs ++ [(nm, T.lvL cs, ab)]) (ds ++ [.ref (S2.length + 1)]) :=
              (a3.mono (xs := [S.length]) ((b8.mono (by simp)).trans x3) (by simp) (fun i hi => .inl hi)).app (.cons ⟨_, _, es, rfl, c3, c4, es_le, nb _ (by omega) (by omega) (by omega), nb _ (by omega) (by omega) (by omega)⟩ .nil)
            refine ⟨by omega, by omega, ?_⟩
            obtain ⟨I2, hI2⟩ : ∃ I2 : Nat → List D → Store → Prop, ∀ i acc S4, I2 i acc S4 ↔ acc = (((cs.take i).filter T.isNode).map fun p => (p, some nm)).map wD ∧ Ext [] S3 S4 := ⟨_, fun _ _ _ => Iff.rfl⟩
            refine wp_lcT (ds := T.dL cs) (.inl rfl) I2 (by rw [dL_len]; omega) ((hI2 _ _ _).mpr ⟨by simp, Ext.push _ _ _⟩) (by simp) ?_ ?_
            · intro i2 d acc S4 hd hi2 hr
              obtain ⟨rfl, y1⟩ := (hI2 _ _ _).mp hi2
              obtain ⟨u, eu, rfl⟩ := dL_at hd
              refine ⟨_, rfl, ?_⟩
              unfold lcTurn
              have tu := take_at eu
              have hn := List.length_filter_le T.isNode (cs.take i2)
              rw [List.length_take] at hn
              cases u with
              | leaf c =>
                simp [T.isNode]
                refine ⟨by simpa using hr, (hI2 _ _ _).mpr ⟨?_, y1⟩⟩
                rw [tu]; simp [List.filter_cons, T.isNode]
              | node n3 q3' =>
                simp [T.isNode]
                refine ⟨by omega, by simpa using hr, by omega, (hI2 _ _ _).mpr ⟨?_, y1.setN (by omega) _⟩⟩
                rw [tu]; simp [List.filter_cons, T.isNode, wD, oD]
            · intro acc S4 hi2 hr
              obtain ⟨rfl, y1⟩ := (hI2 _ _ _).mp hi2
              rw [dL_len, List.take_length] at hr
              have hn := List.length_filter_le T.isNode cs
              have d2 := y1.at_ _ _ c2 (by simp)
              have d1 := y1.at_ _ _ c1 (by simp)
              have lw := szW_len ws
              simp [hr, d2]
              have e4 : Ext [] S S4 := (((a4.trans b8).newer x3 (by simp)).newer y1 (by simp))
              have lo2 := loW_filter nm cs
              have sz2 := szW_filter nm cs
              have len3 := x3.len
              have len4 := y1.len
              have kb : ∀ i ∈ S.length :: S4.length :: bad, i ∈ S.length :: l :: bad ∨ S3.length ≤ i := fun i hi => by
                rcases List.mem_cons.mp hi with q | q
                · exact .inl (by simp [q])
                · rcases List.mem_cons.mp q with q | q
                  · exact .inr (by omega)
                  · exact .inl (by simp [q])
              refine ⟨by omega, (hJ _ _ _).mpr ⟨S4.length, _, _, _, _, _, _, _, _, ((cs.filter T.isNode).map fun p => (p, some nm)) ++ ws, _, _, rfl, ?_, ?_, k3.mono (xs := []) (y1.pushed _) (by simp) kb, ?_, ?_, ?_, ?_, by omega, by omega, e4.pushed _⟩⟩
              · rw [ap_lt (Lt.of d1)]; exact d1
              · simp
              · rw [loW_app, lo2, ← q4]
                simp [loW, T.lo]
              · rw [szW_app]; omega
              · rw [szW_app, List.length_append]; simp; omega
              · intro w hw
                rcases List.mem_append.mp hw with z | z
                · obtain ⟨p, hp, rfl⟩ := List.mem_map.mp z
                  exact (List.mem_filter.mp hp).2
                · exact q7 w (List.mem_cons_of_mem _ z)
          · obtain ⟨ts', w, rfl⟩ : ∃ ts' w, ts = ts' ++ [w] := ⟨ts.dropLast, ts.getLast hts, (List.dropLast_concat_getLast hts).symm⟩
            have e1 : T.dL (ts' ++ [w]) = T.dL ts' ++ [w.d] := by simp [T.dL_map]
            rw [T.szL_app] at b4 b5
            rw [T.lvL_app] at b3
            simp only [T.szL, T.lvL, List.append_nil] at b3 b4 b5
            have l3 := T.szL_len ts'
            simp [he, ap_lt (Lt.of b2), b2, e1, set_lt (Lt.of b2)]
            cases w with
            | leaf c =>
              simp only [T.sz, T.lv] at b3 b4 b5
              simp [T.isNode, T.d, ap_slt (Lt.of b1), set_ne b6, b1, set_slt (Lt.of b1)]
              refine ⟨by omega, (hI _ _ _).mpr ⟨N, _, _, es ++ [c], ts', rfl, ?_, ?_, ?_, by omega, by simp; omega, b6, b7, ((b8.setN b7 _).setN (by omega) _).pushed _⟩⟩
              · rw [ap_lt (Lt.of b1).set.set, set_same (Lt.of b1).set]; simp
              · rw [ap_lt (Lt.of b2).set.set, set_ne (by omega), set_same (Lt.of b2)]
              · refine List.Perm.trans ?_ b3
                rw [List.append_assoc]
                exact List.Perm.append_left es List.perm_append_comm
            | node n2 q2' =>
              simp only [T.sz, T.lv] at b3 b4 b5
              simp [T.isNode, T.d, ap_slt (Lt.of b2), set_same (Lt.of b2)]
              have lq := T.szL_len q2'
              have hlb := b8.len
              have bl := lt_of_some b1
              refine ⟨by omega, (hI _ _ _).mpr ⟨S2.length + 2, _, _, es, ts' ++ q2', rfl, ?_, ?_, ?_, by rw [T.szL_app]; omega, by rw [T.szL_app]; omega, by omega, by omega, ?_⟩⟩
              · rw [ap_lt (Lt.of b1).set, set_ne b6]; exact b1
              · rw [ap_s1]; simp [T.dL_map]
              · rw [T.lvL_app]; exact b3
              · simpa using (((b8.setN b7 (.lst (T.dL ts'))).pushed (.lst [])).pushed (.lst (T.dL q2'))).pushed (.lst (T.dL ts' ++ T.dL q2'))
        · intro ls S2 hj2
          obtain ⟨N, x9, x10, es, ts, rfl, b1, b2, b3, b4, b5, b6, b7, b8⟩ := (hI _ _ _).mp hj2
          omega
  · intro ls S' hj
    obtain ⟨l, x3, x4, x5, x6, x7, x8, x9, x10, ws, qs, ds, rfl, q1, q2, q3, q4, q5, q6, q7, q8, q9, q10⟩ := (hJ _ _ _).mp hj
    omega
end
end PV

set_option Elab.async false
set_option linter.all false
set_option maxRecDepth 100000
set_option maxHeartbeats 1000000
/-! Lots, by PV. -/
namespace PV
open PySem

theorem putG_new {α : Type} {kvs : List (L2.Key × α)} {k : L2.Key} {v : α} (h : k ∉ kvs.map (·.1)) : putG kvs k v = kvs ++ [(k, v)] := by
  unfold putG
  rw [if_neg]
  intro c
  obtain ⟨x, hx, e⟩ := List.any_eq_true.mp c
  exact h (List.mem_map.mpr ⟨x, hx, of_decide_eq_true e⟩)
/-- the lots of a dict: L what they are, in order -/
structure LK (S0 S : Store) (r : Nat) (kvs : List (L2.Key × D)) (L : List (Str × List Str)) : Prop where
  keys : kvs.map (·.1) = L.map fun q => (Sum.inr q.1 : L2.Key)
  at_ : ∀ x ls, (x, ls) ∈ L → ∃ (l : Nat) (es : List Str), valG kvs (.inr x) = some (.ref l) ∧ S[l]? = some (.lst (es.map D.str)) ∧ es.Perm ls ∧ S0.length ≤ l ∧ l ≠ r
theorem LK.mono {S0 S S' : Store} {r : Nat} {kvs : List (L2.Key × D)} {L : List (Str × List Str)} (h : LK S0 S r kvs L) {xs : List Nat} (x : Ext xs S S') (hx : ∀ i ∈ xs, i = r ∨ i < S0.length) : LK S0 S' r kvs L :=
  ⟨h.keys, fun y ls hy => by
    obtain ⟨l, es, h1, h2, h3, h4, h5⟩ := h.at_ y ls hy
    refine ⟨l, es, h1, x.at_ _ _ h2 fun z => ?_, h3, h4, h5⟩
    rcases hx l z with q | q
    · exact h5 q
    · omega⟩
theorem LK.put {S0 S : Store} {r l : Nat} {kvs : List (L2.Key × D)} {L : List (Str × List Str)} (h : LK S0 S r kvs L) {x : Str} {es ls : List Str} (hn : x ∉ L.map (·.1)) (hl : S[l]? = some (.lst (es.map D.str))) (hp : es.Perm ls) (h0 : S0.length ≤ l) (hr : l ≠ r) :
    LK S0 S r (putG kvs (.inr x) (.ref l)) (L ++ [(x, ls)]) := by
  have nk : (Sum.inr x : L2.Key) ∉ kvs.map (·.1) := by
    rw [h.keys]
    intro z
    obtain ⟨q, hq, e⟩ := List.mem_map.mp z
    exact hn (List.mem_map.mpr ⟨q, hq, Sum.inr.inj e⟩)
  refine ⟨?_, fun y ls' hy => ?_⟩
  · rw [putG_new nk, List.map_append, h.keys, List.map_append]; rfl
  · rw [valG_put]
    rcases List.mem_append.mp hy with z | z
    · have ne : y ≠ x := fun e => hn (List.mem_map.mpr ⟨(y, ls'), z, e⟩)
      rw [if_neg fun e => ne (Sum.inr.inj e)]
      exact h.at_ y ls' z
    · simp only [List.mem_singleton, Prod.mk.injEq] at z
      obtain ⟨rfl, rfl⟩ := z
      rw [if_pos rfl]
      exact ⟨l, es, rfl, hl, hp, h0, hr⟩
/-- an office's lots: the cells, the knots of both trees -/
def lotsOf (cs : List Str) (t1 t2 : T) : List (Str × List Str) := cs.map (fun c => (c, [c])) ++ (t1.lo none ++ t2.lo none).map fun q => (q.1, q.2.1)
theorem KN.at_ {S : Store} {bad : List Nat} : ∀ {qs : List (Str × List Str × Option Str)} {ds : List D}, KN S bad qs ds → ∀ {i : Nat} {d : D}, ds[i]? = some d → ∃ q, qs[i]? = some q ∧ KE S bad q d
  | _, _, .nil, i, d, h => by simp at h
  | _, _, .cons a b, 0, d, h => by simp at h; subst h; exact ⟨_, by simp, a⟩
  | _, _, .cons a b, i + 1, d, h => by
    simp at h
    obtain ⟨q, h1, h2⟩ := b.at_ h
    exact ⟨q, by simpa using h1, h2⟩

def bLots (i : Nat) : S := .cons (.set 1 (.dnew)) (.cons (.for (.nm 2) (.q (.ix (.v 0) (.int 0))) (.cons (.six (.v 1) (.v 2) (.lst (.cons (.v 2) (.nil)))) (.nil))) (.cons (.for (.tup (.cons (.nm 3) (.cons (.nm 4) (.cons (.nm 5) (.nil))))) (.q (.bin .add (.call i (.cons (.ix (.v 0) (.int 1)) (.nil))) (.call i (.cons (.ix (.v 0) (.int 2)) (.nil))))) (.cons (.six (.v 1) (.v 3) (.v 4)) (.nil))) (.cons (.ret (.v 1)) (.nil))))
section
variable {P : List Df} {m f g n : Nat} {ps qs : List Str}
mutual
theorem lo_len : ∀ (t : T) (ab : Option Str), (t.lo ab).length ≤ t.sz
  | .leaf _, _ => by simp [T.lo]
  | .node n ps, ab => by
    have := loLs_len ps (some n)
    simp only [T.lo, T.sz, List.length_cons]; omega
theorem loLs_len : ∀ (ts : List T) (ab : Option Str), (T.loL ts ab).length ≤ T.szL ts
  | [], _ => by simp [T.loL]
  | t :: ts, ab => by
    have h1 := lo_len t ab
    have h2 := loLs_len ts ab
    simp only [T.loL, T.szL, List.length_append]; omega
end
theorem sp_lots (h : P[f]? = some ⟨1, 6, [], ps, bLots g⟩) (hg : P[g]? = some ⟨1, 11, [], qs, bKnots⟩) (hm : 10000 < m) (cs : List Str) (t1 t2 : T) (rest : List D) (S : Store) (n1 : t1.isNode = true) (n2 : t2.isNode = true) (z0 : cs.length ≤ 4000) (z1 : t1.sz ≤ 4000) (z2 : t2.sz ≤ 4000)
    (nd : ((lotsOf cs t1 t2).map (·.1)).Nodup) :
    wp (callF P m (n + 2) f [.tup (.tup (cs.map D.str) :: t1.d :: t2.d :: rest)] S) fun d S' => ∃ r kvs, d = .ref r ∧ S'[r]? = some (.dct kvs) ∧ LK S S' r kvs (lotsOf cs t1 t2) ∧ S.length ≤ r ∧ Ext [] S S' := by
  have hb := big
  refine wp_callF h rfl ?_
  simp [bLots, startD]
  have ndt : ∀ i x ls, (lotsOf cs t1 t2)[i]? = some (x, ls) → x ∉ ((lotsOf cs t1 t2).take i).map (·.1) := fun i x ls hi z => by
    have h1 := take_at hi
    have h2 : ((lotsOf cs t1 t2).take (i + 1)).map (·.1) = ((lotsOf cs t1 t2).take i).map (·.1) ++ [x] := by rw [h1]; simp
    have h3 : (((lotsOf cs t1 t2).take (i + 1)).map (·.1)).Nodup := by
      rw [List.map_take]
      exact nd.sublist (List.take_sublist _ _)
    rw [h2] at h3
    have := List.nodup_append.mp h3
    exact this.2.2 x z x (by simp) rfl
  obtain ⟨I, hI⟩ : ∃ I : Nat → Ls → Store → Prop, ∀ i ls S2, I i ls S2 ↔ ∃ x kvs, ls = [some (.tup (.tup (cs.map D.str) :: t1.d :: t2.d :: rest)), some (.ref S.length), x, none, none, none] ∧ S2[S.length]? = some (.dct kvs) ∧ LK S S2 S.length kvs ((lotsOf cs t1 t2).take i) ∧ kvs.length ≤ i ∧ Ext [] S S2 := ⟨_, fun _ _ _ => Iff.rfl⟩
  have lc : (cs.map fun c => (c, [c])).length = cs.length := by simp
  refine wp_seq (ds := cs.map D.str) (.inl rfl) I (by simp; omega) ?_ ?_ ?_
  · exact (hI _ _ _).mpr ⟨_, [], rfl, by simp, ⟨by simp, by simp⟩, by simp, Ext.push _ _ _⟩
  · intro i d ls S2 hd hi
    obtain ⟨x, kvs, rfl, q1, q2, q3, q4⟩ := (hI _ _ _).mp hi
    rw [List.getElem?_map] at hd
    obtain ⟨c, hc, rfl⟩ := Option.map_eq_some_iff.mp hd
    have hl := lt_of_some hc
    have e1 : (lotsOf cs t1 t2)[i]? = some (c, [c]) := by
      unfold lotsOf
      rw [List.getElem?_append_left (by simpa using hl), List.getElem?_map, hc]; rfl
    refine ⟨_, rfl, ?_⟩
    simp [ap_lt (Lt.of q1), q1, set_lt (Lt.of q1)]
    have x1 : Ext [] S2 (S2 ++ [.lst [.str c]]) := Ext.push _ _ _
    have l2 := lt_of_some q1
    have k1 := ((q2.mono x1 (by simp)).put (x := c) (es := [c]) (ls := [c]) (ndt i c [c] e1) (l := S2.length) (by simp) (List.Perm.refl _) (by have := q4.len; omega) (by omega))
    rw [← take_at e1] at k1
    have x2 : Ext [S.length] (S2 ++ [.lst [.str c]]) (S2.set S.length (.dct (putG kvs (.inr c) (.ref S2.length))) ++ [.lst [.str c]]) := by
      rw [← set_lt (Lt.of q1)]; exact Ext.set _ (by simp) _
    refine ⟨by omega, by omega, (hI _ _ _).mpr ⟨_, _, rfl, by rw [ap_lt (Lt.of q1).set, set_same (Lt.of q1)], k1.mono x2 (by simp), ?_, (q4.setN (Nat.le_refl _) _).pushed _⟩⟩
    have := putG_len (kvs := kvs) (k := .inr c) (v := D.ref S2.length); omega
  · intro ls S2 hi
    obtain ⟨x, kvs, rfl, q1, q2, q3, q4⟩ := (hI _ _ _).mp hi
    rw [List.length_map] at q2 q3
    simp
    have f1 := lt_of_some q1
    refine wp_mono (sp_lawknots hg hm t1 S2 n1 (by omega) (List.range (S.length + 1)) (by intro b hb; rw [List.mem_range] at hb; omega)) ?_
    rintro _ S3 ⟨r1, d1, rfl, a1, a2, a3, a4⟩
    simp
    refine wp_mono (sp_lawknots hg hm t2 S3 n2 (by omega) (List.range (S.length + 1)) (by intro b hb; rw [List.mem_range] at hb; have := a4.len; omega)) ?_
    rintro _ S4 ⟨r2, d2, rfl, b1, b2, b3, b4⟩
    have c1 := b4.at_ _ _ a1 (by simp)
    have la := a2.len
    have lb := b2.len
    have lla := lo_len t1 none
    have llb := lo_len t2 none
    simp [b1, c1]
    refine ⟨by omega, ?_⟩
    have kk : KN S4 (List.range (S.length + 1)) (t1.lo none ++ t2.lo none) (d1 ++ d2) := (a2.mono b4 (by simp) (fun i hi => .inl (List.mem_cons_of_mem _ hi))).app (b2.mono (Ext.refl [] S4) (by simp) (fun i hi => .inl (List.mem_cons_of_mem _ hi)))
    have hd4 := b4.at_ _ _ (a4.at_ _ _ q1 (by simp)) (by simp)
    obtain ⟨S5, hS5⟩ : ∃ S5 : Store, S5 = S4 ++ [O.lst (d1 ++ d2)] := ⟨_, rfl⟩
    rw [← hS5]
    have x5 : Ext [] S4 S5 := by rw [hS5]; exact Ext.push _ _ _
    have kk5 : KN S5 (List.range (S.length + 1)) (t1.lo none ++ t2.lo none) (d1 ++ d2) := kk.mono x5 (by simp) (fun i hi => .inl hi)
    have e05 : Ext [] S S5 := ((q4.trans a4).trans b4).trans x5
    have hr5 : S5[S4.length]? = some (.lst (d1 ++ d2)) := by rw [hS5]; simp
    have fl : S.length < S4.length := by have := a4.len; have := b4.len; omega
    obtain ⟨I2, hI2⟩ : ∃ I2 : Nat → Ls → Store → Prop, ∀ i ls S6, I2 i ls S6 ↔ ∃ x3 x4 x5 kvs, ls = [some (.tup (.tup (cs.map D.str) :: t1.d :: t2.d :: rest)), some (.ref S.length), x, x3, x4, x5] ∧ S6[S.length]? = some (.dct kvs) ∧ LK S S6 S.length kvs ((lotsOf cs t1 t2).take (cs.length + i)) ∧ kvs.length ≤ cs.length + i ∧ Ext [S.length] S5 S6 ∧ Ext [] S S6 := ⟨_, fun _ _ _ => Iff.rfl⟩
    refine wp_obj (ds := d1 ++ d2) I2 ?_ (by rw [List.length_append]; omega) ?_ ?_ ?_
    · intro i ls S6 hi
      obtain ⟨x3, x4, x5, kvs, rfl, p1, p2, p3, p4, p5⟩ := (hI2 _ _ _).mp hi
      exact p4.at_ _ _ hr5 (by simp; omega)
    · exact (hI2 _ _ _).mpr ⟨_, _, _, kvs, rfl, x5.at_ _ _ hd4 (by simp), (q2.mono (a4.trans (b4.trans x5)) (by simp)), by omega, Ext.refl _ _, e05⟩
    · intro i d ls S6 hd hi
      obtain ⟨x3, x4, x5, kvs, rfl, p1, p2, p3, p4, p5⟩ := (hI2 _ _ _).mp hi
      obtain ⟨q, hq, e, c, es, rfl, y1, y2, y3, y4, y5⟩ := kk5.at_ hd
      rw [List.mem_range] at y4 y5
      have w1 := p4.at_ _ _ y1 (by simp; omega)
      have w2 := p4.at_ _ _ y2 (by simp; omega)
      have li := lt_of_some hd
      rw [List.length_append] at li
      have e1 : (lotsOf cs t1 t2)[cs.length + i]? = some (q.1, q.2.1) := by
        unfold lotsOf
        rw [List.getElem?_append_right (by simp)]
        simp only [List.length_map, Nat.add_sub_cancel_left, List.getElem?_map, hq]; rfl
      refine ⟨_, by simp [w1]; rfl, ?_⟩
      simp [p1]
      have k1 := p2.put (x := q.1) (es := es) (ls := q.2.1) (ndt _ q.1 q.2.1 e1) w2 y3 (by omega) (by omega)
      rw [← take_at e1] at k1
      refine ⟨by omega, (hI2 _ _ _).mpr ⟨_, _, _, _, rfl, set_same (Lt.of p1), k1.mono (Ext.set (xs := [S.length]) S6 (by simp) _) (by simp), ?_, p4.trans (Ext.set (xs := [S.length]) S6 (by simp) _), p5.setN (Nat.le_refl _) _⟩⟩
      have := putG_len (kvs := kvs) (k := .inr q.1) (v := D.ref c); omega
    · intro ls S6 hi
      obtain ⟨x3, x4, x5, kvs, rfl, p1, p2, p3, p4, p5⟩ := (hI2 _ _ _).mp hi
      simp
      refine ⟨kvs, p1, ?_, p5⟩
      rw [List.take_of_length_le] at p2
      · exact p2
      · unfold lotsOf
        simp
        omega
end
end PV

set_option Elab.async false
set_option linter.all false
set_option maxRecDepth 100000
set_option maxHeartbeats 1000000
/-! Trees drawn, by PV. -/
namespace PV
open PySem

namespace T
mutual
/-- its knots' names -/
def nm : T → List Str
  | .leaf _ => []
  | .node n ps => n :: nmL ps
def nmL : List T → List Str
  | [] => []
  | t :: ts => t.nm ++ nmL ts
end
theorem nmL_app : ∀ a b : List T, nmL (a ++ b) = nmL a ++ nmL b
  | [], b => rfl
  | t :: ts, b => by rw [List.cons_append, nmL, nmL_app ts b, nmL, List.append_assoc]
mutual
theorem lo_nm : ∀ (t : T) (ab : Option Str), (t.lo ab).map (·.1) = t.nm
  | .leaf _, _ => rfl
  | .node n ps, ab => by simp only [lo, nm, List.map_cons, loL_nm ps (some n)]
theorem loL_nm : ∀ (ts : List T) (ab : Option Str), (loL ts ab).map (·.1) = nmL ts
  | [], _ => rfl
  | t :: ts, ab => by simp only [loL, nmL, List.map_append, lo_nm t ab, loL_nm ts ab]
end
mutual
theorem kn_nm : ∀ (t : T) (ab : Option Str), (t.kn ab).map (·.1) = t.nm
  | .leaf _, _ => rfl
  | .node n ps, ab => by simp only [kn, nm, List.map_cons, knL_nm ps (some n)]
theorem knL_nm : ∀ (ts : List T) (ab : Option Str), (knL ts ab).map (·.1) = nmL ts
  | [], _ => rfl
  | t :: ts, ab => by simp only [knL, nmL, List.map_append, kn_nm t ab, knL_nm ts ab]
end
mutual
theorem sz_eq : ∀ t : T, t.sz = t.nm.length + t.lv.length
  | .leaf _ => rfl
  | .node n ps => by simp only [sz, nm, lv, List.length_cons, szL_eq ps]; omega
theorem szL_eq : ∀ ts : List T, szL ts = (nmL ts).length + (lvL ts).length
  | [] => rfl
  | t :: ts => by simp only [szL, nmL, lvL, List.length_append, sz_eq t, szL_eq ts]; omega
end
theorem dptL_app : ∀ a b : List T, dptL (a ++ b) = max (dptL a) (dptL b)
  | [], b => by simp [dptL]
  | t :: ts, b => by rw [List.cons_append, dptL, dptL_app ts b, dptL]; omega
theorem lvL_leaf (l : List Str) : lvL (l.map leaf) = l := by
  induction l with
  | nil => rfl
  | cons x l ih => simp only [List.map_cons, lvL, lv, ih]; rfl
theorem nmL_leaf (l : List Str) : nmL (l.map leaf) = [] := by
  induction l with
  | nil => rfl
  | cons x l ih => simp only [List.map_cons, nmL, nm, ih]; rfl
theorem dptL_leaf (l : List Str) : dptL (l.map leaf) = 0 := by
  induction l with
  | nil => rfl
  | cons x l ih => simp only [List.map_cons, dptL, dpt, ih]; rfl
theorem dL_app (a b : List T) : dL (a ++ b) = dL a ++ dL b := by simp [dL_map]
theorem dL_leaf (l : List Str) : dL (l.map leaf) = l.map D.str := by rw [dL_map, List.map_map]; rfl
end T

def bTree (i f : Nat) : S := .cons (.par3 4 5 6 (.mt .pop (.v 2) (.nil)) (.bi .list (.cons (.v 1) (.nil))) (.lst (.nil))) (.cons (.for (.nm 7) (.qr (.bi .len (.cons (.v 1) (.nil)))) (.cons (.ite (.cmp .ne (.v 5) (.lst (.nil))) (.cons (.set 8 (.bin .add (.int 1) (.call i (.cons (.v 0) (.cons (.bi .len (.cons (.v 5) (.nil))) (.nil)))))) (.cons (.par2 9 5 (.sl (.v 5) .nil (.v 8)) (.sl (.v 5) (.v 8) .nil)) (.cons (.ite (.bo true (.cons (.cmp .gt (.v 3) (.int 0)) (.cons (.cmp .gt (.bi .len (.cons (.v 2) (.nil))) (.int 4)) (.cons (.cmp .gt (.call i (.cons (.v 0) (.cons (.int 3) (.nil)))) (.int 0)) (.nil))))) (.cons (.ex (.mt .append (.v 6) (.cons (.call f (.cons (.v 0) (.cons (.v 9) (.cons (.v 2) (.cons (.bin .sub (.v 3) (.int 1)) (.nil)))))) (.nil)))) (.nil)) (.cons (.set 6 (.bin .add (.v 6) (.v 9))) (.nil))) (.nil)))) (.nil)) (.nil))) (.cons (.ret (.tup (.cons (.v 4) (.cons (.bi .tuple (.cons (.v 6) (.nil))) (.nil))))) (.nil)))
/-- what drawing a tree leaves -/
structure TreeD (s k sp : Nat) (S S' : Store) (ss ss' : List Str) (cs : List Str) (deep : Nat) (t : T) : Prop where
  node : t.isNode = true
  spr : S'[sp]? = some (.lst (ss'.map D.str))
  used : ∃ us, ss = ss' ++ us ∧ us.Perm t.nm
  lv : t.lv.Perm cs
  dpt : t.dpt ≤ deep + 1
  left : min 4 (ss.length - 1) ≤ ss'.length
  st : StOk S' s k
  ext : Ext [s, sp] S S'
section
variable {P : List Df} {iM iT iP m f n : Nat} {ps : List Str}
theorem ne_of_obj {S : Store} {i j : Nat} {a b : O} (h : S[i]? = some a) (k : S[j]? = some b) (n : a ≠ b) : i ≠ j := fun e => by
  subst e; rw [h] at k; exact n (Option.some.inj k)
theorem tree_step (dr : Draws P iM iT iP) (h : P[f]? = some ⟨4, 10, [], ps, bTree iT f⟩) (hm : 10000 < m) (deep n : Nat) (S : Store) (s k c sp : Nat) (cs ss : List Str) (st : StOk S s k) (hc : S[c]? = some (.lst (cs.map D.str))) (hsp : S[sp]? = some (.lst (ss.map D.str))) (hss : ss ≠ [])
    (ncs : c ≠ s) (ncsp : c ≠ sp) (nsps : sp ≠ s) (z1 : cs.length ≤ 3000) (z2 : ss.length ≤ 1000)
    (ih : ∀ deep' : Nat, deep = deep' + 1 → ∀ (S : Store) (c : Nat) (cs ss : List Str), StOk S s k → S[c]? = some (.lst (cs.map D.str)) → S[sp]? = some (.lst (ss.map D.str)) → ss ≠ [] → c ≠ s → c ≠ sp → cs.length ≤ 3000 → ss.length ≤ 1000 →
      wp (callF P m (n + 2) f [.ref s, .ref c, .ref sp, .int deep'] S) fun d S' => ∃ t ss', d = T.d t ∧ TreeD s k sp S S' ss ss' cs deep' t) :
    wp (callF P m (n + 3) f [.ref s, .ref c, .ref sp, .int deep] S) fun d S' => ∃ t ss', d = T.d t ∧ TreeD s k sp S S' ss ss' cs deep t := by
  have hb := big
  refine wp_callF h rfl ?_
  obtain ⟨ss0, nm, rfl⟩ : ∃ ss0 nm, ss = ss0 ++ [nm] := ⟨ss.dropLast, ss.getLast hss, (List.dropLast_concat_getLast hss).symm⟩
  simp [bTree, startD, hsp, hc, set_ne ncsp.symm, ap_lt (Lt.of hc).set]
  refine ⟨by omega, ?_⟩
  have nspk : sp ≠ k := fun e => by
    obtain ⟨a, b, c', sd, e', cc, g1, g2, _⟩ := st.ex
    subst e
    rw [hsp] at g2
    have := O.lst.inj (Option.some.inj g2)
    cases cc with
    | nil => simp at this
    | cons x xs => cases ss0 <;> simp at this
  have lsp := lt_of_some hsp
  have ls0 := st.lt
  have lk0 := st.ltk
  obtain ⟨J, hJ⟩ : ∃ J : Nat → Ls → Store → Prop, ∀ i ls S', J i ls S' ↔ ∃ l p x7 x8 x9 ls' ts ss' us, ls = [some (.ref s), some (.ref c), some (.ref sp), some (.int deep), some (.str nm), some (.ref l), some (.ref p), x7, x8, x9] ∧ S'[l]? = some (.lst (ls'.map D.str)) ∧ S'[p]? = some (.lst (T.dL ts)) ∧ S'[sp]? = some (.lst (ss'.map D.str)) ∧
      ss0 = ss' ++ us ∧ us.Perm (T.nmL ts) ∧ (T.lvL ts ++ ls').Perm cs ∧ ls'.length + i ≤ cs.length ∧ ts.length + ls'.length ≤ cs.length ∧ T.dptL ts ≤ deep ∧ min 4 ss0.length ≤ ss'.length ∧ l ≠ p ∧ S.length ≤ l ∧ S.length ≤ p ∧ StOk S' s k ∧ Ext [s, sp] S S' := ⟨_, fun _ _ _ => Iff.rfl⟩
  refine wp_rng J (by omega) ?_ ?_ ?_
  · refine (hJ _ _ _).mpr ⟨S.length, S.length + 1, _, _, _, cs, [], ss0, [], rfl, by simp, by simp [T.dL], ?_, by simp, by simp [T.nmL], by simp [T.lvL], by omega, by simp, by simp [T.dptL], by omega, by omega, by omega, by omega, ?_, ?_⟩
    · rw [ap_lt (Lt.of hsp).set, set_same (Lt.of hsp)]
    · have := (((st.ext (xs := [sp]) (Ext.set S (i := sp) (by simp) (.lst (ss0.map D.str))) (by simpa using fun e => nsps e.symm) (by simpa using fun e => nspk e.symm))).push (.lst (cs.map D.str))).push (.lst [])
      simpa using this
    · have := ((Ext.set S (xs := [s, sp]) (i := sp) (by simp) (.lst (ss0.map D.str))).pushed (.lst (cs.map D.str))).pushed (.lst [])
      simpa using this
  · intro i ls S' hi hj
    obtain ⟨l, p, x7, x8, x9, ls', ts, ss', us, rfl, q1, q2, q3, q4, q5, q6, q7, q7', q8, q9, q10, q11, q12, q13, q14⟩ := (hJ _ _ _).mp hj
    have he : eqD (.ref l) (.ref S'.length) (S' ++ [.lst []]) = some ls'.isEmpty := by
      rw [eq_nil (ds := ls'.map D.str) (by rw [ap_lt (Lt.of q1)]; exact q1) (by simp)]
      cases ls' <;> rfl
    cases ls' with
    | nil =>
      simp [he]
      refine (hJ _ _ _).mpr ⟨l, p, _, _, _, [], ts, ss', us, rfl, by rw [ap_lt (Lt.of q1)]; exact q1, by rw [ap_lt (Lt.of q2)]; exact q2, by rw [ap_lt (Lt.of q3)]; exact q3, q4, q5, q6, by simp; omega, q7', q8, q9, q10, q11, q12, q13.push _, q14.pushed _⟩
    | cons z zs =>
      simp [he, ap_lt (Lt.of q1), q1]
      simp only [List.length_cons] at q7 q7'
      refine wp_mono (dr.tk (q13.push _) (lim := (zs.length : Int) + 1) (by omega) (by omega)) ?_
      rintro _ S2 ⟨v, rfl, v1, v2, af⟩
      have a1 := af.at_ (by rw [ap_lt (Lt.of q1)]; exact q1) (by omega)
      have a2 := af.at_ (by rw [ap_lt (Lt.of q2)]; exact q2) (by omega)
      have a3 := af.at_ (by rw [ap_lt (Lt.of q3)]; exact q3) nsps
      have la1 := lt_of_some a1
      have la2 := lt_of_some a2
      have la3 := lt_of_some a3
      have e2 : Ext [s, sp] S S2 := (q14.pushed (.lst [])).trans (af.ext.mono (by simp))
      generalize hL : z :: zs = zl at *
      have hzl : zl.length = zs.length + 1 := by rw [← hL]; rfl
      simp [a1, a2, a3, ap_lt (Lt.of a1), ap_lt (Lt.of a2), ap_lt (Lt.of a3), cut_hi (i := 1 + v) (by omega), cut_lo (i := 1 + v) (by omega)]
      obtain ⟨w, hw⟩ : ∃ w, w = (1 + v).toNat := ⟨_, rfl⟩
      rw [← hw]
      have w1 : 1 ≤ w := by omega
      have w2 : w ≤ zl.length := by omega
      obtain ⟨S3, hS3⟩ : ∃ S3 : Store, S3 = S2 ++ [O.lst ((zl.take w).map D.str), O.lst ((zl.drop w).map D.str)] := ⟨_, rfl⟩
      have hS3' : S2 ++ [O.lst (List.take w (List.map D.str zl)), O.lst (List.drop w (List.map D.str zl))] = S3 := by rw [hS3]; simp
      have l3 : S3.length = S2.length + 2 := by rw [hS3]; simp
      have x3 : Ext [] S2 S3 := by
        rw [hS3]
        have := ((Ext.refl [] S2).pushed (.lst ((zl.take w).map D.str))).pushed (.lst ((zl.drop w).map D.str))
        simpa using this
      have st3 : StOk S3 s k := af.st.ext x3 (by simp) (by simp)
      have g1 : S3[S2.length]? = some (.lst ((zl.take w).map D.str)) := by rw [hS3]; simp
      have g2 : S3[S2.length + 1]? = some (.lst ((zl.drop w).map D.str)) := by rw [hS3]; simp
      have g3 := x3.at_ _ _ a2 (by simp)
      have g4 := x3.at_ _ _ a3 (by simp)
      have e3 : Ext [s, sp] S S3 := e2.trans (x3.mono (by simp))
      -- the group is laid as it is
      have plain : ∀ (S4 : Store), Af s k S3 S4 → ts.length + min w zl.length ≤ sizeLine ∧ J (i + 1) [some (.ref s), some (.ref c), some (.ref sp), some (.int deep), some (.str nm), some (.ref (S2.length + 1)), some (.ref S4.length), some (.int i), some (.int (1 + v)), some (.ref S2.length)] (S4 ++ [.lst (T.dL ts ++ List.take w (List.map D.str zl))]) := fun S4 af4 => by
        have h2 := af4.at_ g2 (by omega)
        have h4 := af4.at_ g4 nsps
        have l4 := af4.ext.len
        refine ⟨by omega, (hJ _ _ _).mpr ⟨_, _, _, _, _, zl.drop w, ts ++ (zl.take w).map T.leaf, ss', us, rfl, by rw [ap_lt (Lt.of h2)]; exact h2, ?_, by rw [ap_lt (Lt.of h4)]; exact h4, q4, ?_, ?_, ?_, ?_, ?_, q9, by omega, by omega, by omega, af4.st.push _, (e3.trans (af4.ext.mono (by simp))).pushed _⟩⟩
        · have : T.dL (ts ++ (zl.take w).map T.leaf) = T.dL ts ++ (zl.take w).map D.str := by rw [T.dL_app, T.dL_leaf]
          rw [this]; simp
        · rw [T.nmL_app, T.nmL_leaf, List.append_nil]; exact q5
        · rw [T.lvL_app, T.lvL_leaf, List.append_assoc, List.take_append_drop]; exact q6
        · rw [List.length_drop]; omega
        · simp; omega
        · rw [T.dptL_app, T.dptL_leaf]; omega
      have pl3 := plain S3 ⟨st3, Ext.refl _ _⟩
      have pl3' : ts.length + min w zl.length ≤ sizeLine ∧ J (i + 1) [some (.ref s), some (.ref c), some (.ref sp), some (.int deep), some (.str nm), some (.ref (S2.length + 1)), some (.ref (S2.length + 2)), some (.int i), some (.int (1 + v)), some (.ref S2.length)]
          (S2 ++ [O.lst (List.take w (List.map D.str zl)), O.lst (List.drop w (List.map D.str zl)), O.lst (T.dL ts ++ List.take w (List.map D.str zl))]) := by
        rw [l3, ← hS3'] at pl3
        simpa using pl3
      rw [hS3']
      by_cases hd : 0 < deep
      · rw [if_pos hd]
        by_cases h4 : (4 : Int) < ss'.length
        · rw [if_pos h4]
          refine wp_mono (dr.tk st3 (by decide) (by decide)) ?_
          rintro _ S4 ⟨v3, rfl, _, _, af4⟩
          have b1 := af4.at_ g1 (by omega)
          have b2 := af4.at_ g2 (by omega)
          have b3 := af4.at_ g3 (by omega)
          have b4 := af4.at_ g4 nsps
          by_cases hv3 : 0 < v3
          · simp [hv3, b3]
            obtain ⟨deep', hdd⟩ : ∃ deep', deep = deep' + 1 := ⟨deep - 1, by omega⟩
            have hdi : (deep : Int) - 1 = deep' := by omega
            rw [hdi]
            have l4 := af4.ext.len
            have hne : ss' ≠ [] := fun e => by rw [e] at h4; simp at h4
            have hl2 : ss'.length ≤ 1000 := by
              have : ss0.length = ss'.length + us.length := by rw [q4]; simp
              simp at z2; omega
            refine wp_mono (ih deep' hdd S4 S2.length (zl.take w) ss' af4.st b1 b4 hne (by omega) (by omega) (by simp; omega) hl2) ?_
            rintro _ S5 ⟨t, ss2, rfl, td⟩
            obtain ⟨us2, hu1, hu2⟩ := td.used
            have c2 := td.ext.at_ _ _ b2 (by simp; omega)
            have c3 := td.ext.at_ _ _ b3 (by simp; omega)
            have l5 := td.ext.len
            simp [c3]
            refine ⟨by omega, (hJ _ _ _).mpr ⟨_, _, _, _, _, zl.drop w, ts ++ [t], ss2, us2 ++ us, rfl, ?_, ?_, ?_, ?_, ?_, ?_, ?_, ?_, ?_, ?_, by omega, by omega, by omega, ?_, ?_⟩⟩
            · rw [set_ne (by omega)]; exact c2
            · rw [set_same (Lt.of c3)]; simp [T.dL_map]
            · rw [set_ne (by omega)]; exact td.spr
            · rw [q4, hu1, List.append_assoc]
            · rw [T.nmL_app]
              simp only [T.nmL, List.append_nil]
              exact (List.perm_append_comm).trans (List.Perm.append q5 hu2)
            · rw [T.lvL_app]
              simp only [T.lvL, List.append_nil]
              refine List.Perm.trans ?_ q6
              rw [List.append_assoc]
              refine List.Perm.append_left _ ?_
              exact (List.Perm.append_right _ td.lv).trans (by rw [List.take_append_drop])
            · rw [List.length_drop]; omega
            · simp; omega
            · rw [T.dptL_app]
              have := td.dpt
              simp only [T.dptL]; omega
            · have := td.left; omega
            · exact td.st.ext (xs := [p]) (Ext.set _ (by simp) _) (by simp; omega) (by simp; omega)
            · exact ((e3.trans (af4.ext.mono (by simp))).trans (td.ext)).setN (by omega) _
          · simp [hv3, b1, b3]
            exact plain S4 af4
        · rw [if_neg h4, if_neg h4]
          exact pl3'
      · rw [if_neg hd, if_neg hd]
        exact pl3'
  · intro ls S' hj
    obtain ⟨l, p, x7, x8, x9, ls', ts, ss', us, rfl, q1, q2, q3, q4, q5, q6, q7, q7', q8, q9, q10, q11, q12, q13, q14⟩ := (hJ _ _ _).mp hj
    have : ls' = [] := List.eq_nil_of_length_eq_zero (by omega)
    subst this
    simp [q2]
    refine ⟨by omega, .node nm ts, rfl, ss', rfl, q3, ⟨us ++ [nm], by rw [q4]; simp, ?_⟩, by simpa [T.lv] using q6, by simp only [T.dpt]; omega, by simp; omega, q13, q14⟩
    simp only [T.nm]
    exact (List.perm_append_comm).trans (List.Perm.cons nm q5)
theorem sp_tree (dr : Draws P iM iT iP) (h : P[f]? = some ⟨4, 10, [], ps, bTree iT f⟩) (hm : 10000 < m) {s k sp : Nat} (nsps : sp ≠ s) : ∀ (deep n : Nat) (S : Store) (c : Nat) (cs ss : List Str), StOk S s k → S[c]? = some (.lst (cs.map D.str)) → S[sp]? = some (.lst (ss.map D.str)) → ss ≠ [] → c ≠ s → c ≠ sp → cs.length ≤ 3000 → ss.length ≤ 1000 →
    wp (callF P m (n + deep + 3) f [.ref s, .ref c, .ref sp, .int deep] S) fun d S' => ∃ t ss', d = T.d t ∧ TreeD s k sp S S' ss ss' cs deep t := by
  intro deep
  induction deep with
  | zero =>
    intro n S c cs ss st hc hsp hss ncs ncsp z1 z2
    exact tree_step dr h hm 0 n S s k c sp cs ss st hc hsp hss ncs ncsp nsps z1 z2 fun _ e => by omega
  | succ deep ih =>
    intro n S c cs ss st hc hsp hss ncs ncsp z1 z2
    refine tree_step dr h hm (deep + 1) (n + deep + 1) S s k c sp cs ss st hc hsp hss ncs ncsp nsps z1 z2 fun deep' e => ?_
    obtain rfl : deep' = deep := by omega
    intro S c cs ss st hc hsp hss ncs ncsp z1 z2
    have := ih n S c cs ss st hc hsp hss ncs ncsp z1 z2
    rw [show n + deep' + 1 + 2 = n + deep' + 3 by omega]
    exact this
end
end PV

set_option Elab.async false
set_option linter.all false
set_option maxRecDepth 100000
set_option maxHeartbeats 1000000
/-! Mixes and offices drawn, by PV. -/
namespace PV
open PySem

def mD (p : Str × Int) : D := .tup [.str p.1, .int p.2]
def bMix (iS iT iP : Nat) : S := .cons (.set 3 (.sl (.call iS (.cons (.v 0) (.cons (.v 1) (.nil)))) .nil (.call iT (.cons (.v 0) (.cons (.bin .add (.v 2) (.int 1)) (.nil)))))) (.cons (.ret (.bi .tuple (.cons (.lc [("name", 4)] (.nm 4) (.q (.bi .sorted (.cons (.v 3) (.nil)))) .nil (.tup (.cons (.v 4) (.cons (.call iP (.cons (.v 0) (.cons (.lst (.cons (.int 1) (.cons (.int 1) (.cons (.neg (.int 1)) (.cons (.int 2) (.cons (.neg (.int 2)) (.cons (.int 3) (.nil)))))))) (.nil)))) (.nil))))) (.nil)))) (.nil))
/-- a mix of names among xs -/
structure MixOk (xs : List Str) (ys : List (Str × Int)) : Prop where
  mem : ∀ y ∈ ys, y.1 ∈ xs ∧ y.2 ∈ [1, -1, 2, -2, (3 : Int)]
  up : (ys.map (·.1)).Pairwise (fun a b => leS a b = true)
  nd : xs.Nodup → (ys.map (·.1)).Nodup
section
variable {P : List Df} {iM iT iP iS m f n : Nat} {ps qs : List Str}
theorem map_of_perm {xs : List Str} {es : List D} (h : es.Perm (xs.map D.str)) : ∃ ys : List Str, es = ys.map D.str ∧ ys.Perm xs := by
  have hs : ∀ e ∈ es, ∃ x, e = D.str x := fun e he => by
    obtain ⟨x, _, rfl⟩ := List.mem_map.mp (h.mem_iff.mp he)
    exact ⟨x, rfl⟩
  have : ∃ ys : List Str, es = ys.map D.str := by
    clear h
    induction es with
    | nil => exact ⟨[], rfl⟩
    | cons e es ih =>
      obtain ⟨x, rfl⟩ := hs e List.mem_cons_self
      obtain ⟨ys, rfl⟩ := ih fun e he => hs e (List.mem_cons_of_mem _ he)
      exact ⟨x :: ys, rfl⟩
  obtain ⟨ys, rfl⟩ := this
  refine ⟨ys, rfl, ?_⟩
  have h2 := h.map (fun d => match d with | D.str x => x | _ => Str.empty)
  simpa [Function.comp_def] using h2
theorem sp_mix (dr : Draws P iM iT iP) (hS : P[iS]? = some ⟨2, 6, [], qs, bShuf iT⟩) (h : P[f]? = some ⟨3, 5, [], ps, bMix iS iT iP⟩) (hm : 10000 < m) {s k r : Nat} {S : Store} (st : StOk S s k) {xs : List Str} (hr : S[r]? = some (.lst (xs.map D.str))) (hrs : r ≠ s) (hx : xs.length < 64) {most : Int} (h0 : 0 ≤ most) (h1 : most < 1000000) :
    wp (callF P m (n + 4) f [.ref s, .ref r, .int most] S) fun d S' => ∃ ys, d = .tup (ys.map mD) ∧ MixOk xs ys ∧ ys.length ≤ most ∧ Af s k S S' := by
  have hb := big
  refine wp_callF h rfl ?_
  simp [bMix, startD]
  refine wp_mono (sp_shuf dr hS st (.inr ⟨r, rfl, hrs, hr⟩) (by simp; omega) hm) ?_
  rintro _ S1 ⟨r1, es, rfl, a1, a2, a3, a4⟩
  obtain ⟨ys, rfl, hp⟩ := map_of_perm a2
  simp
  refine wp_mono (dr.tk a4.st (by omega) (by omega)) ?_
  rintro _ S2 ⟨v, rfl, v1, v2, af⟩
  have hs := st.lt
  have b1 := af.at_ a1 (by omega)
  have af2 := a4.trans af
  have hl := hp.length_eq
  have l2 := af2.ext.len
  simp [b1, cut_hi v1]
  rw [← List.map_take, sortD_strs (by simp; omega)]
  have pm := isort_perm leS (ys.take v.toNat)
  have srt := isortS_sorted (ys.take v.toNat)
  generalize isort leS (ys.take v.toNat) = zs at pm srt
  have lz := pm.length_eq
  simp at lz
  simp
  obtain ⟨S3, hS3⟩ : ∃ S3 : Store, S3 = S2 ++ [O.lst (ys.take v.toNat |>.map D.str), O.lst (zs.map D.str)] := ⟨_, rfl⟩
  have e3 : S3[S2.length + 1]? = some (.lst (zs.map D.str)) := by rw [hS3]; simp
  have af3 : Af s k S S3 := by rw [hS3]; exact af2.pushs _
  have l3 : S3.length = S2.length + 2 := by rw [hS3]; simp
  have hS3' : S2 ++ [O.lst (List.take v.toNat (List.map D.str ys)), O.lst (zs.map D.str), O.lst []] = S3 ++ [O.lst []] := by rw [hS3]; simp
  rw [hS3', ← l3]
  obtain ⟨I, hI⟩ : ∃ I : Nat → List D → Store → Prop, ∀ i acc S4, I i acc S4 ↔ ∃ ws : List (Str × Int), acc = ws.map mD ∧ ws.map (·.1) = zs.take i ∧ (∀ w ∈ ws, w.2 ∈ [1, -1, 2, -2, (3 : Int)]) ∧ Af s k S3 S4 := ⟨_, fun _ _ _ => Iff.rfl⟩
  have hs3 : s < S3.length := af3.st.lt
  refine wp_lcO (ds := zs.map D.str) I ?_ (by simp; omega) ((hI _ _ _).mpr ⟨[], rfl, by simp, by simp, (Af.refl af3.st).push _⟩) (by simp) ?_ ?_
  · intro i acc S4 hi
    obtain ⟨ws, rfl, w1, w2, w3⟩ := (hI _ _ _).mp hi
    exact w3.at_ e3 (by omega)
  · intro i d acc S4 hd hi hr4
    obtain ⟨ws, rfl, w1, w2, w3⟩ := (hI _ _ _).mp hi
    rw [List.getElem?_map] at hd
    obtain ⟨z, hz, rfl⟩ := Option.map_eq_some_iff.mp hd
    refine ⟨_, rfl, ?_⟩
    unfold lcTurn
    simp
    refine ⟨by omega, ?_⟩
    refine wp_mono (dr.pkL (r := S4.length) (w3.st.push _) (by simp; rfl) (by have := w3.st.lt; omega) (by decide) (by decide)) ?_
    rintro d S5 ⟨hd5, af5⟩
    obtain ⟨c, hc, rfl⟩ : ∃ c ∈ [1, -1, 2, -2, (3 : Int)], d = .int c := by
      simp at hd5
      rcases hd5 with rfl | rfl | rfl | rfl | rfl <;> exact ⟨_, by simp, rfl⟩
    have hr5 := af5.at_ (by rw [ap_lt (Lt.of hr4)]; exact hr4) (by omega)
    have lws : ws.length = min i zs.length := by
      have := congrArg List.length w1
      simpa using this
    simp
    refine ⟨by omega, by simpa using hr5, by omega, (hI _ _ _).mpr ⟨ws ++ [(z, c)], by simp [mD], by rw [List.map_append, w1, take_at hz]; rfl, ?_, ?_⟩⟩
    · intro w hw
      rcases List.mem_append.mp hw with q | q
      · exact w2 w q
      · simp at q; subst q; exact hc
    · exact ((w3.push _).trans af5).setN af3.st (Nat.le_refl _) _
  · intro acc S4 hi hr4
    obtain ⟨ws, rfl, w1, w2, w3⟩ := (hI _ _ _).mp hi
    rw [List.length_map, List.take_length] at w1
    simp [hr4]
    refine ⟨ws, rfl, ⟨fun y hy => ⟨?_, w2 y hy⟩, by rw [w1]; exact srt, fun nd => by rw [w1]; exact pm.nodup_iff.mpr ((hp.nodup_iff.mpr nd).sublist (List.take_sublist _ _))⟩, ?_, af3.trans w3⟩
    · have : y.1 ∈ zs := by rw [← w1]; exact List.mem_map.mpr ⟨y, hy, rfl⟩
      exact hp.mem_iff.mp (List.mem_of_mem_take (pm.mem_iff.mp this))
    · have := congrArg List.length w1
      simp at this
      omega

def hiD : Option Int → D
  | none => .non
  | some x => .int x
def bD (b : Str × Int × Option Int) : D := .tup [.str b.1, .int b.2.1, hiD b.2.2]
def wiD (w : List (Str × Int) × Int × Int × Int) : D := .tup [.tup (w.1.map mD), .int w.2.1, .int w.2.2.1, .int w.2.2.2]
structure Off where
  cs : List Str
  t1 : T
  t2 : T
  q : Int
  bs : List (Str × Int × Option Int)
  ws : List (List (Str × Int) × Int × Int × Int)
def Off.d (o : Off) : D := .tup [.tup (o.cs.map D.str), o.t1.d, o.t2.d, .int o.q, .tup (o.bs.map bD), .tup (o.ws.map wiD)]
/-- the names of an office -/
def Off.every (o : Off) : List Str := isort leS ((lotsOf o.cs o.t1 o.t2).map (·.1))
/-- a drawn office of so many cells -/
structure OffOk (many : Nat) (most : Int) (o : Off) : Prop where
  n1 : o.t1.isNode = true
  n2 : o.t2.isNode = true
  len : o.cs.length = many
  up : o.cs.Pairwise (fun a b => leS a b = true)
  nd : (o.cs ++ (o.t1.nm ++ o.t2.nm)).Nodup
  l1 : o.t1.lv.Perm o.cs
  l2 : o.t2.lv.Perm o.cs
  k1 : o.t1.nm.length + o.t2.nm.length ≤ 12
  d1 : o.t1.dpt ≤ 4
  d2 : o.t2.dpt ≤ 4
  short : ∀ x ∈ o.cs ++ (o.t1.nm ++ o.t2.nm), x.length ≤ 12 ∧ (many ≤ 25 → x.length ≤ 11)
  q0 : 0 ≤ o.q ∧ o.q ≤ most
  bsub : (o.bs.map (·.1)).Sublist o.every
  bok : ∀ b ∈ o.bs, (b.2.1 = 0 ∨ b.2.1 = 1) ∧ (b.2.2 = none ∨ b.2.2 = some 1000000 ∨ ∃ x, 0 ≤ x ∧ x ≤ most ∧ b.2.2 = some (b.2.1 + x))
  wlen : o.ws.length ≤ 3
  wok : ∀ w ∈ o.ws, MixOk o.every w.1 ∧ w.1.length ≤ 3 ∧ (w.2.1, w.2.2.1) ∈ [(1, 1), (0, 1), (1, 0), (9, 10), ((100 : Int), (100 : Int))] ∧ -4 ≤ w.2.2.2 ∧ w.2.2.2 ≤ 4
theorem Off.lots_nd {many : Nat} {most : Int} {o : Off} (h : OffOk many most o) : ((lotsOf o.cs o.t1 o.t2).map (·.1)).Nodup := by
  unfold lotsOf
  have e : (List.map (fun q : Str × List Str × Option Str => (q.1, q.2.1)) (o.t1.lo none ++ o.t2.lo none)).map (·.1) = o.t1.nm ++ o.t2.nm := by
    rw [List.map_map, List.map_append, ← T.lo_nm o.t1 none, ← T.lo_nm o.t2 none]; rfl
  rw [List.map_append, e, List.map_map]
  have e2 : o.cs.map ((fun q : Str × List Str => q.1) ∘ fun c => (c, [c])) = o.cs := by simp [Function.comp_def]
  rw [e2]
  exact h.nd
def bOffice (iS iN iT iTr iL iP iMx : Nat) : S := .cons (.set 3 (.call iS (.cons (.v 0) (.cons (.call iN (.cons (.v 0) (.cons (.bin .add (.v 1) (.int 12)) (.nil)))) (.nil))))) (.cons (.set 4 (.bi .tuple (.cons (.bi .sorted (.cons (.sl (.v 3) .nil (.v 1)) (.nil))) (.nil)))) (.cons (.set 5 (.sl (.v 3) (.v 1) .nil)) (.cons (.set 6 (.call iTr (.cons (.v 0) (.cons (.call iS (.cons (.v 0) (.cons (.v 4) (.nil)))) (.cons (.v 5) (.cons (.call iT (.cons (.v 0) (.cons (.int 4) (.nil)))) (.nil))))))) (.cons (.set 7 (.call iTr (.cons (.v 0) (.cons (.call iS (.cons (.v 0) (.cons (.v 4) (.nil)))) (.cons (.v 5) (.cons (.call iT (.cons (.v 0) (.cons (.int 4) (.nil)))) (.nil))))))) (.cons (.set 8 (.tup (.cons (.v 4) (.cons (.v 6) (.cons (.v 7) (.cons (.call iT (.cons (.v 0) (.cons (.bin .add (.v 2) (.int 1)) (.nil)))) (.cons (.tup (.nil)) (.cons (.tup (.nil)) (.nil))))))))) (.cons (.set 9 (.bi .sorted (.cons (.call iL (.cons (.v 8) (.nil))) (.nil)))) (.cons (.par2 10 11 (.lst (.nil)) (.lst (.nil))) (.cons (.for (.nm 12) (.q (.v 9)) (.cons (.ite (.cmp .eq (.call iT (.cons (.v 0) (.cons (.int 4) (.nil)))) (.int 0)) (.cons (.set 13 (.call iP (.cons (.v 0) (.cons (.lst (.cons (.int 0) (.cons (.int 0) (.cons (.int 0) (.cons (.int 1) (.nil)))))) (.nil))))) (.cons (.ex (.mt .append (.v 10) (.cons (.tup (.cons (.v 12) (.cons (.v 13) (.cons (.call iP (.cons (.v 0) (.cons (.lst (.cons (.non) (.cons (.bin .add (.v 13) (.call iT (.cons (.v 0) (.cons (.bin .add (.v 2) (.int 1)) (.nil))))) (.cons (.int 1000000) (.nil))))) (.nil)))) (.nil))))) (.nil)))) (.nil))) (.nil)) (.nil))) (.cons (.for (.nm 14) (.qr (.call iT (.cons (.v 0) (.cons (.int 4) (.nil))))) (.cons (.set 15 (.call iP (.cons (.v 0) (.cons (.lst (.cons (.tup (.cons (.int 1) (.cons (.int 1) (.nil)))) (.cons (.tup (.cons (.int 0) (.cons (.int 1) (.nil)))) (.cons (.tup (.cons (.int 1) (.cons (.int 0) (.nil)))) (.cons (.tup (.cons (.int 9) (.cons (.int 10) (.nil)))) (.cons (.tup (.cons (.int 100) (.cons (.int 100) (.nil)))) (.nil))))))) (.nil))))) (.cons (.ex (.mt .append (.v 11) (.cons (.bin .add (.bin .add (.tup (.cons (.call iMx (.cons (.v 0) (.cons (.v 9) (.cons (.int 3) (.nil))))) (.nil))) (.v 15)) (.tup (.cons (.bin .sub (.call iT (.cons (.v 0) (.cons (.int 9) (.nil)))) (.int 4)) (.nil)))) (.nil)))) (.nil)))) (.cons (.ret (.bin .add (.sl (.v 8) .nil (.int 4)) (.tup (.cons (.bi .tuple (.cons (.v 10) (.nil))) (.cons (.bi .tuple (.cons (.v 11) (.nil))) (.nil)))))) (.nil)))))))))))
/-- where the office's defs stand -/
structure OffP (P : List Df) (iM iT iP iS iN iTr iK iL iMx f : Nat) : Prop where
  dr : Draws P iM iT iP
  shuf : ∃ ps, P[iS]? = some ⟨2, 6, [], ps, bShuf iT⟩
  names : ∃ ps, P[iN]? = some ⟨2, 8, [], ps, bNames_ iT⟩
  tree : ∃ ps, P[iTr]? = some ⟨4, 10, [], ps, bTree iT iTr⟩
  knots : ∃ ps, P[iK]? = some ⟨1, 11, [], ps, bKnots⟩
  lots : ∃ ps, P[iL]? = some ⟨1, 6, [], ps, bLots iK⟩
  mix : ∃ ps, P[iMx]? = some ⟨3, 5, [], ps, bMix iS iT iP⟩
  off : ∃ ps, P[f]? = some ⟨3, 16, [], ps, bOffice iS iN iT iTr iL iP iMx⟩
theorem Ext.newer2 {xs ys : List Nat} {S0 S S' : Store} (a : Ext xs S0 S) (b : Ext ys S S') (h : ∀ y ∈ ys, y ∈ xs ∨ S0.length ≤ y) : Ext xs S0 S' := ⟨Nat.le_trans a.len b.len, fun j o e k => by
  have hj := lt_of_some e
  exact b.at_ j o (a.at_ j o e k) fun z => (h j z).elim k (by omega)⟩
theorem sp_office {iN iTr iK iL iMx : Nat} (op : OffP P iM iT iP iS iN iTr iK iL iMx f) (hm : 10000 < m) {s k : Nat} {S : Store} (st : StOk S s k) {many : Nat} {most : Int} (hmany : 0 < many) (hmany2 : many ≤ 50) (h0 : 0 ≤ most) (h1 : most < 100000) :
    wp (callF P m (n + 8) f [.ref s, .int many, .int most] S) fun d S' => ∃ o, d = Off.d o ∧ OffOk many most o ∧ Af s k S S' := by
  have hb := big
  have dr := op.dr
  obtain ⟨_, hS⟩ := op.shuf
  obtain ⟨_, hN⟩ := op.names
  obtain ⟨_, hTr⟩ := op.tree
  obtain ⟨_, hK⟩ := op.knots
  obtain ⟨_, hL⟩ := op.lots
  obtain ⟨_, hMx⟩ := op.mix
  obtain ⟨_, h⟩ := op.off
  have ls0 := st.lt
  refine wp_callF h rfl ?_
  simp [bOffice, startD]
  have e12 : (many : Int) + 12 = ((many + 12 : Nat) : Int) := by omega
  rw [e12]
  refine wp_mono (sp_names (n := n + 4) dr hN st (many := many + 12) (by omega) hm) ?_
  rintro _ S1 ⟨xs, rfl, x1, x2, x3, x4, af1⟩
  simp
  refine wp_mono (sp_shuf (n := n + 4) dr hS af1.st (.inl rfl) (by simp; omega) hm) ?_
  rintro _ S2 ⟨r2, es, rfl, a1, a2, a3, af2⟩
  obtain ⟨ns, rfl, hp⟩ := map_of_perm a2
  have hln := hp.length_eq
  simp [a1, cut_hi_n]
  rw [← List.map_take, sortD_strs (by simp; omega)]
  have pm := isort_perm leS (ns.take many)
  have srt := isortS_sorted (ns.take many)
  obtain ⟨cs, hcs⟩ : ∃ cs, cs = isort leS (ns.take many) := ⟨_, rfl⟩
  rw [← hcs] at pm srt ⊢
  have lcs : cs.length = many := by rw [pm.length_eq]; simp; omega
  have e2 : ∀ t : Store, (S2 ++ t)[r2]? = some (.lst (ns.map D.str)) := fun t => by rw [ap_lt (Lt.of a1)]; exact a1
  simp [e2]
  obtain ⟨S3, hS3⟩ : ∃ S3 : Store, S3 = S2 ++ [O.lst ((ns.take many).map D.str), O.lst (cs.map D.str), O.lst ((ns.drop many).map D.str)] := ⟨_, rfl⟩
  have hS3' : S2 ++ [O.lst (List.take many (List.map D.str ns)), O.lst (List.map D.str cs), O.lst (List.drop many (List.map D.str ns))] = S3 := by rw [hS3]; simp
  rw [hS3']
  have f3 : S3[S2.length + 2]? = some (.lst ((ns.drop many).map D.str)) := by rw [hS3]; simp
  have af3 : Af s k S S3 := by rw [hS3]; exact (af1.trans af2).pushs _
  have l2 : s < S2.length := (af1.trans af2).st.lt
  generalize hsp : S2.length + 2 = sp at *
  refine wp_mono (sp_shuf (n := n + 4) dr hS af3.st (.inl rfl) (by simp; omega) hm) ?_
  rintro _ S4 ⟨r4, es4, rfl, b1, b2, b3, af4⟩
  obtain ⟨c4, rfl, hp4⟩ := map_of_perm b2
  have f4 := af4.at_ f3 (by omega)
  simp
  refine wp_mono (dr.tk (n := n + 5) af4.st (by decide) (by decide)) ?_
  rintro _ S5 ⟨v5, rfl, v5a, v5b, af5⟩
  have lsp := lt_of_some f3
  have g5 := af5.at_ b1 (by have := af3.st.lt; omega)
  have f5 := af5.at_ f4 (by omega)
  simp
  obtain ⟨k5, hk5⟩ : ∃ k5 : Nat, v5 = k5 := ⟨v5.toNat, by omega⟩
  subst hk5
  obtain ⟨n5, hn5⟩ : ∃ n5, n + 7 = n5 + k5 + 3 := ⟨n + 4 - k5, by omega⟩
  rw [hn5]
  have ldrop : (ns.drop many).length = 12 := by simp; omega
  refine wp_mono (sp_tree dr hTr hm (sp := sp) (by omega) k5 n5 S5 r4 c4 (ns.drop many) af5.st g5 f5 (by intro e; rw [e] at ldrop; simp at ldrop) (by have := af3.st.lt; omega) (by omega) (by rw [hp4.length_eq]; omega) (by omega)) ?_
  rintro _ S6 ⟨t1, ss1, rfl, td1⟩
  rw [← hn5]
  obtain ⟨us1, hu1, pu1⟩ := td1.used
  have lS := (af1.trans af2).ext.len
  have af6 : Af s k S S6 := ⟨td1.st, ((af3.trans af4).trans af5).ext.newer2 td1.ext (by simp; omega)⟩
  have hd12 : (ns.drop many).length = ss1.length + us1.length := by rw [hu1]; simp
  simp
  refine wp_mono (sp_shuf (n := n + 4) dr hS td1.st (.inl rfl) (by simp; omega) hm) ?_
  rintro _ S7 ⟨r7, es7, rfl, d1, d2, d3, af7⟩
  obtain ⟨c7, rfl, hp7⟩ := map_of_perm d2
  have f7 := af7.at_ td1.spr (by omega)
  simp
  refine wp_mono (dr.tk (n := n + 5) af7.st (by decide) (by decide)) ?_
  rintro _ S8 ⟨v8, rfl, v8a, v8b, af8⟩
  have lsp6 := lt_of_some td1.spr
  have g8 := af8.at_ d1 (by have := td1.st.lt; omega)
  have f8 := af8.at_ f7 (by omega)
  simp
  obtain ⟨k8, hk8⟩ : ∃ k8 : Nat, v8 = k8 := ⟨v8.toNat, by omega⟩
  subst hk8
  obtain ⟨n8, hn8⟩ : ∃ n8, n + 7 = n8 + k8 + 3 := ⟨n + 4 - k8, by omega⟩
  rw [hn8]
  have left1 := td1.left
  refine wp_mono (sp_tree dr hTr hm (sp := sp) (by omega) k8 n8 S8 r7 c7 ss1 af8.st g8 f8 (by intro e; rw [e] at left1; simp at left1; omega) (by have := td1.st.lt; omega) (by omega) (by rw [hp7.length_eq]; omega) (by omega)) ?_
  rintro _ S9 ⟨t2, ss2, rfl, td2⟩
  rw [← hn8]
  obtain ⟨us2, hu2, pu2⟩ := td2.used
  have af9 : Af s k S S9 := ⟨td2.st, ((af6.trans af7).trans af8).ext.newer2 td2.ext (by simp; omega)⟩
  have hd12' : ss1.length = ss2.length + us2.length := by rw [hu2]; simp
  simp
  refine wp_mono (dr.tk (n := n + 5) af9.st (by omega) (by omega)) ?_
  rintro _ S10 ⟨q, rfl, q1, q2, af10⟩
  simp
  -- the names
  have pns : ((ns.take many ++ (us1 ++ us2)) ++ ss2).Perm ns := by
    have e1 : ns = ns.take many ++ ((ss2 ++ us2) ++ us1) := by
      rw [← hu2, ← hu1, List.take_append_drop]
    refine List.Perm.trans ?_ (List.Perm.of_eq e1.symm)
    rw [List.append_assoc]
    refine List.Perm.append_left _ ?_
    have : ((us1 ++ us2) ++ ss2).Perm (ss2 ++ (us1 ++ us2)) := List.perm_append_comm
    refine this.trans ?_
    rw [List.append_assoc]
    exact List.Perm.append_left _ List.perm_append_comm
  have pall : (cs ++ (t1.nm ++ t2.nm)).Perm (ns.take many ++ (us1 ++ us2)) := List.Perm.append pm (List.Perm.append pu1.symm pu2.symm)
  have nd : (cs ++ (t1.nm ++ t2.nm)).Nodup := by
    refine pall.nodup_iff.mpr ?_
    have : ((ns.take many ++ (us1 ++ us2)) ++ ss2).Nodup := pns.nodup_iff.mpr (hp.nodup_iff.mpr x2)
    exact this.sublist (List.sublist_append_left _ _)
  have hshort : ∀ x ∈ cs ++ (t1.nm ++ t2.nm), x.length ≤ 12 ∧ (many ≤ 25 → x.length ≤ 11) := fun x hx => by
    have h1 := pall.mem_iff.mp hx
    have h2 : x ∈ (ns.take many ++ (us1 ++ us2)) ++ ss2 := List.mem_append_left _ h1
    have x4 := x4 x (hp.mem_iff.mp (pns.mem_iff.mp h2))
    exact ⟨x4.1, fun z => x4.2 (by omega)⟩
  have lnm1 := pu1.length_eq
  have lnm2 := pu2.length_eq
  have lv1 : t1.lv.Perm cs := td1.lv.trans hp4
  have lv2 : t2.lv.Perm cs := td2.lv.trans hp7
  have sz1 := T.sz_eq t1
  have sz2 := T.sz_eq t2
  have ll1 := lv1.length_eq
  have ll2 := lv2.length_eq
  have lnd : ((lotsOf cs t1 t2).map (·.1)).Nodup := by
    unfold lotsOf
    have e : (List.map (fun q : Str × List Str × Option Str => (q.1, q.2.1)) (t1.lo none ++ t2.lo none)).map (·.1) = t1.nm ++ t2.nm := by
      rw [List.map_map, List.map_append, ← T.lo_nm t1 none, ← T.lo_nm t2 none]; rfl
    rw [List.map_append, e, List.map_map]
    have e2 : cs.map ((fun q : Str × List Str => q.1) ∘ fun c => (c, [c])) = cs := by simp [Function.comp_def]
    rw [e2]
    exact nd
  refine ⟨by omega, ?_⟩
  refine wp_mono (sp_lots (n := n + 5) hL hK hm cs t1 t2 _ S10 td1.node td2.node (by omega) (by omega) (by omega) lnd) ?_
  rintro _ S11 ⟨r11, kvs, rfl, h11, lk, hr11, x11⟩
  obtain ⟨nms, hnms⟩ : ∃ nms : List Str, nms = (lotsOf cs t1 t2).map (·.1) := ⟨_, rfl⟩
  have lnms : nms.length ≤ 62 := by
    have h2 : (t1.lo none).length = t1.nm.length := by rw [← T.lo_nm t1 none, List.length_map]
    have h3 : (t2.lo none).length = t2.nm.length := by rw [← T.lo_nm t2 none, List.length_map]
    rw [hnms]; unfold lotsOf; simp; omega
  have keys : kvs.map (fun p => dOfKey p.1) = nms.map D.str := by
    have : kvs.map (fun p => dOfKey p.1) = (kvs.map (·.1)).map dOfKey := by rw [List.map_map]; rfl
    rw [this, lk.keys, hnms, List.map_map, List.map_map]; rfl
  have ar : Af s k S S11 := by
    refine ⟨?_, ((af9.trans af10).ext.trans (x11.mono (by simp)))⟩
    exact (af9.trans af10).st.ext x11 (by simp) (by simp)
  simp [h11, keys]
  rw [sortD_strs (by omega)]
  simp
  obtain ⟨ev, hev⟩ : ∃ ev, ev = isort leS nms := ⟨_, rfl⟩
  rw [← hev]
  have lev : ev.length ≤ 62 := by rw [hev, (isort_perm leS nms).length_eq]; exact lnms
  have ndev : ev.Nodup := by rw [hev]; refine (isort_perm leS nms).nodup_iff.mpr ?_; rw [hnms]; exact lnd
  obtain ⟨S12, hS12⟩ : ∃ S12 : Store, S12 = S11 ++ [O.lst (ev.map D.str), O.lst [], O.lst []] := ⟨_, rfl⟩
  rw [← hS12]
  have ar12 : Af s k S S12 := by rw [hS12]; exact ar.pushs _
  have hev12 : S12[S11.length]? = some (.lst (ev.map D.str)) := by rw [hS12]; simp
  have hB12 : S12[S11.length + 1]? = some (.lst []) := by rw [hS12]; simp
  have hW12 : S12[S11.length + 2]? = some (.lst []) := by rw [hS12]; simp
  have l11 := ar.ext.len
  generalize hE : S11.length = iE at *
  have od : ∃ od : D, od = D.tup [D.tup (cs.map D.str), t1.d, t2.d, .int q, .tup [], .tup []] := ⟨_, rfl⟩
  obtain ⟨od, hod⟩ := od
  rw [← hod]
  obtain ⟨I, hI⟩ : ∃ I : Nat → Ls → Store → Prop, ∀ i ls S', I i ls S' ↔ ∃ (x12 x13 x14 x15 : Option D) (bs : List (Str × Int × Option Int)), ls = [some (.ref s), some (.int many), some (.int most), some (.ref r2), some (.tup (cs.map D.str)), some (.ref sp), some t1.d, some t2.d, some od, some (.ref iE), some (.ref (iE + 1)), some (.ref (iE + 2)), x12, x13, x14, x15] ∧
      S'[iE]? = some (.lst (ev.map D.str)) ∧ S'[iE + 1]? = some (.lst (bs.map bD)) ∧ S'[iE + 2]? = some (.lst []) ∧ (bs.map (·.1)).Sublist (ev.take i) ∧
      (∀ b ∈ bs, (b.2.1 = 0 ∨ b.2.1 = 1) ∧ (b.2.2 = none ∨ b.2.2 = some 1000000 ∨ ∃ x, 0 ≤ x ∧ x ≤ most ∧ b.2.2 = some (b.2.1 + x))) ∧ Af s k S S' := ⟨_, fun _ _ _ => Iff.rfl⟩
  refine wp_obj (ds := ev.map D.str) I ?_ (by simp; omega) ?_ ?_ ?_
  · intro i ls S' hi
    obtain ⟨x12, x13, x14, x15, bs, rfl, p1, p2, p3, p4, p5, p6⟩ := (hI _ _ _).mp hi
    exact p1
  · exact (hI _ _ _).mpr ⟨_, _, _, _, [], rfl, hev12, hB12, hW12, by simp, by simp, ar12⟩
  · intro i d ls S' hd hi
    obtain ⟨x12, x13, x14, x15, bs, rfl, p1, p2, p3, p4, p5, p6⟩ := (hI _ _ _).mp hi
    rw [List.getElem?_map] at hd
    obtain ⟨nm, hnm, rfl⟩ := Option.map_eq_some_iff.mp hd
    refine ⟨_, rfl, ?_⟩
    have hln2 := lt_of_some hnm
    have lbs := p4.length_le
    simp at lbs
    simp
    refine wp_mono (dr.tk (n := n + 5) p6.st (by decide) (by decide)) ?_
    rintro _ S13 ⟨v, rfl, _, _, ag1⟩
    have c1 := ag1.at_ p1 (by omega)
    have c2 := ag1.at_ p2 (by omega)
    have c3 := ag1.at_ p3 (by omega)
    have at1 := take_at hnm
    by_cases hv : v = 0
    · simp [hv]
      refine ⟨by omega, ?_⟩
      refine wp_mono (dr.pkL (n := n + 4) (r := S13.length) (ds := [.int 0, .int 0, .int 0, .int 1]) (ag1.st.push (.lst [.int 0, .int 0, .int 0, .int 1])) (by simp) (by have := ag1.st.lt; omega) (by decide) (by decide)) ?_
      rintro d S14 ⟨hd14, ag2⟩
      obtain ⟨lo, hlo, rfl⟩ : ∃ lo : Int, (lo = 0 ∨ lo = 1) ∧ d = .int lo := by
        simp at hd14
        rcases hd14 with rfl | rfl
        · exact ⟨0, by simp, rfl⟩
        · exact ⟨1, by simp, rfl⟩
      have y1 := ag2.at_ (by rw [ap_lt (Lt.of c1)]; exact c1) (by omega)
      have y2 := ag2.at_ (by rw [ap_lt (Lt.of c2)]; exact c2) (by omega)
      have y3 := ag2.at_ (by rw [ap_lt (Lt.of c3)]; exact c3) (by omega)
      simp [y2]
      refine wp_mono (dr.tk (n := n + 5) ag2.st (by omega) (by omega)) ?_
      rintro _ S15 ⟨v15, rfl, v15a, v15b, ag3⟩
      have z1 := ag3.at_ y1 (by omega)
      have z2 := ag3.at_ y2 (by omega)
      have z3 := ag3.at_ y3 (by omega)
      simp
      refine ⟨by omega, ?_⟩
      refine wp_mono (dr.pkL (n := n + 4) (r := S15.length) (ds := [.non, .int (lo + v15), .int 1000000]) (ag3.st.push (.lst [.non, .int (lo + v15), .int 1000000])) (by simp) (by have := ag3.st.lt; omega) (by simp) (by simp)) ?_
      rintro d S16 ⟨hd16, ag4⟩
      have u1 := ag4.at_ (by rw [ap_lt (Lt.of z1)]; exact z1) (by omega)
      have u2 := ag4.at_ (by rw [ap_lt (Lt.of z2)]; exact z2) (by omega)
      have u3 := ag4.at_ (by rw [ap_lt (Lt.of z3)]; exact z3) (by omega)
      have ag : Af s k S S16 := (((((p6.trans ag1).push _).trans ag2).trans ag3).push _).trans ag4
      obtain ⟨hi2, hhi, rfl⟩ : ∃ hi2 : Option Int, (hi2 = none ∨ hi2 = some 1000000 ∨ ∃ x, 0 ≤ x ∧ x ≤ most ∧ hi2 = some (lo + x)) ∧ d = hiD hi2 := by
        simp at hd16
        rcases hd16 with rfl | rfl | rfl
        · exact ⟨none, .inl rfl, rfl⟩
        · exact ⟨some (lo + v15), .inr (.inr ⟨v15, v15a, by omega, rfl⟩), rfl⟩
        · exact ⟨some 1000000, .inr (.inl rfl), rfl⟩
      simp [u2]
      refine ⟨by omega, by omega, (hI _ _ _).mpr ⟨_, _, _, _, bs ++ [(nm, lo, hi2)], rfl, ?_, ?_, ?_, ?_, ?_, ag.setN st (by omega) _⟩⟩
      · rw [set_ne (by omega)]; exact u1
      · rw [set_same (Lt.of u2)]; simp [bD]
      · rw [set_ne (by omega)]; exact u3
      · rw [at1, List.map_append]
        exact List.Sublist.append p4 (List.Sublist.refl _)
      · intro b hb2
        rcases List.mem_append.mp hb2 with z | z
        · exact p5 b z
        · simp at z; subst z; exact ⟨hlo, hhi⟩
    · simp [hv]
      refine (hI _ _ _).mpr ⟨_, _, _, _, bs, rfl, c1, c2, c3, ?_, p5, p6.trans ag1⟩
      rw [at1]
      exact p4.trans (List.sublist_append_left _ _)
  · intro ls S' hi
    obtain ⟨x12, x13, x14, x15, bs, rfl, p1, p2, p3, p4, p5, p6⟩ := (hI _ _ _).mp hi
    rw [List.length_map, List.take_length] at p4
    simp
    refine wp_mono (dr.tk (n := n + 5) p6.st (by decide) (by decide)) ?_
    rintro _ S13 ⟨v, rfl, v1, v2, ag1⟩
    have c1 := ag1.at_ p1 (by omega)
    have c2 := ag1.at_ p2 (by omega)
    have c3 := ag1.at_ p3 (by omega)
    have ag := p6.trans ag1
    simp
    refine ⟨by omega, ?_⟩
    obtain ⟨J, hJ⟩ : ∃ J : Nat → Ls → Store → Prop, ∀ i ls S', J i ls S' ↔ ∃ (x12 x13 x14 x15 : Option D) (ws : List (List (Str × Int) × Int × Int × Int)), ls = [some (.ref s), some (.int many), some (.int most), some (.ref r2), some (.tup (cs.map D.str)), some (.ref sp), some t1.d, some t2.d, some od, some (.ref iE), some (.ref (iE + 1)), some (.ref (iE + 2)), x12, x13, x14, x15] ∧
        S'[iE]? = some (.lst (ev.map D.str)) ∧ S'[iE + 1]? = some (.lst (bs.map bD)) ∧ S'[iE + 2]? = some (.lst (ws.map wiD)) ∧ ws.length = i ∧
        (∀ w ∈ ws, MixOk ev w.1 ∧ w.1.length ≤ 3 ∧ (w.2.1, w.2.2.1) ∈ [(1, 1), (0, 1), (1, 0), (9, 10), ((100 : Int), (100 : Int))] ∧ -4 ≤ w.2.2.2 ∧ w.2.2.2 ≤ 4) ∧ Af s k S S' := ⟨_, fun _ _ _ => Iff.rfl⟩
    refine wp_rng J (by omega) ?_ ?_ ?_
    · exact (hJ _ _ _).mpr ⟨_, _, _, _, [], rfl, c1, c2, c3, rfl, by simp, ag⟩
    · intro i ls S' hi hj
      obtain ⟨x12, x13, x14, x15, ws, rfl, p1, p2, p3, p4, p5, p6⟩ := (hJ _ _ _).mp hj
      simp
      refine ⟨by omega, by omega, ?_⟩
      refine wp_mono (dr.pkL (n := n + 4) (r := S'.length) (ds := [.tup [.int 1, .int 1], .tup [.int 0, .int 1], .tup [.int 1, .int 0], .tup [.int 9, .int 10], .tup [.int 100, .int 100]]) (p6.st.push (.lst [.tup [.int 1, .int 1], .tup [.int 0, .int 1], .tup [.int 1, .int 0], .tup [.int 9, .int 10], .tup [.int 100, .int 100]])) (by simp) (by have := p6.st.lt; omega) (by decide) (by decide)) ?_
      rintro d S14 ⟨hd14, ag2⟩
      obtain ⟨a, b, hab, rfl⟩ : ∃ a b : Int, (a, b) ∈ [(1, 1), (0, 1), (1, 0), (9, 10), ((100 : Int), (100 : Int))] ∧ d = .tup [.int a, .int b] := by
        simp at hd14
        rcases hd14 with rfl | rfl | rfl | rfl | rfl <;> exact ⟨_, _, by simp, rfl⟩
      have y1 := ag2.at_ (by rw [ap_lt (Lt.of p1)]; exact p1) (by omega)
      have y2 := ag2.at_ (by rw [ap_lt (Lt.of p2)]; exact p2) (by omega)
      have y3 := ag2.at_ (by rw [ap_lt (Lt.of p3)]; exact p3) (by omega)
      simp [y3]
      refine wp_mono (sp_mix (n := n + 3) dr hS hMx hm ag2.st y1 (by omega) (by omega) (by decide) (by decide)) ?_
      rintro _ S15 ⟨ys, rfl, mok, lys, ag3⟩
      have z1 := ag3.at_ y1 (by omega)
      have z2 := ag3.at_ y2 (by omega)
      have z3 := ag3.at_ y3 (by omega)
      simp
      refine ⟨by omega, by omega, ?_⟩
      refine wp_mono (dr.tk (n := n + 5) ag3.st (by decide) (by decide)) ?_
      rintro _ S16 ⟨v16, rfl, v16a, v16b, ag4⟩
      have u1 := ag4.at_ z1 (by omega)
      have u2 := ag4.at_ z2 (by omega)
      have u3 := ag4.at_ z3 (by omega)
      simp [u3]
      have agg : Af s k S S16 := ((((p6.push _).trans ag2).trans ag3).trans ag4)
      refine ⟨by omega, by omega, by omega, (hJ _ _ _).mpr ⟨_, _, _, _, ws ++ [(ys, a, b, v16 - 4)], rfl, ?_, ?_, ?_, ?_, ?_, agg.setN st (by omega) _⟩⟩
      · rw [set_ne (by omega)]; exact u1
      · rw [set_ne (by omega)]; exact u2
      · rw [set_same (Lt.of u3)]; simp [wiD]
      · simp [p4]
      · intro w hw
        rcases List.mem_append.mp hw with z | z
        · exact p5 w z
        · simp at z; subst z; exact ⟨mok, by show ys.length ≤ 3; omega, hab, by show -4 ≤ v16 - 4; omega, by show v16 - 4 ≤ 4; omega⟩
    · intro ls S' hj
      obtain ⟨x12, x13, x14, x15, ws, rfl, p1, p2, p3, p4', p5', p6'⟩ := (hJ _ _ _).mp hj
      simp [hod, p2, p3]
      refine ⟨by omega, by omega, ⟨cs, t1, t2, q, bs, ws⟩, rfl, ?_, p6'⟩
      have hevery : Off.every ⟨cs, t1, t2, q, bs, ws⟩ = ev := by unfold Off.every; rw [hev, hnms]
      exact { n1 := td1.node, n2 := td2.node, len := lcs, up := srt, nd := nd, l1 := lv1, l2 := lv2, k1 := by show t1.nm.length + t2.nm.length ≤ 12; omega,
              d1 := by have := td1.dpt; show t1.dpt ≤ 4; omega, d2 := by have := td2.dpt; show t2.dpt ≤ 4; omega, short := hshort, q0 := ⟨q1, by show q ≤ most; omega⟩,
              bsub := by rw [hevery]; exact p4, bok := p5, wlen := by show ws.length ≤ 3; omega, wok := by rw [hevery]; exact p5' }
end
end PV

set_option Elab.async false
set_option linter.all false
set_option maxRecDepth 100000
set_option maxHeartbeats 1000000
/-! Arcs, by PV. -/
namespace PV
open PySem

def root : T → Str
  | .node n _ => n
  | .leaf c => c
/-- the knot that holds a leaf -/
def hOf (t : T) (c : Str) : Str := (((t.hd Str.empty).find? fun p => decide (p.1 = c)).map (·.2)).getD Str.empty
namespace T
mutual
theorem hd_lv : ∀ (t : T) (n : Str), (t.hd n).map (·.1) = t.lv
  | .leaf _, _ => rfl
  | .node _ ps, _ => by simp only [hd, lv, hdL_lv ps]
theorem hdL_lv : ∀ (ts : List T) (n : Str), (hdL ts n).map (·.1) = lvL ts
  | [], _ => rfl
  | t :: ts, n => by simp only [hdL, lvL, List.map_append, hd_lv t n, hdL_lv ts n]
end
mutual
theorem lo_kn : ∀ (t : T) (ab : Option Str), (t.lo ab).map (fun q => (q.1, q.2.2)) = t.kn ab
  | .leaf _, _ => rfl
  | .node n ps, ab => by simp only [lo, kn, List.map_cons, loL_knL ps (some n)]
theorem loL_knL : ∀ (ts : List T) (ab : Option Str), (loL ts ab).map (fun q => (q.1, q.2.2)) = knL ts ab
  | [], _ => rfl
  | t :: ts, ab => by simp only [loL, knL, List.map_append, lo_kn t ab, loL_knL ts ab]
end
mutual
theorem kn_some : ∀ (t : T) (ab : Option Str), ab.isSome = true → ∀ p ∈ t.kn ab, p.2.isSome = true
  | .leaf _, _, _ => by simp [kn]
  | .node n ps, ab, h => fun p hp => by
    simp only [kn] at hp
    rcases List.mem_cons.mp hp with rfl | hp
    · exact h
    · exact knL_some ps (some n) rfl p hp
theorem knL_some : ∀ (ts : List T) (ab : Option Str), ab.isSome = true → ∀ p ∈ knL ts ab, p.2.isSome = true
  | [], _, _ => by simp [knL]
  | t :: ts, ab, h => fun p hp => by
    simp only [knL] at hp
    rcases List.mem_append.mp hp with hp | hp
    · exact kn_some t ab h p hp
    · exact knL_some ts ab h p hp
end
end T
theorem fn_of_nodup {t : T} (h : t.lv.Nodup) : ∀ c a b, (c, a) ∈ t.hd Str.empty → (c, b) ∈ t.hd Str.empty → a = b := by
  rw [← T.hd_lv t Str.empty] at h
  have key : ∀ l : List (Str × Str), (l.map (·.1)).Nodup → ∀ c a b, (c, a) ∈ l → (c, b) ∈ l → a = b := by
    intro l
    induction l with
    | nil => intro _ c a b h; cases h
    | cons p l ih =>
      intro hn c a b h1 h2
      rw [List.map_cons, List.nodup_cons] at hn
      rcases List.mem_cons.mp h1 with e1 | h1 <;> rcases List.mem_cons.mp h2 with e2 | h2
      · rw [← e1] at e2; exact (Prod.mk.inj e2).2.symm
      · exact absurd (List.mem_map.mpr ⟨(c, b), h2, by rw [← e1]⟩) hn.1
      · exact absurd (List.mem_map.mpr ⟨(c, a), h1, by rw [← e2]⟩) hn.1
      · exact ih hn.2 c a b h1 h2
  exact key _ h
theorem hOf_mem {t : T} {c : Str} (h : c ∈ t.lv) : (c, hOf t c) ∈ t.hd Str.empty := by
  rw [← T.hd_lv t Str.empty] at h
  obtain ⟨p, hp, rfl⟩ := List.mem_map.mp h
  unfold hOf
  cases q : (t.hd Str.empty).find? fun x => decide (x.1 = p.1) with
  | none =>
    rw [List.find?_eq_none] at q
    exact absurd (decide_eq_true rfl) (q p hp)
  | some x =>
    have h1 := List.mem_of_find?_eq_some q
    have h2 : x.1 = p.1 := by
      have := List.find?_some q
      exact of_decide_eq_true this
    show (p.1, x.2) ∈ _
    rw [← h2]
    exact h1
/-- the arcs of an office -/
def k1 (t : T) : List (Str × Str × Str) := (t.kn none).tail.map fun p => (p.1, p.2.getD Str.empty, p.1)
def k2 (t : T) : List (Str × Str × Str) := (t.kn none).tail.map fun p => (p.1, p.1, p.2.getD Str.empty)
def arcsOf (cs : List Str) (t1 t2 : T) : List (Str × Str × Str) := (root t1, root t2, root t1) :: (k1 t1 ++ (k2 t2 ++ cs.map fun c => (c, hOf t1 c, hOf t2 c)))
def aD (a : Str × Str × Str) : D := .tup [.str a.1, .str a.2.1, .str a.2.2]

theorem callF_fill {P : List Df} {m n f : Nat} {df : Df} {ds full : List D} {S : Store} (h : P[f]? = some df) (h1 : fill df ds = some full) (h2 : fill df full = some full) : callF P m n f ds S = callF P m n f full S := by
  unfold callF
  rw [h]
  simp only [h1, h2]
def bArcs (iK iH : Nat) : S := .cons (.par3 1 2 3 (.ix (.v 0) (.int 0)) (.ix (.v 0) (.int 1)) (.ix (.v 0) (.int 2))) (.cons (.set 4 (.lst (.cons (.tup (.cons (.ix (.v 2) (.int 0)) (.cons (.ix (.v 3) (.int 0)) (.cons (.ix (.v 2) (.int 0)) (.nil))))) (.nil)))) (.cons (.ex (.mt .extend (.v 4) (.cons (.lc [("name", 5), ("above", 6)] (.tup (.cons (.nm 5) (.cons (.nm 6) (.nil)))) (.q (.sl (.call iK (.cons (.v 2) (.nil))) (.int 1) .nil)) .nil (.tup (.cons (.v 5) (.cons (.v 6) (.cons (.v 5) (.nil)))))) (.nil)))) (.cons (.ex (.mt .extend (.v 4) (.cons (.lc [("name", 5), ("above", 6)] (.tup (.cons (.nm 5) (.cons (.nm 6) (.nil)))) (.q (.sl (.call iK (.cons (.v 3) (.nil))) (.int 1) .nil)) .nil (.tup (.cons (.v 5) (.cons (.v 5) (.cons (.v 6) (.nil)))))) (.nil)))) (.cons (.set 7 (.call iH (.cons (.v 2) (.nil)))) (.cons (.set 8 (.call iH (.cons (.v 3) (.nil)))) (.cons (.ex (.mt .extend (.v 4) (.cons (.lc [("cell", 9)] (.nm 9) (.q (.v 1)) .nil (.tup (.cons (.v 9) (.cons (.ix (.v 7) (.v 9)) (.cons (.ix (.v 8) (.v 9)) (.nil)))))) (.nil)))) (.cons (.ret (.bi .tuple (.cons (.v 4) (.nil)))) (.nil))))))))
section
variable {P : List Df} {m f n : Nat} {ps qs rs : List Str}
/-- what arcs_of is told: both trees' leaves are the cells -/
structure ArcIn (cs : List Str) (t1 t2 : T) : Prop where
  n1 : t1.isNode = true
  n2 : t2.isNode = true
  d1 : t1.lv.Nodup
  d2 : t2.lv.Nodup
  l1 : ∀ c ∈ cs, c ∈ t1.lv
  l2 : ∀ c ∈ cs, c ∈ t2.lv
  z0 : cs.length ≤ 3000
  z1 : t1.sz ≤ 3000
  z2 : t2.sz ≤ 3000
theorem sp_arcs {iK iH : Nat} (hK : P[iK]? = some ⟨2, 4, [.non], ps, bKnotsOf iK⟩) (hH : P[iH]? = some ⟨1, 6, [], qs, bHolders⟩) (h : P[f]? = some ⟨1, 10, [], rs, bArcs iK iH⟩) (hm : 10000 < m) {cs : List Str} {t1 t2 : T} (a : ArcIn cs t1 t2) (rest : List D) (S : Store) (hd1 : t1.dpt ≤ n) (hd2 : t2.dpt ≤ n) :
    wp (callF P m (n + 2) f [.tup (.tup (cs.map D.str) :: t1.d :: t2.d :: rest)] S) fun d S' => d = .tup ((arcsOf cs t1 t2).map aD) ∧ Ext [] S S' := by
  have hb := big
  refine wp_callF h rfl ?_
  obtain ⟨n1, p1, rfl⟩ : ∃ n p, t1 = .node n p := by
    have := a.n1
    cases t1 with
    | leaf c => cases this
    | node n p => exact ⟨n, p, rfl⟩
  obtain ⟨n2, p2, rfl⟩ : ∃ n p, t2 = .node n p := by
    have := a.n2
    cases t2 with
    | leaf c => cases this
    | node n p => exact ⟨n, p, rfl⟩
  simp [bArcs, startD, T.d]
  have l1 := T.szL_len p1
  have l2 := T.szL_len p2
  have z1 := a.z1
  have z2 := a.z2
  have z0 := a.z0
  simp only [T.sz] at z1 z2
  have k1l := T.knL_len p1 (some n1)
  have k2l := T.knL_len p2 (some n2)
  refine ⟨by omega, by omega, ?_⟩
  have ct : ∀ (nm : Str) (p : List T) (S' : Store), callF P m (n + 1) iK [.tup [.str nm, .tup (T.dL p)]] S' = callF P m (n + 1) iK [T.d (.node nm p), oD none] S' := fun nm p S' => callF_fill hK rfl rfl
  obtain ⟨S1, hS1⟩ : ∃ S1 : Store, S1 = S ++ [O.lst [D.tup [D.str n1, D.str n2, D.str n1]]] := ⟨_, rfl⟩
  rw [← hS1, ct]
  have e1 : S1[S.length]? = some (.lst [D.tup [D.str n1, D.str n2, D.str n1]]) := by rw [hS1]; simp
  have x1 : Ext [] S S1 := by rw [hS1]; exact Ext.push _ _ _
  have f1 := lt_of_some e1
  refine wp_mono (sp_knots hK hm n (.node n1 p1) none S1 rfl hd1 (by simp only [T.sz]; omega)) ?_
  rintro _ S2 ⟨r2, rfl, a1, a2, a3⟩
  have e2 := a3.at_ _ _ e1 (by simp)
  have kn1 : ((T.node n1 p1).kn none).map kD = kD (n1, none) :: (T.knL p1 (some n1)).map kD := rfl
  rw [kn1] at a1
  simp [e2, a1]
  obtain ⟨S3, hS3⟩ : ∃ S3 : Store, S3 = S2 ++ [O.lst ((T.knL p1 (some n1)).map kD)] := ⟨_, rfl⟩
  have hS3' : S2 ++ [O.lst (List.map kD (T.knL p1 (some n1))), O.lst []] = S3 ++ [O.lst []] := by rw [hS3]; simp
  have l3 : S3.length = S2.length + 1 := by rw [hS3]; simp
  rw [hS3', ← l3]
  have x3 : Ext [] S S3 := by rw [hS3]; exact (x1.trans a3).pushed _
  have e3 : S3[S2.length]? = some (.lst ((T.knL p1 (some n1)).map kD)) := by rw [hS3]; simp
  have g3 : S3[S.length]? = some (.lst [D.tup [D.str n1, D.str n2, D.str n1]]) := by rw [hS3, ap_lt (Lt.of e2)]; exact e2
  obtain ⟨I, hI⟩ : ∃ I : Nat → List D → Store → Prop, ∀ i acc S4, I i acc S4 ↔ acc = ((T.knL p1 (some n1)).take i).map (fun p => aD (p.1, p.2.getD Str.empty, p.1)) ∧ Ext [] S3 S4 := ⟨_, fun _ _ _ => Iff.rfl⟩
  refine wp_lcO (ds := (T.knL p1 (some n1)).map kD) I (fun i acc S4 hi => ((hI _ _ _).mp hi).2.at_ _ _ e3 (by simp)) (by simp; omega) ((hI _ _ _).mpr ⟨by simp, Ext.push _ _ _⟩) (by simp) ?_ ?_
  · intro i d acc S4 hd hi hr
    obtain ⟨rfl, y⟩ := (hI _ _ _).mp hi
    rw [List.getElem?_map] at hd
    obtain ⟨⟨x, ab⟩, hz, rfl⟩ := Option.map_eq_some_iff.mp hd
    have hsome := T.knL_some p1 (some n1) rfl (x, ab) (List.mem_of_getElem? hz)
    have hl := lt_of_some hz
    cases ab with
    | none => cases hsome
    | some y2 =>
      refine ⟨_, by simp [kD, oD]; rfl, ?_⟩
      unfold lcTurn
      simp
      refine ⟨by omega, by simpa using hr, by omega, (hI _ _ _).mpr ⟨?_, y.setN (Nat.le_refl _) _⟩⟩
      rw [take_at hz]
      simp [aD]
  intro acc S4 hi hr4
  obtain ⟨rfl, y4⟩ := (hI _ _ _).mp hi
  rw [List.length_map, List.take_length] at hr4
  have g4 := y4.at_ _ _ g3 (by simp)
  have hk1 : k1 (.node n1 p1) = (T.knL p1 (some n1)).map fun p => (p.1, p.2.getD Str.empty, p.1) := rfl
  have hr4' : S4[S3.length]? = some (.lst ((k1 (.node n1 p1)).map aD)) := by rw [hr4, hk1, List.map_map]; rfl
  have lk1 : (k1 (.node n1 p1)).length ≤ 3000 := by rw [hk1, List.length_map]; omega
  simp [hr4', g4, set_same (Lt.of g4)]
  refine ⟨by omega, ?_⟩
  obtain ⟨S5, hS5⟩ : ∃ S5 : Store, S5 = S4.set S.length (O.lst (D.tup [D.str n1, D.str n2, D.str n1] :: (k1 (.node n1 p1)).map aD)) := ⟨_, rfl⟩
  rw [← hS5, ct]
  have x5 : Ext [] S S5 := by rw [hS5]; exact (x3.trans y4).setN (Nat.le_refl _) _
  have e5 : S5[S.length]? = some (.lst (D.tup [D.str n1, D.str n2, D.str n1] :: (k1 (.node n1 p1)).map aD)) := by rw [hS5, set_same (Lt.of g4)]
  refine wp_mono (sp_knots hK hm n (.node n2 p2) none S5 rfl hd2 (by simp only [T.sz]; omega)) ?_
  rintro _ S6 ⟨r6, rfl, b1, b2, b3⟩
  have e6 := b3.at_ _ _ e5 (by simp)
  have kn2 : ((T.node n2 p2).kn none).map kD = kD (n2, none) :: (T.knL p2 (some n2)).map kD := rfl
  rw [kn2] at b1
  simp [e6, b1]
  obtain ⟨S7, hS7⟩ : ∃ S7 : Store, S7 = S6 ++ [O.lst ((T.knL p2 (some n2)).map kD)] := ⟨_, rfl⟩
  have hS7' : S6 ++ [O.lst (List.map kD (T.knL p2 (some n2))), O.lst []] = S7 ++ [O.lst []] := by rw [hS7]; simp
  have l7 : S7.length = S6.length + 1 := by rw [hS7]; simp
  rw [hS7', ← l7]
  have x7 : Ext [] S S7 := by rw [hS7]; exact (x5.trans b3).pushed _
  have e7 : S7[S6.length]? = some (.lst ((T.knL p2 (some n2)).map kD)) := by rw [hS7]; simp
  have g7 : S7[S.length]? = some (.lst (D.tup [D.str n1, D.str n2, D.str n1] :: (k1 (.node n1 p1)).map aD)) := by rw [hS7, ap_lt (Lt.of e6)]; exact e6
  obtain ⟨I2, hI2⟩ : ∃ I2 : Nat → List D → Store → Prop, ∀ i acc S8, I2 i acc S8 ↔ acc = ((T.knL p2 (some n2)).take i).map (fun p => aD (p.1, p.1, p.2.getD Str.empty)) ∧ Ext [] S7 S8 := ⟨_, fun _ _ _ => Iff.rfl⟩
  refine wp_lcO (ds := (T.knL p2 (some n2)).map kD) I2 (fun i acc S8 hi => ((hI2 _ _ _).mp hi).2.at_ _ _ e7 (by simp)) (by simp; omega) ((hI2 _ _ _).mpr ⟨by simp, Ext.push _ _ _⟩) (by simp) ?_ ?_
  · intro i d acc S8 hd hi hr
    obtain ⟨rfl, y⟩ := (hI2 _ _ _).mp hi
    rw [List.getElem?_map] at hd
    obtain ⟨⟨x, ab⟩, hz, rfl⟩ := Option.map_eq_some_iff.mp hd
    have hsome := T.knL_some p2 (some n2) rfl (x, ab) (List.mem_of_getElem? hz)
    have hl := lt_of_some hz
    cases ab with
    | none => cases hsome
    | some y2 =>
      refine ⟨_, by simp [kD, oD]; rfl, ?_⟩
      unfold lcTurn
      simp
      refine ⟨by omega, by simpa using hr, by omega, (hI2 _ _ _).mpr ⟨?_, y.setN (Nat.le_refl _) _⟩⟩
      rw [take_at hz]
      simp [aD]
  intro acc S8 hi hr8
  obtain ⟨rfl, y8⟩ := (hI2 _ _ _).mp hi
  rw [List.length_map, List.take_length] at hr8
  have g8 := y8.at_ _ _ g7 (by simp)
  have hk2 : k2 (.node n2 p2) = (T.knL p2 (some n2)).map fun p => (p.1, p.1, p.2.getD Str.empty) := rfl
  have hr8' : S8[S7.length]? = some (.lst ((k2 (.node n2 p2)).map aD)) := by rw [hr8, hk2, List.map_map]; rfl
  have lk2 : (k2 (.node n2 p2)).length ≤ 3000 := by rw [hk2, List.length_map]; omega
  simp [hr8', g8, set_same (Lt.of g8)]
  refine ⟨by omega, ?_⟩
  obtain ⟨S9, hS9⟩ : ∃ S9 : Store, S9 = S8.set S.length (O.lst (D.tup [D.str n1, D.str n2, D.str n1] :: ((k1 (.node n1 p1)).map aD ++ (k2 (.node n2 p2)).map aD))) := ⟨_, rfl⟩
  rw [← hS9]
  have x9 : Ext [] S S9 := by rw [hS9]; exact (x7.trans y8).setN (Nat.le_refl _) _
  have e9 : S9[S.length]? = some (.lst (D.tup [D.str n1, D.str n2, D.str n1] :: ((k1 (.node n1 p1)).map aD ++ (k2 (.node n2 p2)).map aD))) := by rw [hS9, set_same (Lt.of g8)]
  have td : ∀ (nm : Str) (p : List T), D.tup [.str nm, .tup (T.dL p)] = T.d (.node nm p) := fun nm p => rfl
  rw [td n1 p1, td n2 p2]
  refine wp_mono (sp_holders (n := n) hH hm (.node n1 p1) S9 rfl (by simp only [T.sz]; omega) (fn_of_nodup a.d1)) ?_
  rintro _ S10 ⟨h1, kv1, rfl, c1, c2, c3, c4⟩
  simp
  refine wp_mono (sp_holders (n := n) hH hm (.node n2 p2) S10 rfl (by simp only [T.sz]; omega) (fn_of_nodup a.d2)) ?_
  rintro _ S11 ⟨h2, kv2, rfl, d1, d2, d3, d4⟩
  have c11 := d4.at_ _ _ c1 (by simp)
  have e11 := d4.at_ _ _ (c4.at_ _ _ e9 (by simp)) (by simp)
  have x11 := (x9.trans c4).trans d4
  simp [e11]
  obtain ⟨I3, hI3⟩ : ∃ I3 : Nat → List D → Store → Prop, ∀ i acc S12, I3 i acc S12 ↔ acc = (cs.take i).map (fun c => aD (c, hOf (.node n1 p1) c, hOf (.node n2 p2) c)) ∧ Ext [] S11 S12 := ⟨_, fun _ _ _ => Iff.rfl⟩
  refine wp_lcT (ds := cs.map D.str) (.inl rfl) I3 (by simp; omega) ((hI3 _ _ _).mpr ⟨by simp, Ext.push _ _ _⟩) (by simp) ?_ ?_
  · intro i d acc S12 hd hi hr
    obtain ⟨rfl, y⟩ := (hI3 _ _ _).mp hi
    rw [List.getElem?_map] at hd
    obtain ⟨c, hz, rfl⟩ := Option.map_eq_some_iff.mp hd
    have hl := lt_of_some hz
    have hc := List.mem_of_getElem? hz
    have w1 := c2 c _ (hOf_mem (a.l1 c hc))
    have w2 := d2 c _ (hOf_mem (a.l2 c hc))
    have q1 := y.at_ _ _ c11 (by simp)
    have q2 := y.at_ _ _ d1 (by simp)
    refine ⟨_, rfl, ?_⟩
    unfold lcTurn
    simp [q1, q2, w1, w2]
    refine ⟨by omega, by simpa using hr, by omega, (hI3 _ _ _).mpr ⟨?_, y.setN (Nat.le_refl _) _⟩⟩
    rw [take_at hz]
    simp [aD]
  intro acc S12 hi hr12
  obtain ⟨rfl, y12⟩ := (hI3 _ _ _).mp hi
  rw [List.length_map, List.take_length] at hr12
  have g12 := y12.at_ _ _ e11 (by simp)
  simp [hr12, g12, set_same (Lt.of g12)]
  refine ⟨by omega, ?_, (x11.trans y12).setN (Nat.le_refl _) _⟩
  simp [arcsOf, aD, root]
end
end PV

set_option Elab.async false
set_option linter.all false
set_option maxRecDepth 100000
set_option maxHeartbeats 1000000
/-! The law's arcs, by PV. -/
namespace PV
open PySem

theorem lo_tail (t : T) (ht : t.isNode = true) (g : Str → Str → Str × Str × Str) : (t.lo none).filterMap (fun q => q.2.2.map fun a => aD (g q.1 a)) = ((t.kn none).tail.map fun p => g p.1 (p.2.getD Str.empty)).map aD := by
  have e : (t.lo none).filterMap (fun q => q.2.2.map fun a => aD (g q.1 a)) = ((t.lo none).map fun q => (q.1, q.2.2)).filterMap (fun p => p.2.map fun a => aD (g p.1 a)) := by
    rw [List.filterMap_map]; rfl
  rw [e, T.lo_kn]
  cases t with
  | leaf c => cases ht
  | node n ps =>
    have hs := T.knL_some ps (some n) rfl
    simp only [T.kn, List.filterMap_cons, Option.map_none, List.tail_cons]
    generalize T.knL ps (some n) = l at hs
    induction l with
    | nil => rfl
    | cons p l ih =>
      obtain ⟨x, ab⟩ := p
      cases ab with
      | none => exact absurd (hs (x, none) List.mem_cons_self) (by simp)
      | some y =>
        have := ih fun p hp => hs p (List.mem_cons_of_mem _ hp)
        simp only [List.filterMap_cons, Option.map_some, List.map_cons, this]; rfl
def bLawArcs (iK iA : Nat) : S := .cons (.par2 1 2 (.call iK (.cons (.ix (.v 0) (.int 1)) (.nil))) (.call iK (.cons (.ix (.v 0) (.int 2)) (.nil)))) (.cons (.set 3 (.lst (.cons (.tup (.cons (.ix (.ix (.v 0) (.int 1)) (.int 0)) (.cons (.ix (.ix (.v 0) (.int 2)) (.int 0)) (.cons (.ix (.ix (.v 0) (.int 1)) (.int 0)) (.nil))))) (.nil)))) (.cons (.set 3 (.bin .add (.v 3) (.lc [("name", 4), ("cells", 5), ("above", 6)] (.tup (.cons (.nm 4) (.cons (.nm 5) (.cons (.nm 6) (.nil))))) (.q (.v 1)) (.cmp .isn (.v 6) (.non)) (.tup (.cons (.v 4) (.cons (.v 6) (.cons (.v 4) (.nil)))))))) (.cons (.set 3 (.bin .add (.v 3) (.lc [("name", 4), ("cells", 5), ("above", 6)] (.tup (.cons (.nm 4) (.cons (.nm 5) (.cons (.nm 6) (.nil))))) (.q (.v 2)) (.cmp .isn (.v 6) (.non)) (.tup (.cons (.v 4) (.cons (.v 4) (.cons (.v 6) (.nil)))))))) (.cons (.asg (.tup (.cons (.nm 7) (.cons (.nm 8) (.nil)))) (.tup (.cons (.call iA (.cons (.ix (.v 0) (.int 1)) (.nil))) (.cons (.call iA (.cons (.ix (.v 0) (.int 2)) (.nil))) (.nil))))) (.cons (.ret (.bi .tuple (.cons (.bin .add (.v 3) (.lc [("cell", 9)] (.nm 9) (.q (.ix (.v 0) (.int 0))) .nil (.tup (.cons (.v 9) (.cons (.ix (.v 7) (.v 9)) (.cons (.ix (.v 8) (.v 9)) (.nil))))))) (.nil)))) (.nil))))))
section
variable {P : List Df} {m f n : Nat} {ps qs rs : List Str}
/-- entries of knots, one turn: what stands at d -/
theorem KE.get {S : Store} {bad : List Nat} {q : Str × List Str × Option Str} {d : D} (h : KE S bad q d) : ∃ e c, d = .ref e ∧ S[e]? = some (.lst [.str q.1, .ref c, oD q.2.2]) := by
  obtain ⟨e, c, cs, h1, h2, _⟩ := h
  exact ⟨e, c, h1, h2⟩
theorem sp_lawarcs {iK iA : Nat} (hK : P[iK]? = some ⟨1, 11, [], ps, bKnots⟩) (hA : P[iA]? = some ⟨1, 7, [], qs, bAbove⟩) (h : P[f]? = some ⟨1, 10, [], rs, bLawArcs iK iA⟩) (hm : 10000 < m) {cs : List Str} {t1 t2 : T} (a : ArcIn cs t1 t2) (rest : List D) (S : Store) :
    wp (callF P m (n + 2) f [.tup (.tup (cs.map D.str) :: t1.d :: t2.d :: rest)] S) fun d S' => d = .tup ((arcsOf cs t1 t2).map aD) ∧ Ext [] S S' := by
  have hb := big
  have z1 := a.z1
  have z2 := a.z2
  have z0 := a.z0
  have k1l := lo_len t1 none
  have k2l := lo_len t2 none
  refine wp_callF h rfl ?_
  simp [bLawArcs, startD]
  refine wp_mono (sp_lawknots (n := n) hK hm t1 S a.n1 (by omega) [] (by simp)) ?_
  rintro _ S1 ⟨r1, d1, rfl, a1, a2, a3, a4⟩
  simp
  refine wp_mono (sp_lawknots (n := n) hK hm t2 S1 a.n2 (by omega) [] (by simp)) ?_
  rintro _ S2 ⟨r2, d2, rfl, b1, b2, b3, b4⟩
  have c1 := b4.at_ _ _ a1 (by simp)
  have kA : KN S2 [] (t1.lo none) d1 := a2.mono b4 (by simp) (by simp)
  have kB : KN S2 [] (t2.lo none) d2 := b2.mono (Ext.refl [] S2) (by simp) (by simp)
  obtain ⟨n1, p1, h1⟩ : ∃ n p, t1 = .node n p := by
    have := a.n1
    cases t1 with
    | leaf c => cases this
    | node n p => exact ⟨n, p, rfl⟩
  obtain ⟨n2, p2, h2⟩ : ∃ n p, t2 = .node n p := by
    have := a.n2
    cases t2 with
    | leaf c => cases this
    | node n p => exact ⟨n, p, rfl⟩
  have r1d : t1.d = .tup [.str (root t1), .tup (T.dL p1)] := by rw [h1]; rfl
  have r2d : t2.d = .tup [.str (root t2), .tup (T.dL p2)] := by rw [h2]; rfl
  have x2 : Ext [] S S2 := a4.trans b4
  have lA := kA.len
  have lB := kB.len
  obtain ⟨od, hod⟩ : ∃ od : D, od = D.tup (D.tup (cs.map D.str) :: t1.d :: t2.d :: rest) := ⟨_, rfl⟩
  have o0 : ∀ S, ixD od (.int 0) S = some (D.tup (cs.map D.str)) := fun S => by rw [hod]; simp
  have o1 : ∀ S, ixD od (.int 1) S = some t1.d := fun S => by rw [hod]; simp
  have o2 : ∀ S, ixD od (.int 2) S = some t2.d := fun S => by rw [hod]; simp
  have t10 : ∀ S, ixD t1.d (.int 0) S = some (D.str (root t1)) := fun S => by rw [r1d]; simp
  have t20 : ∀ S, ixD t2.d (.int 0) S = some (D.str (root t2)) := fun S => by rw [r2d]; simp
  rw [← hod]
  simp [o1, o2, t10, t20]
  refine ⟨by omega, by omega, ?_⟩
  obtain ⟨S3, hS3⟩ : ∃ S3 : Store, S3 = S2 ++ [O.lst [D.tup [D.str (root t1), D.str (root t2), D.str (root t1)]]] := ⟨_, rfl⟩
  have x3 : Ext [] S2 S3 := by rw [hS3]; exact Ext.push _ _ _
  have l3 : S3.length = S2.length + 1 := by rw [hS3]; simp
  have e3 : S3[S2.length]? = some (.lst [D.tup [D.str (root t1), D.str (root t2), D.str (root t1)]]) := by rw [hS3]; simp
  have c3 := x3.at_ _ _ c1 (by simp)
  have b3' := x3.at_ _ _ b1 (by simp)
  rw [← hS3, c3]
  simp
  obtain ⟨I, hI⟩ : ∃ I : Nat → List D → Store → Prop, ∀ i acc S4, I i acc S4 ↔ acc = ((t1.lo none).take i).filterMap (fun q => q.2.2.map fun a => aD (q.1, a, q.1)) ∧ Ext [] S3 S4 := ⟨_, fun _ _ _ => Iff.rfl⟩
  have flen : ∀ (l : List (Str × List Str × Option Str)) (g : Str → Str → Str × Str × Str) (i : Nat), l.length ≤ 3000 → ((l.take i).filterMap (fun q => q.2.2.map fun a => aD (g q.1 a))).length ≤ 3000 := fun l g i hl => by
    refine Nat.le_trans (List.length_filterMap_le _ _) ?_
    rw [List.length_take]; omega
  refine wp_lcO (ds := d1) I (fun i acc S4 hi => ((hI _ _ _).mp hi).2.at_ _ _ c3 (by simp)) (by omega) ((hI _ _ _).mpr ⟨by simp, Ext.push _ _ _⟩) (by simp) ?_ ?_
  · intro i d acc S4 hd hi hr
    obtain ⟨rfl, y⟩ := (hI _ _ _).mp hi
    obtain ⟨q, hq, ke⟩ := kA.at_ hd
    obtain ⟨e, c, rfl, w1⟩ := ke.get
    have w2 := y.at_ _ _ (x3.at_ _ _ w1 (by simp)) (by simp)
    refine ⟨_, by simp [w2]; rfl, ?_⟩
    have hfl := flen (t1.lo none) (fun x a => (x, a, x)) i (by omega)
    unfold lcTurn
    obtain ⟨nm, cc, ab⟩ := q
    cases ab with
    | none =>
      simp [oD]
      refine ⟨by simpa using hr, (hI _ _ _).mpr ⟨?_, y⟩⟩
      rw [take_at hq]; simp [List.filterMap_append]
    | some a =>
      simp [oD]
      refine ⟨by omega, by simpa using hr, by omega, (hI _ _ _).mpr ⟨?_, y.setN (Nat.le_refl _) _⟩⟩
      rw [take_at hq]; simp [List.filterMap_append, aD]
  intro acc S4 hi hr4
  obtain ⟨rfl, y4⟩ := (hI _ _ _).mp hi
  rw [← lA, List.take_length, lo_tail t1 a.n1 (fun x a => (x, a, x))] at hr4
  have hk1 : ((t1.kn none).tail.map fun p => (p.1, p.2.getD Str.empty, p.1)) = k1 t1 := rfl
  rw [hk1] at hr4
  have lk1 : (k1 t1).length ≤ 3000 := by
    have := T.kn_len t1 none
    unfold k1; simp; omega
  have e4 := y4.at_ _ _ e3 (by simp)
  have b4' := y4.at_ _ _ b3' (by simp)
  simp [hr4, e4, ap_lt (Lt.of b4'), b4']
  refine ⟨by omega, ?_⟩
  obtain ⟨S5, hS5⟩ : ∃ S5 : Store, S5 = S4 ++ [O.lst (D.tup [D.str (root t1), D.str (root t2), D.str (root t1)] :: (k1 t1).map aD)] := ⟨_, rfl⟩
  have hS5' : S4 ++ [O.lst (D.tup [D.str (root t1), D.str (root t2), D.str (root t1)] :: List.map aD (k1 t1)), O.lst []] = S5 ++ [O.lst []] := by rw [hS5]; simp
  have l5 : S5.length = S4.length + 1 := by rw [hS5]; simp
  have x5 : Ext [] S4 S5 := by rw [hS5]; exact Ext.push _ _ _
  have e5 : S5[S4.length]? = some (.lst (D.tup [D.str (root t1), D.str (root t2), D.str (root t1)] :: (k1 t1).map aD)) := by rw [hS5]; simp
  have x25 : Ext [] S2 S5 := (x3.trans y4).trans x5
  have b5 := x5.at_ _ _ b4' (by simp)
  rw [hS5', ← l5]
  obtain ⟨I2, hI2⟩ : ∃ I2 : Nat → List D → Store → Prop, ∀ i acc S6, I2 i acc S6 ↔ acc = ((t2.lo none).take i).filterMap (fun q => q.2.2.map fun a => aD (q.1, q.1, a)) ∧ Ext [] S5 S6 := ⟨_, fun _ _ _ => Iff.rfl⟩
  refine wp_lcO (ds := d2) I2 (fun i acc S6 hi => ((hI2 _ _ _).mp hi).2.at_ _ _ b5 (by simp)) (by omega) ((hI2 _ _ _).mpr ⟨by simp, Ext.push _ _ _⟩) (by simp) ?_ ?_
  · intro i d acc S6 hd hi hr
    obtain ⟨rfl, y⟩ := (hI2 _ _ _).mp hi
    obtain ⟨q, hq, ke⟩ := kB.at_ hd
    obtain ⟨e, c, rfl, w1⟩ := ke.get
    have w2 := y.at_ _ _ (x25.at_ _ _ w1 (by simp)) (by simp)
    refine ⟨_, by simp [w2]; rfl, ?_⟩
    have hfl := flen (t2.lo none) (fun x a => (x, x, a)) i (by omega)
    unfold lcTurn
    obtain ⟨nm, cc, ab⟩ := q
    cases ab with
    | none =>
      simp [oD]
      refine ⟨by simpa using hr, (hI2 _ _ _).mpr ⟨?_, y⟩⟩
      rw [take_at hq]; simp [List.filterMap_append]
    | some a =>
      simp [oD]
      refine ⟨by omega, by simpa using hr, by omega, (hI2 _ _ _).mpr ⟨?_, y.setN (Nat.le_refl _) _⟩⟩
      rw [take_at hq]; simp [List.filterMap_append, aD]
  intro acc S6 hi hr6
  obtain ⟨rfl, y6⟩ := (hI2 _ _ _).mp hi
  rw [← lB, List.take_length, lo_tail t2 a.n2 (fun x a => (x, x, a))] at hr6
  have hk2 : ((t2.kn none).tail.map fun p => (p.1, p.1, p.2.getD Str.empty)) = k2 t2 := rfl
  rw [hk2] at hr6
  have lk2 : (k2 t2).length ≤ 3000 := by
    have := T.kn_len t2 none
    unfold k2; simp; omega
  have e6 := y6.at_ _ _ e5 (by simp)
  simp [hr6, e6, o1, o2]
  refine ⟨by omega, ?_⟩
  obtain ⟨S7, hS7⟩ : ∃ S7 : Store, S7 = S6 ++ [O.lst (D.tup [D.str (root t1), D.str (root t2), D.str (root t1)] :: ((k1 t1).map aD ++ (k2 t2).map aD))] := ⟨_, rfl⟩
  rw [← hS7]
  have x7 : Ext [] S6 S7 := by rw [hS7]; exact Ext.push _ _ _
  have e7 : S7[S6.length]? = some (.lst (D.tup [D.str (root t1), D.str (root t2), D.str (root t1)] :: ((k1 t1).map aD ++ (k2 t2).map aD))) := by rw [hS7]; simp
  have x07 : Ext [] S S7 := (x2.trans x25).trans (y6.trans x7)
  refine wp_mono (sp_above (n := n) hA hm t1 S7 a.n1 (by omega) (fn_of_nodup a.d1)) ?_
  rintro _ S8 ⟨h1', kv1, rfl, f1, f2, f3, f4⟩
  simp [o2]
  refine wp_mono (sp_above (n := n) hA hm t2 S8 a.n2 (by omega) (fn_of_nodup a.d2)) ?_
  rintro _ S9 ⟨h2', kv2, rfl, g1, g2, g3, g4⟩
  have f9 := g4.at_ _ _ f1 (by simp)
  have e9 := g4.at_ _ _ (f4.at_ _ _ e7 (by simp)) (by simp)
  simp [o0]
  refine ⟨by omega, ?_⟩
  obtain ⟨I3, hI3⟩ : ∃ I3 : Nat → List D → Store → Prop, ∀ i acc S10, I3 i acc S10 ↔ acc = (cs.take i).map (fun c => aD (c, hOf t1 c, hOf t2 c)) ∧ Ext [] S9 S10 := ⟨_, fun _ _ _ => Iff.rfl⟩
  refine wp_lcT (ds := cs.map D.str) (.inl rfl) I3 (by simp; omega) ((hI3 _ _ _).mpr ⟨by simp, Ext.push _ _ _⟩) (by simp) ?_ ?_
  · intro i d acc S10 hd hi hr
    obtain ⟨rfl, y⟩ := (hI3 _ _ _).mp hi
    rw [List.getElem?_map] at hd
    obtain ⟨c, hz, rfl⟩ := Option.map_eq_some_iff.mp hd
    have hl := lt_of_some hz
    have hc := List.mem_of_getElem? hz
    have w1 := f2 c _ (hOf_mem (a.l1 c hc))
    have w2 := g2 c _ (hOf_mem (a.l2 c hc))
    have q1 := y.at_ _ _ f9 (by simp)
    have q2 := y.at_ _ _ g1 (by simp)
    refine ⟨_, rfl, ?_⟩
    unfold lcTurn
    simp [q1, q2, w1, w2]
    refine ⟨by omega, by simpa using hr, by omega, (hI3 _ _ _).mpr ⟨?_, y.setN (Nat.le_refl _) _⟩⟩
    rw [take_at hz]
    simp [aD]
  intro acc S10 hi hr10
  obtain ⟨rfl, y10⟩ := (hI3 _ _ _).mp hi
  rw [List.length_map, List.take_length] at hr10
  have e10 := y10.at_ _ _ e9 (by simp)
  simp [hr10, e10]
  refine ⟨by omega, ?_, (((x07.trans f4).trans g4).trans y10).pushed _⟩
  simp [arcsOf, aD]
end
end PV

set_option Elab.async false
set_option linter.all false
set_option maxRecDepth 100000
set_option maxHeartbeats 1000000
/-! Sums and flows, by PV. -/
namespace PV
open PySem

def sumOf (cs : List Str) (ws : List Int) (ls : List Str) : Int := (((cs.zip ws).filter fun p => decide (p.1 ∈ ls)).map (·.2)).sum
theorem in_strs {S : Store} {l : Nat} {es : List Str} {x : Str} (h : S[l]? = some (.lst (es.map D.str))) : inD (.str x) (.ref l) S = some (decide (x ∈ es)) := by
  simp only [inD, h]
  have e1 : flatD (.str x) = true := rfl
  have e2 : (es.map D.str).all flatD = true := by simp [flatD]
  rw [e1, e2]
  simp only [Bool.and_self, if_true]
  congr 1
  induction es with
  | nil => rfl
  | cons e es ih =>
    rw [List.map_cons, List.any_cons]
    have ih' : (List.map D.str es).any (fun y => eqF y (D.str x)) = decide (x ∈ es) := by
      clear h ih e2
      induction es with
      | nil => rfl
      | cons a es ih2 =>
        rw [List.map_cons, List.any_cons, ih2]
        simp only [eqF]
        by_cases q : a = x
        · subst q; simp
        · have q2 : ¬ x = a := fun e => q e.symm
          have q3 : (a == x) = false := by simpa using q
          rw [q3]; simp [q2]
    rw [ih']
    simp only [eqF]
    by_cases q : e = x
    · subst q; simp
    · have q2 : ¬ x = e := fun e => q e.symm
      have q3 : (e == x) = false := by simpa using q
      rw [q3]; simp [q2]
def bSum : S := .cons (.ret (.bi .sum (.cons (.lc [("k", 4)] (.nm 4) (.qr (.bi .len (.cons (.v 2) (.nil)))) (.cmp .isin (.ix (.ix (.v 0) (.int 0)) (.v 4)) (.ix (.v 1) (.v 3))) (.ix (.v 2) (.v 4))) (.nil)))) (.nil)
section
variable {P : List Df} {m f n : Nat} {ps qs rs : List Str}
theorem sp_sum (h : P[f]? = some ⟨4, 5, [], ps, bSum⟩) (hm : 10000 < m) {cs : List Str} {ws : List Int} (hw : ws.length = cs.length) (hz : cs.length ≤ 3000) (rest : List D) {S : Store} {r l : Nat} {kvs : List (L2.Key × D)} {nm : Str} {es ls : List Str} (hr : S[r]? = some (.dct kvs) ∨ S[r]? = some (.dcl kvs)) (hv : valG kvs (.inr nm) = some (.ref l)) (hl : S[l]? = some (.lst (es.map D.str))) (hp : es.Perm ls) :
    wp (callF P m (n + 1) f [.tup (.tup (cs.map D.str) :: rest), .ref r, .tup (ws.map D.int), .str nm] S) fun d S' => d = .int (sumOf cs ws ls) ∧ Ext [] S S' := by
  have hb := big
  refine wp_callF h rfl ?_
  simp [bSum, startD]
  refine ⟨by omega, ?_⟩
  obtain ⟨I, hI⟩ : ∃ I : Nat → List D → Store → Prop, ∀ i acc S4, I i acc S4 ↔ acc = ((((cs.zip ws).take i).filter fun p => decide (p.1 ∈ ls)).map (·.2)).map D.int ∧ Ext [] S S4 := ⟨_, fun _ _ _ => Iff.rfl⟩
  refine wp_lcR I (by omega) ((hI _ _ _).mpr ⟨by simp, Ext.push _ _ _⟩) (by simp) ?_ ?_
  · intro i acc S4 hi hi2 hr4
    obtain ⟨rfl, y⟩ := (hI _ _ _).mp hi2
    have w1 : ixD (.ref r) (.str nm) S4 = some (.ref l) := by
      rcases hr with hr | hr
      · have := y.at_ _ _ hr (by simp)
        simp only [ixD, this, hv]
      · have := y.at_ _ _ hr (by simp)
        simp only [ixD, this, hv]
    have w2 := y.at_ _ _ hl (by simp)
    have hic : i < cs.length := by omega
    have c1 := List.getElem?_eq_getElem hic
    have c2 := List.getElem?_eq_getElem hi
    have hzip : (cs.zip ws)[i]? = some (cs[i], ws[i]) := by rw [List.getElem?_zip_eq_some]; exact ⟨c1, c2⟩
    have fl : (((cs.zip ws).take i).filter fun p => decide (p.1 ∈ ls)).length ≤ 3000 := by
      refine Nat.le_trans (List.length_filter_le _ _) ?_
      rw [List.length_take, List.length_zip]; omega
    unfold lcTurn
    simp [c1, c2, w1, in_strs w2]
    have hmem : (cs[i] ∈ es) ↔ (cs[i] ∈ ls) := hp.mem_iff
    by_cases q : cs[i] ∈ ls
    · simp [hmem.mpr q]
      refine ⟨by simpa using hr4, by omega, (hI _ _ _).mpr ⟨?_, y.setN (Nat.le_refl _) _⟩⟩
      rw [take_at hzip]
      simp [List.filter_append, q]
    · simp [mt hmem.mp q]
      refine ⟨by simpa using hr4, (hI _ _ _).mpr ⟨?_, y⟩⟩
      rw [take_at hzip]
      simp [List.filter_append, q]
  · intro acc S4 hi hr4
    obtain ⟨rfl, y⟩ := (hI _ _ _).mp hi
    have hl2 : (cs.zip ws).take ws.length = cs.zip ws := List.take_of_length_le (by rw [List.length_zip]; omega)
    rw [hl2] at hr4
    simp
    rw [hr4]
    simp only [asInts_map]
    rw [wp_ok]
    exact ⟨rfl, y⟩

theorem in_dct {S : Store} {r : Nat} {kvs : List (L2.Key × D)} {x : Str} (h : S[r]? = some (.dct kvs)) : inD (.str x) (.ref r) S = some (valG kvs (.inr x)).isSome := by
  simp only [inD, h, keyOf]
def valI (kvs : List (L2.Key × D)) (x : Str) : Int := match valG kvs (.inr x) with
  | some (.int v) => v
  | _ => 0
/-- keys are texts, values numbers -/
def IntD (kvs : List (L2.Key × D)) : Prop := ∀ p ∈ kvs, ∃ (x : Str) (v : Int), p = (.inr x, .int v)
theorem IntD.val {kvs : List (L2.Key × D)} (h : IntD kvs) {x : Str} {d : D} (e : valG kvs (.inr x) = some d) : d = .int (valI kvs x) := by
  unfold valI
  rw [e]
  unfold valG at e
  obtain ⟨p, hp, rfl⟩ := Option.map_eq_some_iff.mp e
  obtain ⟨y, v, rfl⟩ := h p (List.mem_of_find?_eq_some hp)
  rfl
theorem IntD.none {kvs : List (L2.Key × D)} {x : Str} (e : valG kvs (.inr x) = none) : valI kvs x = 0 := by unfold valI; rw [e]
theorem IntD.put {kvs : List (L2.Key × D)} (h : IntD kvs) (x : Str) (v : Int) : IntD (putG kvs (.inr x) (.int v)) := fun p hp => by
  unfold putG at hp
  split at hp
  · obtain ⟨q, hq, rfl⟩ := List.mem_map.mp hp
    obtain ⟨y, w, rfl⟩ := h q hq
    dsimp only
    split
    · exact ⟨y, v, rfl⟩
    · exact ⟨y, w, rfl⟩
  · rcases List.mem_append.mp hp with hq | hq
    · exact h p hq
    · simp at hq; exact ⟨x, v, hq⟩
theorem valI_put {kvs : List (L2.Key × D)} {x y : Str} {v : Int} : valI (putG kvs (.inr x) (.int v)) y = if y = x then v else valI kvs y := by
  unfold valI
  rw [valG_put]
  by_cases q : y = x
  · subst q; simp
  · have : ¬ (Sum.inr y : L2.Key) = .inr x := fun e => q (Sum.inr.inj e)
    rw [if_neg this, if_neg q]
/-- what has come to x -/
def bal (A : List ((Str × Str × Str) × Int)) (x : Str) : Int := (A.map fun a => (if x = a.1.2.2 then a.2 else 0) - (if x = a.1.2.1 then a.2 else 0)).sum
theorem bal_app (A B : List ((Str × Str × Str) × Int)) (x : Str) : bal (A ++ B) x = bal A x + bal B x := by unfold bal; rw [List.map_append, List.sum_append]
def bFlows (iS : Nat) : S := .cons (.set 4 (.dnew)) (.cons (.for (.tup (.cons (.nm 5) (.cons (.nm 6) (.cons (.nm 7) (.nil))))) (.q (.v 2)) (.cons (.set 8 (.call iS (.cons (.v 0) (.cons (.v 1) (.cons (.v 3) (.cons (.v 5) (.nil))))))) (.cons (.six (.v 4) (.v 6) (.bin .sub (.ite (.cmp .isin (.v 6) (.v 4)) (.ix (.v 4) (.v 6)) (.int 0)) (.v 8))) (.cons (.six (.v 4) (.v 7) (.bin .add (.ite (.cmp .isin (.v 7) (.v 4)) (.ix (.v 4) (.v 7)) (.int 0)) (.v 8))) (.nil))))) (.cons (.ret (.cmp .eq (.bi .len (.cons (.lk 4 (.lc [("knot", 9)] (.nm 9) (.q (.v 4)) (.cmp .ne (.ix (.v 4) (.v 9)) (.int 0)) (.v 9))) (.nil))) (.int 0))) (.nil)))
theorem sp_flows {iS : Nat} (hS : P[iS]? = some ⟨4, 5, [], ps, bSum⟩) (h : P[f]? = some ⟨4, 10, [], qs, bFlows iS⟩) (hm : 10000 < m) {cs : List Str} {ws : List Int} (hw : ws.length = cs.length) (hz : cs.length ≤ 3000) (rest : List D) {S0 S : Store} {r : Nat} {kvs : List (L2.Key × D)} {L : List (Str × List Str)} (hr : S[r]? = some (.dct kvs)) (lk : LK S0 S r kvs L)
    (AL : List ((Str × Str × Str) × List Str)) (hal : AL.length ≤ 3000) (hAL : ∀ a ∈ AL, (a.1.1, a.2) ∈ L) (hb0 : ∀ x, bal (AL.map fun a => (a.1, sumOf cs ws a.2)) x = 0) :
    wp (callF P m (n + 2) f [.tup (.tup (cs.map D.str) :: rest), .ref r, .tup ((AL.map (·.1)).map aD), .tup (ws.map D.int)] S) fun d S' => d = .bl true ∧ Ext [] S S' := by
  have hb := big
  refine wp_callF h rfl ?_
  simp only [bFlows, startD]
  simp
  obtain ⟨od, hod⟩ : ∃ od : D, od = D.tup (D.tup (cs.map D.str) :: rest) := ⟨_, rfl⟩
  obtain ⟨ad, had⟩ : ∃ ad : D, ad = D.tup (AL.map (aD ∘ (·.1))) := ⟨_, rfl⟩
  rw [← hod]
  obtain ⟨NL, hNL⟩ : ∃ NL : List ((Str × Str × Str) × Int), NL = AL.map fun a => (a.1, sumOf cs ws a.2) := ⟨_, rfl⟩
  rw [← hNL] at hb0
  obtain ⟨I, hI⟩ : ∃ I : Nat → Ls → Store → Prop, ∀ i ls S', I i ls S' ↔ ∃ (x5 x6 x7 x8 : Option D) (kv : List (L2.Key × D)), ls = [some od, some (.ref r), some (.tup (AL.map (aD ∘ fun x => x.1))), some (.tup (ws.map D.int)), some (.ref S.length), x5, x6, x7, x8, none] ∧ S'[S.length]? = some (.dct kv) ∧ IntD kv ∧ (∀ x, valI kv x = bal (NL.take i) x) ∧ kv.length ≤ 2 * i ∧ Ext [] S S' := ⟨_, fun _ _ _ => Iff.rfl⟩
  refine wp_seq (ds := AL.map (aD ∘ fun x => x.1)) (.inl rfl) I (by simp; omega) ?_ ?_ ?_
  · exact (hI _ _ _).mpr ⟨_, _, _, _, [], rfl, by simp, (fun p hp => by cases hp), fun x => by simp [valI, valG, bal], by simp, Ext.push _ _ _⟩
  · intro i d ls S' hd hi
    obtain ⟨x5, x6, x7, x8, kv, rfl, q1, q2, q3, q4, q5⟩ := (hI _ _ _).mp hi
    rw [List.getElem?_map] at hd
    obtain ⟨⟨⟨nm, st, en⟩, ls⟩, hzi, rfl⟩ := Option.map_eq_some_iff.mp hd
    have hil := lt_of_some hzi
    obtain ⟨l, es, v1, v2, v3, v4, v5⟩ := lk.at_ nm ls (hAL _ (List.mem_of_getElem? hzi))
    refine ⟨_, by simp [aD]; rfl, ?_⟩
    simp
    rw [hod]
    refine wp_mono (sp_sum (n := n) hS hm hw hz rest (.inl (q5.at_ _ _ hr (by simp))) v1 (q5.at_ _ _ v2 (by simp)) v3) ?_
    rintro _ S2 ⟨rfl, y2⟩
    rw [← hod]
    obtain ⟨N, hN⟩ : ∃ N, N = sumOf cs ws ls := ⟨_, rfl⟩
    rw [← hN]
    have g2 := y2.at_ _ _ q1 (by simp)
    have tk : NL.take (i + 1) = NL.take i ++ [((nm, st, en), N)] := by
      refine take_at ?_
      rw [hNL, List.getElem?_map, hzi, hN]; rfl
    have bl : ∀ x, bal (NL.take (i + 1)) x = bal (NL.take i) x + ((if x = en then N else 0) - (if x = st then N else 0)) := fun x => by
      rw [tk, bal_app]; simp [bal]
    have i1 : IntD (putG kv (.inr st) (.int (valI kv st - N))) := q2.put st _
    have val1 : ∀ x, valI (putG kv (.inr st) (.int (valI kv st - N))) x = if x = st then valI kv st - N else valI kv x := fun x => valI_put
    have len1 := putG_len (kvs := kv) (k := .inr st) (v := D.int (valI kv st - N))
    generalize hk1 : putG kv (.inr st) (.int (valI kv st - N)) = kv1 at i1 val1 len1
    have i2 : IntD (putG kv1 (.inr en) (.int (valI kv1 en + N))) := i1.put en _
    have val2 : ∀ x, valI (putG kv1 (.inr en) (.int (valI kv1 en + N))) x = if x = en then valI kv1 en + N else valI kv1 x := fun x => valI_put
    have len2 := putG_len (kvs := kv1) (k := .inr en) (v := D.int (valI kv1 en + N))
    have vfin : ∀ x, valI (putG kv1 (.inr en) (.int (valI kv1 en + N))) x = bal (NL.take (i + 1)) x := fun x => by
      rw [val2, val1, val1, bl, ← q3, ]
      by_cases h1 : x = en
      · subst h1
        by_cases h2 : x = st
        · subst h2; simp
        · simp [h2]
      · by_cases h2 : x = st
        · subst h2; simp [h1, Int.sub_eq_add_neg]
        · simp [h1, h2]
    have goal2 : ∀ S3 : Store, S3[S.length]? = some (.dct kv1) → Ext [] S S3 → kv1.length < sizeLine ∧ I (i + 1) [some od, some (.ref r), some (.tup (AL.map (aD ∘ fun x => x.1))), some (.tup (ws.map D.int)), some (.ref S.length), some (.str nm), some (.str st), some (.str en), some (.int N), none] (S3.set S.length (.dct (putG kv1 (.inr en) (.int (valI kv1 en + N))))) := fun S3 h3 x3 =>
      ⟨by omega, (hI _ _ _).mpr ⟨_, _, _, _, _, rfl, set_same (Lt.of h3), i2, vfin, by omega, x3.setN (Nat.le_refl _) _⟩⟩
    have g3 := goal2 (S2.set S.length (.dct kv1)) (set_same (Lt.of g2)) ((q5.trans y2).setN (Nat.le_refl _) _)
    have s3 : ∀ o, (S2.set S.length o)[S.length]? = some o := fun o => set_same (Lt.of g2)
    cases e1 : valG kv (.inr st) with
    | none =>
      have z := IntD.none e1
      rw [z] at hk1
      have hk1' : putG kv (.inr st) (.int (-N)) = kv1 := by simpa using hk1
      simp [in_dct g2, g2, e1, hk1', s3, in_dct (s3 _)]
      refine ⟨by omega, ?_⟩
      cases e2 : valG kv1 (.inr en) with
      | none =>
        have z2 := IntD.none e2
        rw [z2] at g3
        simpa using g3
      | some d =>
        have z2 := i1.val e2
        rw [z2]
        simpa [s3] using g3
    | some d =>
      have z := q2.val e1
      rw [z] at e1
      simp [in_dct g2, g2, e1, hk1, s3, in_dct (s3 _)]
      refine ⟨by omega, ?_⟩
      cases e2 : valG kv1 (.inr en) with
      | none =>
        have z2 := IntD.none e2
        rw [z2] at g3
        simpa using g3
      | some d =>
        have z2 := i1.val e2
        rw [z2]
        simpa [s3] using g3
  · intro ls S' hi
    obtain ⟨x5, x6, x7, x8, kv, rfl, q1, q2, q3, q4, q5⟩ := (hI _ _ _).mp hi
    have hlen : NL.take AL.length = NL := by rw [hNL, List.take_of_length_le (by simp)]
    have q3' : ∀ x, valI kv x = 0 := fun x => by
      have := q3 x
      rw [List.length_map, hlen, hb0] at this
      exact this
    have ql : kv.length ≤ 6000 := by rw [List.length_map] at q4; omega
    simp [q1, set_same (Lt.of q1)]
    obtain ⟨S3, hS3⟩ : ∃ S3 : Store, S3 = S'.set S.length (O.dcl kv) := ⟨_, rfl⟩
    rw [← hS3]
    have e3 : S3[S.length]? = some (.dcl kv) := by rw [hS3]; exact set_same (Lt.of q1)
    have x3 : Ext [] S S3 := by rw [hS3]; exact q5.setN (Nat.le_refl _) _
    have l3 : S3.length = S'.length := by rw [hS3]; simp
    have f3 := lt_of_some e3
    rw [← l3]
    obtain ⟨J, hJ⟩ : ∃ J : Nat → List D → Store → Prop, ∀ i acc S4, J i acc S4 ↔ acc = [] ∧ Ext [] S3 S4 := ⟨_, fun _ _ _ => Iff.rfl⟩
    refine wp_lcG (k := kv.length) J (by omega) ((hJ _ _ _).mpr ⟨rfl, Ext.push _ _ _⟩) (by simp) ?_ ?_
    · intro i acc S4 hi hj
      obtain ⟨rfl, y⟩ := (hJ _ _ _).mp hj
      have w1 := y.at_ _ _ e3 (by simp)
      by_cases c : i < kv.length
      · have hp := List.getElem?_eq_getElem c
        obtain ⟨x, v, hxv⟩ := q2 _ (List.mem_of_getElem? hp)
        refine .inr ⟨.str x, _, c, by simp [w1, hp, hxv, dOfKey], rfl, fun hr => ?_⟩
        have hg : valG kv (.inr x) = some (.int 0) := by
          cases e : valG kv (.inr x) with
          | none =>
            unfold valG at e
            rw [Option.map_eq_none_iff, List.find?_eq_none] at e
            exact absurd (decide_eq_true (by rw [hxv])) (e _ (List.mem_of_getElem? hp))
          | some d => rw [q2.val e, q3' x]
        unfold lcTurn
        simp [w1, hg]
        exact ⟨by simpa using hr, (hJ _ _ _).mpr ⟨rfl, y⟩⟩
      · exact .inl ⟨by omega, by simp [w1]; omega⟩
    · intro acc S4 hj hr4
      obtain ⟨rfl, y⟩ := (hJ _ _ _).mp hj
      have w1 := y.at_ _ _ e3 (by simp)
      have hne : S.length ≠ S3.length := by omega
      simp [w1, hr4, set_ne hne]
      exact (x3.trans y).setN (Nat.le_refl _) _
end
end PV

set_option Elab.async false
set_option linter.all false
set_option maxRecDepth 100000
set_option maxHeartbeats 1000000
/-! What flows in flows out. -/
namespace PV
open PySem

def zsum (Z : List (Str × Int)) (ls : List Str) : Int := ((Z.filter fun p => decide (p.1 ∈ ls)).map (·.2)).sum
theorem hit_sum {a : Str} {v : Int} : ∀ {ls : List Str}, ls.Nodup → (ls.map fun c => if a = c then v else 0).sum = if a ∈ ls then v else 0
  | [], _ => rfl
  | c :: ls, h => by
    rw [List.nodup_cons] at h
    rw [List.map_cons, List.sum_cons, hit_sum h.2]
    by_cases q : a = c
    · subst q; simp [h.1]
    · simp [q]
theorem sum_add {α : Type} {f g : α → Int} : ∀ l : List α, (l.map fun x => f x + g x).sum = (l.map f).sum + (l.map g).sum
  | [] => rfl
  | x :: l => by simp only [List.map_cons, List.sum_cons, sum_add l]; omega
theorem perm_sum {a b : List Int} (h : a.Perm b) : a.sum = b.sum := by
  induction h with
  | nil => rfl
  | cons x _ ih => rw [List.sum_cons, List.sum_cons, ih]
  | swap x y l => simp only [List.sum_cons]; omega
  | trans _ _ ih1 ih2 => rw [ih1, ih2]
theorem sum_zero {α : Type} : ∀ l : List α, (l.map fun _ => (0 : Int)).sum = 0
  | [] => rfl
  | x :: l => by simp only [List.map_cons, List.sum_cons, sum_zero l]; rfl
theorem zsum_each {ls : List Str} (h : ls.Nodup) : ∀ Z : List (Str × Int), zsum Z ls = (ls.map fun c => zsum Z [c]).sum
  | [] => by simp only [zsum, List.filter_nil, List.map_nil, List.sum_nil]; rw [sum_zero]
  | (a, v) :: Z => by
    have e : ∀ ms : List Str, zsum ((a, v) :: Z) ms = (if a ∈ ms then v else 0) + zsum Z ms := fun ms => by
      unfold zsum
      rw [List.filter_cons]
      by_cases q : a ∈ ms
      · simp [q]
      · simp [q]
    rw [e, zsum_each h Z]
    have : (ls.map fun c => zsum ((a, v) :: Z) [c]).sum = (ls.map fun c => (if a = c then v else 0) + zsum Z [c]).sum := by
      congr 1
      refine List.map_congr_left fun c _ => ?_
      rw [e]; simp
    rw [this, sum_add, hit_sum h]
section
variable (w : Str → Int)
def wsum (ls : List Str) : Int := (ls.map w).sum
def at1 (x a : Str) (v : Int) : Int := if x = a then v else 0
def lsum (l : List (Str × List Str × Option Str)) (x : Str) : Int := (l.map fun q => at1 x q.1 (wsum w q.2.1) - (match q.2.2 with | some a => at1 x a (wsum w q.2.1) | none => 0)).sum
def hsum (l : List (Str × Str)) (x : Str) : Int := (l.map fun p => at1 x p.2 (w p.1)).sum
variable {w}
theorem wsum_app (a b : List Str) : wsum w (a ++ b) = wsum w a + wsum w b := by unfold wsum; rw [List.map_append, List.sum_append]
theorem lsum_app (a b : List (Str × List Str × Option Str)) (x : Str) : lsum w (a ++ b) x = lsum w a x + lsum w b x := by unfold lsum; rw [List.map_append, List.sum_append]
theorem hsum_app (a b : List (Str × Str)) (x : Str) : hsum w (a ++ b) x = hsum w a x + hsum w b x := by unfold hsum; rw [List.map_append, List.sum_append]
theorem at1_add (x a : Str) (u v : Int) : at1 x a (u + v) = at1 x a u + at1 x a v := by unfold at1; split <;> omega
mutual
theorem keeps1 : ∀ (t : T) (n x : Str), lsum w (t.lo (some n)) x - hsum w (t.hd n) x = - at1 x n (wsum w t.lv)
  | .leaf c, n, x => by simp [T.lo, T.hd, T.lv, lsum, hsum, wsum]
  | .node m ps, n, x => by
    have := keepsL ps m x
    simp only [T.lo, T.hd, T.lv]
    have e : lsum w ((m, T.lvL ps, some n) :: T.loL ps (some m)) x = at1 x m (wsum w (T.lvL ps)) - at1 x n (wsum w (T.lvL ps)) + lsum w (T.loL ps (some m)) x := by
      simp only [lsum, List.map_cons, List.sum_cons]
    rw [e]; omega
theorem keepsL : ∀ (ts : List T) (n x : Str), lsum w (T.loL ts (some n)) x - hsum w (T.hdL ts n) x = - at1 x n (wsum w (T.lvL ts))
  | [], n, x => by
    simp only [T.loL, T.hdL, T.lvL, lsum, hsum, wsum, List.map_nil, List.sum_nil]
    unfold at1
    split <;> rfl
  | t :: ts, n, x => by
    have h1 := keeps1 t n x
    have h2 := keepsL ts n x
    simp only [T.loL, T.hdL, T.lvL, lsum_app, hsum_app, wsum_app, at1_add]
    omega
end
theorem keeps0 (t : T) (ht : t.isNode = true) (n x : Str) : lsum w (t.lo none) x = hsum w (t.hd n) x := by
  cases t with
  | leaf c => cases ht
  | node m ps =>
    have := keepsL (w := w) ps m x
    simp only [T.lo, T.hd]
    have e : lsum w ((m, T.lvL ps, none) :: T.loL ps (some m)) x = at1 x m (wsum w (T.lvL ps)) + lsum w (T.loL ps (some m)) x := by
      simp only [lsum, List.map_cons, List.sum_cons]; omega
    rw [e]; omega
end
mutual
theorem lo_nodup : ∀ (t : T) (ab : Option Str), t.lv.Nodup → ∀ q ∈ t.lo ab, q.2.1.Nodup
  | .leaf _, _, _ => by simp [T.lo]
  | .node n ps, ab, h => fun q hq => by
    simp only [T.lo] at hq
    rcases List.mem_cons.mp hq with rfl | hq
    · exact h
    · exact loL_nodup ps (some n) h q hq
theorem loL_nodup : ∀ (ts : List T) (ab : Option Str), (T.lvL ts).Nodup → ∀ q ∈ T.loL ts ab, q.2.1.Nodup
  | [], _, _ => by simp [T.loL]
  | t :: ts, ab, h => fun q hq => by
    simp only [T.loL] at hq
    simp only [T.lvL] at h
    rw [List.nodup_append] at h
    rcases List.mem_append.mp hq with hq | hq
    · exact lo_nodup t ab h.1 q hq
    · exact loL_nodup ts ab h.2.1 q hq
end
/-- the arcs, each with its lot -/
def arcL (cs : List Str) (t1 t2 : T) : List ((Str × Str × Str) × List Str) :=
  ((root t1, root t2, root t1), t1.lv) :: ((t1.lo none).filterMap (fun q => q.2.2.map fun a => ((q.1, a, q.1), q.2.1)) ++ ((t2.lo none).filterMap (fun q => q.2.2.map fun a => ((q.1, q.1, a), q.2.1)) ++ cs.map fun c => ((c, hOf t1 c, hOf t2 c), [c])))
theorem fm_map {α β γ : Type} {f : α → Option β} {g : β → γ} : ∀ l : List α, (l.filterMap f).map g = l.filterMap fun x => (f x).map g
  | [] => rfl
  | x :: l => by
    rw [List.filterMap_cons, List.filterMap_cons, ← fm_map l]
    cases f x <;> rfl
theorem lo_tail' (t : T) (ht : t.isNode = true) (g : Str → Str → Str × Str × Str) : (t.lo none).filterMap (fun q => q.2.2.map fun a => g q.1 a) = (t.kn none).tail.map fun p => g p.1 (p.2.getD Str.empty) := by
  have e : (t.lo none).filterMap (fun q => q.2.2.map fun a => g q.1 a) = ((t.lo none).map fun q => (q.1, q.2.2)).filterMap (fun p => p.2.map fun a => g p.1 a) := by
    rw [List.filterMap_map]; rfl
  rw [e, T.lo_kn]
  cases t with
  | leaf c => cases ht
  | node n ps =>
    have hs := T.knL_some ps (some n) rfl
    simp only [T.kn, List.filterMap_cons, Option.map_none, List.tail_cons]
    generalize T.knL ps (some n) = l at hs
    induction l with
    | nil => rfl
    | cons p l ih =>
      obtain ⟨x, ab⟩ := p
      cases ab with
      | none => exact absurd (hs (x, none) List.mem_cons_self) (by simp)
      | some y =>
        have := ih fun p hp => hs p (List.mem_cons_of_mem _ hp)
        simp only [List.filterMap_cons, Option.map_some, List.map_cons, this]; rfl
theorem arcL_arcs {cs : List Str} {t1 t2 : T} (n1 : t1.isNode = true) (n2 : t2.isNode = true) : (arcL cs t1 t2).map (·.1) = arcsOf cs t1 t2 := by
  unfold arcL arcsOf
  rw [List.map_cons, List.map_append, List.map_append, fm_map, fm_map, List.map_map]
  have e1 : (t1.lo none).filterMap (fun q => (q.2.2.map fun a => ((q.1, a, q.1), q.2.1)).map (·.1)) = k1 t1 := by
    unfold k1
    rw [← lo_tail' t1 n1 fun x a => (x, a, x)]
    congr 1
    funext q
    cases q.2.2 <;> rfl
  have e2 : (t2.lo none).filterMap (fun q => (q.2.2.map fun a => ((q.1, q.1, a), q.2.1)).map (·.1)) = k2 t2 := by
    unfold k2
    rw [← lo_tail' t2 n2 fun x a => (x, x, a)]
    congr 1
    funext q
    cases q.2.2 <;> rfl
  rw [e1, e2]; rfl
theorem arcL_lots {cs : List Str} {t1 t2 : T} (n1 : t1.isNode = true) : ∀ a ∈ arcL cs t1 t2, (a.1.1, a.2) ∈ lotsOf cs t1 t2 := by
  intro a ha
  unfold lotsOf
  unfold arcL at ha
  rcases List.mem_cons.mp ha with rfl | ha
  · refine List.mem_append_right _ (List.mem_map.mpr ?_)
    cases t1 with
    | leaf c => cases n1
    | node m ps => exact ⟨(m, T.lvL ps, none), by simp [T.lo], rfl⟩
  · rcases List.mem_append.mp ha with ha | ha
    · obtain ⟨q, hq, e⟩ := List.mem_filterMap.mp ha
      obtain ⟨b, hb, rfl⟩ := Option.map_eq_some_iff.mp e
      exact List.mem_append_right _ (List.mem_map.mpr ⟨q, List.mem_append_left _ hq, rfl⟩)
    · rcases List.mem_append.mp ha with ha | ha
      · obtain ⟨q, hq, e⟩ := List.mem_filterMap.mp ha
        obtain ⟨b, hb, rfl⟩ := Option.map_eq_some_iff.mp e
        exact List.mem_append_right _ (List.mem_map.mpr ⟨q, List.mem_append_right _ hq, rfl⟩)
      · obtain ⟨c, hc, rfl⟩ := List.mem_map.mp ha
        exact List.mem_append_left _ (List.mem_map.mpr ⟨c, hc, rfl⟩)
theorem hsum_cells {w : Str → Int} {t : T} {cs : List Str} (nd : t.lv.Nodup) (hp : t.lv.Perm cs) (x : Str) : hsum w (t.hd Str.empty) x = (cs.map fun c => at1 x (hOf t c) (w c)).sum := by
  have fn := fn_of_nodup nd
  have e : t.hd Str.empty = t.lv.map fun c => (c, hOf t c) := by
    rw [← T.hd_lv t Str.empty, List.map_map]
    have : (t.hd Str.empty).map ((fun c => (c, hOf t c)) ∘ fun p => p.1) = (t.hd Str.empty).map id := by
      refine List.map_congr_left fun p hp => ?_
      have h1 : p.1 ∈ t.lv := by rw [← T.hd_lv t Str.empty]; exact List.mem_map.mpr ⟨p, hp, rfl⟩
      have h2 := fn p.1 _ _ (hOf_mem h1) hp
      show (p.1, hOf t p.1) = p
      rw [h2]
    rw [this, List.map_id]
  unfold hsum
  rw [e, List.map_map]
  exact perm_sum (hp.map fun c => at1 x (hOf t c) (w c))
theorem bal_cons (a : (Str × Str × Str) × Int) (A : List ((Str × Str × Str) × Int)) (x : Str) : bal (a :: A) x = (at1 x a.1.2.2 a.2 - at1 x a.1.2.1 a.2) + bal A x := by unfold bal; rw [List.map_cons, List.sum_cons]; rfl
theorem bal_one {w : Str → Int} {F : List Str → Int} (x : Str) : ∀ l : List (Str × List Str × Option Str), (∀ q ∈ l, q.2.2.isSome = true ∧ F q.2.1 = wsum w q.2.1) →
    bal ((l.filterMap fun q => q.2.2.map fun a => ((q.1, a, q.1), q.2.1)).map fun a => (a.1, F a.2)) x = lsum w l x
  | [], _ => rfl
  | (n, ls, ab) :: l, h => by
    have ih := bal_one (w := w) (F := F) x l fun q hq => h q (List.mem_cons_of_mem _ hq)
    have hh := h (n, ls, ab) List.mem_cons_self
    cases ab with
    | none => exact absurd hh.1 (by simp)
    | some a =>
      have e : lsum w ((n, ls, some a) :: l) x = (at1 x n (wsum w ls) - at1 x a (wsum w ls)) + lsum w l x := by simp only [lsum, List.map_cons, List.sum_cons]
      simp only [List.filterMap_cons, Option.map_some, List.map_cons, bal_cons]
      rw [ih, e]
      have := hh.2
      simp only at this
      rw [this]
theorem bal_two {w : Str → Int} {F : List Str → Int} (x : Str) : ∀ l : List (Str × List Str × Option Str), (∀ q ∈ l, q.2.2.isSome = true ∧ F q.2.1 = wsum w q.2.1) →
    bal ((l.filterMap fun q => q.2.2.map fun a => ((q.1, q.1, a), q.2.1)).map fun a => (a.1, F a.2)) x = - lsum w l x
  | [], _ => rfl
  | (n, ls, ab) :: l, h => by
    have ih := bal_two (w := w) (F := F) x l fun q hq => h q (List.mem_cons_of_mem _ hq)
    have hh := h (n, ls, ab) List.mem_cons_self
    cases ab with
    | none => exact absurd hh.1 (by simp)
    | some a =>
      have e : lsum w ((n, ls, some a) :: l) x = (at1 x n (wsum w ls) - at1 x a (wsum w ls)) + lsum w l x := by simp only [lsum, List.map_cons, List.sum_cons]
      simp only [List.filterMap_cons, Option.map_some, List.map_cons, bal_cons]
      rw [ih, e]
      have := hh.2
      simp only at this
      rw [this]
      omega
theorem bal_cells {w : Str → Int} {F : List Str → Int} {h1 h2 : Str → Str} (x : Str) (hF : ∀ c, F [c] = w c) : ∀ cs : List Str,
    bal ((cs.map fun c => ((c, h1 c, h2 c), [c])).map fun a => (a.1, F a.2)) x = (cs.map fun c => at1 x (h2 c) (w c)).sum - (cs.map fun c => at1 x (h1 c) (w c)).sum
  | [] => rfl
  | c :: cs => by
    have ih := bal_cells (w := w) (F := F) (h1 := h1) (h2 := h2) x hF cs
    simp only [List.map_cons, bal_cons, List.sum_cons]
    rw [ih, hF]
    omega
theorem loL_some {ts : List T} {n : Str} : ∀ q ∈ T.loL ts (some n), q.2.2.isSome = true := fun q hq => by
  have h := T.knL_some ts (some n) rfl (q.1, q.2.2) (by rw [← T.loL_knL]; exact List.mem_map.mpr ⟨q, hq, rfl⟩)
  exact h
theorem arcs_keep {cs : List Str} {ws : List Int} {t1 t2 : T} (n1 : t1.isNode = true) (n2 : t2.isNode = true) (l1 : t1.lv.Perm cs) (l2 : t2.lv.Perm cs) (nd : cs.Nodup) (x : Str) : bal ((arcL cs t1 t2).map fun a => (a.1, sumOf cs ws a.2)) x = 0 := by
  have d1 : t1.lv.Nodup := l1.nodup_iff.mpr nd
  have d2 : t2.lv.Nodup := l2.nodup_iff.mpr nd
  obtain ⟨w, hw⟩ : ∃ w : Str → Int, w = fun c => zsum (cs.zip ws) [c] := ⟨_, rfl⟩
  have hs : ∀ ls : List Str, ls.Nodup → sumOf cs ws ls = wsum w ls := fun ls h => by
    rw [hw]; exact zsum_each h _
  have k1' := keeps0 (w := w) t1 n1 Str.empty x
  have k2' := keeps0 (w := w) t2 n2 Str.empty x
  rw [hsum_cells d1 l1] at k1'
  rw [hsum_cells d2 l2] at k2'
  have we1 : wsum w t1.lv = wsum w cs := perm_sum (l1.map w)
  have we2 : wsum w t2.lv = wsum w cs := perm_sum (l2.map w)
  have hF : ∀ c, sumOf cs ws [c] = w c := fun c => by rw [hw]; rfl
  cases t1 with
  | leaf c => cases n1
  | node m1 p1 =>
    cases t2 with
    | leaf c => cases n2
    | node m2 p2 =>
      have q1 : ∀ q ∈ T.loL p1 (some m1), q.2.2.isSome = true ∧ sumOf cs ws q.2.1 = wsum w q.2.1 := fun q hq => ⟨loL_some q hq, hs _ (loL_nodup p1 (some m1) d1 q hq)⟩
      have q2 : ∀ q ∈ T.loL p2 (some m2), q.2.2.isSome = true ∧ sumOf cs ws q.2.1 = wsum w q.2.1 := fun q hq => ⟨loL_some q hq, hs _ (loL_nodup p2 (some m2) d2 q hq)⟩
      have b1 := bal_one (F := sumOf cs ws) x _ q1
      have b2 := bal_two (F := sumOf cs ws) x _ q2
      have b3 := bal_cells (h1 := hOf (.node m1 p1)) (h2 := hOf (.node m2 p2)) x hF cs
      have e1 : lsum w (T.lo (.node m1 p1) none) x = at1 x m1 (wsum w (T.lv (.node m1 p1))) + lsum w (T.loL p1 (some m1)) x := by
        simp only [T.lo, T.lv, lsum, List.map_cons, List.sum_cons]; omega
      have e2 : lsum w (T.lo (.node m2 p2) none) x = at1 x m2 (wsum w (T.lv (.node m2 p2))) + lsum w (T.loL p2 (some m2)) x := by
        simp only [T.lo, T.lv, lsum, List.map_cons, List.sum_cons]; omega
      rw [we1] at e1
      rw [we2] at e2
      have hr : sumOf cs ws (T.lv (.node m1 p1)) = wsum w cs := by rw [hs _ d1, we1]
      unfold arcL
      rw [List.map_cons, bal_cons, List.map_append, bal_app, List.map_append, bal_app]
      simp only [T.lo, List.filterMap_cons, Option.map_none, root]
      rw [b1, b2, b3, hr]
      omega
end PV

set_option Elab.async false
set_option linter.all false
set_option maxRecDepth 100000
set_option maxHeartbeats 1000000
/-! k06: the law, by PV. -/
namespace PV
open PySem

def bTail06 (iT iP iAr iSa iLA iLo iFl : Nat) : S := .cons (.set 4 (.call iAr (.cons (.v 3) (.nil)))) (.cons (.ite (.bo false (.cons (.no (.call iSa (.cons (.v 4) (.cons (.call iLA (.cons (.v 3) (.nil))) (.nil))))) (.cons (.no (.call iSa (.cons (.callk iAr ["office"] (.nil) (.cons (.v 3) (.nil))) (.cons (.v 4) (.nil))))) (.nil)))) (.cons (.ret (.bl false)) (.nil)) (.nil)) (.cons (.set 5 (.call iLo (.cons (.v 3) (.nil)))) (.cons (.for (.nm 6) (.qr (.int 4)) (.cons (.set 7 (.bi .tuple (.cons (.lc [("cell", 8)] (.nm 8) (.q (.ix (.v 3) (.int 0))) .nil (.call iP (.cons (.v 1) (.cons (.lst (.cons (.int 0) (.cons (.int 1) (.cons (.call iT (.cons (.v 1) (.cons (.int 100) (.nil)))) (.nil))))) (.nil))))) (.nil)))) (.cons (.ite (.no (.call iFl (.cons (.v 3) (.cons (.v 5) (.cons (.v 4) (.cons (.v 7) (.nil))))))) (.cons (.ret (.bl false)) (.nil)) (.nil)) (.nil)))) (.nil))))
def bLaw06 (iSt iOf iP iT iAr iSa iLA iLo iFl : Nat) : S := .cons (.set 1 (.call iSt (.cons (.v 0) (.nil)))) (.cons (.for (.nm 2) (.qr (.int 4)) (.cons (.set 3 (.call iOf (.cons (.v 1) (.cons (.call iP (.cons (.v 1) (.cons (.lst (.cons (.bin .add (.int 1) (.call iT (.cons (.v 1) (.cons (.int 6) (.nil))))) (.cons (.int 4) (.cons (.int 6) (.nil))))) (.nil)))) (.cons (.int 7) (.nil)))))) (.cons (.ite (.cmp .eq (.call iT (.cons (.v 1) (.cons (.int 24) (.nil)))) (.int 0)) (.cons (.set 3 (.call iOf (.cons (.v 1) (.cons (.int 20) (.cons (.int 7) (.nil)))))) (.nil)) (.nil)) (bTail06 iT iP iAr iSa iLA iLo iFl)))) (.cons (.ret (.bl true)) (.nil)))
theorem OffOk.arcIn {many : Nat} {most : Int} {o : Off} (h : OffOk many most o) (hm : many ≤ 50) : ArcIn o.cs o.t1 o.t2 := by
  have nd : o.cs.Nodup := h.nd.sublist (List.sublist_append_left _ _)
  have s1 := T.sz_eq o.t1
  have s2 := T.sz_eq o.t2
  have e1 := h.l1.length_eq
  have e2 := h.l2.length_eq
  have k := h.k1
  have l := h.len
  exact ⟨h.n1, h.n2, h.l1.nodup_iff.mpr nd, h.l2.nodup_iff.mpr nd, fun c hc => h.l1.mem_iff.mpr hc, fun c hc => h.l2.mem_iff.mpr hc, by omega, by omega, by omega⟩
theorem arcs_plain (l : List (Str × Str × Str)) (hl : l.length ≤ 9000) : Pl (.tup (l.map aD)) ∧ dep (.tup (l.map aD)) ≤ 2 := by
  have h1 : Pls (l.map aD) := by
    clear hl
    induction l with
    | nil => simp [Pls]
    | cons a l ih =>
      simp only [List.map_cons, Pls]
      exact ⟨by simp [aD, Pl, Pls], ih⟩
  have h2 : deps (l.map aD) ≤ 1 := by
    clear hl h1
    induction l with
    | nil => simp [deps]
    | cons a l ih =>
      simp only [List.map_cons, deps]
      have : dep (aD a) ≤ 1 := by simp [aD, dep, deps]
      omega
  refine ⟨?_, ?_⟩
  · simp only [Pl, List.length_map]
    exact ⟨by omega, h1⟩
  · simp only [dep]; omega
theorem arcL_len {cs : List Str} {t1 t2 : T} : (arcL cs t1 t2).length ≤ 1 + t1.sz + t2.sz + cs.length := by
  unfold arcL
  have h1 := List.length_filterMap_le (fun q : Str × List Str × Option Str => q.2.2.map fun a => ((q.1, a, q.1), q.2.1)) (t1.lo none)
  have h2 := List.length_filterMap_le (fun q : Str × List Str × Option Str => q.2.2.map fun a => ((q.1, q.1, a), q.2.1)) (t2.lo none)
  have h3 := lo_len t1 none
  have h4 := lo_len t2 none
  simp only [List.length_cons, List.length_append, List.length_map]
  omega
/-- where the law's defs stand -/
structure Law06P (P : List Df) (iM iT iP iS iN iTr iK iL iMx iOf iKn iHo iAr iSt iSa iAb iLA iSu iFl f : Nat) : Prop where
  off : OffP P iM iT iP iS iN iTr iK iL iMx iOf
  kn : ∃ ps, P[iKn]? = some ⟨2, 4, [.non], ps, bKnotsOf iKn⟩
  ho : ∃ ps, P[iHo]? = some ⟨1, 6, [], ps, bHolders⟩
  ar : P[iAr]? = some ⟨1, 10, [], ["office"], bArcs iKn iHo⟩
  st : ∃ ps, P[iSt]? = some ⟨1, 3, [], ps, bStart iM⟩
  sa : ∃ ps, P[iSa]? = some ⟨2, 3, [], ps, bSame iSa⟩
  ab : ∃ ps, P[iAb]? = some ⟨1, 7, [], ps, bAbove⟩
  la : ∃ ps, P[iLA]? = some ⟨1, 10, [], ps, bLawArcs iK iAb⟩
  su : ∃ ps, P[iSu]? = some ⟨4, 5, [], ps, bSum⟩
  fl : ∃ ps, P[iFl]? = some ⟨4, 10, [], ps, bFlows iSu⟩
  law : ∃ ps, P[f]? = some ⟨1, 9, [], ps, bLaw06 iSt iOf iP iT iAr iSa iLA iL iFl⟩
section
variable {P : List Df} {iM iT iP iS iN iTr iK iL iMx iOf iKn iHo iAr iSt iSa iAb iLA iSu iFl m f n : Nat}
theorem sp_tail06 (lp : Law06P P iM iT iP iS iN iTr iK iL iMx iOf iKn iHo iAr iSt iSa iAb iLA iSu iFl f) (hm : 10000 < m) {many : Nat} {o : Off} (ok : OffOk many 7 o) (hmany : many ≤ 50) {s k : Nat} {S : Store} (st : StOk S s k) (x0 x2 x4 x5 x6 x7 x8 : Option D) :
    wp (exS (callF P m (n + 12)) (callFK P m (n + 12)) m (bTail06 iT iP iAr iSa iLA iL iFl) [x0, some (.ref s), x2, some (Off.d o), x4, x5, x6, x7, x8] S) fun fl S' => ∃ (x4 x5 x6 x7 x8 : Option D), fl = .next [x0, some (.ref s), x2, some (Off.d o), x4, x5, x6, x7, x8] ∧ StOk S' s k := by
  have hb := big
  have dr := lp.off.dr
  obtain ⟨_, hKn⟩ := lp.kn
  obtain ⟨_, hHo⟩ := lp.ho
  have hAr := lp.ar
  obtain ⟨_, hSa⟩ := lp.sa
  obtain ⟨_, hAb⟩ := lp.ab
  obtain ⟨_, hLA⟩ := lp.la
  obtain ⟨_, hSu⟩ := lp.su
  obtain ⟨_, hFl⟩ := lp.fl
  obtain ⟨_, hK⟩ := lp.off.knots
  obtain ⟨_, hL⟩ := lp.off.lots
  have ai := ok.arcIn hmany
  have d1 := ok.d1
  have d2 := ok.d2
  have z0 := ai.z0
  have z1 := ai.z1
  have z2 := ai.z2
  have hlen := ok.len
  have hcut : o.d = .tup (.tup (o.cs.map D.str) :: o.t1.d :: o.t2.d :: [.int o.q, .tup (o.bs.map bD), .tup (o.ws.map wiD)]) := rfl
  obtain ⟨rest, hrest⟩ : ∃ rest : List D, rest = [.int o.q, .tup (o.bs.map bD), .tup (o.ws.map wiD)] := ⟨_, rfl⟩
  rw [← hrest] at hcut
  obtain ⟨od, hod⟩ : ∃ od : D, od = Off.d o := ⟨_, rfl⟩
  have al : (arcsOf o.cs o.t1 o.t2).length ≤ 9000 := by
    rw [← arcL_arcs ai.n1 ai.n2, List.length_map]
    have := arcL_len (cs := o.cs) (t1 := o.t1) (t2 := o.t2)
    have s1 := T.sz_eq o.t1
    have s2 := T.sz_eq o.t2
    have e1 := ok.l1.length_eq
    have e2 := ok.l2.length_eq
    have k1 := ok.k1
    omega
  have al2 : (arcL o.cs o.t1 o.t2).length ≤ 3000 := by
    have := arcL_len (cs := o.cs) (t1 := o.t1) (t2 := o.t2)
    have s1 := T.sz_eq o.t1
    have s2 := T.sz_eq o.t2
    have e1 := ok.l1.length_eq
    have e2 := ok.l2.length_eq
    have k1 := ok.k1
    omega
  obtain ⟨pl, pd⟩ := arcs_plain _ al
  rw [← hod]
  rw [← hod] at hcut
  unfold bTail06
  simp
  rw [hcut]
  refine wp_mono (sp_arcs (n := n + 10) hKn hHo hAr hm ai rest S (by omega) (by omega)) ?_
  rintro _ S1 ⟨rfl, e1⟩
  obtain ⟨ad, had⟩ : ∃ ad : D, ad = .tup ((arcsOf o.cs o.t1 o.t2).map aD) := ⟨_, rfl⟩
  rw [← had]
  rw [← had] at pl pd
  simp
  refine wp_mono (sp_lawarcs (n := n + 10) hK hAb hLA hm ai rest S1) ?_
  rintro _ S2 ⟨rfl, e2⟩
  rw [← had]
  simp
  refine wp_mono (sp_same hSa hm S2 (n + 11) ad (by omega) pl) ?_
  rintro _ S3 ⟨rfl, rfl⟩
  simp
  refine wp_mono (wp_callFK hAr rfl (sp_arcs (n := n + 10) hKn hHo hAr hm ai rest S3 (by omega) (by omega)) rfl) ?_
  rintro _ S4 ⟨rfl, e3⟩
  rw [← had]
  simp
  refine wp_mono (sp_same hSa hm S4 (n + 11) ad (by omega) pl) ?_
  rintro _ S5 ⟨rfl, rfl⟩
  simp
  refine wp_mono (sp_lots (n := n + 10) hL hK hm o.cs o.t1 o.t2 rest S5 ai.n1 ai.n2 (by omega) (by omega) (by omega) (Off.lots_nd ok)) ?_
  rintro _ S6 ⟨r, kvs, rfl, g6, lk6, hr6, e6⟩
  simp
  rw [← hcut]
  have st6 : StOk S6 s k := ((((st.ext e1 (by simp) (by simp)).ext e2 (by simp) (by simp)).ext e3 (by simp) (by simp)).ext e6 (by simp) (by simp))
  have ls5 : s < S5.length := ((((st.ext e1 (by simp) (by simp)).ext e2 (by simp) (by simp)).ext e3 (by simp) (by simp))).lt
  obtain ⟨I, hI⟩ : ∃ I : Nat → Ls → Store → Prop, ∀ i ls S', I i ls S' ↔ ∃ (x6 x7 x8 : Option D), ls = [x0, some (.ref s), x2, some od, some ad, some (.ref r), x6, x7, x8] ∧ StOk S' s k ∧ Ext [s] S6 S' := ⟨_, fun _ _ _ => Iff.rfl⟩
  refine wp_rng I (by omega) ((hI _ _ _).mpr ⟨_, _, _, rfl, st6, Ext.refl _ _⟩) ?_ ?_
  · intro i ls S7 hi hj
    obtain ⟨y6, y7, y8, rfl, st7, e7⟩ := (hI _ _ _).mp hj
    rw [hcut]
    simp
    have hr7 : S7[r]? = some (.dct kvs) := e7.at_ _ _ g6 (by simp; omega)
    obtain ⟨I2, hI2⟩ : ∃ I : Nat → List D → Store → Prop, ∀ i acc S', I i acc S' ↔ ∃ ws : List Int, acc = ws.map D.int ∧ ws.length = i ∧ Af s k S7 S' := ⟨_, fun _ _ _ => Iff.rfl⟩
    have hs7 := st7.lt
    refine wp_lcT (ds := o.cs.map D.str) (.inl rfl) I2 (by simp; omega) ((hI2 _ _ _).mpr ⟨[], rfl, rfl, (Af.refl st7).push _⟩) (by simp) ?_ ?_
    · intro j d acc S8 hd hi8 hr8
      obtain ⟨ws, rfl, w1, w2⟩ := (hI2 _ _ _).mp hi8
      have hjl := lt_of_some hd
      simp at hjl
      refine ⟨_, rfl, ?_⟩
      unfold lcTurn
      simp
      refine wp_mono (dr.tk (n := n + 10) w2.st (lim := 100) (by decide) (by decide)) ?_
      rintro _ S9 ⟨v, rfl, v1, v2, af9⟩
      simp
      refine ⟨by omega, ?_⟩
      refine wp_mono (dr.pkL (n := n + 9) (r := S9.length) (ds := [.int 0, .int 1, .int v]) (af9.st.push _) (by simp) (by have := af9.st.lt; omega) (by simp) (by simp)) ?_
      rintro d10 S10 ⟨hd10, af10⟩
      obtain ⟨c, rfl⟩ : ∃ c : Int, d10 = .int c := by
        simp at hd10
        rcases hd10 with rfl | rfl | rfl <;> exact ⟨_, rfl⟩
      have hr9 := af9.at_ hr8 (by omega)
      have hr10 := af10.at_ (by rw [ap_lt (Lt.of hr9)]; exact hr9) (by omega)
      simp
      simp [hr10]
      refine ⟨by omega, (hI2 _ _ _).mpr ⟨ws ++ [c], by simp, by simp [w1], ?_⟩⟩
      exact (((w2.trans af9).push _).trans af10).setN st7 (Nat.le_refl _) _
    · intro acc S8 hi8 hr8
      obtain ⟨ws, rfl, w1, w2⟩ := (hI2 _ _ _).mp hi8
      simp at w1
      have hr12 := w2.ext.at_ _ _ hr7 (by simp; omega)
      have lk8 : LK S5 S8 r kvs (lotsOf o.cs o.t1 o.t2) := (lk6.mono e7 (by simp; omega)).mono w2.ext (by simp; omega)
      simp [hr8]
      rw [had, ← arcL_arcs ai.n1 ai.n2]
      refine wp_mono (sp_flows (n := n + 10) hSu hFl hm w1 z0 (o.t1.d :: o.t2.d :: rest) hr12 lk8 (arcL o.cs o.t1 o.t2) al2 (arcL_lots ai.n1) (fun x => arcs_keep ai.n1 ai.n2 ok.l1 ok.l2 (ok.nd.sublist (List.sublist_append_left _ _)) x)) ?_
      rintro _ S9 ⟨rfl, e9⟩
      simp
      refine (hI _ _ _).mpr ⟨_, _, _, by rw [hcut, had, ← arcL_arcs ai.n1 ai.n2, List.map_map], w2.st.ext e9 (by simp) (by simp), (e7.trans w2.ext).trans (e9.mono (by simp))⟩
  · intro ls S7 hj
    obtain ⟨y6, y7, y8, rfl, st7, e7⟩ := (hI _ _ _).mp hj
    simp
    exact st7
theorem sp_law06 (lp : Law06P P iM iT iP iS iN iTr iK iL iMx iOf iKn iHo iAr iSt iSa iAb iLA iSu iFl f) (hm : 10000 < m) (ns : List Int) : wp (callF P m (n + 13) f [.rol (ns.map D.int)] []) fun d S' => d = .bl true := by
  have hb := big
  have dr := lp.off.dr
  obtain ⟨_, hM⟩ := dr.mix
  obtain ⟨_, hKn⟩ := lp.kn
  obtain ⟨_, hHo⟩ := lp.ho
  have hAr := lp.ar
  obtain ⟨_, hSt⟩ := lp.st
  obtain ⟨_, hSa⟩ := lp.sa
  obtain ⟨_, hAb⟩ := lp.ab
  obtain ⟨_, hLA⟩ := lp.la
  obtain ⟨_, hSu⟩ := lp.su
  obtain ⟨_, hFl⟩ := lp.fl
  obtain ⟨_, hK⟩ := lp.off.knots
  obtain ⟨_, hL⟩ := lp.off.lots
  obtain ⟨_, h⟩ := lp.law
  refine wp_callF h rfl ?_
  simp [bLaw06, startD]
  refine wp_mono (sp_start (n := n + 10) hSt hM ns [] hm) ?_
  rintro _ S1 ⟨s, k, rfl, st1, _, _⟩
  simp
  obtain ⟨I, hI⟩ : ∃ I : Nat → Ls → Store → Prop, ∀ i ls S', I i ls S' ↔ ∃ (x2 x3 x4 x5 x6 x7 x8 : Option D), ls = [some (.rol (ns.map D.int)), some (.ref s), x2, x3, x4, x5, x6, x7, x8] ∧ StOk S' s k := ⟨_, fun _ _ _ => Iff.rfl⟩
  refine wp_rng I (by omega) ((hI _ _ _).mpr ⟨_, _, _, _, _, _, _, rfl, st1⟩) ?_ ?_
  · intro i ls S' hi hj
    obtain ⟨x2, x3, x4, x5, x6, x7, x8, rfl, st⟩ := (hI _ _ _).mp hj
    simp
    refine wp_mono (dr.tk (n := n + 10) st (by decide) (by decide)) ?_
    rintro _ S2 ⟨v, rfl, v1, v2, af2⟩
    simp
    refine ⟨by omega, ?_⟩
    refine wp_mono (dr.pkL (n := n + 9) (r := S2.length) (ds := [.int (1 + v), .int 4, .int 6]) (af2.st.push (.lst [.int (1 + v), .int 4, .int 6])) (by simp) (by have := af2.st.lt; omega) (by simp) (by simp)) ?_
    rintro d S3 ⟨hd, af3⟩
    obtain ⟨many, hmany, hmany1, hmany2, _⟩ : ∃ many : Nat, d = .int many ∧ 0 < many ∧ many ≤ 6 ∧ True := by
      simp at hd
      rcases hd with rfl | rfl | rfl
      · exact ⟨(1 + v).toNat, by congr 1; omega, by omega, by omega, trivial⟩
      · exact ⟨4, rfl, by omega, by omega, trivial⟩
      · exact ⟨6, rfl, by omega, by omega, trivial⟩
    subst hmany
    simp
    refine wp_mono (sp_office (n := n + 4) lp.off hm af3.st hmany1 (by omega) (most := 7) (by decide) (by decide)) ?_
    rintro _ S4 ⟨o1, rfl, ok1, af4⟩
    simp
    refine wp_mono (dr.tk (n := n + 10) af4.st (by decide) (by decide)) ?_
    rintro _ S5 ⟨v5, rfl, v51, v52, af5⟩
    simp
    split
    · refine wp_mono (sp_office (n := n + 4) lp.off hm af5.st (many := 20) (by omega) (by omega) (most := 7) (by decide) (by decide)) ?_
      rintro _ S6 ⟨o2, rfl, ok2, af6⟩
      simp
      refine wp_mono (sp_tail06 lp hm ok2 (by omega) af6.st _ _ _ _ _ _ _) ?_
      rintro _ S7 ⟨y4, y5, y6, y7, y8, rfl, st7⟩
      simp
      exact (hI _ _ _).mpr ⟨_, _, _, _, _, _, _, rfl, st7⟩
    · refine wp_mono (sp_tail06 lp hm ok1 (by omega) af5.st _ _ _ _ _ _ _) ?_
      rintro _ S7 ⟨y4, y5, y6, y7, y8, rfl, st7⟩
      simp
      exact (hI _ _ _).mpr ⟨_, _, _, _, _, _, _, rfl, st7⟩
  · intro ls S' hj
    obtain ⟨x2, x3, x4, x5, x6, x7, x8, rfl, st⟩ := (hI _ _ _).mp hj
    simp
end
end PV

set_option Elab.async false
set_option linter.all false
set_option maxRecDepth 100000
set_option maxHeartbeats 1000000
/-! Places of sums, limits of a stand, by PV. -/
namespace PV
open PySem

def aNames (cs : List Str) (t1 t2 : T) : List Str := (arcsOf cs t1 t2).map (·.1)
/-- cells, trees as an office has them -/
structure In4 (cs : List Str) (t1 t2 : T) : Prop where
  n1 : t1.isNode = true
  n2 : t2.isNode = true
  nd : (cs ++ (t1.nm ++ t2.nm)).Nodup
  l1 : t1.lv.Perm cs
  l2 : t2.lv.Perm cs
  z0 : cs.length ≤ 60
  k1 : t1.nm.length + t2.nm.length ≤ 12
  d1 : t1.dpt ≤ 4
  d2 : t2.dpt ≤ 4
theorem In4.arcIn {cs : List Str} {t1 t2 : T} (h : In4 cs t1 t2) : ArcIn cs t1 t2 := by
  have nc : cs.Nodup := (List.nodup_append.mp h.nd).1
  have e1 := T.sz_eq t1
  have e2 := T.sz_eq t2
  have p1 := h.l1.length_eq
  have p2 := h.l2.length_eq
  have z0 := h.z0
  have k1 := h.k1
  exact ⟨h.n1, h.n2, h.l1.nodup_iff.mpr nc, h.l2.nodup_iff.mpr nc, fun c hc => h.l1.mem_iff.mpr hc, fun c hc => h.l2.mem_iff.mpr hc, by omega, by omega, by omega⟩
theorem kn_tail_nm {t : T} (h : t.isNode = true) : t.nm = root t :: (t.kn none).tail.map (·.1) := by
  cases t with
  | leaf c => cases h
  | node n ps => simp [T.nm, T.kn, root, T.knL_nm]
theorem aNames_eq {cs : List Str} {t1 t2 : T} (h1 : t1.isNode = true) (h2 : t2.isNode = true) : aNames cs t1 t2 = t1.nm ++ (t2.nm.tail ++ cs) := by
  unfold aNames arcsOf
  rw [kn_tail_nm h1, kn_tail_nm h2]
  simp [k1, k2, List.map_map, Function.comp_def]
theorem root_nm {t : T} (h : t.isNode = true) : t.nm = root t :: t.nm.tail := by
  rw [kn_tail_nm h]; rfl
theorem In4.arcNd {cs : List Str} {t1 t2 : T} (h : In4 cs t1 t2) : (aNames cs t1 t2).Nodup ∧ root t2 ∉ aNames cs t1 t2 := by
  have p : (cs ++ (t1.nm ++ t2.nm)).Perm (root t2 :: aNames cs t1 t2) := by
    rw [aNames_eq h.n1 h.n2]
    have e : t2.nm = root t2 :: t2.nm.tail := root_nm h.n2
    rw [e, List.tail_cons]
    refine List.perm_append_comm.trans ?_
    rw [List.append_assoc, List.cons_append]
    exact List.perm_middle
  have := p.nodup_iff.mp h.nd
  rw [List.nodup_cons] at this
  exact ⟨this.2, this.1⟩
theorem In4.mem {cs : List Str} {t1 t2 : T} (h : In4 cs t1 t2) {x : Str} : x ∈ cs ++ (t1.nm ++ t2.nm) ↔ x = root t2 ∨ x ∈ aNames cs t1 t2 := by
  rw [aNames_eq h.n1 h.n2]
  have e : t2.nm = root t2 :: t2.nm.tail := root_nm h.n2
  rw [e, List.tail_cons]
  simp only [List.mem_append, List.mem_cons]
  constructor
  · rintro (h | h | h | h)
    · exact .inr (.inr (.inr h))
    · exact .inr (.inl h)
    · exact .inl h
    · exact .inr (.inr (.inl h))
  · rintro (h | h | h | h)
    · exact .inr (.inr (.inl h))
    · exact .inr (.inl h)
    · exact .inr (.inr (.inr h))
    · exact .inl h
theorem take_not {α : Type} {l : List α} {i : Nat} {x : α} (nd : l.Nodup) (h : l[i]? = some x) : x ∉ l.take i := fun z => by
  have h3 : (l.take (i + 1)).Nodup := nd.sublist (List.take_sublist _ _)
  rw [take_at h] at h3
  exact (List.nodup_append.mp h3).2.2 x z x (by simp) rfl
theorem idx_at {l : List Str} {i : Nat} {x : Str} (nd : l.Nodup) (h : l[i]? = some x) : l.idxOf x = i := by
  obtain ⟨hi, rfl⟩ := List.getElem?_eq_some_iff.mp h
  exact nd.idxOf_getElem i hi
theorem valG_none {α : Type} {kvs : List (L2.Key × α)} {k : L2.Key} (h : valG kvs k = none) : k ∉ kvs.map (·.1) := by
  intro z
  obtain ⟨p, hp, e⟩ := List.mem_map.mp z
  unfold valG at h
  rw [Option.map_eq_none_iff, List.find?_eq_none] at h
  exact h p hp (by simpa using e)
/-- the place of a sum's name -/
def plO (A : List Str) (r : Str) (x : Str) : Option Nat := if x = r then some 0 else if x ∈ A then some (A.idxOf x) else none
def bPlaces (iAr : Nat) : S := .cons (.sdc 1 [("number", 2), ("arc", 3)] (.tup (.cons (.nm 2) (.cons (.nm 3) (.nil)))) (.qe (.call iAr (.cons (.v 0) (.nil)))) .nil (.ix (.v 3) (.int 0)) (.v 2)) (.cons (.six (.v 1) (.ix (.ix (.v 0) (.int 2)) (.int 0)) (.int 0)) (.cons (.ret (.v 1)) (.nil)))
section
variable {P : List Df} {m f n : Nat} {ps qs rs : List Str}
theorem sp_places {iK iH iAr : Nat} (hK : P[iK]? = some ⟨2, 4, [.non], ps, bKnotsOf iK⟩) (hH : P[iH]? = some ⟨1, 6, [], qs, bHolders⟩) (hA : P[iAr]? = some ⟨1, 10, [], rs, bArcs iK iH⟩) {us : List Str} (h : P[f]? = some ⟨1, 4, [], us, bPlaces iAr⟩) (hm : 10000 < m) {cs : List Str} {t1 t2 : T} (a : In4 cs t1 t2) (rest : List D) (S : Store) :
    wp (callF P m (n + 7) f [.tup (.tup (cs.map D.str) :: t1.d :: t2.d :: rest)] S) fun d S' => ∃ r kvs, d = .ref r ∧ S'[r]? = some (.dct kvs) ∧ kvs.length = (aNames cs t1 t2).length + 1 ∧ (∀ x, valG kvs (.inr x) = (plO (aNames cs t1 t2) (root t2) x).map fun (i : Nat) => D.int i) ∧ S.length ≤ r ∧ Ext [] S S' := by
  have hb := big
  have ai := a.arcIn
  refine wp_callF h rfl ?_
  simp [bPlaces, startD]
  have d1 := a.d1
  have d2 := a.d2
  refine wp_mono (sp_arcs (n := n + 4) hK hH hA hm ai rest S (by omega) (by omega)) ?_
  rintro _ S1 ⟨rfl, x1⟩
  simp [seqD]
  obtain ⟨nd, nr⟩ := a.arcNd
  have la : (arcsOf cs t1 t2).length ≤ 5000 := by
    rw [← arcL_arcs ai.n1 ai.n2, List.length_map]
    have := arcL_len (cs := cs) (t1 := t1) (t2 := t2)
    have e1 := T.sz_eq t1
    have e2 := T.sz_eq t2
    have p1 := a.l1.length_eq
    have p2 := a.l2.length_eq
    have z0 := a.z0
    have k1 := a.k1
    omega
  obtain ⟨I, hI⟩ : ∃ I : Nat → List (L2.Key × D) → Store → Prop, ∀ i acc S2, I i acc S2 ↔ acc.length = i ∧ (∀ x, valG acc (.inr x) = if x ∈ (aNames cs t1 t2).take i then some (.int ((aNames cs t1 t2).idxOf x : Nat)) else none) ∧ Ext [] S S2 := ⟨_, fun _ _ _ => Iff.rfl⟩
  refine wp_dcI (ds := enuL 0 ((arcsOf cs t1 t2).map aD)) I (fun i acc S2 hi _ => nx_enu rfl (by simpa [enuL_len] using hi)) ?_ ?_ m 0 [] _ (by simp [enuL_len]; omega) (by omega) ((hI _ _ _).mpr ⟨rfl, fun x => by simp [valG], x1.pushed _⟩) (by simp)
  · intro i d acc S2 hd hi hr
    obtain ⟨q1, q2, q3⟩ := (hI _ _ _).mp hi
    rw [enuL_get, List.getElem?_map, Option.map_map] at hd
    obtain ⟨b, hb2, rfl⟩ := Option.map_eq_some_iff.mp hd
    have ha : (aNames cs t1 t2)[i]? = some b.1 := by unfold aNames; rw [List.getElem?_map, hb2]; rfl
    have li := lt_of_some hb2
    refine ⟨_, rfl, ?_⟩
    unfold dcTurn
    simp [aD, hr, keyOf]
    refine ⟨by omega, (hI _ _ _).mpr ⟨?_, fun x => ?_, q3.setN x1.len _⟩⟩
    · rw [putG_new]
      · simp [q1]
      · intro z
        have e := q2 b.1
        have nt : b.1 ∉ (aNames cs t1 t2).take i := fun z => take_not nd ha z
        rw [if_neg nt] at e
        exact valG_none e z
    · rw [valG_put, q2 x, take_at ha]
      by_cases e : x = b.1
      · subst e
        rw [if_pos rfl, if_pos (by simp), idx_at nd ha]
      · rw [if_neg fun z => e (Sum.inr.inj z)]
        simp [e]
  · intro acc S2 hi hr
    obtain ⟨q1, q2, q3⟩ := (hI _ _ _).mp hi
    have hn2 : ∃ n2 p2, t2 = .node n2 p2 := by
      have := ai.n2
      cases t2 with
      | leaf c => cases this
      | node n p => exact ⟨n, p, rfl⟩
    obtain ⟨n2, p2, rfl⟩ := hn2
    rw [enuL_len, List.length_map] at q1 q2
    have nr : n2 ∉ aNames cs t1 (.node n2 p2) := nr
    have lA : (aNames cs t1 (.node n2 p2)).length = (arcsOf cs t1 (.node n2 p2)).length := by unfold aNames; rw [List.length_map]
    rw [← lA, List.take_length] at q2
    simp [T.d, hr]
    have hl := lt_of_some hr
    refine ⟨by omega, _, set_same (Lt.of hr), ?_, fun x => ?_, x1.len, q3.setN x1.len _⟩
    · rw [putG_new]
      · simp [q1, lA]
      · intro z
        have e := q2 n2
        rw [if_neg nr] at e
        exact valG_none e z
    · rw [valG_put, q2 x]
      unfold plO root
      by_cases e : x = n2
      · subst e
        rw [if_pos rfl, if_pos rfl]; rfl
      · rw [if_neg fun z => e (Sum.inr.inj z), if_neg e]
        split <;> rfl

/-- where the program's own defs stand -/
structure ProgP (P : List Df) (iK iH iAr iPl : Nat) : Prop where
  k : ∃ ps, P[iK]? = some ⟨2, 4, [.non], ps, bKnotsOf iK⟩
  h : ∃ ps, P[iH]? = some ⟨1, 6, [], ps, bHolders⟩
  a : ∃ ps, P[iAr]? = some ⟨1, 10, [], ps, bArcs iK iH⟩
  p : ∃ ps, P[iPl]? = some ⟨1, 4, [], ps, bPlaces iAr⟩
def bPlace (iPl iX : Nat) : S := .cons (.set 2 (.call iPl (.cons (.v 0) (.nil)))) (.cons (.ite (.cmp .nin (.v 1) (.v 2)) (.cons (.rse iX (.cons (.v 1) (.nil))) (.nil)) (.nil)) (.cons (.ret (.ix (.v 2) (.v 1))) (.nil)))
theorem sp_place {iK iH iAr iPl iX : Nat} (pp : ProgP P iK iH iAr iPl) (h : P[f]? = some ⟨2, 3, [], ps, bPlace iPl iX⟩) (hm : 10000 < m) {cs : List Str} {t1 t2 : T} (a : In4 cs t1 t2) (rest : List D) (x : Str) (S : Store) {E : Nat → List D → Store → Prop} {Q : D → Store → Prop}
    (ok : ∀ (i : Nat) S', plO (aNames cs t1 t2) (root t2) x = some i → Ext [] S S' → Q (.int i) S') (no : ∀ S', plO (aNames cs t1 t2) (root t2) x = none → Ext [] S S' → E iX [.str x] S') :
    wpx E (callF P m (n + 8) f [.tup (.tup (cs.map D.str) :: t1.d :: t2.d :: rest), .str x] S) Q := by
  obtain ⟨_, hK⟩ := pp.k
  obtain ⟨_, hH⟩ := pp.h
  obtain ⟨_, hA⟩ := pp.a
  obtain ⟨_, hP⟩ := pp.p
  refine wpx_callF h rfl ?_
  simp [bPlace, startD]
  refine wp_mono (sp_places (n := n) hK hH hA hP hm a rest S) ?_
  rintro _ S1 ⟨r, kvs, rfl, q1, q2, q3, q4, q5⟩
  simp [in_dct q1, q3]
  cases e : plO (aNames cs t1 t2) (root t2) x with
  | none =>
    simp
    exact no S1 e q5
  | some i =>
    simp [q1, q3, e]
    exact ok i S1 e q5

/-! ### limits -/
abbrev Item : Type := Str × Int × Option Int
def lowF (pl : Str → Option Nat) (k : Nat) (m : Int) (b : Item) : Int := if pl b.1 = some k then (if m < b.2.1 then b.2.1 else m) else m
def hiF (pl : Str → Option Nat) (k : Nat) (m : Option Int) (b : Item) : Option Int := if pl b.1 = some k then (match b.2.2 with
  | none => m
  | some h => match m with
    | none => some h
    | some g => some (if h < g then h else g)) else m
def lowA (pl : Str → Option Nat) (bs : List Item) (k : Nat) : Int := bs.foldl (lowF pl k) 0
def hiA (pl : Str → Option Nat) (q : Int) (bs : List Item) (k : Nat) : Option Int := bs.foldl (hiF pl k) (if k = 0 then some q else none)
theorem lowA_app {pl : Str → Option Nat} {bs : List Item} {b : Item} {k : Nat} : lowA pl (bs ++ [b]) k = lowF pl k (lowA pl bs k) b := by simp [lowA, List.foldl_append]
theorem hiA_app {pl : Str → Option Nat} {q : Int} {bs : List Item} {b : Item} {k : Nat} : hiA pl q (bs ++ [b]) k = hiF pl k (hiA pl q bs k) b := by simp [hiA, List.foldl_append]
theorem set_range {α : Type} {N j : Nat} {f g : Nat → α} {v : α} (hg : g j = v) (hne : ∀ k, k ≠ j → g k = f k) : ((List.range N).map f).set j v = (List.range N).map g := by
  apply List.ext_getElem?
  intro i
  rw [List.getElem?_set]
  by_cases e : j = i
  · subst e
    rw [if_pos rfl]
    by_cases c : j < N
    · rw [if_pos (by simpa using c), List.getElem?_map, List.getElem?_range c, Option.map_some, hg]
    · rw [if_neg (by simpa using c), List.getElem?_map, List.getElem?_eq_none (by simpa using c)]; rfl
  · rw [if_neg e, List.getElem?_map, List.getElem?_map]
    by_cases c : i < N
    · rw [List.getElem?_range c, Option.map_some, Option.map_some, hne i fun z => e z.symm]
    · rw [List.getElem?_eq_none (by simpa using c)]; rfl
theorem range_const {α : Type} (N : Nat) (x : α) : List.replicate N x = (List.range N).map fun _ => x := by
  apply List.ext_getElem?
  intro i
  rw [List.getElem?_map, List.getElem?_replicate]
  by_cases c : i < N
  · rw [if_pos c, List.getElem?_range c]; rfl
  · rw [if_neg c, List.getElem?_eq_none (by simpa using c)]; rfl
theorem plO_lt {A : List Str} {r x : Str} {i : Nat} (h : plO A r x = some i) (hA : A ≠ []) : i < A.length := by
  unfold plO at h
  split at h
  · cases h
    exact List.length_pos_iff.mpr hA
  · split at h
    · rename_i c
      cases h
      exact List.idxOf_lt_length_iff.mpr c
    · cases h
def bLimits (iPl : Nat) : S := .cons (.asg (.tup (.cons (.nm 1) (.cons (.nm 2) (.nil)))) (.v 0)) (.cons (.set 3 (.call iPl (.cons (.v 1) (.nil)))) (.cons (.set 4 (.bin .mul (.lst (.cons (.int 0) (.nil))) (.bin .sub (.bi .len (.cons (.v 3) (.nil))) (.int 1)))) (.cons (.set 5 (.bin .mul (.lst (.cons (.non) (.nil))) (.bin .sub (.bi .len (.cons (.v 3) (.nil))) (.int 1)))) (.cons (.six (.v 5) (.int 0) (.ix (.v 1) (.int 3))) (.cons (.for (.tup (.cons (.nm 6) (.cons (.nm 7) (.cons (.nm 8) (.nil))))) (.q (.bin .add (.ix (.v 1) (.int 4)) (.v 2))) (.cons (.set 9 (.ix (.v 3) (.v 6))) (.cons (.six (.v 4) (.v 9) (.bi .max (.cons (.ix (.v 4) (.v 9)) (.cons (.v 7) (.nil))))) (.cons (.ite (.cmp .isn (.v 8) (.non)) (.cons (.six (.v 5) (.v 9) (.ite (.cmp .is (.ix (.v 5) (.v 9)) (.non)) (.v 8) (.bi .min (.cons (.ix (.v 5) (.v 9)) (.cons (.v 8) (.nil)))))) (.nil)) (.nil)) (.nil))))) (.cons (.ret (.tup (.cons (.v 4) (.cons (.v 5) (.nil))))) (.nil)))))))
theorem sp_limits {iK iH iAr iPl : Nat} (pp : ProgP P iK iH iAr iPl) (h : P[f]? = some ⟨1, 10, [], ps, bLimits iPl⟩) (hm : 10000 < m) {cs : List Str} {t1 t2 : T} (a : In4 cs t1 t2) (q : Int) (bs told : List Item) (rest : List D) (S : Store)
    (hbs : ∀ b ∈ bs ++ told, plO (aNames cs t1 t2) (root t2) b.1 ≠ none) (hz : (bs ++ told).length ≤ 5000) :
    wp (callF P m (n + 8) f [.tup [.tup (.tup (cs.map D.str) :: t1.d :: t2.d :: .int q :: .tup (bs.map bD) :: rest), .tup (told.map bD)]] S) fun d S' => ∃ l u, d = .tup [.ref l, .ref u] ∧
      S'[l]? = some (.lst ((List.range (aNames cs t1 t2).length).map fun k => .int (lowA (plO (aNames cs t1 t2) (root t2)) (bs ++ told) k))) ∧ S'[u]? = some (.lst ((List.range (aNames cs t1 t2).length).map fun k => hiD (hiA (plO (aNames cs t1 t2) (root t2)) q (bs ++ told) k))) ∧ Ext [] S S' := by
  have hb := big
  obtain ⟨_, hK⟩ := pp.k
  obtain ⟨_, hH⟩ := pp.h
  obtain ⟨_, hA⟩ := pp.a
  obtain ⟨_, hP⟩ := pp.p
  refine wp_callF h rfl ?_
  simp [bLimits, startD]
  obtain ⟨rest2, hrest⟩ : ∃ rest2, rest2 = D.int q :: D.tup (bs.map bD) :: rest := ⟨_, rfl⟩
  rw [← hrest]
  refine wp_mono (sp_places (n := n) hK hH hA hP hm a rest2 S) ?_
  rintro _ S1 ⟨r, kvs, rfl, q1, q2, q3, q4, q5⟩
  subst hrest
  have la : (aNames cs t1 t2).length ≤ 5000 := by
    have ai := a.arcIn
    unfold aNames
    rw [← arcL_arcs ai.n1 ai.n2, List.length_map, List.length_map]
    have := arcL_len (cs := cs) (t1 := t1) (t2 := t2)
    have e1 := T.sz_eq t1
    have e2 := T.sz_eq t2
    have p1 := a.l1.length_eq
    have p2 := a.l2.length_eq
    have z0 := a.z0
    have k1 := a.k1
    omega
  have hne : aNames cs t1 t2 ≠ [] := by unfold aNames arcsOf; simp
  have hpos := List.length_pos_iff.mpr hne
  obtain ⟨N, hN⟩ : ∃ N, N = (aNames cs t1 t2).length := ⟨_, rfl⟩
  rw [← hN] at la hpos q2 ⊢
  have e1 : ((N : Int) + 1 - 1).toNat = N := by omega
  have lr := lt_of_some q1
  simp [q1, q2, ap_lt (Lt.of q1)]
  have w1 : (-(2 : Int) ^ 63 ≤ (N : Int) ∧ (N : Int) < 2 ^ 63) := ⟨by omega, by omega⟩
  refine ⟨by omega, ?_⟩
  simp [binD, w1.1, w1.2, q1, q2, ap_lt (Lt.of q1), hpos]
  refine ⟨⟨by omega, by omega⟩, by omega, by omega, by rw [← List.length_append]; omega, ?_⟩
  obtain ⟨pl, hpl⟩ : ∃ pl, pl = plO (aNames cs t1 t2) (root t2) := ⟨_, rfl⟩
  have hplt : ∀ x i, pl x = some i → i < N := fun x i e => by rw [hpl] at e; rw [hN]; exact plO_lt e hne
  rw [← hpl] at hbs q3 ⊢
  obtain ⟨S2, hS2⟩ : ∃ S2 : Store, S2 = S1 ++ [O.lst [D.int 0], O.lst (List.replicate N (D.int 0)), O.lst [D.non], O.lst ((List.replicate N D.non).set 0 (D.int q))] := ⟨_, rfl⟩
  rw [← hS2]
  have x2 : Ext [] S1 S2 := by
    rw [hS2]
    exact ((((Ext.push [] S1 _).pushed _).pushed _).pushed _).trans (by simp; exact Ext.refl _ _)
  have f4 : S2[S1.length + 1]? = some (.lst ((List.range N).map fun k => .int (lowA pl [] k))) := by
    rw [hS2, List.getElem?_append_right (by omega)]
    simp [lowA, range_const]
  have f5 : S2[S1.length + 1 + 1 + 1]? = some (.lst ((List.range N).map fun k => hiD (hiA pl q [] k))) := by
    rw [hS2, List.getElem?_append_right (by omega)]
    have e : S1.length + 1 + 1 + 1 - S1.length = 3 := by omega
    rw [e]
    simp [range_const]
    exact set_range (by simp [hiA, hiD]) fun k hk => by simp [hiA, hiD, hk]
  have f3 := x2.at_ _ _ q1 (by simp)
  have eb : bs.map bD ++ told.map bD = (bs ++ told).map bD := by simp
  rw [eb]
  generalize bs ++ told = items at *
  obtain ⟨I, hI⟩ : ∃ I : Nat → Ls → Store → Prop, ∀ i ls S4, I i ls S4 ↔ ∃ x6 x7 x8 x9 x0 x1 x2, ls = [x0, x1, x2, some (.ref r), some (.ref (S1.length + 1)), some (.ref (S1.length + 1 + 1 + 1)), x6, x7, x8, x9] ∧
      S4[S1.length + 1]? = some (.lst ((List.range N).map fun k => .int (lowA pl (items.take i) k))) ∧ S4[S1.length + 1 + 1 + 1]? = some (.lst ((List.range N).map fun k => hiD (hiA pl q (items.take i) k))) ∧ S4[r]? = some (.dct kvs) ∧ Ext [] S1 S4 := ⟨_, fun _ _ _ => Iff.rfl⟩
  refine wp_seq (ds := items.map bD) (.inl rfl) I (by simp; omega) ((hI _ _ _).mpr ⟨_, _, _, _, _, _, _, rfl, by simpa using f4, by simpa using f5, f3, x2⟩) ?_ ?_
  · intro i d ls S4 hd hi
    obtain ⟨x6, x7, x8, x9, x0, x1, x2, rfl, g4, g5, g3, y4⟩ := (hI _ _ _).mp hi
    rw [List.getElem?_map] at hd
    obtain ⟨⟨nm, lo, hi⟩, hit, rfl⟩ := Option.map_eq_some_iff.mp hd
    obtain ⟨j, hj⟩ := Option.ne_none_iff_exists'.mp (hbs _ (List.mem_of_getElem? hit))
    have hjN := hplt _ _ hj
    refine ⟨_, rfl, ?_⟩
    have hj' : pl nm = some j := hj
    have hix : L2.ixN N (j : Int) = some j := by rw [ixN_ge (by omega), Int.toNat_natCast, if_pos hjN]
    simp [bD, g3, q3, hj', g4, hjN, hix]
    have ne1 : S1.length + 1 ≠ S1.length + 1 + 1 + 1 := by omega
    have ne2 : r ≠ S1.length + 1 := by omega
    have ne3 : r ≠ S1.length + 1 + 1 + 1 := by omega
    have lows : ((List.range N).map fun k => D.int (lowA pl (items.take i) k)).set j (D.int (if lowA pl (items.take i) j < lo then lo else lowA pl (items.take i) j)) = (List.range N).map fun k => .int (lowA pl (items.take (i + 1)) k) := by
      refine set_range ?_ fun k hk => ?_
      · rw [take_at hit, lowA_app]
        unfold lowF
        rw [if_pos hj']
      · rw [take_at hit, lowA_app]
        unfold lowF
        rw [if_neg fun z => hk (Option.some.inj (hj'.symm.trans z)).symm]
    rw [lows]
    have e5 : (S4.set (S1.length + 1) (.lst ((List.range N).map fun k => .int (lowA pl (items.take (i + 1)) k))))[S1.length + 1 + 1 + 1]? = some (.lst ((List.range N).map fun k => hiD (hiA pl q (items.take i) k))) := by rw [set_ne ne1]; exact g5
    have e3 : (S4.set (S1.length + 1) (.lst ((List.range N).map fun k => .int (lowA pl (items.take (i + 1)) k))))[r]? = some (.dct kvs) := by rw [set_ne ne2.symm]; exact g3
    have e4 : (S4.set (S1.length + 1) (.lst ((List.range N).map fun k => .int (lowA pl (items.take (i + 1)) k))))[S1.length + 1]? = some (.lst ((List.range N).map fun k => .int (lowA pl (items.take (i + 1)) k))) := set_same (Lt.of g4)
    have y5 := y4.setN (i := S1.length + 1) (by omega) (.lst ((List.range N).map fun k => .int (lowA pl (items.take (i + 1)) k)))
    generalize S4.set (S1.length + 1) (.lst ((List.range N).map fun k => .int (lowA pl (items.take (i + 1)) k))) = S5 at e3 e4 e5 y5 ⊢
    cases hi with
    | none =>
      simp [hiD]
      refine (hI _ _ _).mpr ⟨_, _, _, _, _, _, _, rfl, e4, ?_, e3, y5⟩
      rw [e5, take_at hit]
      have : ∀ k, hiA pl q (items.take i ++ [(nm, lo, none)]) k = hiA pl q (items.take i) k := fun k => by
        rw [hiA_app]
        unfold hiF
        split <;> rfl
      simp only [this]
    | some hh =>
      have hset : ∀ v, hiD (some v) = hiD (hiA pl q (items.take (i + 1)) j) → ((List.range N).map fun k => hiD (hiA pl q (items.take i) k)).set j (hiD (some v)) = (List.range N).map fun k => hiD (hiA pl q (items.take (i + 1)) k) := fun v hv => by
        refine set_range hv.symm fun k hk => ?_
        rw [take_at hit, hiA_app]
        unfold hiF
        rw [if_neg fun z => hk (Option.some.inj (hj'.symm.trans z)).symm]
      have hval : hiA pl q (items.take (i + 1)) j = match hiA pl q (items.take i) j with
        | none => some hh
        | some g => some (if hh < g then hh else g) := by
        rw [take_at hit, hiA_app]
        unfold hiF
        rw [if_pos hj']
      have fin : ∀ v, hiA pl q (items.take (i + 1)) j = some v → I (i + 1) [x0, x1, x2, some (.ref r), some (.ref (S1.length + 1)), some (.ref (S1.length + 1 + 1 + 1)), some (.str nm), some (.int lo), some (.int hh), some (.int j)] (S5.set (S1.length + 1 + 1 + 1) (.lst (((List.range N).map fun k => hiD (hiA pl q (items.take i) k)).set j (.int v)))) := fun v hv => by
        rw [show D.int v = hiD (some v) from rfl, hset v (by rw [hv])]
        exact (hI _ _ _).mpr ⟨_, _, _, _, _, _, _, rfl, by rw [set_ne ne1.symm]; exact e4, set_same (Lt.of e5), by rw [set_ne ne3.symm]; exact e3, y5.setN (by omega) _⟩
      cases hv : hiA pl q (items.take i) j with
      | none =>
        rw [hv] at hval
        simp [hiD, e5, g5, hjN, hv, hix]
        exact fin hh hval
      | some g =>
        rw [hv] at hval
        simp [hiD, e5, g5, hjN, hv, hix]
        exact fin _ hval
  · intro ls S4 hi
    obtain ⟨x6, x7, x8, x9, x0, x1, x2, rfl, g4, g5, g3, y4⟩ := (hI _ _ _).mp hi
    rw [List.length_map, List.take_length] at g4 g5
    simp
    exact ⟨by omega, _, _, ⟨rfl, rfl⟩, g4, g5, q5.trans y4⟩
end
end PV

set_option Elab.async false
set_option linter.all false
set_option maxRecDepth 100000
set_option maxHeartbeats 1000000
/-! What sums_of sums, in plain lists. -/
namespace PV
open PySem

def updS (h : Str → Int) (x : Str) (v : Int) : Str → Int := fun y => if y = x then v else h y
theorem updS_same {h : Str → Int} {x : Str} {v : Int} : updS h x v x = v := if_pos rfl
theorem updS_ne {h : Str → Int} {x y : Str} {v : Int} (n : y ≠ x) : updS h x v y = h y := if_neg n
def up2 (p : Str × Str) (h : Str → Int) : Str → Int := updS h p.2 (h p.2 + h p.1)
def prK (l : List (Str × Option Str)) (h : Str → Int) : Str → Int := l.foldr (fun p h => up2 (p.1, p.2.getD Str.empty) h) h
theorem prK_app (a b : List (Str × Option Str)) (h : Str → Int) : prK (a ++ b) h = prK a (prK b h) := by simp [prK, List.foldr_append]
theorem prK_cons (p : Str × Option Str) (l : List (Str × Option Str)) (h : Str → Int) : prK (p :: l) h = up2 (p.1, p.2.getD Str.empty) (prK l h) := rfl
section
variable (w : Str → Int)
mutual
theorem hz1 : ∀ (t : T) (n x : Str), x ≠ n → x ∉ t.nm → hsum w (t.hd n) x = 0
  | .leaf c, n, x, h, _ => by simp [T.hd, hsum, at1, h]
  | .node m ps, n, x, _, h => by
    simp only [T.nm, List.mem_cons, not_or] at h
    exact hzL ps m x h.1 h.2
theorem hzL : ∀ (ts : List T) (n x : Str), x ≠ n → x ∉ T.nmL ts → hsum w (T.hdL ts n) x = 0
  | [], _, _, _, _ => by simp [T.hdL, hsum]
  | t :: ts, n, x, h, h2 => by
    simp only [T.nmL, List.mem_append, not_or] at h2
    rw [T.hdL, hsum_app, hz1 t n x h h2.1, hzL ts n x h h2.2]; rfl
end
mutual
theorem sub1 : ∀ (t : T) (a : Str) (h : Str → Int), a ∉ t.nm → t.nm.Nodup → (∀ x ∈ t.nm, h x = hsum w (t.hd a) x) →
    (∀ q ∈ t.lo (some a), prK (t.kn (some a)) h q.1 = wsum w q.2.1) ∧ prK (t.kn (some a)) h a = h a + wsum w t.lv - hsum w (t.hd a) a ∧ ∀ x, x ∉ t.nm → x ≠ a → prK (t.kn (some a)) h x = h x
  | .leaf c, a, h, _, _, _ => by
    refine ⟨fun q hq => by simp [T.lo] at hq, ?_, fun x _ _ => rfl⟩
    simp [T.kn, prK, T.lv, T.hd, hsum, wsum, at1]
  | .node n ps, a, h, ha, nd, hh => by
    simp only [T.nm, List.mem_cons, not_or, List.nodup_cons] at ha nd
    have hd : T.hd (.node n ps) a = T.hdL ps n := rfl
    rw [hd] at hh ⊢
    obtain ⟨i1, i2, i3⟩ := subL ps n h nd.1 nd.2 fun x hx => hh x (List.mem_cons_of_mem _ hx)
    have e1 : prK (T.knL ps (some n)) h a = h a := i3 a ha.2 ha.1
    have e2 : prK (T.knL ps (some n)) h n = wsum w (T.lvL ps) := by
      rw [i2, hh n List.mem_cons_self]; omega
    have e3 : hsum w (T.hdL ps n) a = 0 := hzL w ps n a ha.1 ha.2
    simp only [T.kn, T.lo, T.lv, T.nm, prK_cons, Option.getD_some]
    refine ⟨fun q hq => ?_, ?_, fun x hx hxa => ?_⟩
    · rcases List.mem_cons.mp hq with rfl | hq
      · unfold up2
        rw [updS_ne (fun z => ha.1 z.symm)]
        exact e2
      · have hm : q.1 ∈ T.nmL ps := by rw [← T.loL_nm ps (some n)]; exact List.mem_map.mpr ⟨q, hq, rfl⟩
        unfold up2
        rw [updS_ne (show q.1 ≠ a from fun z => ha.2 (z ▸ hm))]
        exact i1 q hq
    · unfold up2
      rw [updS_same]
      simp only [e1, e2, e3]; omega
    · simp only [List.mem_cons, not_or] at hx
      unfold up2
      rw [updS_ne hxa]
      exact i3 x hx.2 hx.1
theorem subL : ∀ (ts : List T) (n : Str) (h : Str → Int), n ∉ T.nmL ts → (T.nmL ts).Nodup → (∀ x ∈ T.nmL ts, h x = hsum w (T.hdL ts n) x) →
    (∀ q ∈ T.loL ts (some n), prK (T.knL ts (some n)) h q.1 = wsum w q.2.1) ∧ prK (T.knL ts (some n)) h n = h n + wsum w (T.lvL ts) - hsum w (T.hdL ts n) n ∧ ∀ x, x ∉ T.nmL ts → x ≠ n → prK (T.knL ts (some n)) h x = h x
  | [], n, h, _, _, _ => by
    refine ⟨fun q hq => by simp [T.loL] at hq, ?_, fun x _ _ => rfl⟩
    simp [T.knL, prK, T.lvL, T.hdL, hsum, wsum]
  | t :: ts, n, h, hn, nd, hh => by
    simp only [T.nmL, List.mem_append, not_or] at hn hh
    rw [T.nmL, List.nodup_append] at nd
    obtain ⟨nd1, nd2, dis⟩ := nd
    have hx2 : ∀ x ∈ T.nmL ts, hsum w (t.hd n) x = 0 := fun x hx => hz1 w t n x (fun z => hn.2 (z ▸ hx)) fun z => dis x z x hx rfl
    have hx1 : ∀ x ∈ t.nm, hsum w (T.hdL ts n) x = 0 := fun x hx => hzL w ts n x (fun z => hn.1 (z ▸ hx)) fun z => dis x hx x z rfl
    have sp : ∀ x, hsum w (T.hdL (t :: ts) n) x = hsum w (t.hd n) x + hsum w (T.hdL ts n) x := fun x => by rw [T.hdL, hsum_app]
    obtain ⟨i1, i2, i3⟩ := subL ts n h hn.2 nd2 fun x hx => by rw [hh x (.inr hx), sp, hx2 x hx]; omega
    obtain ⟨j1, j2, j3⟩ := sub1 t n (prK (T.knL ts (some n)) h) hn.1 nd1 fun x hx => by
      rw [i3 x (fun z => dis x hx x z rfl) fun z => hn.1 (z ▸ hx), hh x (.inl hx), sp, hx1 x hx]; omega
    rw [T.knL, prK_app]
    refine ⟨fun q hq => ?_, ?_, fun x hx hxn => ?_⟩
    · rw [T.loL] at hq
      rcases List.mem_append.mp hq with hq | hq
      · exact j1 q hq
      · have hm : q.1 ∈ T.nmL ts := by rw [← T.loL_nm ts (some n)]; exact List.mem_map.mpr ⟨q, hq, rfl⟩
        rw [j3 q.1 (fun z => dis _ z _ hm rfl) fun z => hn.2 (z ▸ hm)]
        exact i1 q hq
    · rw [j2, i2, T.lvL, wsum_app, sp]; omega
    · simp only [T.nmL, List.mem_append, not_or] at hx
      rw [j3 x hx.1 hxn, i3 x hx.2 hxn]
end
end
/-- each arc's sum -/
def sumsOf (cs : List Str) (ws : List Int) (t1 t2 : T) : List Int := (arcL cs t1 t2).map fun a => sumOf cs ws a.2
theorem sumOf_cons {c : Str} {cs : List Str} {v : Int} {ws : List Int} {x : Str} : sumOf (c :: cs) (v :: ws) [x] = at1 x c v + sumOf cs ws [x] := by
  unfold sumOf at1
  rw [List.zip_cons_cons, List.filter_cons]
  by_cases e : x = c
  · subst e
    simp
  · have e2 : ¬ c = x := fun z => e z.symm
    simp [e, e2]
theorem sumOf_out {x : Str} : ∀ {cs : List Str} {ws : List Int}, x ∉ cs → sumOf cs ws [x] = 0
  | [], _, _ => by simp [sumOf]
  | c :: cs, [], _ => by simp [sumOf]
  | c :: cs, v :: ws, h => by
    rw [List.mem_cons, not_or] at h
    rw [sumOf_cons, sumOf_out h.2]
    simp [at1, h.1]
theorem sumOf_cells : ∀ {cs : List Str} {ws : List Int}, cs.Nodup → ws.length = cs.length → cs.map (fun c => sumOf cs ws [c]) = ws
  | [], [], _, _ => rfl
  | [], _ :: _, _, h => by cases h
  | _ :: _, [], _, h => by cases h
  | c :: cs, v :: ws, nd, h => by
    rw [List.nodup_cons] at nd
    have ih := sumOf_cells nd.2 (by simpa using h)
    rw [List.map_cons, sumOf_cons, sumOf_out nd.1]
    have e : cs.map (fun x => sumOf (c :: cs) (v :: ws) [x]) = cs.map fun x => sumOf cs ws [x] := List.map_congr_left fun x hx => by
      rw [sumOf_cons]
      have : x ≠ c := fun z => nd.1 (z ▸ hx)
      simp [at1, this]
    rw [e, ih]
    simp [at1]
theorem sumOf_wsum {cs : List Str} {ws : List Int} {ls : List Str} (h : ls.Nodup) : sumOf cs ws ls = wsum (fun c => sumOf cs ws [c]) ls := zsum_each h _
theorem sums_plain {cs : List Str} {ws : List Int} {t1 t2 : T} (a : In4 cs t1 t2) (hl : ws.length = cs.length) {h : Str → Int}
    (hh : ∀ x ∈ t1.nm ++ t2.nm, h x = (cs.map fun c => at1 x (hOf t1 c) (sumOf cs ws [c])).sum + (cs.map fun c => at1 x (hOf t2 c) (sumOf cs ws [c])).sum) :
    (prK (t1.kn none).tail (prK (t2.kn none).tail h) (root t1) :: (((k1 t1).map fun q => prK (t1.kn none).tail (prK (t2.kn none).tail h) q.1) ++ ((k2 t2).map fun q => prK (t1.kn none).tail (prK (t2.kn none).tail h) q.1))) ++ ws = sumsOf cs ws t1 t2 := by
  have nd := a.nd
  rw [List.nodup_append] at nd
  obtain ⟨nc, nt, _⟩ := nd
  rw [List.nodup_append] at nt
  obtain ⟨nt1, nt2, dis⟩ := nt
  have d1 : t1.lv.Nodup := a.l1.nodup_iff.mpr nc
  have d2 : t2.lv.Nodup := a.l2.nodup_iff.mpr nc
  obtain ⟨w, hw⟩ : ∃ w : Str → Int, w = fun c => sumOf cs ws [c] := ⟨_, rfl⟩
  have hcells := sumOf_cells (ws := ws) nc hl
  have hh : ∀ x ∈ t1.nm ++ t2.nm, h x = hsum w (t1.hd Str.empty) x + hsum w (t2.hd Str.empty) x := fun x hx => by
    rw [hh x hx, hsum_cells d1 a.l1, hsum_cells d2 a.l2, hw]
  have hs : ∀ ls : List Str, ls.Nodup → sumOf cs ws ls = wsum w ls := fun ls h => by rw [hw]; exact sumOf_wsum h
  have i1 := a.n1
  have i2 := a.n2
  cases t1 with
  | leaf c => cases i1
  | node n1 p1 =>
    cases t2 with
    | leaf c => cases i2
    | node n2 p2 =>
      simp only [T.nm, List.nodup_cons] at nt1 nt2
      have hd1 : T.hd (.node n1 p1) Str.empty = T.hdL p1 n1 := rfl
      have hd2 : T.hd (.node n2 p2) Str.empty = T.hdL p2 n2 := rfl
      rw [hd1, hd2] at hh
      have m1 : ∀ x, x = n1 ∨ x ∈ T.nmL p1 → hsum w (T.hdL p2 n2) x = 0 := fun x hx => by
        have hx' : x ∈ T.nm (.node n1 p1) := by simp only [T.nm, List.mem_cons]; exact hx
        refine hzL w p2 n2 x (fun z => dis x hx' n2 (by simp [T.nm]) z) fun z => dis x hx' x (by simp [T.nm, z]) rfl
      have m2 : ∀ x, x ∈ T.nmL p2 → hsum w (T.hdL p1 n1) x = 0 := fun x hx => by
        have hx' : x ∈ T.nm (.node n2 p2) := by simp only [T.nm, List.mem_cons]; exact .inr hx
        refine hzL w p1 n1 x (fun z => dis n1 (by simp [T.nm]) x hx' z.symm) fun z => dis x (by simp [T.nm, z]) x hx' rfl
      have mem2 : ∀ x, x ∈ T.nmL p2 → x ∈ T.nm (.node n1 p1) ++ T.nm (.node n2 p2) := fun x hx => by simp [T.nm, hx]
      have mem1 : ∀ x, x = n1 ∨ x ∈ T.nmL p1 → x ∈ T.nm (.node n1 p1) ++ T.nm (.node n2 p2) := fun x hx => by
        rcases hx with rfl | hx <;> simp [T.nm, *]
      obtain ⟨b1, b2, b3⟩ := subL w p2 n2 h nt2.1 nt2.2 fun x hx => by rw [hh x (mem2 x hx), m2 x hx]; omega
      have un : ∀ x, x = n1 ∨ x ∈ T.nmL p1 → prK (T.knL p2 (some n2)) h x = hsum w (T.hdL p1 n1) x := fun x hx => by
        have hx' : x ∈ T.nm (.node n1 p1) := by simp only [T.nm, List.mem_cons]; exact hx
        rw [b3 x (fun z => dis x hx' x (by simp [T.nm, z]) rfl) (fun z => dis x hx' n2 (by simp [T.nm]) z), hh x (mem1 x hx), m1 x hx]; omega
      obtain ⟨c1, c2, c3⟩ := subL w p1 n1 (prK (T.knL p2 (some n2)) h) nt1.1 nt1.2 fun x hx => un x (.inr hx)
      rw [un n1 (.inl rfl)] at c2
      unfold sumsOf arcL
      simp only [T.kn, T.lo, List.tail_cons, root, List.filterMap_cons, Option.map_none, List.map_cons, List.map_append, List.cons_append, List.append_assoc, List.map_map]
      have r0 : prK (T.knL p1 (some n1)) (prK (T.knL p2 (some n2)) h) n1 = sumOf cs ws (T.lv (.node n1 p1)) := by
        rw [c2, hs _ d1]
        show _ = wsum w (T.lvL p1)
        omega
      have part : ∀ (p : List T) (n : Str) (g : Str → Str → Str × Str × Str) (H : Str → Int), (T.lvL p).Nodup → (∀ q ∈ T.loL p (some n), H q.1 = wsum w q.2.1) →
          (T.knL p (some n)).map (fun q => H q.1) = ((T.loL p (some n)).filterMap (fun q => q.2.2.map fun a => (g q.1 a, q.2.1))).map (fun a => sumOf cs ws a.2) := fun p n g H nd hq => by
        have e : (T.knL p (some n)).map (fun q => H q.1) = (T.loL p (some n)).map fun q => H q.1 := by
          rw [← T.loL_knL, List.map_map]; rfl
        rw [e]
        have hsome := loL_some (ts := p) (n := n)
        have hndd := loL_nodup p (some n) nd
        generalize T.loL p (some n) = l at hq hsome hndd
        induction l with
        | nil => rfl
        | cons q l ih =>
          have ih := ih (fun z hz => hq z (List.mem_cons_of_mem _ hz)) (fun z hz => hsome z (List.mem_cons_of_mem _ hz)) fun z hz => hndd z (List.mem_cons_of_mem _ hz)
          obtain ⟨y, hy⟩ := Option.isSome_iff_exists.mp (hsome q List.mem_cons_self)
          rw [List.map_cons, ih, List.filterMap_cons, hy]
          simp only [Option.map_some, List.map_cons]
          rw [hq q List.mem_cons_self, hs _ (hndd q List.mem_cons_self)]
      have pa := part p1 n1 (fun x a => (x, a, x)) _ d1 c1
      have pb := part p2 n2 (fun x a => (x, x, a)) (prK (T.knL p1 (some n1)) (prK (T.knL p2 (some n2)) h)) d2 fun q hq => by
        have hm : q.1 ∈ T.nmL p2 := by rw [← T.loL_nm p2 (some n2)]; exact List.mem_map.mpr ⟨q, hq, rfl⟩
        have hx' : q.1 ∈ T.nm (.node n2 p2) := by simp only [T.nm, List.mem_cons]; exact .inr hm
        rw [c3 q.1 (fun z => dis q.1 (by simp [T.nm, z]) q.1 hx' rfl) fun z => dis n1 (by simp [T.nm]) q.1 hx' z.symm]
        exact b1 q hq
      have pc : cs.map ((fun a => sumOf cs ws a.2) ∘ fun c => ((c, hOf (.node n1 p1) c, hOf (.node n2 p2) c), [c])) = ws := hcells
      rw [r0, pc, ← pa, ← pb]
      simp only [k1, k2, T.kn, List.tail_cons, List.map_map]
      rfl
end PV

set_option Elab.async false
set_option linter.all false
set_option maxRecDepth 100000
set_option maxHeartbeats 1000000
/-! sums_of, is_counts, is_world, by PV. -/
namespace PV
open PySem
/-- numbers of names -/
def HdOk (kvs : List (L2.Key × D)) (K : List Str) (h : Str → Int) : Prop := ∀ x ∈ K, valG kvs (.inr x) = some (.int (h x))
theorem HdOk.put {kvs : List (L2.Key × D)} {K : List Str} {h : Str → Int} (o : HdOk kvs K h) (y : Str) (v : Int) : HdOk (putG kvs (.inr y) (.int v)) K (updS h y v) := fun x hx => by
  rw [valG_put]
  unfold updS
  by_cases e : x = y
  · subst e
    rw [if_pos rfl, if_pos rfl]
  · rw [if_neg fun z => e (Sum.inr.inj z), if_neg e]
    exact o x hx
theorem d_ix0 {t : T} (h : t.isNode = true) (S : Store) : ixD t.d (.int 0) S = some (.str (root t)) := by
  cases t with
  | leaf c => cases h
  | node n p => rfl
theorem updS_add {h : Str → Int} {b : Str} {v : Int} : updS h b (h b + v) = fun x => h x + at1 x b v := by
  funext x
  unfold updS at1
  by_cases e : x = b
  · subst e; simp
  · simp [e]
theorem HdOk.add {kvs : List (L2.Key × D)} {K : List Str} {h : Str → Int} (o : HdOk kvs K h) (y : Str) (v : Int) : HdOk (putG kvs (.inr y) (.int (h y + v))) K (fun x => h x + at1 x y v) := by
  rw [← updS_add]
  exact o.put y _
mutual
theorem hd_nm : ∀ (t : T) (n : Str), ∀ p ∈ t.hd n, p.2 = n ∨ p.2 ∈ t.nm
  | .leaf c, n => fun p hp => by simp [T.hd] at hp; subst hp; exact .inl rfl
  | .node m ps, n => fun p hp => .inr (by
    rw [T.nm, List.mem_cons]
    exact hdL_nm ps m p hp)
theorem hdL_nm : ∀ (ts : List T) (n : Str), ∀ p ∈ T.hdL ts n, p.2 = n ∨ p.2 ∈ T.nmL ts
  | [], n => fun p hp => by simp [T.hdL] at hp
  | t :: ts, n => fun p hp => by
    rw [T.hdL] at hp
    rw [T.nmL, List.mem_append]
    rcases List.mem_append.mp hp with hp | hp
    · exact (hd_nm t n p hp).imp id .inl
    · exact (hdL_nm ts n p hp).imp id .inr
end
mutual
theorem kn_par : ∀ (t : T) (a : Str), ∀ p ∈ t.kn (some a), p.2.getD Str.empty = a ∨ p.2.getD Str.empty ∈ t.nm
  | .leaf c, a => fun p hp => by simp [T.kn] at hp
  | .node m ps, a => fun p hp => by
    rw [T.kn] at hp
    rw [T.nm, List.mem_cons]
    rcases List.mem_cons.mp hp with rfl | hp
    · exact .inl rfl
    · exact .inr (knL_par ps m p hp)
theorem knL_par : ∀ (ts : List T) (n : Str), ∀ p ∈ T.knL ts (some n), p.2.getD Str.empty = n ∨ p.2.getD Str.empty ∈ T.nmL ts
  | [], n => fun p hp => by simp [T.knL] at hp
  | t :: ts, n => fun p hp => by
    rw [T.knL] at hp
    rw [T.nmL, List.mem_append]
    rcases List.mem_append.mp hp with hp | hp
    · exact (kn_par t n p hp).imp id .inl
    · exact (knL_par ts n p hp).imp id .inr
end
theorem hOf_nm {t : T} {c : Str} (ht : t.isNode = true) (h : c ∈ t.lv) : hOf t c ∈ t.nm := by
  have := hOf_mem h
  cases t with
  | leaf c => cases ht
  | node n ps =>
    rw [T.nm, List.mem_cons]
    exact hdL_nm ps n _ this
theorem tail_par {t : T} (ht : t.isNode = true) : ∀ p ∈ (t.kn none).tail, p.1 ∈ t.nm ∧ p.2.getD Str.empty ∈ t.nm := by
  cases t with
  | leaf c => cases ht
  | node n ps =>
    intro p hp
    rw [T.kn, List.tail_cons] at hp
    rw [T.nm, List.mem_cons, List.mem_cons]
    exact ⟨.inr (by rw [← T.knL_nm ps (some n)]; exact List.mem_map.mpr ⟨p, hp, rfl⟩), knL_par ps n p hp⟩
/-- the numbers of the cells, at their holders -/
def cellH (t1 t2 : T) (Z : List (Str × Int)) (x : Str) : Int := (Z.map fun p => at1 x (hOf t1 p.1) p.2 + at1 x (hOf t2 p.1) p.2).sum
def stepT (tr : Str × Str × Str) (h : Str → Int) : Str → Int := up2 (tr.1, if tr.2.2 = tr.1 then tr.2.1 else tr.2.2) h
theorem fold_k1 (t : T) (h : Str → Int) : (k1 t).foldr stepT h = prK (t.kn none).tail h := by
  unfold k1 prK
  rw [List.foldr_map]
  congr 1
  funext p h
  simp [stepT]
theorem fold_k2 (t : T) (h : Str → Int) : (k2 t).foldr stepT h = prK (t.kn none).tail h := by
  unfold k2 prK
  rw [List.foldr_map]
  congr 1
  funext p h
  unfold stepT
  by_cases e : p.2.getD Str.empty = p.1
  · simp [e]
  · simp [e]
theorem cellH_all {cs : List Str} {ws : List Int} (t1 t2 : T) (nc : cs.Nodup) (hl : ws.length = cs.length) (x : Str) :
    cellH t1 t2 (cs.zip ws) x = (cs.map fun c => at1 x (hOf t1 c) (sumOf cs ws [c])).sum + (cs.map fun c => at1 x (hOf t2 c) (sumOf cs ws [c])).sum := by
  have e := sumOf_cells nc hl
  have key : ∀ (g : Str → Int) (l : List Str), l.zip (l.map g) = l.map fun c => (c, g c) := fun g l => by
    induction l with
    | nil => rfl
    | cons c l ih => rw [List.map_cons, List.zip_cons_cons, ih, List.map_cons]
  have e2 : cs.zip ws = cs.map fun c => (c, sumOf cs ws [c]) := by
    have := key (fun c => sumOf cs ws [c]) cs
    rw [e] at this
    exact this
  unfold cellH
  rw [e2, List.map_map]
  exact sum_add (f := fun c => at1 x (hOf t1 c) (sumOf cs ws [c])) (g := fun c => at1 x (hOf t2 c) (sumOf cs ws [c])) cs
def bSums (iAr : Nat) : S := .cons (.set 2 (.call iAr (.cons (.v 0) (.nil)))) (.cons (.set 3 (.sl (.v 2) (.int 1) (.bin .sub (.bi .len (.cons (.v 2) (.nil))) (.bi .len (.cons (.v 1) (.nil)))))) (.cons (.set 4 (.dd2 (.ix (.ix (.v 0) (.int 1)) (.int 0)) (.int 0) (.ix (.ix (.v 0) (.int 2)) (.int 0)) (.int 0))) (.cons (.for (.nm 5) (.q (.v 3)) (.cons (.six (.v 4) (.ix (.v 5) (.int 0)) (.int 0)) (.nil))) (.cons (.for (.tup (.cons (.nm 6) (.cons (.tup (.cons (.nm 7) (.cons (.nm 8) (.cons (.nm 9) (.nil))))) (.nil)))) (.qz2 (.v 1) (.sl (.v 2) (.bin .sub (.bi .len (.cons (.v 2) (.nil))) (.bi .len (.cons (.v 1) (.nil)))) .nil)) (.cons (.aix (.v 4) (.v 8) .add (.v 6)) (.cons (.aix (.v 4) (.v 9) .add (.v 6)) (.nil)))) (.cons (.for (.tup (.cons (.nm 10) (.cons (.nm 8) (.cons (.nm 9) (.nil))))) (.qv (.v 3)) (.cons (.set 11 (.ite (.cmp .eq (.v 9) (.v 10)) (.v 8) (.v 9))) (.cons (.six (.v 4) (.v 11) (.bin .add (.ix (.v 4) (.v 11)) (.ix (.v 4) (.v 10)))) (.nil)))) (.cons (.ret (.bin .add (.bin .add (.tup (.cons (.ix (.v 4) (.ix (.ix (.v 0) (.int 1)) (.int 0))) (.nil))) (.bi .tuple (.cons (.lc [("arc", 5)] (.nm 5) (.q (.v 3)) .nil (.ix (.v 4) (.ix (.v 5) (.int 0)))) (.nil)))) (.v 1))) (.nil)))))))
section
variable {P : List Df} {m f n : Nat} {ps qs rs : List Str}
theorem sp_sums {iK iH iAr iPl : Nat} (pp : ProgP P iK iH iAr iPl) (h : P[f]? = some ⟨2, 12, [], ps, bSums iAr⟩) (hm : 10000 < m) {cs : List Str} {t1 t2 : T} (a : In4 cs t1 t2) (rest : List D) {ws : List Int} (hl : ws.length = cs.length) (S : Store) :
    wp (callF P m (n + 7) f [.tup (.tup (cs.map D.str) :: t1.d :: t2.d :: rest), .tup (ws.map D.int)] S) fun d S' => d = .tup ((sumsOf cs ws t1 t2).map D.int) ∧ Ext [] S S' := by
  have hb := big
  obtain ⟨_, hK⟩ := pp.k
  obtain ⟨_, hH⟩ := pp.h
  obtain ⟨_, hA⟩ := pp.a
  have ai := a.arcIn
  refine wp_callF h rfl ?_
  simp [bSums, startD]
  have d1 := a.d1
  have d2 := a.d2
  refine wp_mono (sp_arcs (n := n + 4) hK hH hA hm ai rest S (by omega) (by omega)) ?_
  rintro _ S1 ⟨rfl, x1⟩
  have eA : arcsOf cs t1 t2 = [(root t1, root t2, root t1)] ++ ((k1 t1 ++ k2 t2) ++ cs.map fun c => (c, hOf t1 c, hOf t2 c)) := by unfold arcsOf; simp
  have lA : (arcsOf cs t1 t2).length = 1 + ((k1 t1 ++ k2 t2).length + cs.length) := by rw [eA]; simp; omega
  have eint : ((arcsOf cs t1 t2).length : Int) - (ws.length : Int) = ((1 + (k1 t1 ++ k2 t2).length : Nat) : Int) := by rw [lA, hl]; omega
  have c1 : cut ((arcsOf cs t1 t2).map aD) (some 1) (some ((arcsOf cs t1 t2).length - (ws.length : Int))) = (k1 t1 ++ k2 t2).map aD := by
    rw [eint]
    have := cut_mid (xs := (arcsOf cs t1 t2).map aD) (i := 1) (j := 1 + (k1 t1 ++ k2 t2).length) (by omega) (by rw [List.length_map, lA]; omega)
    rw [show ((1 : Nat) : Int) = 1 from rfl] at this
    rw [this, ← List.map_drop, ← List.map_take, eA]
    simp
    congr 1
    rw [← List.append_assoc, List.take_left' (by simp)]
  have c2 : cut ((arcsOf cs t1 t2).map aD) (some ((arcsOf cs t1 t2).length - (ws.length : Int))) none = (cs.map fun c => (c, hOf t1 c, hOf t2 c)).map aD := by
    rw [eint, cut_lo_n, ← List.map_drop, eA]
    congr 1
    rw [← List.append_assoc, List.drop_left' (by simp; omega)]
  obtain ⟨Kn, hKn⟩ : ∃ Kn, Kn = k1 t1 ++ k2 t2 := ⟨_, rfl⟩
  rw [← hKn] at c1 lA eint
  simp [slD, c1, d_ix0 a.n1, d_ix0 a.n2]
  have nd := a.nd
  rw [List.nodup_append] at nd
  obtain ⟨nc, nt, _⟩ := nd
  have hr12 : root t2 ≠ root t1 := fun z => a.arcNd.2 (by rw [z, aNames_eq a.n1 a.n2, root_nm a.n1]; simp)
  have dd : dd2D S1.length (.str (root t1)) (.int 0) (.str (root t2)) (.int 0) (S1 ++ [.dct []]) = .ok (.ref S1.length) (S1 ++ [.dct (putG (putG [] (.inr (root t1)) (.int 0)) (.inr (root t2)) (.int 0))]) := by
    unfold dd2D
    simp [keyOf]
  rw [dd]
  simp
  obtain ⟨K, hKK⟩ : ∃ K, K = t1.nm ++ t2.nm := ⟨_, rfl⟩
  have hKmem : ∀ x, x ∈ K → x = root t1 ∨ x = root t2 ∨ x ∈ Kn.map (·.1) := fun x hx => by
    rw [hKK, root_nm a.n1, root_nm a.n2] at hx
    rw [hKn, List.map_append]
    have e1 : (k1 t1).map (·.1) = t1.nm.tail := by rw [kn_tail_nm a.n1]; simp [k1, List.map_map, Function.comp_def]
    have e2 : (k2 t2).map (·.1) = t2.nm.tail := by rw [kn_tail_nm a.n2]; simp [k2, List.map_map, Function.comp_def]
    rw [e1, e2]
    simp only [List.mem_append, List.mem_cons] at hx ⊢
    rcases hx with (h | h) | (h | h)
    · exact .inl h
    · exact .inr (.inr (.inl h))
    · exact .inr (.inl h)
    · exact .inr (.inr (.inr h))
  have lKn : Kn.length ≤ 12 := by
    have e1 : (k1 t1).length = t1.nm.tail.length := by rw [kn_tail_nm a.n1]; simp [k1]
    have e2 : (k2 t2).length = t2.nm.tail.length := by rw [kn_tail_nm a.n2]; simp [k2]
    have := a.k1
    rw [hKn, List.length_append, e1, e2, List.length_tail, List.length_tail]; omega
  have z0 := a.z0
  have ls1 := x1.len
  -- every knot gets a nothing
  obtain ⟨I, hI⟩ : ∃ I : Nat → Ls → Store → Prop, ∀ i ls S2, I i ls S2 ↔ ∃ x5 kvs, ls = [some (.tup (.tup (cs.map D.str) :: t1.d :: t2.d :: rest)), some (.tup (ws.map D.int)), some (.tup ((arcsOf cs t1 t2).map aD)), some (.tup (Kn.map aD)), some (.ref S1.length), x5, none, none, none, none, none, none] ∧
      S2[S1.length]? = some (.dct kvs) ∧ HdOk kvs (root t1 :: root t2 :: (Kn.take i).map (·.1)) (fun _ => 0) ∧ kvs.length ≤ 2 + i ∧ Ext [] S S2 := ⟨_, fun _ _ _ => Iff.rfl⟩
  refine wp_seq (ds := Kn.map aD) (.inl rfl) I (by simp; omega) ((hI _ _ _).mpr ⟨_, putG (putG [] (.inr (root t1)) (.int 0)) (.inr (root t2)) (.int 0), rfl, by simp, ?_, ?_, x1.pushed _⟩) ?_ ?_
  · intro x hx
    rw [valG_put, valG_put]
    simp only [List.take_zero, List.map_nil, List.mem_cons, List.not_mem_nil, or_false] at hx
    rcases hx with rfl | rfl
    · by_cases e : root t1 = root t2
      · exact absurd e.symm hr12
      · simp [e]
    · simp
  · have := putG_len (kvs := putG ([] : List (L2.Key × D)) (.inr (root t1)) (.int 0)) (k := .inr (root t2)) (v := D.int 0)
    have := putG_len (kvs := ([] : List (L2.Key × D))) (k := .inr (root t1)) (v := D.int 0)
    simp at this
    omega
  · intro i d ls S2 hd hi
    obtain ⟨x5, kvs, rfl, q1, q2, q3, q4⟩ := (hI _ _ _).mp hi
    rw [List.getElem?_map] at hd
    obtain ⟨b, hb2, rfl⟩ := Option.map_eq_some_iff.mp hd
    have li := lt_of_some hb2
    refine ⟨_, rfl, ?_⟩
    simp [aD, q1]
    refine ⟨by omega, (hI _ _ _).mpr ⟨_, _, rfl, set_same (Lt.of q1), fun x hx => ?_, ?_, q4.setN ls1 _⟩⟩
    · rw [valG_put]
      by_cases e : x = b.1
      · subst e; simp
      · rw [if_neg fun z => e (Sum.inr.inj z)]
        refine q2 x ?_
        rw [take_at hb2] at hx
        simpa [e] using hx
    · have := putG_len (kvs := kvs) (k := .inr b.1) (v := D.int 0); omega
  · intro ls S2 hi
    obtain ⟨x5, kvs, rfl, q1, q2, q3, q4⟩ := (hI _ _ _).mp hi
    rw [List.length_map] at q2 q3
    rw [List.take_length] at q2
    have q2 : HdOk kvs K fun _ => 0 := fun x hx => q2 x (by
      rcases hKmem x hx with h | h | h
      · rw [h]; exact List.mem_cons_self
      · rw [h]; exact List.mem_cons_of_mem _ List.mem_cons_self
      · exact List.mem_cons_of_mem _ (List.mem_cons_of_mem _ h))
    clear hI hi
    simp [slD, c2]
    have hK1 : ∀ c ∈ cs, hOf t1 c ∈ K := fun c hc => by rw [hKK]; exact List.mem_append_left _ (hOf_nm a.n1 (ai.l1 c hc))
    have hK2 : ∀ c ∈ cs, hOf t2 c ∈ K := fun c hc => by rw [hKK]; exact List.mem_append_right _ (hOf_nm a.n2 (ai.l2 c hc))
    have lp : (pairL (ws.map D.int) (cs.map (aD ∘ fun c => (c, hOf t1 c, hOf t2 c)))).length = cs.length := by simp [pairL, hl]
    obtain ⟨I, hI⟩ : ∃ I : Nat → Ls → Store → Prop, ∀ i ls S2, I i ls S2 ↔ ∃ x5 x6 x7 x8 x9 kvs, ls = [some (.tup (.tup (cs.map D.str) :: t1.d :: t2.d :: rest)), some (.tup (ws.map D.int)), some (.tup ((arcsOf cs t1 t2).map aD)), some (.tup (Kn.map aD)), some (.ref S1.length), x5, x6, x7, x8, x9, none, none] ∧
        S2[S1.length]? = some (.dct kvs) ∧ HdOk kvs K (cellH t1 t2 ((cs.zip ws).take i)) ∧ kvs.length ≤ 20 + 2 * i ∧ Ext [] S S2 := ⟨_, fun _ _ _ => Iff.rfl⟩
    refine wp_its (ds := pairL (ws.map D.int) (cs.map (aD ∘ fun c => (c, hOf t1 c, hOf t2 c)))) I (fun i ls S hi _ => nx_zip2 rfl rfl hi) (by omega) ((hI _ _ _).mpr ⟨x5, none, none, none, none, kvs, rfl, q1, fun x hx => by simpa [cellH] using q2 x hx, by omega, q4⟩) ?_ ?_
    · intro i d ls S3 hd hi
      obtain ⟨x5, x6, x7, x8, x9, kvs, rfl, q1, q2, q3, q4⟩ := (hI _ _ _).mp hi
      have li := lt_of_some hd
      rw [lp] at li
      have g1 := List.getElem?_eq_getElem li
      have g2 := List.getElem?_eq_getElem (show i < ws.length by omega)
      have gz : (cs.zip ws)[i]? = some (cs[i], ws[i]) := by rw [List.getElem?_zip_eq_some]; exact ⟨g1, g2⟩
      unfold pairL at hd
      rw [List.getElem?_zipWith, List.getElem?_map, List.getElem?_map, g1, g2] at hd
      simp at hd
      subst hd
      generalize cs[i] = c at *
      generalize ws[i] = v at *
      have hc := List.mem_of_getElem? g1
      have v1 := q2 _ (hK1 c hc)
      have w2 := q2.add (hOf t1 c) v
      have v2 := w2 _ (hK2 c hc)
      have w3 := w2.add (hOf t2 c) v
      refine ⟨_, rfl, ?_⟩
      simp [aD, q1, v1, v2, set_same (Lt.of q1)]
      have l1 := putG_len (kvs := kvs) (k := .inr (hOf t1 c)) (v := D.int (cellH t1 t2 ((cs.zip ws).take i) (hOf t1 c) + v))
      have l2 := putG_len (kvs := putG kvs (.inr (hOf t1 c)) (.int (cellH t1 t2 ((cs.zip ws).take i) (hOf t1 c) + v))) (k := .inr (hOf t2 c)) (v := D.int (cellH t1 t2 ((cs.zip ws).take i) (hOf t2 c) + at1 (hOf t2 c) (hOf t1 c) v + v))
      refine ⟨by omega, by omega, (hI _ _ _).mpr ⟨_, _, _, _, _, _, rfl, set_same (Lt.of q1), fun x hx => ?_, by omega, q4.setN ls1 _⟩⟩
      rw [w3 x hx, take_at gz]
      unfold cellH
      rw [List.map_append, List.sum_append]
      simp
      omega
    · intro ls S3 hi
      obtain ⟨x5, x6, x7, x8, x9, kvs, rfl, q1, q2, q3, q4⟩ := (hI _ _ _).mp hi
      rw [lp] at q2 q3
      have ez : (cs.zip ws).take cs.length = cs.zip ws := List.take_of_length_le (by rw [List.length_zip]; omega)
      rw [ez] at q2
      clear hI hi
      simp
      obtain ⟨h5, hh5⟩ : ∃ h5, h5 = cellH t1 t2 (cs.zip ws) := ⟨_, rfl⟩
      rw [← hh5] at q2
      have hK3 : ∀ tr ∈ Kn, tr.1 ∈ K ∧ (if tr.2.2 = tr.1 then tr.2.1 else tr.2.2) ∈ K := fun tr htr => by
        rw [hKn] at htr
        rcases List.mem_append.mp htr with h | h
        · obtain ⟨p, hp, rfl⟩ := List.mem_map.mp h
          obtain ⟨z1, z2⟩ := tail_par a.n1 p hp
          rw [hKK]
          simp [z1, z2]
        · obtain ⟨p, hp, rfl⟩ := List.mem_map.mp h
          obtain ⟨z1, z2⟩ := tail_par a.n2 p hp
          rw [hKK]
          refine ⟨by simp [z1], ?_⟩
          by_cases e : p.2.getD Str.empty = p.1
          · simp [e, z1]
          · simp [e, z2]
      obtain ⟨I, hI⟩ : ∃ I : Nat → Ls → Store → Prop, ∀ i ls S2, I i ls S2 ↔ ∃ x5 x6 x7 x8 x9 x10 x11 kvs, ls = [some (.tup (.tup (cs.map D.str) :: t1.d :: t2.d :: rest)), some (.tup (ws.map D.int)), some (.tup ((arcsOf cs t1 t2).map aD)), some (.tup (Kn.map aD)), some (.ref S1.length), x5, x6, x7, x8, x9, x10, x11] ∧
          S2[S1.length]? = some (.dct kvs) ∧ HdOk kvs K ((Kn.reverse.take i).foldl (fun h tr => stepT tr h) h5) ∧ kvs.length ≤ 200 + i ∧ Ext [] S S2 := ⟨_, fun _ _ _ => Iff.rfl⟩
      refine wp_its (ds := (Kn.map aD).reverse) I (fun i ls S hi _ => by have := nx_rev (d := .tup (Kn.map aD)) (xs := Kn.map aD) (i := i) (S := S) rfl; rw [List.length_map] at this; exact this) (by simp; omega) ((hI _ _ _).mpr ⟨x5, x6, x7, x8, x9, none, none, kvs, rfl, q1, q2, by omega, q4⟩) ?_ ?_
      · intro i d ls S4 hd hi
        obtain ⟨x5, x6, x7, x8, x9, x10, x11, kvs, rfl, q1, q2, q3, q4⟩ := (hI _ _ _).mp hi
        have li := lt_of_some hd
        rw [List.length_reverse, List.length_map] at li
        rw [← List.map_reverse, List.getElem?_map] at hd
        obtain ⟨tr, htr, rfl⟩ := Option.map_eq_some_iff.mp hd
        obtain ⟨z1, z2⟩ := hK3 tr (List.mem_reverse.mp (List.mem_of_getElem? htr))
        refine ⟨_, rfl, ?_⟩
        simp [aD]
        obtain ⟨ab, hab⟩ : ∃ ab, ab = if tr.2.2 = tr.1 then tr.2.1 else tr.2.2 := ⟨_, rfl⟩
        rw [← hab] at z2
        have v1 := q2 _ z1
        have v2 := q2 _ z2
        have w3 := q2.put ab ((Kn.reverse.take i).foldl (fun h tr => stepT tr h) h5 ab + (Kn.reverse.take i).foldl (fun h tr => stepT tr h) h5 tr.1)
        have fin : ∀ x9 x10 x11, kvs.length < sizeLine ∧ I (i + 1) [some (.tup (.tup (cs.map D.str) :: t1.d :: t2.d :: rest)), some (.tup (ws.map D.int)), some (.tup ((arcsOf cs t1 t2).map aD)), some (.tup (Kn.map aD)), some (.ref S1.length), x5, x6, x7, some (.str tr.2.1), x9, x10, x11]
            (S4.set S1.length (.dct (putG kvs (.inr ab) (.int ((Kn.reverse.take i).foldl (fun h tr => stepT tr h) h5 ab + (Kn.reverse.take i).foldl (fun h tr => stepT tr h) h5 tr.1))))) := fun x9 x10 x11 => by
          refine ⟨by omega, (hI _ _ _).mpr ⟨_, _, _, _, _, _, _, _, rfl, set_same (Lt.of q1), ?_, ?_, q4.setN ls1 _⟩⟩
          · rw [take_at htr, List.foldl_append, List.foldl_cons, List.foldl_nil]
            rw [show stepT tr ((Kn.reverse.take i).foldl (fun h tr => stepT tr h) h5) = updS ((Kn.reverse.take i).foldl (fun h tr => stepT tr h) h5) ab ((Kn.reverse.take i).foldl (fun h tr => stepT tr h) h5 ab + (Kn.reverse.take i).foldl (fun h tr => stepT tr h) h5 tr.1) from by unfold stepT up2; rw [← hab]]
            exact w3
          · have := putG_len (kvs := kvs) (k := .inr ab) (v := D.int ((Kn.reverse.take i).foldl (fun h tr => stepT tr h) h5 ab + (Kn.reverse.take i).foldl (fun h tr => stepT tr h) h5 tr.1)); omega
        by_cases e : tr.2.2 = tr.1
        · rw [if_pos e] at hab
          subst hab
          simp [e, q1, v1, v2]
          exact fin _ _ _
        · rw [if_neg e] at hab
          subst hab
          simp [e, q1, v1, v2]
          exact fin _ _ _
      · intro ls S4 hi
        obtain ⟨x5, x6, x7, x8, x9, x10, x11, kvs, rfl, q1, q2, q3, q4⟩ := (hI _ _ _).mp hi
        have er : Kn.reverse.take (Kn.map aD).reverse.length = Kn.reverse := List.take_of_length_le (by simp)
        rw [er, List.foldl_reverse] at q2
        have ef : Kn.foldr (fun x y => stepT x y) h5 = prK (t1.kn none).tail (prK (t2.kn none).tail h5) := by
          show Kn.foldr stepT h5 = _
          rw [hKn, List.foldr_append, fold_k2, fold_k1]
        rw [ef] at q2
        clear hI hi
        have hr1 : root t1 ∈ K := by rw [hKK, root_nm a.n1]; simp
        simp [d_ix0 a.n1, q1, q2 _ hr1]
        refine ⟨by omega, ?_⟩
        obtain ⟨h7, hh7⟩ : ∃ h7, h7 = prK (t1.kn none).tail (prK (t2.kn none).tail h5) := ⟨_, rfl⟩
        rw [← hh7] at q2 ⊢
        obtain ⟨I, hI⟩ : ∃ I : Nat → List D → Store → Prop, ∀ i acc S5, I i acc S5 ↔ acc = (Kn.take i).map (fun tr => D.int (h7 tr.1)) ∧ Ext [] S4 S5 := ⟨_, fun _ _ _ => Iff.rfl⟩
        refine wp_lcT (ds := Kn.map aD) (.inl rfl) I (by simp; omega) ((hI _ _ _).mpr ⟨rfl, Ext.push _ _ _⟩) (by simp) ?_ ?_
        · intro i d acc S5 hd hi hr5
          obtain ⟨rfl, y⟩ := (hI _ _ _).mp hi
          rw [List.getElem?_map] at hd
          obtain ⟨tr, htr, rfl⟩ := Option.map_eq_some_iff.mp hd
          have v1 := q2 _ (hK3 tr (List.mem_of_getElem? htr)).1
          have li := lt_of_some htr
          have w1 := y.at_ _ _ q1 (by simp)
          refine ⟨_, rfl, ?_⟩
          unfold lcTurn
          simp [aD, w1, v1]
          refine ⟨by simpa using hr5, by omega, (hI _ _ _).mpr ⟨by rw [take_at htr]; simp, y.setN (Nat.le_refl _) _⟩⟩
        · intro acc S5 hi hr5
          obtain ⟨rfl, y⟩ := (hI _ _ _).mp hi
          rw [List.length_map, List.take_length] at hr5
          simp [hr5]
          refine ⟨by omega, by omega, ?_, q4.trans y⟩
          have sp := sums_plain (ws := ws) a hl (h := h5) fun x hx => by rw [hh5]; exact cellH_all t1 t2 nc hl x
          rw [← hh7] at sp
          rw [← sp, hKn]
          simp [List.map_append, List.map_map, Function.comp_def]
end
end PV

set_option Elab.async false
set_option linter.all false
set_option maxRecDepth 100000
set_option maxHeartbeats 1000000
/-! is_counts, is_world, by PV. -/
namespace PV
open PySem
/-- what isinstance is asked of -/
def sc1 : D → Bool
  | .non => true | .bl _ => true | .int _ => true | .str _ => true | .tup _ => true
  | _ => false
def isI : D → Bool
  | .int _ => true
  | _ => false
def nn : D → Bool
  | .int i => decide (0 ≤ i)
  | _ => false
def toI : D → Int
  | .int i => i
  | _ => 0
/-- what is_world is asked of -/
def ScV : D → Prop
  | .non => True | .bl _ => True | .int _ => True | .str _ => True
  | .tup ds => ds.length ≤ 5000 ∧ ∀ d ∈ ds, sc1 d = true
  | _ => False
def rowB (n : Nat) : D → Bool
  | .tup ds => decide (ds.length = n) && ds.all nn
  | _ => false
theorem rowB_ok {n : Nat} {v : D} (h : rowB n v = true) : ∃ ws : List Int, v = .tup (ws.map D.int) ∧ ws.length = n ∧ ∀ w ∈ ws, 0 ≤ w := by
  cases v with
  | tup ds =>
    simp only [rowB, Bool.and_eq_true, decide_eq_true_eq] at h
    refine ⟨ds.map toI, ?_, by rw [List.length_map]; exact h.1, fun w hw => ?_⟩
    · rw [List.map_map]
      congr 1
      conv => lhs; rw [← List.map_id ds]
      refine List.map_congr_left fun d hd => ?_
      have := List.all_eq_true.mp h.2 d hd
      cases d with
      | int i => rfl
      | _ => simp [nn] at this
    · obtain ⟨d, hd, rfl⟩ := List.mem_map.mp hw
      have := List.all_eq_true.mp h.2 d hd
      cases d with
      | int i => simpa [nn, toI] using this
      | _ => simp [nn] at this
  | _ => simp [rowB] at h
theorem asBls_map : ∀ bs : List Bool, asBls (bs.map D.bl) = some bs
  | [] => rfl
  | b :: bs => by rw [List.map_cons, asBls, asBls_map bs]; rfl
theorem asBls_mapf {α : Type} {g : α → Bool} (ds : List α) : asBls (ds.map (D.bl ∘ g)) = some (ds.map g) := by
  rw [← asBls_map, List.map_map]
def bWhole : S := .cons (.ret (.bo true (.cons (.isi .int (.v 0)) (.cons (.no (.isi .bool (.v 0))) (.nil))))) (.nil)
def bCounts (iW : Nat) : S := .cons (.ite (.bo false (.cons (.no (.isi .tuple (.v 1))) (.cons (.cmp .ne (.bi .len (.cons (.v 1) (.nil))) (.bi .len (.cons (.ix (.v 0) (.int 0)) (.nil)))) (.nil)))) (.cons (.ret (.bl false)) (.nil)) (.nil)) (.cons (.ret (.bi .all (.cons (.lc [("item", 2)] (.nm 2) (.q (.v 1)) .nil (.bo true (.cons (.call iW (.cons (.v 2) (.nil))) (.cons (.cmp .ge (.v 2) (.int 0)) (.nil))))) (.nil)))) (.nil))
section
variable {P : List Df} {m f n : Nat} {ps qs rs : List Str}
theorem sp_whole (h : P[f]? = some ⟨1, 1, [], ps, bWhole⟩) (d : D) (hd : sc1 d = true) (S : Store) : wp (callF P m (n + 1) f [d] S) fun r S' => r = .bl (isI d) ∧ S' = S := by
  refine wp_callF h rfl ?_
  cases d <;> first | (simp [sc1] at hd; done) | simp [bWhole, startD, isiD, isI]
theorem sp_counts {iW : Nat} (hW : P[iW]? = some ⟨1, 1, [], ps, bWhole⟩) (h : P[f]? = some ⟨2, 3, [], qs, bCounts iW⟩) (hm : 10000 < m) {cs : List Str} (rest : List D) (v : D) (hv : ScV v) (S : Store) :
    wp (callF P m (n + 2) f [.tup (.tup (cs.map D.str) :: rest), v] S) fun r S' => r = .bl (rowB cs.length v) ∧ Ext [] S S' := by
  have hb := big
  refine wp_callF h rfl ?_
  cases v with
  | tup ds =>
    obtain ⟨z1, z2⟩ := hv
    simp [bCounts, startD, isiD]
    by_cases e : ds.length = cs.length
    · have e' : ((ds.length : Int) = (cs.length : Int)) := by omega
      simp [e', rowB, e]
      obtain ⟨I, hI⟩ : ∃ I : Nat → List D → Store → Prop, ∀ i acc S5, I i acc S5 ↔ acc = ((ds.take i).map nn).map D.bl ∧ Ext [] S S5 := ⟨_, fun _ _ _ => Iff.rfl⟩
      refine wp_lcT (ds := ds) (.inl rfl) I (by omega) ((hI _ _ _).mpr ⟨rfl, Ext.push _ _ _⟩) (by simp) ?_ ?_
      · intro i d acc S5 hd hi hr5
        obtain ⟨rfl, y⟩ := (hI _ _ _).mp hi
        have li := lt_of_some hd
        refine ⟨_, rfl, ?_⟩
        unfold lcTurn
        simp
        refine wp_mono (sp_whole (n := n) hW d (z2 d (List.mem_of_getElem? hd)) S5) ?_
        rintro _ S6 ⟨rfl, rfl⟩
        have fin : ∀ b, b = nn d → S6[S.length]? = some (O.lst (((ds.take i).map nn).map D.bl)) ∧ (((ds.take i).map nn).map D.bl).length < sizeLine ∧ I (i + 1) (((ds.take i).map nn).map D.bl ++ [.bl b]) (S6.set S.length (.lst (((ds.take i).map nn).map D.bl ++ [.bl b]))) := fun b hb => by
          refine ⟨hr5, by simp; omega, (hI _ _ _).mpr ⟨by rw [take_at hd]; simp [hb], y.setN (Nat.le_refl _) _⟩⟩
        cases d with
        | int j =>
          simp [isI]
          simpa using fin (decide (0 ≤ j)) rfl
        | exv c es => have := z2 _ (List.mem_of_getElem? hd); simp [sc1] at this
        | rol es => have := z2 _ (List.mem_of_getElem? hd); simp [sc1] at this
        | ref es => have := z2 _ (List.mem_of_getElem? hd); simp [sc1] at this
        | _ => simp [isI]; simpa using fin false rfl
      · intro acc S5 hi hr5
        obtain ⟨rfl, y⟩ := (hI _ _ _).mp hi
        rw [List.take_length] at hr5
        simp [fbD, hr5]
        rw [asBls_mapf]
        simp
        exact ⟨by simp [rowB, e], y⟩
    · have e' : ¬ ((ds.length : Int) = (cs.length : Int)) := by omega
      simp [e', rowB, e]
      exact Ext.refl _ _
  | exv c es => exact hv.elim
  | rol es => exact hv.elim
  | ref es => exact hv.elim
  | _ => simp [bCounts, startD, isiD, rowB]; exact Ext.refl _ _

/-- within its limits -/
def inLim (lo : Int) (hi : Option Int) (v : Int) : Bool := decide (lo ≤ v) && (match hi with
  | none => true
  | some h => decide (v ≤ h))
abbrev plA (cs : List Str) (t1 t2 : T) : Str → Option Nat := plO (aNames cs t1 t2) (root t2)
def worldB (cs : List Str) (t1 t2 : T) (q : Int) (items : List Item) (v : D) : Bool := match v with
  | .tup ds => rowB cs.length v && (List.range (aNames cs t1 t2).length).all fun k => inLim (lowA (plA cs t1 t2) items k) (hiA (plA cs t1 t2) q items k) ((sumsOf cs (ds.map toI) t1 t2).getD k 0)
  | _ => false
def bIsWorld (iC iL iS : Nat) : S := .cons (.ite (.no (.call iC (.cons (.ix (.v 0) (.int 0)) (.cons (.v 1) (.nil))))) (.cons (.ret (.bl false)) (.nil)) (.nil)) (.cons (.asg (.tup (.cons (.nm 2) (.cons (.nm 3) (.nil)))) (.call iL (.cons (.v 0) (.nil)))) (.cons (.set 4 (.call iS (.cons (.ix (.v 0) (.int 0)) (.cons (.v 1) (.nil))))) (.cons (.ret (.bi .all (.cons (.lc [("low", 5), ("number", 6), ("high", 7)] (.tup (.cons (.nm 5) (.cons (.nm 6) (.cons (.nm 7) (.nil))))) (.qz3 (.v 2) (.v 4) (.v 3)) .nil (.bo true (.cons (.cmp .le (.v 5) (.v 6)) (.cons (.bo false (.cons (.cmp .is (.v 7) (.non)) (.cons (.cmp .le (.v 6) (.v 7)) (.nil)))) (.nil))))) (.nil)))) (.nil))))
structure WorldP (P : List Df) (iK iH iAr iPl iW iC iL iS : Nat) : Prop where
  pp : ProgP P iK iH iAr iPl
  w : ∃ ps, P[iW]? = some ⟨1, 1, [], ps, bWhole⟩
  c : ∃ ps, P[iC]? = some ⟨2, 3, [], ps, bCounts iW⟩
  l : ∃ ps, P[iL]? = some ⟨1, 10, [], ps, bLimits iPl⟩
  s : ∃ ps, P[iS]? = some ⟨2, 12, [], ps, bSums iAr⟩
theorem sums_len {cs : List Str} {ws : List Int} {t1 t2 : T} (n1 : t1.isNode = true) (n2 : t2.isNode = true) : (sumsOf cs ws t1 t2).length = (aNames cs t1 t2).length := by
  unfold sumsOf aNames
  rw [List.length_map, List.length_map, ← arcL_arcs n1 n2, List.length_map]
theorem In4.aLen {cs : List Str} {t1 t2 : T} (a : In4 cs t1 t2) : (aNames cs t1 t2).length ≤ 5000 := by
  have ai := a.arcIn
  unfold aNames
  rw [← arcL_arcs ai.n1 ai.n2, List.length_map, List.length_map]
  have := arcL_len (cs := cs) (t1 := t1) (t2 := t2)
  have e1 := T.sz_eq t1
  have e2 := T.sz_eq t2
  have p1 := a.l1.length_eq
  have p2 := a.l2.length_eq
  have z0 := a.z0
  have k1 := a.k1
  omega
theorem range_list {α : Type} {l : List α} {d : α} {N : Nat} (h : l.length = N) : l = (List.range N).map fun k => l.getD k d := by
  apply List.ext_getElem?
  intro i
  rw [List.getElem?_map]
  by_cases c : i < N
  · rw [List.getElem?_range c, Option.map_some, List.getElem?_eq_getElem (by omega), List.getD_eq_getElem?_getD, List.getElem?_eq_getElem (by omega)]; rfl
  · rw [List.getElem?_eq_none (by omega), List.getElem?_eq_none (by simpa using c)]; rfl
theorem trip_range {N : Nat} (f g h : Nat → D) : tripL ((List.range N).map f) ((List.range N).map g) ((List.range N).map h) = (List.range N).map fun k => .tup [f k, g k, h k] := by
  apply List.ext_getElem?
  intro i
  rw [tripL_get, List.getElem?_map, List.getElem?_map, List.getElem?_map, List.getElem?_map]
  by_cases c : i < N
  · rw [List.getElem?_range c]; rfl
  · rw [List.getElem?_eq_none (by simpa using c)]; rfl
theorem sp_isworld {iK iH iAr iPl iW iC iL iS : Nat} (wp_ : WorldP P iK iH iAr iPl iW iC iL iS) (h : P[f]? = some ⟨2, 8, [], rs, bIsWorld iC iL iS⟩) (hm : 10000 < m) {cs : List Str} {t1 t2 : T} (a : In4 cs t1 t2) (q : Int) (bs told : List Item) (rest : List D)
    (hbs : ∀ b ∈ bs ++ told, plA cs t1 t2 b.1 ≠ none) (hz : (bs ++ told).length ≤ 5000) (v : D) (hv : ScV v) (S : Store) :
    wp (callF P m (n + 9) f [.tup [.tup (.tup (cs.map D.str) :: t1.d :: t2.d :: .int q :: .tup (bs.map bD) :: rest), .tup (told.map bD)], v] S) fun r S' => r = .bl (worldB cs t1 t2 q (bs ++ told) v) ∧ Ext [] S S' := by
  have hb := big
  obtain ⟨_, hW⟩ := wp_.w
  obtain ⟨_, hC⟩ := wp_.c
  obtain ⟨_, hL⟩ := wp_.l
  obtain ⟨_, hS⟩ := wp_.s
  refine wp_callF h rfl ?_
  simp [bIsWorld, startD]
  refine wp_mono (sp_counts (n := n + 6) hW hC hm (t1.d :: t2.d :: .int q :: .tup (bs.map bD) :: rest) v hv S) ?_
  rintro _ S1 ⟨rfl, x1⟩
  cases hr : rowB cs.length v with
  | false =>
    simp
    refine ⟨?_, x1⟩
    cases v <;> simp [worldB, hr]
  | true =>
    obtain ⟨ws, rfl, hl, hnn⟩ := rowB_ok hr
    simp
    refine wp_mono (sp_limits (n := n) wp_.pp hL hm a q bs told rest S1 hbs hz) ?_
    rintro _ S2 ⟨l, u, rfl, y1, y2, x2⟩
    simp
    refine wp_mono (sp_sums (n := n + 1) wp_.pp hS hm a (.int q :: .tup (bs.map bD) :: rest) hl S2) ?_
    rintro _ S3 ⟨rfl, x3⟩
    have y1 := x3.at_ _ _ y1 (by simp)
    have y2 := x3.at_ _ _ y2 (by simp)
    obtain ⟨N, hN⟩ : ∃ N, N = (aNames cs t1 t2).length := ⟨_, rfl⟩
    have aL := a.aLen
    rw [← hN] at y1 y2 aL
    have sl : (sumsOf cs ws t1 t2).length = N := by rw [hN]; exact sums_len a.n1 a.n2
    have es := range_list (d := (0 : Int)) sl
    obtain ⟨sm, hsm⟩ : ∃ sm : Nat → Int, sm = fun k => (sumsOf cs ws t1 t2).getD k 0 := ⟨_, rfl⟩
    rw [← hsm] at es
    rw [es]
    have ew : worldB cs t1 t2 q (bs ++ told) (.tup (ws.map D.int)) = (List.range N).all fun k => inLim (lowA (plA cs t1 t2) (bs ++ told) k) (hiA (plA cs t1 t2) q (bs ++ told) k) (sm k) := by
      simp only [worldB, hr, Bool.true_and, ← hN, hsm, List.map_map]
      have : ws.map (toI ∘ D.int) = ws := by rw [show toI ∘ D.int = id from rfl, List.map_id]
      rw [this]
    rw [ew]
    generalize bs ++ told = items at *
    obtain ⟨lo, hlo⟩ : ∃ lo, lo = lowA (plA cs t1 t2) items := ⟨_, rfl⟩
    obtain ⟨hi, hhi⟩ : ∃ hi, hi = hiA (plA cs t1 t2) q items := ⟨_, rfl⟩
    have y1 : S3[l]? = some (.lst ((List.range N).map (D.int ∘ lo))) := by rw [hlo]; exact y1
    have y2 : S3[u]? = some (.lst ((List.range N).map (hiD ∘ hi))) := by rw [hhi]; exact y2
    rw [← hlo, ← hhi]
    simp [y1, y2]
    have ll : (tripL ((List.range N).map (D.int ∘ lo)) ((List.range N).map (D.int ∘ sm)) ((List.range N).map (hiD ∘ hi))).length = N := by rw [trip_range]; simp
    obtain ⟨I, hI⟩ : ∃ I : Nat → List D → Store → Prop, ∀ i acc S5, I i acc S5 ↔ acc = (((List.range N).take i).map fun k => inLim (lo k) (hi k) (sm k)).map D.bl ∧ Ext [] S3 S5 := ⟨_, fun _ _ _ => Iff.rfl⟩
    refine wp_lcI (ds := tripL ((List.range N).map (D.int ∘ lo)) ((List.range N).map (D.int ∘ sm)) ((List.range N).map (hiD ∘ hi))) I (fun i acc S5 hi hj => ?_) (by omega) ((hI _ _ _).mpr ⟨rfl, Ext.push _ _ _⟩) (by simp) ?_ ?_
    · obtain ⟨rfl, y⟩ := (hI _ _ _).mp hj
      have g1 := y.at_ _ _ y1 (by simp)
      have g2 := y.at_ _ _ y2 (by simp)
      exact nx_zip3 (by simp only [seqD, g1]) rfl (by simp only [seqD, g2]) hi
    · intro i d acc S5 hd hj hr5
      obtain ⟨rfl, y⟩ := (hI _ _ _).mp hj
      have li := lt_of_some hd
      rw [ll] at li
      rw [trip_range, List.getElem?_map, List.getElem?_range li] at hd
      cases hd
      have hk : (List.range N)[i]? = some i := List.getElem?_range li
      refine ⟨_, rfl, ?_⟩
      have fin : ∀ b, b = inLim (lo i) (hi i) (sm i) → S5[S3.length]? = some (O.lst ((((List.range N).take i).map fun k => inLim (lo k) (hi k) (sm k)).map D.bl)) ∧ ((((List.range N).take i).map fun k => inLim (lo k) (hi k) (sm k)).map D.bl).length < sizeLine ∧
          I (i + 1) ((((List.range N).take i).map fun k => inLim (lo k) (hi k) (sm k)).map D.bl ++ [.bl b]) (S5.set S3.length (.lst ((((List.range N).take i).map fun k => inLim (lo k) (hi k) (sm k)).map D.bl ++ [.bl b]))) := fun b hb => by
        refine ⟨hr5, by simp; omega, (hI _ _ _).mpr ⟨by rw [take_at hk]; simp [hb], y.setN (Nat.le_refl _) _⟩⟩
      unfold lcTurn
      simp
      by_cases c1 : lo i ≤ sm i
      · simp [c1]
        cases hv : hi i with
        | none =>
          simp [hiD]
          simpa using fin true (by simp [inLim, c1, hv])
        | some g =>
          simp [hiD]
          simpa using fin (decide (sm i ≤ g)) (by simp [inLim, c1, hv])
      · simp [c1]
        simpa using fin false (by simp [inLim, c1])
    · intro acc S5 hj hr5
      obtain ⟨rfl, y⟩ := (hI _ _ _).mp hj
      rw [ll] at hr5
      have et : (List.range N).take N = List.range N := List.take_of_length_le (by simp)
      rw [et] at hr5
      simp [fbD, hr5]
      have := asBls_map ((List.range N).map fun k => inLim (lo k) (hi k) (sm k))
      simp only [List.map_map] at this
      rw [this]
      simp
      exact ((x1.trans x2).trans x3).trans y
end
end PV

set_option Elab.async false
set_option linter.all false
set_option maxRecDepth 100000
set_option maxHeartbeats 1000000
/-! The law's own bounds, by PV. -/
namespace PV
open PySem
theorem in_tup {xs : List Str} {x : Str} {S : Store} : inD (.str x) (.tup (xs.map D.str)) S = some (decide (x ∈ xs)) := by
  have h : ([O.lst (xs.map D.str)] : Store)[0]? = some (.lst (xs.map D.str)) := rfl
  have := in_strs (x := x) h
  simp only [inD, h] at this
  simp only [inD]
  exact this
def namesOf (t1 t2 : T) (x : Str) : List Str := if x ∈ [root t1, root t2] then [root t1, root t2] else [x]
theorem names_pl {cs : List Str} {t1 t2 : T} (a : In4 cs t1 t2) {x y : Str} {k : Nat} (hx : plA cs t1 t2 x = some k) : y ∈ namesOf t1 t2 x ↔ plA cs t1 t2 y = some k := by
  obtain ⟨nd, nr⟩ := a.arcNd
  have hA : aNames cs t1 t2 = root t1 :: (t1.nm.tail ++ (t2.nm.tail ++ cs)) := by rw [aNames_eq a.n1 a.n2, ← List.cons_append, ← root_nm a.n1]
  have p1 : plA cs t1 t2 (root t1) = some 0 := by
    unfold plA plO
    rw [hA]
    by_cases e : root t1 = root t2
    · simp [e]
    · simp [e]
  have p2 : plA cs t1 t2 (root t2) = some 0 := by simp [plA, plO]
  have z : ∀ y, plA cs t1 t2 y = some 0 → y = root t1 ∨ y = root t2 := fun y hy => by
    unfold plA plO at hy
    split at hy
    · rename_i e; exact .inr e
    · split at hy
      · rename_i c
        have e0 : (aNames cs t1 t2).idxOf y = 0 := Option.some.inj hy
        have hlt := List.idxOf_lt_length_iff.mpr c
        have := List.getElem_idxOf hlt
        simp only [e0] at this
        left
        rw [← this]
        simp [hA]
      · cases hy
  unfold namesOf
  by_cases c : x ∈ [root t1, root t2]
  · rw [if_pos c]
    have hk : k = 0 := by
      simp only [List.mem_cons, List.not_mem_nil, or_false] at c
      rcases c with rfl | rfl
      · exact (Option.some.inj (p1.symm.trans hx)).symm
      · exact (Option.some.inj (p2.symm.trans hx)).symm
    subst hk
    simp only [List.mem_cons, List.not_mem_nil, or_false]
    exact ⟨fun h => by rcases h with rfl | rfl <;> assumption, z y⟩
  · rw [if_neg c]
    simp only [List.mem_cons, List.not_mem_nil, or_false] at c ⊢
    constructor
    · rintro rfl; exact hx
    · intro hy
      rw [not_or] at c
      have k0 : k ≠ 0 := fun e => by subst e; exact (z x hx).elim c.1 c.2
      have gx : x ∈ aNames cs t1 t2 ∧ (aNames cs t1 t2).idxOf x = k := by
        unfold plA plO at hx
        rw [if_neg c.2] at hx
        split at hx
        · rename_i q; exact ⟨q, Option.some.inj hx⟩
        · cases hx
      have gy : y ∈ aNames cs t1 t2 ∧ (aNames cs t1 t2).idxOf y = k := by
        unfold plA plO at hy
        split at hy
        · exact absurd (Option.some.inj hy).symm k0
        · split at hy
          · rename_i q; exact ⟨q, Option.some.inj hy⟩
          · cases hy
      have lx := List.idxOf_lt_length_iff.mpr gx.1
      have ly := List.idxOf_lt_length_iff.mpr gy.1
      have ex := List.getElem_idxOf lx
      have ey := List.getElem_idxOf ly
      simp only [gx.2] at ex
      simp only [gy.2] at ey
      rw [← ex, ← ey]
def hereOf (t1 t2 : T) (items : List Item) (x : Str) : List Item := items.filter fun b => decide (b.1 ∈ namesOf t1 t2 x)
def minO : List Int → Option Int
  | [] => none
  | h :: hs => some (minL h hs)
def lawHi (t1 t2 : T) (q : Int) (items : List Item) (x : Str) : List Int := (hereOf t1 t2 items x).filterMap (·.2.2) ++ (if x ∈ [root t1, root t2] then [q] else [])
theorem fold_low {pl : Str → Option Nat} {k : Nat} {p : Item → Bool} (hp : ∀ b, p b = true ↔ pl b.1 = some k) : ∀ (items : List Item) (m : Int), items.foldl (lowF pl k) m = maxL m ((items.filter p).map (·.2.1))
  | [], m => rfl
  | b :: items, m => by
    rw [List.foldl_cons, fold_low hp items, List.filter_cons]
    unfold lowF
    by_cases c : pl b.1 = some k
    · rw [if_pos c, if_pos ((hp b).mpr c), List.map_cons, maxL]
    · rw [if_neg c, if_neg fun z => c ((hp b).mp z)]
theorem fold_hi {pl : Str → Option Nat} {k : Nat} {p : Item → Bool} (hp : ∀ b, p b = true ↔ pl b.1 = some k) : ∀ (items : List Item) (m : Option Int), items.foldl (hiF pl k) m = match m with
    | none => minO ((items.filter p).filterMap (·.2.2))
    | some g => some (minL g ((items.filter p).filterMap (·.2.2)))
  | [], none => rfl
  | [], some g => rfl
  | b :: items, m => by
    rw [List.foldl_cons, fold_hi hp items, List.filter_cons]
    unfold hiF
    by_cases c : pl b.1 = some k
    · rw [if_pos c, if_pos ((hp b).mpr c), List.filterMap_cons]
      cases hb : b.2.2 with
      | none => cases m <;> rfl
      | some h => cases m <;> rfl
    · rw [if_neg c, if_neg fun z => c ((hp b).mp z)]
theorem min_back (q : Int) (hs : List Int) : minO (hs ++ [q]) = some (minL q hs) := by
  cases hs with
  | nil => rfl
  | cons h t =>
    show some (minL h (t ++ [q])) = _
    obtain ⟨l1, l2⟩ := minL_le (h :: t) q
    congr 1
    refine minL_of ?_ fun y hy => ?_
    · rcases minL_mem (h :: t) q with e | e
      · rw [e]; simp
      · rw [← List.cons_append]
        exact List.mem_append_left _ e
    · rw [← List.cons_append] at hy
      rcases List.mem_append.mp hy with z | z
      · exact l2 y z
      · simp only [List.mem_cons, List.not_mem_nil, or_false] at z
        subst z
        exact l1
theorem law_low {cs : List Str} {t1 t2 : T} (a : In4 cs t1 t2) {x : Str} {k : Nat} (hx : plA cs t1 t2 x = some k) (items : List Item) : maxL 0 ((hereOf t1 t2 items x).map (·.2.1)) = lowA (plA cs t1 t2) items k :=
  (fold_low (fun b => by rw [decide_eq_true_eq]; exact names_pl a hx) items 0).symm
theorem law_hi {cs : List Str} {t1 t2 : T} (a : In4 cs t1 t2) {x : Str} {k : Nat} (hx : plA cs t1 t2 x = some k) (q : Int) (items : List Item) : minO (lawHi t1 t2 q items x) = hiA (plA cs t1 t2) q items k := by
  have e := fold_hi (p := fun b => decide (b.1 ∈ namesOf t1 t2 x)) (fun b => by rw [decide_eq_true_eq]; exact names_pl a hx) items (if k = 0 then some q else none)
  unfold hiA
  rw [e]
  have hk : x ∈ [root t1, root t2] ↔ k = 0 := by
    have p2 : plA cs t1 t2 (root t2) = some 0 := by simp [plA, plO]
    constructor
    · intro c
      have : root t2 ∈ namesOf t1 t2 x := by unfold namesOf; rw [if_pos c]; simp
      have := (names_pl a hx).mp this
      exact Option.some.inj (this.symm.trans p2)
    · intro c
      subst c
      have := (names_pl a hx).mpr p2
      unfold namesOf at this
      by_cases e : x ∈ [root t1, root t2]
      · exact e
      · rw [if_neg e] at this
        simp only [List.mem_cons, List.not_mem_nil, or_false] at this
        rw [← this]; simp
  unfold lawHi hereOf
  by_cases c : x ∈ [root t1, root t2]
  · rw [if_pos c, if_pos (hk.mp c), min_back]
  · rw [if_neg c, if_neg fun z => c (hk.mpr z), List.append_nil]

def bBounds : S := .cons (.asg (.tup (.cons (.nm 2) (.cons (.nm 3) (.nil)))) (.v 0)) (.cons (.set 4 (.tup (.cons (.ix (.ix (.v 2) (.int 1)) (.int 0)) (.cons (.ix (.ix (.v 2) (.int 2)) (.int 0)) (.nil))))) (.cons (.set 5 (.ite (.cmp .isin (.v 1) (.v 4)) (.v 4) (.tup (.cons (.v 1) (.nil))))) (.cons (.slc 6 [("item", 7)] (.nm 7) (.q (.bin .add (.ix (.v 2) (.int 4)) (.v 3))) (.cmp .isin (.ix (.v 7) (.int 0)) (.v 5)) (.v 7)) (.cons (.par2 8 9 (.lc [("item", 7)] (.nm 7) (.q (.v 6)) .nil (.ix (.v 7) (.int 1))) (.lc [("item", 7)] (.nm 7) (.q (.v 6)) .nil (.ix (.v 7) (.int 2)))) (.cons (.set 9 (.bin .add (.lc [("high", 10)] (.nm 10) (.q (.v 9)) (.cmp .isn (.v 10) (.non)) (.v 10)) (.ite (.cmp .isin (.v 1) (.v 4)) (.lst (.cons (.ix (.v 2) (.int 3)) (.nil))) (.lst (.nil))))) (.cons (.ret (.lst (.cons (.bi .max (.cons (.bin .add (.lst (.cons (.int 0) (.nil))) (.v 8)) (.nil))) (.cons (.ite (.cmp .ne (.v 9) (.lst (.nil))) (.bi .min (.cons (.v 9) (.nil))) (.non)) (.nil))))) (.nil)))))))
section
variable {P : List Df} {m f n : Nat} {ps qs rs : List Str}
theorem sp_bounds (h : P[f]? = some ⟨2, 11, [], ps, bBounds⟩) (hm : 10000 < m) {cs : List Str} {t1 t2 : T} (a : In4 cs t1 t2) (q : Int) (bs told : List Item) (rest : List D) {x : Str} {k : Nat} (hx : plA cs t1 t2 x = some k) (hz : (bs ++ told).length ≤ 5000) (S : Store) :
    wp (callF P m (n + 1) f [.tup [.tup (.tup (cs.map D.str) :: t1.d :: t2.d :: .int q :: .tup (bs.map bD) :: rest), .tup (told.map bD)], .str x] S) fun d S' => ∃ r, d = .ref r ∧
      S'[r]? = some (.lst [.int (lowA (plA cs t1 t2) (bs ++ told) k), hiD (hiA (plA cs t1 t2) q (bs ++ told) k)]) ∧ S.length ≤ r ∧ Ext [] S S' := by
  have hb := big
  rw [← law_low a hx, ← law_hi a hx]
  refine wp_callF h rfl ?_
  simp [bBounds, startD, d_ix0 a.n1, d_ix0 a.n2]
  have et : [D.str (root t1), D.str (root t2)] = [root t1, root t2].map D.str := rfl
  have ex1 : [D.str x] = [x].map D.str := rfl
  have eb : bs.map bD ++ told.map bD = (bs ++ told).map bD := by simp
  rw [et, in_tup, eb]
  have hz' : bs.length + told.length ≤ 5000 := by rw [← List.length_append]; exact hz
  generalize bs ++ told = items at hz ⊢
  refine ⟨by omega, ?_⟩
  simp only []
  by_cases c : x ∈ [root t1, root t2]
  · rw [decide_eq_true c]
    simp only [if_true, Bool.false_eq_true, if_false]
    refine ⟨by omega, ?_⟩
    have hN : [root t1, root t2] = namesOf t1 t2 x := by unfold namesOf; rw [if_pos c]
    obtain ⟨N5, h5⟩ : ∃ N5, N5 = [root t1, root t2] := ⟨_, rfl⟩
    have h5' : N5 = namesOf t1 t2 x := h5.trans hN
    obtain ⟨hr, hhr⟩ : ∃ hr, hr = hereOf t1 t2 items x := ⟨_, rfl⟩
    have lhr : hr.length ≤ 5000 := by rw [hhr]; unfold hereOf; exact Nat.le_trans (List.length_filter_le _ _) hz
    obtain ⟨I, hI⟩ : ∃ I : Nat → List D → Store → Prop, ∀ i acc S5, I i acc S5 ↔ acc = ((items.take i).filter fun b => decide (b.1 ∈ namesOf t1 t2 x)).map bD ∧ Ext [] S S5 := ⟨_, fun _ _ _ => Iff.rfl⟩
    refine wp_lcT (ds := items.map bD) (.inl rfl) I (by simp; omega) ((hI _ _ _).mpr ⟨rfl, Ext.push _ _ _⟩) (by simp) ?_ ?_
    · intro i d acc S5 hd hj hr5
      obtain ⟨rfl, y⟩ := (hI _ _ _).mp hj
      rw [List.getElem?_map] at hd
      obtain ⟨b, hb2, rfl⟩ := Option.map_eq_some_iff.mp hd
      have li := lt_of_some hb2
      refine ⟨_, rfl, ?_⟩
      unfold lcTurn
      have lf : ((items.take i).filter fun b => decide (b.1 ∈ namesOf t1 t2 x)).length ≤ 5000 := Nat.le_trans (List.length_filter_le _ _) (by rw [List.length_take]; omega)
      have hin : ∀ S, inD (.str b.1) (.tup ([root t1, root t2].map D.str)) S = some (decide (b.1 ∈ namesOf t1 t2 x)) := fun S => by rw [in_tup, hN]
      simp only [List.map_cons, List.map_nil] at hin
      simp [bD, hin]
      by_cases cb : b.1 ∈ namesOf t1 t2 x
      · simp [cb]
        refine ⟨by simpa using hr5, by omega, (hI _ _ _).mpr ⟨by rw [take_at hb2, List.filter_append]; simp [cb, bD], y.setN (Nat.le_refl _) _⟩⟩
      · simp [cb]
        exact ⟨by simpa using hr5, (hI _ _ _).mpr ⟨by rw [take_at hb2, List.filter_append]; simp [cb], y⟩⟩
    · intro acc S5 hj hr5
      obtain ⟨rfl, y⟩ := (hI _ _ _).mp hj
      rw [List.length_map, List.take_length] at hr5
      have hr5 : S5[S.length]? = some (.lst (hr.map bD)) := by rw [hhr]; exact hr5
      have l5 := lt_of_some hr5
      have y5 := y.len
      clear hI hj
      simp [hr5]
      obtain ⟨I, hI⟩ : ∃ I : Nat → List D → Store → Prop, ∀ i acc S6, I i acc S6 ↔ acc = ((hr.take i).map (·.2.1)).map D.int ∧ Ext [] S5 S6 := ⟨_, fun _ _ _ => Iff.rfl⟩
      refine wp_lcO (ds := hr.map bD) I (fun i acc S6 hj => ((hI _ _ _).mp hj).2.at_ _ _ hr5 (by simp)) (by simp; omega) ((hI _ _ _).mpr ⟨rfl, Ext.push _ _ _⟩) (by simp) ?_ ?_
      · intro i d acc S6 hd hj hr6
        obtain ⟨rfl, y6⟩ := (hI _ _ _).mp hj
        rw [List.getElem?_map] at hd
        obtain ⟨b, hb2, rfl⟩ := Option.map_eq_some_iff.mp hd
        have li := lt_of_some hb2
        refine ⟨_, rfl, ?_⟩
        unfold lcTurn
        simp [bD]
        refine ⟨by simpa using hr6, by omega, (hI _ _ _).mpr ⟨by rw [take_at hb2]; simp, y6.setN (Nat.le_refl _) _⟩⟩
      · intro acc S6 hj hr6
        obtain ⟨rfl, y6⟩ := (hI _ _ _).mp hj
        rw [List.length_map, List.take_length] at hr6
        have l6 := lt_of_some hr6
        have y6l := y6.len
        clear hI hj
        have w5 := y6.at_ _ _ hr5 (by simp)
        simp [w5]
        obtain ⟨I, hI⟩ : ∃ I : Nat → List D → Store → Prop, ∀ i acc S7, I i acc S7 ↔ acc = ((hr.take i).map (·.2.2)).map hiD ∧ Ext [] S6 S7 := ⟨_, fun _ _ _ => Iff.rfl⟩
        refine wp_lcO (ds := hr.map bD) I (fun i acc S7 hj => ((hI _ _ _).mp hj).2.at_ _ _ w5 (by simp)) (by simp; omega) ((hI _ _ _).mpr ⟨rfl, Ext.push _ _ _⟩) (by simp) ?_ ?_
        · intro i d acc S7 hd hj hr7
          obtain ⟨rfl, y7⟩ := (hI _ _ _).mp hj
          rw [List.getElem?_map] at hd
          obtain ⟨b, hb2, rfl⟩ := Option.map_eq_some_iff.mp hd
          have li := lt_of_some hb2
          refine ⟨_, rfl, ?_⟩
          unfold lcTurn
          simp [bD]
          refine ⟨by simpa using hr7, by omega, (hI _ _ _).mpr ⟨by rw [take_at hb2]; simp, y7.setN (Nat.le_refl _) _⟩⟩
        · intro acc S7 hj hr7
          obtain ⟨rfl, y7⟩ := (hI _ _ _).mp hj
          rw [List.length_map, List.take_length] at hr7
          have l7 := lt_of_some hr7
          have y7l := y7.len
          clear hI hj
          simp [hr7]
          obtain ⟨I, hI⟩ : ∃ I : Nat → List D → Store → Prop, ∀ i acc S8, I i acc S8 ↔ acc = ((hr.take i).filterMap (·.2.2)).map D.int ∧ Ext [] S7 S8 := ⟨_, fun _ _ _ => Iff.rfl⟩
          refine wp_lcO (ds := hr.map (hiD ∘ fun b => b.2.2)) I (fun i acc S8 hj => ((hI _ _ _).mp hj).2.at_ _ _ (by simpa using hr7) (by simp)) (by simp; omega) ((hI _ _ _).mpr ⟨rfl, Ext.push _ _ _⟩) (by simp) ?_ ?_
          · intro i d acc S8 hd hj hr8
            obtain ⟨rfl, y8⟩ := (hI _ _ _).mp hj
            rw [List.getElem?_map] at hd
            obtain ⟨b, hb2, rfl⟩ := Option.map_eq_some_iff.mp hd
            have li := lt_of_some hb2
            have lfm : ((hr.take i).filterMap (·.2.2)).length ≤ 5000 := Nat.le_trans (List.length_filterMap_le _ _) (by rw [List.length_take]; omega)
            refine ⟨_, rfl, ?_⟩
            unfold lcTurn
            cases hbb : b.2.2 with
            | none =>
              simp [hbb, hiD]
              exact ⟨by simpa using hr8, (hI _ _ _).mpr ⟨by rw [take_at hb2, List.filterMap_append]; simp [hbb], y8⟩⟩
            | some v =>
              simp [hbb, hiD]
              exact ⟨by simpa using hr8, by omega, (hI _ _ _).mpr ⟨by rw [take_at hb2, List.filterMap_append]; simp [hbb], y8.setN (Nat.le_refl _) _⟩⟩
          · intro acc S8 hj hr8
            obtain ⟨rfl, y8⟩ := (hI _ _ _).mp hj
            rw [List.length_map, List.take_length] at hr8
            have l8 := lt_of_some hr8
            have y8l := y8.len
            clear hI hj
            have w6 := y8.at_ _ _ (y7.at_ _ _ hr6 (by simp)) (by simp)
            have lfm : (hr.filterMap (·.2.2)).length ≤ 5000 := Nat.le_trans (List.length_filterMap_le _ _) lhr
            rw [← hhr]
            have ehi : lawHi t1 t2 q items x = hr.filterMap (·.2.2) ++ [q] := by unfold lawHi; rw [← hhr, if_pos c]
            rw [ehi]
            generalize hr.filterMap (·.2.2) = hs at *
            have hin2 : ∀ S, inD (.str x) (.tup [.str (root t1), .str (root t2)]) S = some true := fun S => by
              have := in_tup (xs := [root t1, root t2]) (x := x) (S := S)
              rw [decide_eq_true c] at this
              exact this
            simp [hin2]
            refine ⟨by omega, ?_⟩
            have w8 : ∀ z, (S8 ++ z)[S5.length]? = some (.lst ((hr.map (·.2.1)).map D.int)) := fun z => by rw [ap_lt (Lt.of w6)]; exact w6
            have e9 : S8.length ≠ S5.length := by have := lt_of_some w6; omega
            simp [ap_lt (Lt.of hr8), hr8, w8]
            have eI : asInts (D.int 0 :: hr.map (D.int ∘ fun x => x.2.1)) = some (0 :: hr.map (·.2.1)) := by
              have := asInts_map (0 :: hr.map (·.2.1))
              rw [List.map_cons, List.map_map] at this
              exact this
            rw [eI]
            refine ⟨by omega, by omega, by omega, ?_⟩
            clear ehi
            have ext : Ext [] S S8 := ((y.trans y6).trans y7).trans y8
            have pu : ∀ z : Store, Ext [] S (S8 ++ z) := fun z => ⟨Nat.le_trans ext.len (by simp), fun j o h k => by rw [ap_lt (Lt.of (ext.at_ j o h k))]; exact ext.at_ j o h k⟩
            simp [eqD, eqS, lenD]
            have e2 : asInts (hs.map D.int ++ [.int q]) = some (hs ++ [q]) := by
              have := asInts_map (hs ++ [q])
              rw [List.map_append] at this
              exact this
            rw [e2]
            cases hs with
            | nil =>
              simp [minO, hiD]
              exact ⟨by omega, by have := ext.len; omega, pu _⟩
            | cons h t =>
              simp [minO, hiD]
              exact ⟨by omega, by have := ext.len; omega, pu _⟩
  · rw [decide_eq_false c]
    simp only [if_true, Bool.false_eq_true, if_false]
    refine ⟨by omega, by omega, ?_⟩
    rw [ex1]
    have hN : [x] = namesOf t1 t2 x := by unfold namesOf; rw [if_neg c]
    obtain ⟨N5, h5⟩ : ∃ N5, N5 = [x] := ⟨_, rfl⟩
    have h5' : N5 = namesOf t1 t2 x := h5.trans hN
    obtain ⟨hr, hhr⟩ : ∃ hr, hr = hereOf t1 t2 items x := ⟨_, rfl⟩
    have lhr : hr.length ≤ 5000 := by rw [hhr]; unfold hereOf; exact Nat.le_trans (List.length_filter_le _ _) hz
    obtain ⟨I, hI⟩ : ∃ I : Nat → List D → Store → Prop, ∀ i acc S5, I i acc S5 ↔ acc = ((items.take i).filter fun b => decide (b.1 ∈ namesOf t1 t2 x)).map bD ∧ Ext [] S S5 := ⟨_, fun _ _ _ => Iff.rfl⟩
    refine wp_lcT (ds := items.map bD) (.inl rfl) I (by simp; omega) ((hI _ _ _).mpr ⟨rfl, Ext.push _ _ _⟩) (by simp) ?_ ?_
    · intro i d acc S5 hd hj hr5
      obtain ⟨rfl, y⟩ := (hI _ _ _).mp hj
      rw [List.getElem?_map] at hd
      obtain ⟨b, hb2, rfl⟩ := Option.map_eq_some_iff.mp hd
      have li := lt_of_some hb2
      refine ⟨_, rfl, ?_⟩
      unfold lcTurn
      have lf : ((items.take i).filter fun b => decide (b.1 ∈ namesOf t1 t2 x)).length ≤ 5000 := Nat.le_trans (List.length_filter_le _ _) (by rw [List.length_take]; omega)
      have hin : ∀ S, inD (.str b.1) (.tup ([x].map D.str)) S = some (decide (b.1 ∈ namesOf t1 t2 x)) := fun S => by rw [in_tup, hN]
      simp only [List.map_cons, List.map_nil] at hin
      simp [bD, hin]
      by_cases cb : b.1 ∈ namesOf t1 t2 x
      · simp [cb]
        refine ⟨by simpa using hr5, by omega, (hI _ _ _).mpr ⟨by rw [take_at hb2, List.filter_append]; simp [cb, bD], y.setN (Nat.le_refl _) _⟩⟩
      · simp [cb]
        exact ⟨by simpa using hr5, (hI _ _ _).mpr ⟨by rw [take_at hb2, List.filter_append]; simp [cb], y⟩⟩
    · intro acc S5 hj hr5
      obtain ⟨rfl, y⟩ := (hI _ _ _).mp hj
      rw [List.length_map, List.take_length] at hr5
      have hr5 : S5[S.length]? = some (.lst (hr.map bD)) := by rw [hhr]; exact hr5
      have l5 := lt_of_some hr5
      have y5 := y.len
      clear hI hj
      simp [hr5]
      obtain ⟨I, hI⟩ : ∃ I : Nat → List D → Store → Prop, ∀ i acc S6, I i acc S6 ↔ acc = ((hr.take i).map (·.2.1)).map D.int ∧ Ext [] S5 S6 := ⟨_, fun _ _ _ => Iff.rfl⟩
      refine wp_lcO (ds := hr.map bD) I (fun i acc S6 hj => ((hI _ _ _).mp hj).2.at_ _ _ hr5 (by simp)) (by simp; omega) ((hI _ _ _).mpr ⟨rfl, Ext.push _ _ _⟩) (by simp) ?_ ?_
      · intro i d acc S6 hd hj hr6
        obtain ⟨rfl, y6⟩ := (hI _ _ _).mp hj
        rw [List.getElem?_map] at hd
        obtain ⟨b, hb2, rfl⟩ := Option.map_eq_some_iff.mp hd
        have li := lt_of_some hb2
        refine ⟨_, rfl, ?_⟩
        unfold lcTurn
        simp [bD]
        refine ⟨by simpa using hr6, by omega, (hI _ _ _).mpr ⟨by rw [take_at hb2]; simp, y6.setN (Nat.le_refl _) _⟩⟩
      · intro acc S6 hj hr6
        obtain ⟨rfl, y6⟩ := (hI _ _ _).mp hj
        rw [List.length_map, List.take_length] at hr6
        have l6 := lt_of_some hr6
        have y6l := y6.len
        clear hI hj
        have w5 := y6.at_ _ _ hr5 (by simp)
        simp [w5]
        obtain ⟨I, hI⟩ : ∃ I : Nat → List D → Store → Prop, ∀ i acc S7, I i acc S7 ↔ acc = ((hr.take i).map (·.2.2)).map hiD ∧ Ext [] S6 S7 := ⟨_, fun _ _ _ => Iff.rfl⟩
        refine wp_lcO (ds := hr.map bD) I (fun i acc S7 hj => ((hI _ _ _).mp hj).2.at_ _ _ w5 (by simp)) (by simp; omega) ((hI _ _ _).mpr ⟨rfl, Ext.push _ _ _⟩) (by simp) ?_ ?_
        · intro i d acc S7 hd hj hr7
          obtain ⟨rfl, y7⟩ := (hI _ _ _).mp hj
          rw [List.getElem?_map] at hd
          obtain ⟨b, hb2, rfl⟩ := Option.map_eq_some_iff.mp hd
          have li := lt_of_some hb2
          refine ⟨_, rfl, ?_⟩
          unfold lcTurn
          simp [bD]
          refine ⟨by simpa using hr7, by omega, (hI _ _ _).mpr ⟨by rw [take_at hb2]; simp, y7.setN (Nat.le_refl _) _⟩⟩
        · intro acc S7 hj hr7
          obtain ⟨rfl, y7⟩ := (hI _ _ _).mp hj
          rw [List.length_map, List.take_length] at hr7
          have l7 := lt_of_some hr7
          have y7l := y7.len
          clear hI hj
          simp [hr7]
          obtain ⟨I, hI⟩ : ∃ I : Nat → List D → Store → Prop, ∀ i acc S8, I i acc S8 ↔ acc = ((hr.take i).filterMap (·.2.2)).map D.int ∧ Ext [] S7 S8 := ⟨_, fun _ _ _ => Iff.rfl⟩
          refine wp_lcO (ds := hr.map (hiD ∘ fun b => b.2.2)) I (fun i acc S8 hj => ((hI _ _ _).mp hj).2.at_ _ _ (by simpa using hr7) (by simp)) (by simp; omega) ((hI _ _ _).mpr ⟨rfl, Ext.push _ _ _⟩) (by simp) ?_ ?_
          · intro i d acc S8 hd hj hr8
            obtain ⟨rfl, y8⟩ := (hI _ _ _).mp hj
            rw [List.getElem?_map] at hd
            obtain ⟨b, hb2, rfl⟩ := Option.map_eq_some_iff.mp hd
            have li := lt_of_some hb2
            have lfm : ((hr.take i).filterMap (·.2.2)).length ≤ 5000 := Nat.le_trans (List.length_filterMap_le _ _) (by rw [List.length_take]; omega)
            refine ⟨_, rfl, ?_⟩
            unfold lcTurn
            cases hbb : b.2.2 with
            | none =>
              simp [hbb, hiD]
              exact ⟨by simpa using hr8, (hI _ _ _).mpr ⟨by rw [take_at hb2, List.filterMap_append]; simp [hbb], y8⟩⟩
            | some v =>
              simp [hbb, hiD]
              exact ⟨by simpa using hr8, by omega, (hI _ _ _).mpr ⟨by rw [take_at hb2, List.filterMap_append]; simp [hbb], y8.setN (Nat.le_refl _) _⟩⟩
          · intro acc S8 hj hr8
            obtain ⟨rfl, y8⟩ := (hI _ _ _).mp hj
            rw [List.length_map, List.take_length] at hr8
            have l8 := lt_of_some hr8
            have y8l := y8.len
            clear hI hj
            have w6 := y8.at_ _ _ (y7.at_ _ _ hr6 (by simp)) (by simp)
            have lfm : (hr.filterMap (·.2.2)).length ≤ 5000 := Nat.le_trans (List.length_filterMap_le _ _) lhr
            rw [← hhr]
            have ehi : lawHi t1 t2 q items x = hr.filterMap (·.2.2) := by unfold lawHi; rw [← hhr, if_neg c, List.append_nil]
            rw [ehi]
            generalize hr.filterMap (·.2.2) = hs at *
            have hin2 : ∀ S, inD (.str x) (.tup [.str (root t1), .str (root t2)]) S = some false := fun S => by
              have := in_tup (xs := [root t1, root t2]) (x := x) (S := S)
              rw [decide_eq_false c] at this
              exact this
            simp [hin2]
            skip
            have w8 : ∀ z, (S8 ++ z)[S5.length]? = some (.lst ((hr.map (·.2.1)).map D.int)) := fun z => by rw [ap_lt (Lt.of w6)]; exact w6
            have e9 : S8.length ≠ S5.length := by have := lt_of_some w6; omega
            simp [ap_lt (Lt.of hr8), hr8, w8]
            have eI : asInts (D.int 0 :: hr.map (D.int ∘ fun x => x.2.1)) = some (0 :: hr.map (·.2.1)) := by
              have := asInts_map (0 :: hr.map (·.2.1))
              rw [List.map_cons, List.map_map] at this
              exact this
            rw [eI]
            refine ⟨by omega, by omega, by omega, ?_⟩
            clear ehi
            have ext : Ext [] S S8 := ((y.trans y6).trans y7).trans y8
            have pu : ∀ z : Store, Ext [] S (S8 ++ z) := fun z => ⟨Nat.le_trans ext.len (by simp), fun j o h k => by rw [ap_lt (Lt.of (ext.at_ j o h k))]; exact ext.at_ j o h k⟩
            cases hs with
            | nil =>
              simp [eqD, eqS, lenD, minO, hiD]
              exact ⟨by omega, by have := ext.len; omega, pu _⟩
            | cons h t =>
              have e2 : asInts (D.int h :: t.map D.int) = some (h :: t) := asInts_map (h :: t)
              simp [eqD, eqS, lenD, minO, hiD, e2]
              exact ⟨by omega, by have := ext.len; omega, pu _⟩
end
end PV

set_option Elab.async false
set_option linter.all false
set_option maxRecDepth 100000
set_option maxHeartbeats 1000000
/-! The law's own is_world, by PV. -/
namespace PV
open PySem
theorem Ext.locked {S S1 : Store} {r : Nat} {kvs : List (L2.Key × D)} (h : S[r]? = some (.dct kvs)) (x : Ext [] (S.set r (.dcl kvs)) S1) : S1[r]? = some (.dcl kvs) ∧ Ext [] S (S1.set r (.dct kvs)) := by
  have h1 := x.at_ _ _ (set_same (Lt.of h)) (by simp)
  refine ⟨h1, by have := x.len; simpa using this, fun j o e k => ?_⟩
  by_cases c : r = j
  · subst c
    rw [set_same (Lt.of h1)]
    exact h.symm.trans e
  · rw [set_ne c]
    exact x.at_ _ _ (by rw [set_ne c]; exact e) (by simp)
/-! ### lots and sums -/
theorem In4.lotsNd {cs : List Str} {t1 t2 : T} (a : In4 cs t1 t2) : ((lotsOf cs t1 t2).map (·.1)).Nodup := by
  unfold lotsOf
  have e : (List.map (fun q : Str × List Str × Option Str => (q.1, q.2.1)) (t1.lo none ++ t2.lo none)).map (·.1) = t1.nm ++ t2.nm := by
    rw [List.map_map, List.map_append, ← T.lo_nm t1 none, ← T.lo_nm t2 none]; rfl
  rw [List.map_append, e, List.map_map]
  have e2 : cs.map ((fun q : Str × List Str => q.1) ∘ fun c => (c, [c])) = cs := by simp [Function.comp_def]
  rw [e2]
  exact a.nd
theorem lots_names {cs : List Str} {t1 t2 : T} : (lotsOf cs t1 t2).map (·.1) = cs ++ (t1.nm ++ t2.nm) := by
  unfold lotsOf
  have e : (List.map (fun q : Str × List Str × Option Str => (q.1, q.2.1)) (t1.lo none ++ t2.lo none)).map (·.1) = t1.nm ++ t2.nm := by
    rw [List.map_map, List.map_append, ← T.lo_nm t1 none, ← T.lo_nm t2 none]; rfl
  rw [List.map_append, e, List.map_map]
  have e2 : cs.map ((fun q : Str × List Str => q.1) ∘ fun c => (c, [c])) = cs := by simp [Function.comp_def]
  rw [e2]
theorem one_lot {L : List (Str × List Str)} (nd : (L.map (·.1)).Nodup) {x : Str} {a b : List Str} (ha : (x, a) ∈ L) (hb : (x, b) ∈ L) : a = b := by
  obtain ⟨i, hi⟩ := List.mem_iff_getElem?.mp ha
  obtain ⟨j, hj⟩ := List.mem_iff_getElem?.mp hb
  have ei : (L.map (·.1))[i]? = some x := by rw [List.getElem?_map, hi]; rfl
  have ej : (L.map (·.1))[j]? = some x := by rw [List.getElem?_map, hj]; rfl
  have := idx_at nd ei
  have := idx_at nd ej
  have e : i = j := by omega
  subst e
  rw [hi] at hj
  cases hj
  rfl
theorem In4.plx {cs : List Str} {t1 t2 : T} (a : In4 cs t1 t2) {x : Str} : plA cs t1 t2 x ≠ none ↔ x ∈ cs ++ (t1.nm ++ t2.nm) := by
  rw [a.mem]
  unfold plA plO
  by_cases e : x = root t2
  · simp [e]
  · by_cases c : x ∈ aNames cs t1 t2
    · simp [e, c]
    · simp [e, c]
theorem sumOf_perm {cs : List Str} {ws : List Int} {a b : List Str} (h : a.Perm b) : sumOf cs ws a = sumOf cs ws b := by
  unfold sumOf
  congr 2
  refine List.filter_congr fun p _ => ?_
  simp only [h.mem_iff]
theorem lot_sum {cs : List Str} {ws : List Int} {t1 t2 : T} (a : In4 cs t1 t2) {x : Str} {ls : List Str} {k : Nat} (hx : (x, ls) ∈ lotsOf cs t1 t2) (hk : plA cs t1 t2 x = some k) : k < (aNames cs t1 t2).length ∧ (sumsOf cs ws t1 t2).getD k 0 = sumOf cs ws ls := by
  have nd := a.lotsNd
  have nA := a.arcNd.1
  have hne : aNames cs t1 t2 ≠ [] := by unfold aNames arcsOf; simp
  have hlt := plO_lt hk hne
  refine ⟨hlt, ?_⟩
  have eN : (arcL cs t1 t2).map (fun a => a.1.1) = aNames cs t1 t2 := by
    unfold aNames
    rw [← arcL_arcs a.n1 a.n2, List.map_map]; rfl
  have lA : (arcL cs t1 t2).length = (aNames cs t1 t2).length := by rw [← eN, List.length_map]
  by_cases e : x = root t2
  · subst e
    have h0 : k = 0 := by
      unfold plA plO at hk
      rw [if_pos rfl] at hk
      exact (Option.some.inj hk).symm
    subst h0
    have hm : (root t2, t2.lv) ∈ lotsOf cs t1 t2 := by
      unfold lotsOf
      refine List.mem_append_right _ ?_
      have := a.n2
      cases t2 with
      | leaf c => cases this
      | node n p => simp [T.lo, T.lv, root]
    rw [one_lot nd hx hm]
    have e0 : (sumsOf cs ws t1 t2).getD 0 0 = sumOf cs ws t1.lv := by unfold sumsOf arcL; simp
    rw [e0]
    exact sumOf_perm (a.l1.trans a.l2.symm)
  · have gx : x ∈ aNames cs t1 t2 ∧ (aNames cs t1 t2).idxOf x = k := by
      unfold plA plO at hk
      rw [if_neg e] at hk
      split at hk
      · rename_i q; exact ⟨q, Option.some.inj hk⟩
      · cases hk
    have lx := List.idxOf_lt_length_iff.mpr gx.1
    have ex := List.getElem_idxOf lx
    simp only [gx.2] at ex
    have hlt' : k < (arcL cs t1 t2).length := by omega
    have ea : ((arcL cs t1 t2)[k]).1.1 = x := by
      rw [← ex]
      simp only [← eN, List.getElem_map]
    have hm := arcL_lots (cs := cs) (t1 := t1) (t2 := t2) a.n1 _ (List.getElem_mem hlt')
    rw [ea] at hm
    rw [one_lot nd hx hm]
    unfold sumsOf
    rw [List.getD_eq_getElem?_getD, List.getElem?_map, List.getElem?_eq_getElem hlt']; rfl
theorem place_lot {cs : List Str} {t1 t2 : T} (a : In4 cs t1 t2) {k : Nat} (hk : k < (aNames cs t1 t2).length) : ∃ x ls, (x, ls) ∈ lotsOf cs t1 t2 ∧ plA cs t1 t2 x = some k := by
  have eN : (arcL cs t1 t2).map (fun a => a.1.1) = aNames cs t1 t2 := by
    unfold aNames
    rw [← arcL_arcs a.n1 a.n2, List.map_map]; rfl
  have lA : (arcL cs t1 t2).length = (aNames cs t1 t2).length := by rw [← eN, List.length_map]
  have hlt' : k < (arcL cs t1 t2).length := by omega
  have hm := arcL_lots (cs := cs) (t1 := t1) (t2 := t2) a.n1 _ (List.getElem_mem hlt')
  refine ⟨_, _, hm, ?_⟩
  have hg : (aNames cs t1 t2)[k]? = some ((arcL cs t1 t2)[k]).1.1 := by rw [← eN, List.getElem?_map, List.getElem?_eq_getElem hlt']; rfl
  have hi := idx_at a.arcNd.1 hg
  have hmem := List.mem_of_getElem? hg
  have hne : ((arcL cs t1 t2)[k]).1.1 ≠ root t2 := fun z => a.arcNd.2 (by rw [← z]; exact hmem)
  unfold plA plO
  rw [if_neg hne, if_pos hmem, hi]
theorem world_lots {cs : List Str} {ws : List Int} {t1 t2 : T} (a : In4 cs t1 t2) (lo : Nat → Int) (hi : Nat → Option Int) :
    ((List.range (aNames cs t1 t2).length).all fun k => inLim (lo k) (hi k) ((sumsOf cs ws t1 t2).getD k 0)) = true ↔ ∀ x ls k, (x, ls) ∈ lotsOf cs t1 t2 → plA cs t1 t2 x = some k → inLim (lo k) (hi k) (sumOf cs ws ls) = true := by
  rw [List.all_eq_true]
  constructor
  · intro h x ls k hx hk
    obtain ⟨h1, h2⟩ := lot_sum (ws := ws) a hx hk
    rw [← h2]
    exact h k (List.mem_range.mpr h1)
  · intro h k hk
    obtain ⟨x, ls, hx, hp⟩ := place_lot a (List.mem_range.mp hk)
    obtain ⟨_, h2⟩ := lot_sum (ws := ws) a hx hp
    rw [h2]
    exact h x ls k hx hp
def bLawIs (iB iS : Nat) : S := .cons (.set 3 (.ix (.ix (.v 0) (.int 0)) (.int 0))) (.cons (.ite (.bo false (.cons (.no (.isi .tuple (.v 2))) (.cons (.cmp .ne (.bi .len (.cons (.v 2) (.nil))) (.bi .len (.cons (.v 3) (.nil)))) (.nil)))) (.cons (.ret (.bl false)) (.nil)) (.nil)) (.cons (.ite (.cmp .gt (.bi .len (.cons (.lc [("one", 4)] (.nm 4) (.q (.v 2)) (.bo false (.cons (.no (.isi .int (.v 4))) (.cons (.isi .bool (.v 4)) (.cons (.cmp .lt (.v 4) (.int 0)) (.nil))))) (.v 4)) (.nil))) (.int 0)) (.cons (.ret (.bl false)) (.nil)) (.nil)) (.cons (.lks 1 (.for (.nm 5) (.q (.v 1)) (.cons (.asg (.tup (.cons (.nm 6) (.cons (.nm 7) (.nil)))) (.call iB (.cons (.v 0) (.cons (.v 5) (.nil))))) (.cons (.set 8 (.call iS (.cons (.ix (.v 0) (.int 0)) (.cons (.v 1) (.cons (.v 2) (.cons (.v 5) (.nil))))))) (.cons (.ite (.bo false (.cons (.cmp .lt (.v 8) (.v 6)) (.cons (.bo true (.cons (.cmp .isn (.v 7) (.non)) (.cons (.cmp .gt (.v 8) (.v 7)) (.nil)))) (.nil)))) (.cons (.ret (.bl false)) (.nil)) (.nil)) (.nil)))))) (.cons (.ret (.bl true)) (.nil)))))
section
variable {P : List Df} {m f n : Nat} {ps qs rs : List Str}
theorem sp_lawis {iB iS : Nat} (hB : P[iB]? = some ⟨2, 11, [], ps, bBounds⟩) (hS : P[iS]? = some ⟨4, 5, [], qs, bSum⟩) (h : P[f]? = some ⟨3, 9, [], rs, bLawIs iB iS⟩) (hm : 10000 < m) {cs : List Str} {t1 t2 : T} (a : In4 cs t1 t2) (q : Int) (bs told : List Item) (rest : List D) (hz : (bs ++ told).length ≤ 5000)
    {S0 S : Store} {r : Nat} {kvs : List (L2.Key × D)} (hr : S[r]? = some (.dct kvs)) (lk : LK S0 S r kvs (lotsOf cs t1 t2)) (v : D) (hv : ScV v) :
    wp (callF P m (n + 2) f [.tup [.tup (.tup (cs.map D.str) :: t1.d :: t2.d :: .int q :: .tup (bs.map bD) :: rest), .tup (told.map bD)], .ref r, v] S) fun d S' => d = .bl (worldB cs t1 t2 q (bs ++ told) v) ∧ Ext [] S S' := by
  have hb := big
  refine wp_callF h rfl ?_
  cases v with
  | tup ds =>
    obtain ⟨z1, z2⟩ := hv
    simp [bLawIs, startD, isiD]
    by_cases e : ds.length = cs.length
    · have e' : ((ds.length : Int) = (cs.length : Int)) := by omega
      simp [e']
      obtain ⟨I, hI⟩ : ∃ I : Nat → List D → Store → Prop, ∀ i acc S5, I i acc S5 ↔ acc = (ds.take i).filter (fun d => !nn d) ∧ Ext [] S S5 := ⟨_, fun _ _ _ => Iff.rfl⟩
      refine wp_lcT (ds := ds) (.inl rfl) I (by omega) ((hI _ _ _).mpr ⟨rfl, Ext.push _ _ _⟩) (by simp) ?_ ?_
      · intro i d acc S5 hd hi hr5
        obtain ⟨rfl, y⟩ := (hI _ _ _).mp hi
        have li := lt_of_some hd
        have hsc := z2 d (List.mem_of_getElem? hd)
        have lf : ((ds.take i).filter (fun d => !nn d)).length ≤ 5000 := Nat.le_trans (List.length_filter_le _ _) (by rw [List.length_take]; omega)
        refine ⟨_, rfl, ?_⟩
        have bad : nn d = false → S5[S.length]? = some (O.lst ((ds.take i).filter (fun d => !nn d))) ∧ ((ds.take i).filter (fun d => !nn d)).length < sizeLine ∧ I (i + 1) ((ds.take i).filter (fun d => !nn d) ++ [d]) (S5.set S.length (.lst ((ds.take i).filter (fun d => !nn d) ++ [d]))) := fun hb => by
          refine ⟨hr5, by omega, (hI _ _ _).mpr ⟨by rw [take_at hd, List.filter_append]; simp [hb], y.setN (Nat.le_refl _) _⟩⟩
        have good : nn d = true → S5[S.length]? = some (O.lst ((ds.take i).filter (fun d => !nn d))) ∧ I (i + 1) ((ds.take i).filter (fun d => !nn d)) S5 := fun hb => by
          refine ⟨hr5, (hI _ _ _).mpr ⟨by rw [take_at hd, List.filter_append]; simp [hb], y⟩⟩
        unfold lcTurn
        cases d with
        | int j =>
          by_cases c : j < 0
          · simp [isiD, c]
            exact bad (by simp [nn]; omega)
          · simp [isiD, c]
            exact good (by simp [nn]; omega)
        | exv c es => simp [sc1] at hsc
        | rol es => simp [sc1] at hsc
        | ref es => simp [sc1] at hsc
        | _ =>
          simp [isiD]
          exact bad rfl
      · intro acc S5 hi hr5
        obtain ⟨rfl, y⟩ := (hI _ _ _).mp hi
        rw [List.take_length] at hr5
        clear hI hi
        simp [hr5]
        by_cases c : ds.all nn = true
        · have e0 : ¬ ∃ x, x ∈ ds ∧ nn x = false := fun ⟨x, hx, hn⟩ => by
            have := List.all_eq_true.mp c x hx
            rw [hn] at this
            cases this
          rw [if_neg e0]
          have hrow : rowB cs.length (.tup ds) = true := by simp [rowB, e, c]
          obtain ⟨ws, hw, hl, hnn⟩ := rowB_ok hrow
          cases hw
          have wr := y.at_ _ _ hr (by simp)
          simp [wr, set_same (Lt.of wr)]
          obtain ⟨L, hL⟩ : ∃ L, L = lotsOf cs t1 t2 := ⟨_, rfl⟩
          rw [← hL] at lk
          have lL : L.length ≤ 5000 := by
            have e1 := congrArg List.length (lots_names (cs := cs) (t1 := t1) (t2 := t2))
            rw [List.length_map, ← hL] at e1
            have := a.z0
            have := a.k1
            simp only [List.length_append] at e1
            omega
          have lk2 : kvs.length = L.length := by have := congrArg List.length lk.keys; simpa using this
          have hkey : ∀ i : Nat, (kvs[i]?).map (fun p => dOfKey p.1) = (L.map fun p => D.str p.1)[i]? := fun i => by
            have := congrArg (fun l => (l[i]?).map dOfKey) lk.keys
            simp only [List.getElem?_map, Option.map_map] at this
            rw [List.getElem?_map]
            exact this
          obtain ⟨lo, hlo⟩ : ∃ lo, lo = lowA (plA cs t1 t2) (bs ++ told) := ⟨_, rfl⟩
          obtain ⟨hi, hhi⟩ : ∃ hi, hi = hiA (plA cs t1 t2) q (bs ++ told) := ⟨_, rfl⟩
          have hw : worldB cs t1 t2 q (bs ++ told) (.tup (ws.map D.int)) = true ↔ ∀ x ls k, (x, ls) ∈ L → plA cs t1 t2 x = some k → inLim (lo k) (hi k) (sumOf cs ws ls) = true := by
            rw [hL, ← world_lots (ws := ws) a lo hi, hlo, hhi]
            simp only [worldB, hrow, Bool.true_and, List.map_map]
            rw [show toI ∘ D.int = id from rfl, List.map_id]
          obtain ⟨I, hI⟩ : ∃ I : Nat → Ls → Store → Prop, ∀ i ls S6, I i ls S6 ↔ ∃ x4 x5 x6 x7 x8, ls = [some (.tup [.tup (.tup (cs.map D.str) :: t1.d :: t2.d :: .int q :: .tup (bs.map bD) :: rest), .tup (told.map bD)]), some (.ref r), some (.tup (ws.map D.int)), some (.tup (cs.map D.str)), x4, x5, x6, x7, x8] ∧
              Ext [] (S5.set r (.dcl kvs)) S6 ∧ ∀ x ls k, (x, ls) ∈ L.take i → plA cs t1 t2 x = some k → inLim (lo k) (hi k) (sumOf cs ws ls) = true := ⟨_, fun _ _ _ => Iff.rfl⟩
          refine wp_its (ds := L.map fun p => D.str p.1) I (fun i ls S6 hi hj => ?_) (by simp; omega) ((hI _ _ _).mpr ⟨_, _, _, _, _, rfl, Ext.refl _ _, fun x ls k hx => by simp at hx⟩) ?_ ?_
          · obtain ⟨x4, x5, x6, x7, x8, rfl, y6, _⟩ := (hI _ _ _).mp hj
            have g := (y6.locked wr).1
            simp only [ItV.nxt, g]
            rw [← hkey i]
          · intro i d ls S6 hd hj
            obtain ⟨x4, x5, x6, x7, x8, rfl, y6, ok⟩ := (hI _ _ _).mp hj
            rw [List.getElem?_map] at hd
            obtain ⟨⟨x, lt⟩, hx, rfl⟩ := Option.map_eq_some_iff.mp hd
            have hxm := List.mem_of_getElem? hx
            have hpn : plA cs t1 t2 x ≠ none := a.plx.mpr (by rw [← lots_names, ← hL]; exact List.mem_map.mpr ⟨_, hxm, rfl⟩)
            obtain ⟨k, hk⟩ := Option.ne_none_iff_exists'.mp hpn
            obtain ⟨l, es, v1, v2, v3, v4, v5⟩ := lk.at_ x lt hxm
            refine ⟨_, rfl, ?_⟩
            simp
            refine wp_mono (sp_bounds (n := n) hB hm a q bs told rest hk hz S6) ?_
            rintro _ S7 ⟨rb, rfl, b1, b2, y7⟩
            rw [← hlo, ← hhi] at b1
            simp [b1]
            have y67 := y6.trans y7
            have g7 := (y67.locked wr).1
            have v7 : S7[l]? = some (.lst (es.map D.str)) := y67.at_ _ _ (by rw [set_ne (fun z => v5 z.symm)]; exact y.at_ _ _ v2 (by simp)) (by simp)
            refine wp_mono (sp_sum (n := n) hS hm (nm := x) hl (by have := a.z0; omega) (t1.d :: t2.d :: .int q :: .tup (bs.map bD) :: rest) (.inr g7) v1 v7 v3) ?_
            rintro _ S8 ⟨rfl, y8⟩
            have y68 := y67.trans y8
            have g8 := (y68.locked wr)
            simp
            have yes : inLim (lo k) (hi k) (sumOf cs ws lt) = true → ∀ x4 x5 x6 x7 x8, I (i + 1) [some (.tup [.tup (.tup (cs.map D.str) :: t1.d :: t2.d :: .int q :: .tup (bs.map bD) :: rest), .tup (told.map bD)]), some (.ref r), some (.tup (ws.map D.int)), some (.tup (cs.map D.str)), x4, x5, x6, x7, x8] S8 := fun hy x4 x5 x6 x7 x8 => by
              refine (hI _ _ _).mpr ⟨_, _, _, _, _, rfl, y68, fun x' ls' k' hx' hk' => ?_⟩
              rw [take_at hx] at hx'
              rcases List.mem_append.mp hx' with z | z
              · exact ok x' ls' k' z hk'
              · simp only [List.mem_cons, List.not_mem_nil, or_false, Prod.mk.injEq] at z
                obtain ⟨rfl, rfl⟩ := z
                rw [hk] at hk'
                cases hk'
                exact hy
            have no : inLim (lo k) (hi k) (sumOf cs ws lt) = false → worldB cs t1 t2 q (bs ++ told) (.tup (ws.map D.int)) = false := fun hn => by
              cases hwb : worldB cs t1 t2 q (bs ++ told) (.tup (ws.map D.int)) with
              | false => rfl
              | true =>
                have := hw.mp hwb x lt k hxm hk
                rw [hn] at this
                cases this
            have ret : inLim (lo k) (hi k) (sumOf cs ws lt) = false → (match S8[r]? with
              | some (O.dcl kvs') => worldB cs t1 t2 q (bs ++ told) (.tup (ws.map D.int)) = false ∧ Ext [] S (S8.set r (.dct kvs'))
              | x => False) := fun hn => by
              rw [g8.1]
              exact ⟨no hn, y.trans g8.2⟩
            by_cases c1 : lo k ≤ sumOf cs ws lt
            · rw [if_pos c1]
              cases hv : hi k with
              | none =>
                simp [hiD]
                exact yes (by simp [inLim, c1, hv]) _ _ _ _ _
              | some g =>
                simp [hiD]
                by_cases c2 : g < sumOf cs ws lt
                · rw [if_pos c2]
                  exact ret (by simp [inLim, hv]; omega)
                · rw [if_neg c2]
                  exact yes (by simp [inLim, c1, hv]; omega) _ _ _ _ _
            · rw [if_neg c1, if_pos (by omega)]
              exact ret (by simp [inLim, c1])
          · intro ls S6 hj
            obtain ⟨x4, x5, x6, x7, x8, rfl, y6, ok⟩ := (hI _ _ _).mp hj
            have et : L.take (L.map fun p => D.str p.1).length = L := List.take_of_length_le (by simp)
            rw [et] at ok
            have g8 := y6.locked wr
            simp [g8.1]
            exact ⟨hw.mpr ok, y.trans g8.2⟩
        · have hrow : rowB cs.length (.tup ds) = false := by simp [rowB, c]
          have e0 : ∃ x, x ∈ ds ∧ nn x = false := by
            rw [List.all_eq_true] at c
            simp only [Classical.not_forall] at c
            obtain ⟨x, hx, hn⟩ := c
            exact ⟨x, hx, by simpa using hn⟩
          rw [if_pos e0]
          simp [worldB, hrow]
          exact y
    · have e' : ¬ ((ds.length : Int) = (cs.length : Int)) := by omega
      have hrow : rowB cs.length (.tup ds) = false := by simp [rowB, e]
      simp [e', worldB, hrow]
      exact Ext.refl _ _
  | exv c es => exact hv.elim
  | rol es => exact hv.elim
  | ref es => exact hv.elim
  | _ => simp [bLawIs, startD, isiD, worldB]; exact Ext.refl _ _
end
end PV

set_option Elab.async false
set_option linter.all false
set_option maxRecDepth 100000
set_option maxHeartbeats 1000000
/-! low_of, high_of; the law asks for them, by PV. -/
namespace PV
open PySem
def bEnd (iPc iLi : Nat) (b : Bool) : S := .cons (.set 2 (.call iPc (.cons (.ix (.v 0) (.int 0)) (.cons (.v 1) (.nil))))) (.cons (.asg (.tup (.cons (.nm 3) (.cons (.nm 4) (.nil)))) (.call iLi (.cons (.v 0) (.nil)))) (.cons (.ret (.ix (.v (if b = true then 4 else 3)) (.v 2))) (.nil)))
/-- what low_of (false), high_of (true) tell -/
def endD (cs : List Str) (t1 t2 : T) (q : Int) (items : List Item) (b : Bool) (k : Nat) : D := if b = true then hiD (hiA (plA cs t1 t2) q items k) else .int (lowA (plA cs t1 t2) items k)
section
variable {P : List Df} {m f n : Nat} {ps qs rs us vs : List Str}
theorem sp_end {iK iH iAr iPl iLi iPc iX : Nat} (pp : ProgP P iK iH iAr iPl) (hL : P[iLi]? = some ⟨1, 10, [], ps, bLimits iPl⟩) (hPc : P[iPc]? = some ⟨2, 3, [], qs, bPlace iPl iX⟩) {b : Bool} (h : P[f]? = some ⟨2, 5, [], rs, bEnd iPc iLi b⟩) (hm : 10000 < m) {cs : List Str} {t1 t2 : T} (a : In4 cs t1 t2)
    (q : Int) (bs told : List Item) (rest : List D) (hbs : ∀ b ∈ bs ++ told, plA cs t1 t2 b.1 ≠ none) (hz : (bs ++ told).length ≤ 5000) (x : Str) (S : Store) {E : Nat → List D → Store → Prop} {Q : D → Store → Prop}
    (ok : ∀ (k : Nat) S', plA cs t1 t2 x = some k → Ext [] S S' → Q (endD cs t1 t2 q (bs ++ told) b k) S') (no : ∀ S', plA cs t1 t2 x = none → Ext [] S S' → E iX [.str x] S') :
    wpx E (callF P m (n + 9) f [.tup [.tup (.tup (cs.map D.str) :: t1.d :: t2.d :: .int q :: .tup (bs.map bD) :: rest), .tup (told.map bD)], .str x] S) Q := by
  refine wpx_callF h rfl ?_
  have main : ∀ k S1, plA cs t1 t2 x = some k → Ext [] S S1 → wp (callF P m (n + 8) iLi [.tup [.tup (.tup (cs.map D.str) :: t1.d :: t2.d :: .int q :: .tup (bs.map bD) :: rest), .tup (told.map bD)]] S1) fun d S2 => ∃ (l u : Nat) (A B : List D), d = .tup [.ref l, .ref u] ∧ S2[l]? = some (.lst A) ∧ S2[u]? = some (.lst B) ∧ A[k]? = some (.int (lowA (plA cs t1 t2) (bs ++ told) k)) ∧ B[k]? = some (hiD (hiA (plA cs t1 t2) q (bs ++ told) k)) ∧ Ext [] S S2 := fun k S1 hk x1 => by
    have hne : aNames cs t1 t2 ≠ [] := by unfold aNames arcsOf; simp
    have hlt := plO_lt hk hne
    refine wp_mono (sp_limits (n := n) pp hL hm a q bs told rest S1 hbs hz) ?_
    rintro _ S2 ⟨l, u, rfl, y1, y2, x2⟩
    exact ⟨l, u, _, _, rfl, y1, y2, by rw [List.getElem?_map, List.getElem?_range hlt]; rfl, by rw [List.getElem?_map, List.getElem?_range hlt]; rfl, x1.trans x2⟩
  cases b with
  | false =>
    simp [bEnd, startD]
    refine sp_place (n := n) pp hPc hm a (.int q :: .tup (bs.map bD) :: rest) x S (fun k S1 hk x1 => ?_) fun S1 hk x1 => ?_
    · simp
      refine wp_mono (main k S1 hk x1) ?_
      rintro _ S2 ⟨l, u, A, B, rfl, y1, y2, y3, y4, x2⟩
      simp [y1, y3]
      exact ok k S2 hk x2
    · exact no S1 hk x1
  | true =>
    simp [bEnd, startD]
    refine sp_place (n := n) pp hPc hm a (.int q :: .tup (bs.map bD) :: rest) x S (fun k S1 hk x1 => ?_) fun S1 hk x1 => ?_
    · simp
      refine wp_mono (main k S1 hk x1) ?_
      rintro _ S2 ⟨l, u, A, B, rfl, y1, y2, y3, y4, x2⟩
      simp [y2, y4]
      exact ok k S2 hk x2
    · exact no S1 hk x1

/-! ### asked -/
def bAsked (iLo iHi iX : Nat) : S := .cons (.tr (.cons (.ite (.cmp .eq (.v 0) (.str "low")) (.cons (.ret (.tup (.cons (.str "told") (.cons (.ite (.v 3) (.callk iLo ["stand", "name"] (.nil) (.cons (.v 1) (.cons (.v 2) (.nil)))) (.call iLo (.cons (.v 1) (.cons (.v 2) (.nil))))) (.nil))))) (.nil)) (.nil)) (.cons (.ret (.tup (.cons (.str "told") (.cons (.ite (.v 3) (.callk iHi ["stand", "name"] (.nil) (.cons (.v 1) (.cons (.v 2) (.nil)))) (.call iHi (.cons (.v 1) (.cons (.v 2) (.nil))))) (.nil))))) (.nil))) (.hd iX false (some 4) (.cons (.ret (.tup (.cons (.str "unknown") (.cons (.xf 4 iX 0) (.nil))))) (.nil)) (.nil))) (.nil)
structure EndsP (P : List Df) (iK iH iAr iPl iLi iPc iX iLo iHi iAs : Nat) : Prop where
  pp : ProgP P iK iH iAr iPl
  l : ∃ ps, P[iLi]? = some ⟨1, 10, [], ps, bLimits iPl⟩
  c : ∃ ps, P[iPc]? = some ⟨2, 3, [], ps, bPlace iPl iX⟩
  lo : P[iLo]? = some ⟨2, 5, [], ["stand", "name"], bEnd iPc iLi false⟩
  hi : P[iHi]? = some ⟨2, 5, [], ["stand", "name"], bEnd iPc iLi true⟩
  a : ∃ ps, P[iAs]? = some ⟨4, 5, [], ps, bAsked iLo iHi iX⟩
def wayS (b : Bool) : Str := if b = true then "high" else "low"
def askD (cs : List Str) (t1 t2 : T) (q : Int) (items : List Item) (b : Bool) (x : Str) : D := match plA cs t1 t2 x with
  | some k => .tup [.str "told", endD cs t1 t2 q items b k]
  | none => .tup [.str "unknown", .str x]
theorem way_ne : ((Str.ofString "high") = (Str.ofString "low")) = False := by decide +kernel
theorem sp_asked {iK iH iAr iPl iLi iPc iX iLo iHi iAs : Nat} (ep : EndsP P iK iH iAr iPl iLi iPc iX iLo iHi iAs) (hm : 10000 < m) {cs : List Str} {t1 t2 : T} (a : In4 cs t1 t2)
    (q : Int) (bs told : List Item) (rest : List D) (hbs : ∀ b ∈ bs ++ told, plA cs t1 t2 b.1 ≠ none) (hz : (bs ++ told).length ≤ 5000) (b by_ : Bool) (x : Str) (S : Store) :
    wp (callF P m (n + 10) iAs [.str (wayS b), .tup [.tup (.tup (cs.map D.str) :: t1.d :: t2.d :: .int q :: .tup (bs.map bD) :: rest), .tup (told.map bD)], .str x, .bl by_] S) fun d S' => d = askD cs t1 t2 q (bs ++ told) b x ∧ Ext [] S S' := by
  have hb := big
  obtain ⟨_, hL⟩ := ep.l
  obtain ⟨_, hC⟩ := ep.c
  obtain ⟨_, hA⟩ := ep.a
  refine wp_callF hA rfl ?_
  have ans : ∀ (k : Nat), plA cs t1 t2 x = some k → askD cs t1 t2 q (bs ++ told) b x = .tup [.str "told", endD cs t1 t2 q (bs ++ told) b k] := fun k hk => by unfold askD; rw [hk]
  have una : plA cs t1 t2 x = none → askD cs t1 t2 q (bs ++ told) b x = .tup [.str "unknown", .str x] := fun hk => by unfold askD; rw [hk]
  cases b with
  | false =>
    cases by_ with
    | false =>
      simp [bAsked, startD, wayS]
      refine sp_end (n := n) ep.pp hL hC ep.lo hm a q bs told rest hbs hz x S (fun k S1 hk x1 => ?_) fun S1 hk x1 => ?_
      · simp
        exact ⟨by omega, (ans k hk).symm, x1⟩
      · simp [onH, offL]
        exact ⟨by omega, rfl, by omega, (una hk).symm, x1⟩
    | true =>
      simp [bAsked, startD, wayS]
      refine wpx_callFK ep.lo rfl (sp_end (n := n) ep.pp hL hC ep.lo hm a q bs told rest hbs hz x S (fun k S1 hk x1 => ?_) fun S1 hk x1 => ?_) rfl
      · simp
        exact ⟨by omega, (ans k hk).symm, x1⟩
      · simp [onH, offL]
        exact ⟨by omega, rfl, by omega, (una hk).symm, x1⟩
  | true =>
    cases by_ with
    | false =>
      simp [bAsked, startD, wayS, way_ne]
      refine sp_end (n := n) ep.pp hL hC ep.hi hm a q bs told rest hbs hz x S (fun k S1 hk x1 => ?_) fun S1 hk x1 => ?_
      · simp
        exact ⟨by omega, (ans k hk).symm, x1⟩
      · simp [onH, offL]
        exact ⟨by omega, rfl, by omega, (una hk).symm, x1⟩
    | true =>
      simp [bAsked, startD, wayS, way_ne]
      refine wpx_callFK ep.hi rfl (sp_end (n := n) ep.pp hL hC ep.hi hm a q bs told rest hbs hz x S (fun k S1 hk x1 => ?_) fun S1 hk x1 => ?_) rfl
      · simp
        exact ⟨by omega, (ans k hk).symm, x1⟩
      · simp [onH, offL]
        exact ⟨by omega, rfl, by omega, (una hk).symm, x1⟩
end
end PV

set_option Elab.async false
set_option linter.all false
set_option maxRecDepth 100000
set_option maxHeartbeats 1000000
/-! The law on the ends of all sums, by PV. -/
namespace PV
open PySem
def bEnds (iBo iSa iAs iT : Nat) : S := .cons (.for (.nm 3) (.q (.bi .sorted (.cons (.v 2) (.nil)))) (.cons (.set 4 (.call iBo (.cons (.v 1) (.cons (.v 3) (.nil))))) (.cons (.for (.tup (.cons (.nm 5) (.cons (.nm 6) (.nil)))) (.q (.tup (.cons (.tup (.cons (.str "low") (.cons (.ix (.v 4) (.int 0)) (.nil)))) (.cons (.tup (.cons (.str "high") (.cons (.ix (.v 4) (.int 1)) (.nil)))) (.nil))))) (.cons (.for (.nm 7) (.q (.tup (.cons (.bl true) (.cons (.bl false) (.nil))))) (.cons (.ite (.no (.call iSa (.cons (.call iAs (.cons (.v 5) (.cons (.v 1) (.cons (.v 3) (.cons (.v 7) (.nil)))))) (.cons (.tup (.cons (.str "told") (.cons (.v 6) (.nil)))) (.nil))))) (.cons (.ret (.bl false)) (.nil)) (.nil)) (.nil))) (.nil))) (.nil)))) (.cons (.for (.nm 5) (.q (.tup (.cons (.str "low") (.cons (.str "high") (.nil))))) (.cons (.ite (.no (.call iSa (.cons (.call iAs (.cons (.v 5) (.cons (.v 1) (.cons (.str "zz.zz.zz.zz.") (.cons (.cmp .eq (.call iT (.cons (.v 0) (.cons (.int 2) (.nil)))) (.int 0)) (.nil)))))) (.cons (.tup (.cons (.str "unknown") (.cons (.str "zz.zz.zz.zz.") (.nil)))) (.nil))))) (.cons (.ret (.bl false)) (.nil)) (.nil)) (.nil))) (.cons (.ret (.bl true)) (.nil)))
theorem told_plain (cs : List Str) (t1 t2 : T) (q : Int) (items : List Item) (b : Bool) (k : Nat) : Pl (.tup [.str "told", endD cs t1 t2 q items b k]) ∧ dep (.tup [.str "told", endD cs t1 t2 q items b k]) ≤ 1 := by
  unfold endD
  cases b with
  | false => simp [Pl, Pls, dep, deps]
  | true =>
    cases hiA (plA cs t1 t2) q items k <;> simp [Pl, Pls, dep, deps, hiD]
section
variable {P : List Df} {m f n : Nat} {ps qs rs us vs : List Str}
theorem sp_ends {iK iH iAr iPl iLi iPc iX iLo iHi iAs iBo iSa iM iT iP : Nat} (ep : EndsP P iK iH iAr iPl iLi iPc iX iLo iHi iAs) (hB : P[iBo]? = some ⟨2, 11, [], ps, bBounds⟩) (hSa : P[iSa]? = some ⟨2, 3, [], qs, bSame iSa⟩) (dr : Draws P iM iT iP)
    (h : P[f]? = some ⟨3, 8, [], rs, bEnds iBo iSa iAs iT⟩) (hm : 10000 < m) {cs : List Str} {t1 t2 : T} (a : In4 cs t1 t2)
    (q : Int) (bs told : List Item) (rest : List D) (hbs : ∀ b ∈ bs ++ told, plA cs t1 t2 b.1 ≠ none) (hz : (bs ++ told).length ≤ 5000) {s k r : Nat} {S : Store} (st : StOk S s k) {kvs : List (L2.Key × D)} (hr : S[r]? = some (.dct kvs))
    (hk : kvs.map (·.1) = (lotsOf cs t1 t2).map fun q => (Sum.inr q.1 : L2.Key)) (h64 : (lotsOf cs t1 t2).length < 64) (hzz : plA cs t1 t2 "zz.zz.zz.zz." = none) :
    wp (callF P m (n + 11) f [.ref s, .tup [.tup (.tup (cs.map D.str) :: t1.d :: t2.d :: .int q :: .tup (bs.map bD) :: rest), .tup (told.map bD)], .ref r] S) fun d S' => d = .bl true ∧ Af s k S S' := by
  have hb := big
  refine wp_callF h rfl ?_
  obtain ⟨L, hL⟩ : ∃ L, L = (lotsOf cs t1 t2).map (·.1) := ⟨_, rfl⟩
  have hLm : ∀ x ∈ L, plA cs t1 t2 x ≠ none := fun x hx => a.plx.mpr (by rw [← lots_names, ← hL]; exact hx)
  have lL : L.length < 64 := by rw [hL, List.length_map]; exact h64
  have ek : kvs.map (fun p => dOfKey p.1) = L.map D.str := by
    have := congrArg (fun l => l.map dOfKey) hk
    simp only [List.map_map] at this
    rw [hL, List.map_map]
    exact this
  simp [bEnds, startD, fbD, hr, ek]
  rw [sortD_strs lL]
  simp
  have pm := isort_perm leS L
  generalize isort leS L = M at pm ⊢
  have hMm : ∀ x ∈ M, plA cs t1 t2 x ≠ none := fun x hx => hLm x (pm.mem_iff.mp hx)
  have lM : M.length < 64 := by rw [pm.length_eq]; exact lL
  obtain ⟨S1, hS1⟩ : ∃ S1 : Store, S1 = S ++ [O.lst (M.map D.str)] := ⟨_, rfl⟩
  rw [← hS1]
  have g1 : S1[S.length]? = some (.lst (M.map D.str)) := by rw [hS1]; simp
  have af1 : Af s k S S1 := by rw [hS1]; exact (Af.refl st).push _
  have same : ∀ (d : D) (S' : Store), Pl d → dep d ≤ 1 → wp (callF P m (n + 10) iSa [d, d] S') fun r S2 => r = .bl true ∧ S2 = S' := fun d S' h1 h2 => sp_same hSa hm S' (n + 9) d (by omega) h1
  obtain ⟨I, hI⟩ : ∃ I : Nat → Ls → Store → Prop, ∀ i ls S6, I i ls S6 ↔ ∃ x3 x4 x5 x6 x7, ls = [some (.ref s), some (.tup [.tup (.tup (cs.map D.str) :: t1.d :: t2.d :: .int q :: .tup (bs.map bD) :: rest), .tup (told.map bD)]), some (.ref r), x3, x4, x5, x6, x7] ∧ Ext [] S1 S6 := ⟨_, fun _ _ _ => Iff.rfl⟩
  refine wp_obj (ds := M.map D.str) I (fun i ls S6 hi => ?_) (by simp; omega) ((hI _ _ _).mpr ⟨_, _, _, _, _, rfl, Ext.refl _ _⟩) ?_ ?_
  · obtain ⟨x3, x4, x5, x6, x7, rfl, y⟩ := (hI _ _ _).mp hi
    exact y.at_ _ _ g1 (by simp)
  · intro i d ls S2 hd hi
    obtain ⟨x3, x4, x5, x6, x7, rfl, y⟩ := (hI _ _ _).mp hi
    rw [List.getElem?_map] at hd
    obtain ⟨x, hx, rfl⟩ := Option.map_eq_some_iff.mp hd
    obtain ⟨kx, hkx⟩ := Option.ne_none_iff_exists'.mp (hMm x (List.mem_of_getElem? hx))
    refine ⟨_, rfl, ?_⟩
    simp
    refine wp_mono (sp_bounds (n := n + 9) hB hm a q bs told rest hkx hz S2) ?_
    rintro _ S3 ⟨rb, rfl, b1, b2, y3⟩
    have ans : ∀ b, askD cs t1 t2 q (bs ++ told) b x = .tup [.str "told", endD cs t1 t2 q (bs ++ told) b kx] := fun b => by unfold askD; rw [hkx]
    have e0 : D.int (lowA (plA cs t1 t2) (bs ++ told) kx) = endD cs t1 t2 q (bs ++ told) false kx := rfl
    have e1 : hiD (hiA (plA cs t1 t2) q (bs ++ told) kx) = endD cs t1 t2 q (bs ++ told) true kx := rfl
    rw [e0, e1] at b1
    have w0 : Str.ofString "low" = wayS false := rfl
    have w1 : Str.ofString "high" = wayS true := rfl
    simp [b1]
    refine ⟨by omega, ?_⟩
    have y13 := y.trans y3
    obtain ⟨J, hJ⟩ : ∃ J : Nat → Ls → Store → Prop, ∀ i ls S6, J i ls S6 ↔ ∃ x5 x6 x7, ls = [some (.ref s), some (.tup [.tup (.tup (cs.map D.str) :: t1.d :: t2.d :: .int q :: .tup (bs.map bD) :: rest), .tup (told.map bD)]), some (.ref r), some (.str x), some (.ref rb), x5, x6, x7] ∧ Ext [] S1 S6 := ⟨_, fun _ _ _ => Iff.rfl⟩
    refine wp_seq (ds := [.tup [.str (wayS false), endD cs t1 t2 q (bs ++ told) false kx], .tup [.str (wayS true), endD cs t1 t2 q (bs ++ told) true kx]]) (.inl rfl) J (by simp; omega) ((hJ _ _ _).mpr ⟨_, _, _, rfl, y13⟩) ?_ ?_
    · intro i2 d ls S4 hd hj
      obtain ⟨x5, x6, x7, rfl, y4⟩ := (hJ _ _ _).mp hj
      have hb2 : ∃ b, d = .tup [.str (wayS b), endD cs t1 t2 q (bs ++ told) b kx] := by
        match i2, hd with
        | 0, hd => exact ⟨false, (Option.some.inj hd).symm⟩
        | 1, hd => exact ⟨true, (Option.some.inj hd).symm⟩
        | (i + 2), hd => simp at hd
      obtain ⟨b, rfl⟩ := hb2
      refine ⟨_, rfl, ?_⟩
      simp
      refine ⟨by omega, ?_⟩
      obtain ⟨K, hK⟩ : ∃ K : Nat → Ls → Store → Prop, ∀ i ls S6, K i ls S6 ↔ ∃ x7, ls = [some (.ref s), some (.tup [.tup (.tup (cs.map D.str) :: t1.d :: t2.d :: .int q :: .tup (bs.map bD) :: rest), .tup (told.map bD)]), some (.ref r), some (.str x), some (.ref rb), some (.str (wayS b)), some (endD cs t1 t2 q (bs ++ told) b kx), x7] ∧ Ext [] S1 S6 := ⟨_, fun _ _ _ => Iff.rfl⟩
      refine wp_seq (ds := [.bl true, .bl false]) (.inl rfl) K (by simp; omega) ((hK _ _ _).mpr ⟨_, rfl, y4⟩) ?_ ?_
      · intro i3 d ls S5 hd hj
        obtain ⟨x7, rfl, y5⟩ := (hK _ _ _).mp hj
        have hb3 : ∃ by_, d = .bl by_ := by
          match i3, hd with
          | 0, hd => exact ⟨true, (Option.some.inj hd).symm⟩
          | 1, hd => exact ⟨false, (Option.some.inj hd).symm⟩
          | (i + 2), hd => simp at hd
        obtain ⟨by_, rfl⟩ := hb3
        refine ⟨_, rfl, ?_⟩
        simp
        refine wp_mono (sp_asked (n := n) ep hm a q bs told rest hbs hz b by_ x S5) ?_
        rintro _ S6 ⟨rfl, y6⟩
        rw [ans b]
        simp
        refine ⟨by omega, ?_⟩
        obtain ⟨p1, p2⟩ := told_plain cs t1 t2 q (bs ++ told) b kx
        refine wp_mono (same _ S6 p1 p2) ?_
        rintro _ S7 ⟨rfl, rfl⟩
        simp
        exact (hK _ _ _).mpr ⟨_, rfl, y5.trans y6⟩
      · intro ls S5 hj
        obtain ⟨x7, rfl, y5⟩ := (hK _ _ _).mp hj
        simp
        exact (hJ _ _ _).mpr ⟨_, _, _, rfl, y5⟩
    · intro ls S4 hj
      obtain ⟨x5, x6, x7, rfl, y4⟩ := (hJ _ _ _).mp hj
      simp
      exact (hI _ _ _).mpr ⟨_, _, _, _, _, rfl, y4⟩
  · intro ls S2 hi
    obtain ⟨x3, x4, x5, x6, x7, rfl, y⟩ := (hI _ _ _).mp hi
    simp
    have st2 : StOk S2 s k := af1.st.ext y (by simp) (by simp)
    have af2 : Af s k S S2 := ⟨st2, af1.ext.trans (y.mono (by simp))⟩
    have w0 : Str.ofString "low" = wayS false := rfl
    have w1 : Str.ofString "high" = wayS true := rfl
    rw [w0, w1]
    refine ⟨by omega, ?_⟩
    obtain ⟨J, hJ⟩ : ∃ J : Nat → Ls → Store → Prop, ∀ i ls S6, J i ls S6 ↔ ∃ x3 x4 x5 x6 x7, ls = [some (.ref s), some (.tup [.tup (.tup (cs.map D.str) :: t1.d :: t2.d :: .int q :: .tup (bs.map bD) :: rest), .tup (told.map bD)]), some (.ref r), x3, x4, x5, x6, x7] ∧ Af s k S S6 := ⟨_, fun _ _ _ => Iff.rfl⟩
    refine wp_seq (ds := [.str (wayS false), .str (wayS true)]) (.inl rfl) J (by simp; omega) ((hJ _ _ _).mpr ⟨_, _, _, _, _, rfl, af2⟩) ?_ ?_
    · intro i2 d ls S4 hd hj
      obtain ⟨x3, x4, x5, x6, x7, rfl, y4⟩ := (hJ _ _ _).mp hj
      have hb2 : ∃ b, d = .str (wayS b) := by
        match i2, hd with
        | 0, hd => exact ⟨false, (Option.some.inj hd).symm⟩
        | 1, hd => exact ⟨true, (Option.some.inj hd).symm⟩
        | (i + 2), hd => simp at hd
      obtain ⟨b, rfl⟩ := hb2
      refine ⟨_, rfl, ?_⟩
      simp
      refine wp_mono (dr.tk (n := n + 8) y4.st (by decide) (by decide)) ?_
      rintro _ S5 ⟨v, rfl, v1, v2, af5⟩
      simp
      refine wp_mono (sp_asked (n := n) ep hm a q bs told rest hbs hz b (decide (v = 0)) "zz.zz.zz.zz." S5) ?_
      rintro _ S6 ⟨rfl, y6⟩
      have ans : askD cs t1 t2 q (bs ++ told) b "zz.zz.zz.zz." = .tup [.str "unknown", .str "zz.zz.zz.zz."] := by unfold askD; rw [hzz]
      rw [ans]
      simp
      refine ⟨by omega, ?_⟩
      refine wp_mono (same _ S6 (by simp [Pl, Pls]) (by simp [dep, deps])) ?_
      rintro _ S7 ⟨rfl, rfl⟩
      simp
      have af45 := y4.trans af5
      exact (hJ _ _ _).mpr ⟨_, _, _, _, _, rfl, ⟨af45.st.ext y6 (by simp) (by simp), af45.ext.trans (y6.mono (by simp))⟩⟩
    · intro ls S4 hj
      obtain ⟨x3, x4, x5, x6, x7, rfl, y4⟩ := (hJ _ _ _).mp hj
      simp
      exact y4
end
end PV

set_option Elab.async false
set_option linter.all false
set_option maxRecDepth 100000
set_option maxHeartbeats 1000000
/-! All counts, what is told, by PV. -/
namespace PV
open PySem
def rowD (ws : List Int) : D := .tup (ws.map D.int)
/-- a row of so many counts -/
def RowOk (n : Nat) (most : Int) (ws : List Int) : Prop := ws.length = n ∧ (∀ w ∈ ws, 0 ≤ w ∧ w < 1100) ∧ 0 ≤ ws.sum ∧ ws.sum ≤ most
def bLawCounts : S := .cons (.set 2 (.lst (.cons (.tup (.nil)) (.nil)))) (.cons (.for (.nm 3) (.qr (.v 0)) (.cons (.set 4 (.lst (.nil))) (.cons (.for (.nm 5) (.q (.v 2)) (.cons (.set 4 (.bin .add (.v 4) (.lc [("count", 6)] (.nm 6) (.qr (.bin .add (.bin .sub (.v 1) (.bi .sum (.cons (.v 5) (.nil)))) (.int 1))) .nil (.bin .add (.v 5) (.tup (.cons (.v 6) (.nil))))))) (.nil))) (.cons (.set 2 (.v 4)) (.nil))))) (.cons (.ret (.v 2)) (.nil)))
section
variable {P : List Df} {m f n : Nat} {ps qs rs us vs : List Str}
theorem sp_lawcounts (h : P[f]? = some ⟨2, 7, [], ps, bLawCounts⟩) (hm : 10000 < m) {many : Nat} {most : Int} (h4 : many ≤ 4) (h0 : 0 ≤ most) (h8 : most ≤ 8) (S : Store) :
    wp (callF P m (n + 1) f [.int many, .int most] S) fun d S' => ∃ (r : Nat) (rows : List (List Int)), d = .ref r ∧ S'[r]? = some (.lst (rows.map rowD)) ∧ rows ≠ [] ∧ rows.length ≤ 6561 ∧ (∀ ws ∈ rows, RowOk many most ws) ∧ S.length ≤ r ∧ Ext [] S S' := by
  have hb := big
  refine wp_callF h rfl ?_
  simp [bLawCounts, startD]
  refine ⟨by omega, by omega, ?_⟩
  have pw : ∀ i : Nat, i ≤ 3 → 9 ^ i ≤ 729 := fun i hi => Nat.pow_le_pow_right (by decide) hi
  have pw4 : ∀ i : Nat, i ≤ 4 → 9 ^ i ≤ 6561 := fun i hi => Nat.pow_le_pow_right (by decide) hi
  obtain ⟨I, hI⟩ : ∃ I : Nat → Ls → Store → Prop, ∀ i ls S6, I i ls S6 ↔ ∃ (x3 x4 x5 x6 : Option D) (r2 : Nat) (rows : List (List Int)), ls = [some (.int many), some (.int most), some (.ref r2), x3, x4, x5, x6] ∧ S6[r2]? = some (.lst (rows.map rowD)) ∧ rows ≠ [] ∧ rows.length ≤ 9 ^ i ∧ (∀ ws ∈ rows, RowOk i most ws) ∧ S.length ≤ r2 ∧ Ext [] S S6 := ⟨_, fun _ _ _ => Iff.rfl⟩
  refine wp_rng I (by omega) ((hI _ _ _).mpr ⟨_, _, _, _, S.length, [[]], rfl, by simp [rowD], by simp, by simp, by simp [RowOk]; exact h0, Nat.le_refl _, Ext.push _ _ _⟩) ?_ ?_
  · intro i ls S2 hi hj
    obtain ⟨x3, x4, x5, x6, r2, rows, rfl, q1, q2, q3, q4, q5, y⟩ := (hI _ _ _).mp hj
    have l9 : 9 ^ i ≤ 729 := pw i (by omega)
    have lr := lt_of_some q1
    simp [ap_lt (Lt.of q1), q1]
    obtain ⟨J, hJ⟩ : ∃ J : Nat → Ls → Store → Prop, ∀ j ls S6, J j ls S6 ↔ ∃ (x5 x6 : Option D) (r4 : Nat) (lon : List (List Int)), ls = [some (.int many), some (.int most), some (.ref r2), some (.int i), some (.ref r4), x5, x6] ∧ S6[r4]? = some (.lst (lon.map rowD)) ∧ (0 < j → lon ≠ []) ∧ lon.length ≤ 9 * j ∧ (∀ ws ∈ lon, RowOk (i + 1) most ws) ∧ S.length ≤ r4 ∧ Ext [] S2 S6 := ⟨_, fun _ _ _ => Iff.rfl⟩
    refine wp_obj (ds := rows.map rowD) J (fun j ls S6 hj => ?_) (by simp; omega) ((hJ _ _ _).mpr ⟨_, _, S2.length, [], rfl, by simp, by simp, by simp, by simp, by have := y.len; omega, Ext.push _ _ _⟩) ?_ ?_
    · obtain ⟨x5, x6, r4, lon, rfl, p1, p2, p3, p4, p5, y6⟩ := (hJ _ _ _).mp hj
      exact y6.at_ _ _ q1 (by simp)
    · intro j d ls S3 hd hj
      obtain ⟨x5, x6, r4, lon, rfl, p1, p2, p3, p4, p5, y6⟩ := (hJ _ _ _).mp hj
      rw [List.getElem?_map] at hd
      obtain ⟨row, hrow, rfl⟩ := Option.map_eq_some_iff.mp hd
      have lj := lt_of_some hrow
      obtain ⟨o1, o2, o3, o4⟩ := q4 row (List.mem_of_getElem? hrow)
      refine ⟨_, rfl, ?_⟩
      obtain ⟨c, hc⟩ : ∃ c : Nat, most - row.sum + 1 = (c : Int) := ⟨(most - row.sum + 1).toNat, by omega⟩
      have hc9 : c ≤ 9 := by omega
      have hc1 : 1 ≤ c := by omega
      simp [rowD, asInts_map, hc]
      refine ⟨by omega, ?_⟩
      obtain ⟨A, hA⟩ : ∃ A : Nat → List D → Store → Prop, ∀ z acc S5, A z acc S5 ↔ acc = ((List.range z).map fun (c : Nat) => row ++ [(c : Int)]).map rowD ∧ Ext [] S3 S5 := ⟨_, fun _ _ _ => Iff.rfl⟩
      refine wp_lcR A (by omega) ((hA _ _ _).mpr ⟨rfl, Ext.push _ _ _⟩) (by simp) ?_ ?_
      · intro z acc S5 hz ha hr5
        obtain ⟨rfl, y5⟩ := (hA _ _ _).mp ha
        unfold lcTurn
        simp
        refine ⟨by omega, by rw [o1]; omega, by simpa using hr5, by omega, (hA _ _ _).mpr ⟨?_, y5.setN (Nat.le_refl _) _⟩⟩
        rw [List.range_succ]
        simp [rowD]
      · intro acc S5 ha hr5
        obtain ⟨rfl, y5⟩ := (hA _ _ _).mp ha
        have w4 := y5.at_ _ _ p1 (by simp)
        simp [w4, hr5]
        refine ⟨by omega, (hJ _ _ _).mpr ⟨_, _, S5.length, lon ++ ((List.range c).map fun (c : Nat) => row ++ [(c : Int)]), rfl, by simp [rowD, Function.comp_def], fun _ => ?_, ?_, fun ws hw => ?_, ?_, (y6.trans y5).pushed _⟩⟩
        · intro e
          have := congrArg List.length e
          simp at this
          omega
        · simp; omega
        · rcases List.mem_append.mp hw with z | z
          · exact p4 ws z
          · obtain ⟨v, hv, rfl⟩ := List.mem_map.mp z
            rw [List.mem_range] at hv
            refine ⟨by simp [o1], fun w hw => ?_, by simp; omega, by simp; omega⟩
            rcases List.mem_append.mp hw with z | z
            · exact o2 w z
            · simp only [List.mem_cons, List.not_mem_nil, or_false] at z
              subst z
              omega
        · have := y.len
          have := y6.len
          have := y5.len
          omega
    · intro ls S3 hj
      obtain ⟨x5, x6, r4, lon, rfl, p1, p2, p3, p4, p5, y6⟩ := (hJ _ _ _).mp hj
      rw [List.length_map] at p2 p3
      simp
      refine (hI _ _ _).mpr ⟨_, _, _, _, r4, lon, rfl, p1, p2 (List.length_pos_iff.mpr q2), ?_, p4, p5, y.trans y6⟩
      have := Nat.mul_le_mul_left 9 q3
      rw [Nat.pow_succ]
      omega
  · intro ls S2 hj
    obtain ⟨x3, x4, x5, x6, r2, rows, rfl, q1, q2, q3, q4, q5, y⟩ := (hI _ _ _).mp hj
    simp
    exact ⟨rows, q1, q2, Nat.le_trans q3 (pw4 many h4), q4, q5, y⟩

def bTold (iLo iP iC iS : Nat) : S := .cons (.set 3 (.call iLo (.cons (.v 1) (.nil)))) (.cons (.set 4 (.call iP (.cons (.v 0) (.cons (.call iC (.cons (.bi .len (.cons (.ix (.v 1) (.int 0)) (.nil))) (.cons (.ix (.v 1) (.int 3)) (.nil)))) (.nil))))) (.cons (.set 5 (.lst (.nil))) (.cons (.for (.nm 6) (.qr (.v 2)) (.cons (.set 7 (.call iP (.cons (.v 0) (.cons (.bi .sorted (.cons (.v 3) (.nil))) (.nil))))) (.cons (.set 8 (.bi .max (.cons (.int 0) (.cons (.bin .add (.call iS (.cons (.v 1) (.cons (.v 3) (.cons (.v 4) (.cons (.v 7) (.nil)))))) (.call iP (.cons (.v 0) (.cons (.lst (.cons (.int 0) (.cons (.int 0) (.cons (.int 0) (.cons (.int 0) (.cons (.int 0) (.cons (.int 1) (.cons (.neg (.int 1)) (.nil))))))))) (.nil))))) (.nil))))) (.cons (.set 9 (.bi .max (.cons (.int 0) (.cons (.bin .sub (.v 8) (.call iP (.cons (.v 0) (.cons (.lst (.cons (.int 0) (.cons (.int 1) (.cons (.int 2) (.nil))))) (.nil))))) (.nil))))) (.cons (.ex (.mt .append (.v 5) (.cons (.tup (.cons (.v 7) (.cons (.v 9) (.cons (.call iP (.cons (.v 0) (.cons (.lst (.cons (.non) (.cons (.v 8) (.cons (.bin .add (.v 8) (.int 1)) (.nil))))) (.nil)))) (.nil))))) (.nil)))) (.nil)))))) (.cons (.ret (.bi .tuple (.cons (.v 5) (.nil)))) (.nil)))))
structure ToldP (P : List Df) (iM iT iP iK iLo iC iS f : Nat) : Prop where
  dr : Draws P iM iT iP
  k : ∃ ps, P[iK]? = some ⟨1, 11, [], ps, bKnots⟩
  l : ∃ ps, P[iLo]? = some ⟨1, 6, [], ps, bLots iK⟩
  c : ∃ ps, P[iC]? = some ⟨2, 7, [], ps, bLawCounts⟩
  s : ∃ ps, P[iS]? = some ⟨4, 5, [], ps, bSum⟩
  t : ∃ ps, P[f]? = some ⟨3, 10, [], ps, bTold iLo iP iC iS⟩
theorem sp_told {iM iT iP iK iLo iC iS : Nat} (tp : ToldP P iM iT iP iK iLo iC iS f) (hm : 10000 < m) {cs : List Str} {t1 t2 : T} (a : In4 cs t1 t2) (h4 : cs.length ≤ 4) (q : Int) (hq0 : 0 ≤ q) (hq8 : q ≤ 8) (rest : List D) {s k : Nat} {S : Store} (st : StOk S s k) {many : Nat} (hmany : many ≤ 1000) :
    wp (callF P m (n + 5) f [.ref s, .tup (.tup (cs.map D.str) :: t1.d :: t2.d :: .int q :: rest), .int many] S) fun d S' => ∃ told : List Item, d = .tup (told.map bD) ∧ told.length = many ∧ (∀ b ∈ told, b.1 ∈ cs ++ (t1.nm ++ t2.nm)) ∧ Af s k S S' := by
  have hb := big
  have ai := a.arcIn
  have dr := tp.dr
  obtain ⟨_, hK⟩ := tp.k
  obtain ⟨_, hL⟩ := tp.l
  obtain ⟨_, hC⟩ := tp.c
  obtain ⟨_, hS⟩ := tp.s
  obtain ⟨_, h⟩ := tp.t
  have ls := st.lt
  refine wp_callF h rfl ?_
  simp [bTold, startD]
  have z1 := ai.z1
  have z2 := ai.z2
  refine wp_mono (sp_lots (n := n + 2) hL hK hm cs t1 t2 (.int q :: rest) S ai.n1 ai.n2 (by omega) (by omega) (by omega) a.lotsNd) ?_
  rintro _ S1 ⟨r, kvs, rfl, g1, lk, hr, x1⟩
  simp
  refine wp_mono (sp_lawcounts (n := n + 3) hC hm h4 hq0 hq8 S1) ?_
  rintro _ S2 ⟨r2, rows, rfl, p1, p2, p3, p4, p5, x2⟩
  simp
  have st2 : StOk S2 s k := (st.ext x1 (by simp) (by simp)).ext x2 (by simp) (by simp)
  have x1l := x1.len
  refine wp_mono (dr.pkL (n := n + 1) st2 p1 (by omega) (by rw [List.length_map]; exact List.length_pos_iff.mpr p2) (by rw [List.length_map]; omega)) ?_
  rintro _ S3 ⟨hd3, af3⟩
  obtain ⟨ws, hws, rfl⟩ := List.mem_map.mp hd3
  obtain ⟨o1, o2, o3, o4⟩ := p4 ws hws
  have af : Af s k S S3 := ⟨af3.st, (x1.trans x2).mono (by simp) |>.trans af3.ext⟩
  have rs : r ≠ s := by omega
  have g3 : S3[r]? = some (.dct kvs) := af3.at_ (x2.at_ _ _ g1 (by simp)) rs
  have lk3 : LK S S3 r kvs (lotsOf cs t1 t2) := (lk.mono x2 (by simp)).mono af3.ext (fun i hi => by simp at hi; subst hi; exact .inr ls)
  obtain ⟨L, hLL⟩ : ∃ L, L = (lotsOf cs t1 t2).map (·.1) := ⟨_, rfl⟩
  have lL : L.length < 64 := by
    rw [hLL, lots_names]
    have := a.k1
    simp only [List.length_append]
    omega
  have ek : kvs.map (fun p => dOfKey p.1) = L.map D.str := by
    have := congrArg (fun l => l.map dOfKey) lk.keys
    simp only [List.map_map] at this
    rw [hLL, List.map_map]
    exact this
  have pm := isort_perm leS L
  have so := sortD_strs lL
  generalize isort leS L = M at pm so
  have hMm : ∀ x ∈ M, x ∈ cs ++ (t1.nm ++ t2.nm) := fun x hx => by rw [← lots_names, ← hLL]; exact pm.mem_iff.mp hx
  have hMl : 0 < M.length := by
    rw [pm.length_eq, hLL, lots_names, root_nm a.n1]
    simp only [List.length_append, List.length_cons]
    omega
  obtain ⟨I, hI⟩ : ∃ I : Nat → Ls → Store → Prop, ∀ i ls S6, I i ls S6 ↔ ∃ (x6 x7 x8 x9 : Option D) (told : List Item), ls = [some (.ref s), some (.tup (.tup (cs.map D.str) :: t1.d :: t2.d :: .int q :: rest)), some (.int many), some (.ref r), some (rowD ws), some (.ref S3.length), x6, x7, x8, x9] ∧
      S6[S3.length]? = some (.lst (told.map bD)) ∧ told.length = i ∧ (∀ b ∈ told, b.1 ∈ cs ++ (t1.nm ++ t2.nm)) ∧ Af s k S3 S6 := ⟨_, fun _ _ _ => Iff.rfl⟩
  simp
  refine ⟨by omega, ?_⟩
  refine wp_rng I (by omega) ((hI _ _ _).mpr ⟨_, _, _, _, [], rfl, by simp, rfl, by simp, (Af.refl af3.st).push _⟩) ?_ ?_
  · intro i ls S4 hi hj
    obtain ⟨x6, x7, x8, x9, told, rfl, q1, q2, q3, af4⟩ := (hI _ _ _).mp hj
    have g4 := af4.at_ g3 rs
    have lk4 : LK S S4 r kvs (lotsOf cs t1 t2) := lk3.mono af4.ext (fun i hi => by simp at hi; subst hi; exact .inr ls)
    have fs : S3.length ≠ s := by have := af3.st.lt; omega
    simp [fbD, g4, ek, so]
    have st5 : StOk (S4 ++ [O.lst (M.map D.str)]) s k := af4.st.push _
    have l34 := af4.ext.len
    have ls4 := af4.st.lt
    refine wp_mono (dr.pkL (n := n + 1) st5 (r := S4.length) (ds := M.map D.str) (by simp) (by omega) (by simpa using hMl) (by rw [List.length_map, pm.length_eq]; omega)) ?_
    rintro _ S5 ⟨hd5, af5⟩
    obtain ⟨x, hx, rfl⟩ := List.mem_map.mp hd5
    simp
    have hxL : x ∈ (lotsOf cs t1 t2).map (·.1) := by rw [← hLL]; exact pm.mem_iff.mp hx
    obtain ⟨⟨nm0, lt⟩, hxm, rfl⟩ := List.mem_map.mp hxL
    have x45 : Ext [s] S4 S5 := (Ext.push [s] S4 _).trans af5.ext
    have g5 := x45.at_ _ _ g4 (by simpa using rs)
    have lk5 : LK S S5 r kvs (lotsOf cs t1 t2) := lk4.mono x45 (fun i hi => by simp at hi; subst hi; exact .inr ls)
    obtain ⟨l, es, v1, v2, v3, v4, v5⟩ := lk5.at_ _ lt hxm
    refine wp_mono (sp_sum (n := n + 3) hS hm o1 (by omega) (t1.d :: t2.d :: .int q :: rest) (.inl g5) v1 v2 v3) ?_
    rintro _ S6 ⟨rfl, x6⟩
    simp
    refine ⟨by omega, ?_⟩
    have af46 : Af s k S4 S6 := ⟨af5.st.ext x6 (by simp) (by simp), x45.trans (x6.mono (by simp))⟩
    have l46 := af46.ext.len
    refine wp_mono (dr.pkL (n := n + 1) (af46.st.push _) (r := S6.length) (ds := [.int 0, .int 0, .int 0, .int 0, .int 0, .int 1, .int (-1)]) (by simp) (by omega) (by simp) (by simp)) ?_
    rintro d7 S7 ⟨hd7, af7⟩
    obtain ⟨v7, rfl⟩ : ∃ v, d7 = .int v := by
      simp only [List.mem_cons, List.not_mem_nil, or_false] at hd7
      rcases hd7 with rfl | rfl | rfl | rfl | rfl | rfl | rfl <;> exact ⟨_, rfl⟩
    simp
    have af47 : Af s k S4 S7 := (af46.push _).trans af7
    have l47 := af47.ext.len
    refine ⟨by omega, ?_⟩
    obtain ⟨num, hnum⟩ : ∃ num, num = if 0 < sumOf cs ws lt + v7 then sumOf cs ws lt + v7 else 0 := ⟨_, rfl⟩
    rw [← hnum]
    refine wp_mono (dr.pkL (n := n + 1) (af47.st.push _) (r := S7.length) (ds := [.int 0, .int 1, .int 2]) (by simp) (by omega) (by simp) (by simp)) ?_
    rintro d8 S8 ⟨hd8, af8⟩
    obtain ⟨v8, rfl⟩ : ∃ v, d8 = .int v := by
      simp only [List.mem_cons, List.not_mem_nil, or_false] at hd8
      rcases hd8 with rfl | rfl | rfl <;> exact ⟨_, rfl⟩
    simp
    have af48 : Af s k S4 S8 := (af47.push _).trans af8
    have l48 := af48.ext.len
    rw [af48.at_ q1 fs]
    refine ⟨rfl, by omega, ?_⟩
    refine wp_mono (dr.pkL (n := n + 1) (af48.st.push _) (r := S8.length) (ds := [.non, .int num, .int (num + 1)]) (by simp) (by omega) (by simp) (by simp)) ?_
    rintro d9 S9 ⟨hd9, af9⟩
    obtain ⟨v9, rfl⟩ : ∃ v, d9 = hiD v := by
      simp only [List.mem_cons, List.not_mem_nil, or_false] at hd9
      rcases hd9 with rfl | rfl | rfl
      · exact ⟨none, rfl⟩
      · exact ⟨some _, rfl⟩
      · exact ⟨some _, rfl⟩
    have af49 : Af s k S4 S9 := (af48.push _).trans af9
    have q9 := af49.at_ q1 fs
    simp [q9]
    obtain ⟨low, hlow⟩ : ∃ low, low = if v8 < num then num - v8 else 0 := ⟨_, rfl⟩
    refine ⟨by omega, by omega, (hI _ _ _).mpr ⟨_, _, _, _, told ++ [(nm0, low, v9)], rfl, ?_, by simp [q2], fun b hb => ?_, (af4.trans af49).setN af3.st (Nat.le_refl _) _⟩⟩
    · rw [set_same (Lt.of q9), List.map_append]
      simp [bD, hlow]
    · rcases List.mem_append.mp hb with z | z
      · exact q3 b z
      · simp only [List.mem_cons, List.not_mem_nil, or_false] at z
        subst z
        exact hMm _ hx
  · intro ls S4 hj
    obtain ⟨x6, x7, x8, x9, told, rfl, q1, q2, q3, af4⟩ := (hI _ _ _).mp hj
    simp [q1]
    exact ⟨told, rfl, q2, fun x y z h => by simpa using q3 (x, y, z) h, af.trans af4⟩
end
end PV

set_option Elab.async false
set_option linter.all false
set_option maxRecDepth 100000
set_option maxHeartbeats 1000000
/-! The law on worlds, by PV. -/
namespace PV
open PySem
theorem str_small : ∀ v : Fin 1100, (toString ((v.val : Nat) : Int) : Str).length ≤ 10 := by decide +kernel
theorem str_ok {v : Int} (h0 : 0 ≤ v) (h1 : v < 1100) : v.natAbs.log2 < 1920 ∧ (toString v : Str).length ≤ sizeLine := by
  have hb := big
  obtain ⟨n, rfl⟩ : ∃ n : Nat, v = n := ⟨v.toNat, by omega⟩
  have := str_small ⟨n, by omega⟩
  refine ⟨?_, by show (toString ((n : Nat) : Int) : Str).length ≤ sizeLine; simp only at this; omega⟩
  rw [Int.natAbs_natCast]
  by_cases e : n = 0
  · subst e; decide
  · rw [Nat.log2_lt e]
    exact Nat.lt_of_lt_of_le (by omega : n < 2 ^ 11) (Nat.pow_le_pow_right (by decide) (by decide))
def bDue : S := .cons (.ret (.ite (.v 1) (.cmp .is (.v 0) (.bl true)) (.cmp .is (.v 0) (.bl false)))) (.nil)
def bWorlds (iLI iDu iIs iP iT : Nat) : S := .cons (.for (.nm 4) (.q (.v 3)) (.cons (.set 5 (.call iLI (.cons (.v 1) (.cons (.v 2) (.cons (.v 4) (.nil)))))) (.cons (.ite (.bo false (.cons (.no (.call iDu (.cons (.call iIs (.cons (.v 1) (.cons (.v 4) (.nil)))) (.cons (.v 5) (.nil))))) (.cons (.no (.call iDu (.cons (.callk iIs ["stand", "value"] (.nil) (.cons (.v 1) (.cons (.v 4) (.nil)))) (.cons (.v 5) (.nil))))) (.nil)))) (.cons (.ret (.bl false)) (.nil)) (.nil)) (.nil)))) (.cons (.set 6 (.call iP (.cons (.v 0) (.cons (.v 3) (.nil))))) (.cons (.set 7 (.call iT (.cons (.v 0) (.cons (.bi .len (.cons (.v 6) (.nil))) (.nil))))) (.cons (.set 8 (.lst (.cons (.sl (.v 6) .nil (.neg (.int 1))) (.cons (.bin .add (.v 6) (.tup (.cons (.int 0) (.nil)))) (.cons (.non) (.cons (.int 0) (.cons (.str "ab") (.cons (.tup (.nil)) (.cons (.tup (.cons (.v 6) (.nil))) (.cons (.ix (.bi .list (.cons (.v 6) (.nil))) (.int 0)) (.cons (.bin .add (.bin .add (.sl (.v 6) .nil (.v 7)) (.tup (.cons (.neg (.int 1)) (.nil)))) (.sl (.v 6) (.bin .add (.v 7) (.int 1)) .nil)) (.cons (.bin .add (.bin .add (.sl (.v 6) .nil (.v 7)) (.tup (.cons (.non) (.nil)))) (.sl (.v 6) (.bin .add (.v 7) (.int 1)) .nil)) (.nil))))))))))))) (.cons (.set 8 (.bin .add (.v 8) (.lst (.cons (.bin .add (.bin .add (.sl (.v 6) .nil (.v 7)) (.tup (.cons (.cmp .eq (.ix (.v 6) (.v 7)) (.int 1)) (.nil)))) (.sl (.v 6) (.bin .add (.v 7) (.int 1)) .nil)) (.cons (.bin .add (.bin .add (.sl (.v 6) .nil (.v 7)) (.tup (.cons (.bi .str (.cons (.ix (.v 6) (.v 7)) (.nil))) (.nil)))) (.sl (.v 6) (.bin .add (.v 7) (.int 1)) .nil)) (.cons (.bin .add (.bin .add (.sl (.v 6) .nil (.v 7)) (.tup (.cons (.bin .pow (.int 10) (.int 29)) (.nil)))) (.sl (.v 6) (.bin .add (.v 7) (.int 1)) .nil)) (.cons (.slr (.v 6)) (.nil)))))))) (.cons (.for (.nm 4) (.q (.v 8)) (.cons (.ite (.no (.call iDu (.cons (.call iIs (.cons (.v 1) (.cons (.v 4) (.nil)))) (.cons (.call iLI (.cons (.v 1) (.cons (.v 2) (.cons (.v 4) (.nil))))) (.nil))))) (.cons (.ret (.bl false)) (.nil)) (.nil)) (.nil))) (.cons (.ret (.bl true)) (.nil)))))))
structure WorldsP (P : List Df) (iM iT iP iK iH iAr iPl iW iC iL iS iIs iBo iSu iLI iDu f : Nat) : Prop where
  dr : Draws P iM iT iP
  w : WorldP P iK iH iAr iPl iW iC iL iS
  is_ : P[iIs]? = some ⟨2, 8, [], ["stand", "value"], bIsWorld iC iL iS⟩
  b : ∃ ps, P[iBo]? = some ⟨2, 11, [], ps, bBounds⟩
  s : ∃ ps, P[iSu]? = some ⟨4, 5, [], ps, bSum⟩
  li : ∃ ps, P[iLI]? = some ⟨3, 9, [], ps, bLawIs iBo iSu⟩
  du : ∃ ps, P[iDu]? = some ⟨2, 2, [], ps, bDue⟩
  f : ∃ ps, P[f]? = some ⟨4, 9, [], ps, bWorlds iLI iDu iIs iP iT⟩
section
variable {P : List Df} {m f n : Nat} {ps qs rs us vs : List Str}
theorem sp_due (h : P[f]? = some ⟨2, 2, [], ps, bDue⟩) (b : Bool) (S : Store) : wp (callF P m (n + 1) f [.bl b, .bl b] S) fun d S' => d = .bl true ∧ S' = S := by
  refine wp_callF h rfl ?_
  cases b <;> simp [bDue, startD]
theorem sp_worlds {iM iT iP iK iH iAr iPl iW iC iL iS iIs iBo iSu iLI iDu : Nat} (wp_ : WorldsP P iM iT iP iK iH iAr iPl iW iC iL iS iIs iBo iSu iLI iDu f) (hm : 10000 < m) {cs : List Str} {t1 t2 : T} (a : In4 cs t1 t2)
    (q : Int) (bs told : List Item) (rest : List D) (hbs : ∀ b ∈ bs ++ told, plA cs t1 t2 b.1 ≠ none) (hz : (bs ++ told).length ≤ 5000) {s k r rr : Nat} {S0 S : Store} (st : StOk S s k) (hs0 : s < S0.length) {kvs : List (L2.Key × D)} (hr : S[r]? = some (.dct kvs)) (hrs : r ≠ s)
    (lk : LK S0 S r kvs (lotsOf cs t1 t2)) {rows : List (List Int)} (hrr : S[rr]? = some (.lst (rows.map rowD))) (hrrs : rr ≠ s) (hne : rows ≠ []) (hrl : rows.length ≤ 6561) (hrow : ∀ ws ∈ rows, 0 < ws.length ∧ ws.length ≤ 60 ∧ ∀ w ∈ ws, 0 ≤ w ∧ w < 1100) :
    wp (callF P m (n + 10) f [.ref s, .tup [.tup (.tup (cs.map D.str) :: t1.d :: t2.d :: .int q :: .tup (bs.map bD) :: rest), .tup (told.map bD)], .ref r, .ref rr] S) fun d S' => d = .bl true ∧ Af s k S S' := by
  have hb := big
  have dr := wp_.dr
  obtain ⟨_, hB⟩ := wp_.b
  obtain ⟨_, hSu⟩ := wp_.s
  obtain ⟨_, hLI⟩ := wp_.li
  obtain ⟨_, hDu⟩ := wp_.du
  obtain ⟨_, h⟩ := wp_.f
  refine wp_callF h rfl ?_
  have isW : ∀ (v : D) (S' : Store), ScV v → wp (callF P m (n + 9) iIs [.tup [.tup (.tup (cs.map D.str) :: t1.d :: t2.d :: .int q :: .tup (bs.map bD) :: rest), .tup (told.map bD)], v] S') fun d S2 => d = .bl (worldB cs t1 t2 q (bs ++ told) v) ∧ Ext [] S' S2 := fun v S' hv => sp_isworld (n := n) wp_.w wp_.is_ hm a q bs told rest hbs hz v hv S'
  have lawW : ∀ (v : D) (S' : Store), ScV v → S'[r]? = some (.dct kvs) → LK S0 S' r kvs (lotsOf cs t1 t2) → wp (callF P m (n + 9) iLI [.tup [.tup (.tup (cs.map D.str) :: t1.d :: t2.d :: .int q :: .tup (bs.map bD) :: rest), .tup (told.map bD)], .ref r, v] S') fun d S2 => d = .bl (worldB cs t1 t2 q (bs ++ told) v) ∧ Ext [] S' S2 := fun v S' hv h1 h2 => sp_lawis (n := n + 7) hB hSu hLI hm a q bs told rest hz h1 h2 v hv
  have due : ∀ b S', wp (callF P m (n + 9) iDu [.bl b, .bl b] S') fun d S2 => d = .bl true ∧ S2 = S' := fun b S' => sp_due (n := n + 8) hDu b S'
  have isk : ∀ (v : D) (S' : Store), ScV v → wp (callFK P m (n + 9) iIs ["stand", "value"] [] [.tup [.tup (.tup (cs.map D.str) :: t1.d :: t2.d :: .int q :: .tup (bs.map bD) :: rest), .tup (told.map bD)], v] S') fun d S2 => d = .bl (worldB cs t1 t2 q (bs ++ told) v) ∧ Ext [] S' S2 := fun v S' hv => wp_callFK wp_.is_ rfl (isW v S' hv) rfl
  have scRow : ∀ ws ∈ rows, ScV (rowD ws) := fun ws hw => by
    obtain ⟨h1, h2, h3⟩ := hrow ws hw
    unfold rowD
    refine ⟨by rw [List.length_map]; omega, fun d hd => ?_⟩
    obtain ⟨v, _, rfl⟩ := List.mem_map.mp hd
    rfl
  simp [bWorlds, startD, hrr]
  obtain ⟨I, hI⟩ : ∃ I : Nat → Ls → Store → Prop, ∀ i ls S6, I i ls S6 ↔ ∃ x4 x5 x6 x7 x8, ls = [some (.ref s), some (.tup [.tup (.tup (cs.map D.str) :: t1.d :: t2.d :: .int q :: .tup (bs.map bD) :: rest), .tup (told.map bD)]), some (.ref r), some (.ref rr), x4, x5, x6, x7, x8] ∧ Ext [] S S6 := ⟨_, fun _ _ _ => Iff.rfl⟩
  refine wp_obj (ds := rows.map rowD) I (fun i ls S6 hi => ?_) (by simp; omega) ((hI _ _ _).mpr ⟨_, _, _, _, _, rfl, Ext.refl _ _⟩) ?_ ?_
  · obtain ⟨x4, x5, x6, x7, x8, rfl, y⟩ := (hI _ _ _).mp hi
    exact y.at_ _ _ hrr (by simp)
  · intro i d ls S2 hd hi
    obtain ⟨x4, x5, x6, x7, x8, rfl, y⟩ := (hI _ _ _).mp hi
    rw [List.getElem?_map] at hd
    obtain ⟨ws, hws, rfl⟩ := Option.map_eq_some_iff.mp hd
    have sc := scRow ws (List.mem_of_getElem? hws)
    refine ⟨_, rfl, ?_⟩
    simp
    refine wp_mono (lawW _ S2 sc (y.at_ _ _ hr (by simp)) (lk.mono y (by simp))) ?_
    rintro _ S3 ⟨rfl, y3⟩
    simp
    refine wp_mono (isW _ S3 sc) ?_
    rintro _ S4 ⟨rfl, y4⟩
    simp
    refine wp_mono (due _ S4) ?_
    rintro _ S5 ⟨rfl, rfl⟩
    simp
    refine wp_mono (isk _ S5 sc) ?_
    rintro _ S6 ⟨rfl, y6⟩
    simp
    refine wp_mono (due _ S6) ?_
    rintro _ S7 ⟨rfl, rfl⟩
    simp
    exact (hI _ _ _).mpr ⟨_, _, _, _, _, rfl, ((y.trans y3).trans y4).trans y6⟩
  · intro ls S2 hi
    obtain ⟨x4, x5, x6, x7, x8, rfl, y⟩ := (hI _ _ _).mp hi
    simp
    have st2 : StOk S2 s k := st.ext y (by simp) (by simp)
    refine wp_mono (dr.pkL (n := n + 6) st2 (y.at_ _ _ hrr (by simp)) hrrs (by rw [List.length_map]; exact List.length_pos_iff.mpr hne) (by rw [List.length_map]; omega)) ?_
    rintro _ S3 ⟨hd3, af3⟩
    obtain ⟨ws, hws, rfl⟩ := List.mem_map.mp hd3
    obtain ⟨w1, w2, w3⟩ := hrow ws hws
    simp [rowD]
    refine wp_mono (dr.tk (n := n + 7) af3.st (by omega) (by omega)) ?_
    rintro _ S4 ⟨v, rfl, v1, v2, af4⟩
    have af : Af s k S S4 := ⟨af4.st, (y.mono (by simp)).trans (af3.ext.trans af4.ext)⟩
    obtain ⟨j, rfl⟩ : ∃ j : Nat, v = j := ⟨v.toNat, by omega⟩
    have hj : j < ws.length := by omega
    have gj := List.getElem?_eq_getElem hj
    obtain ⟨c, hc⟩ : ∃ c, c = ws[j] := ⟨_, rfl⟩
    rw [← hc] at gj
    obtain ⟨c1, c2⟩ := w3 c (List.mem_of_getElem? gj)
    have so := str_ok c1 c2
    have ej : ∀ xs : List D, cut xs (some ((j : Int) + 1)) none = xs.drop (j + 1) := fun xs => by
      rw [cut_lo (by omega)]
      congr 1
    have g0 : ws[0]? = some ws[0] := List.getElem?_eq_getElem (by omega)
    simp [gj, g0, slD, ej, so.1]
    repeat (refine ⟨by first | omega | exact so.2, ?_⟩)
    obtain ⟨V, hV⟩ : ∃ V : List D, V = [.tup (cut (ws.map D.int) none (some (-1))), .tup (ws.map D.int ++ [.int 0]), .non, .int 0, .str "ab", .tup [], .tup [.tup (ws.map D.int)], .int ws[0], .tup ((ws.map D.int).take j ++ .int (-1) :: (ws.map D.int).drop (j + 1)), .tup ((ws.map D.int).take j ++ .non :: (ws.map D.int).drop (j + 1)), .tup ((ws.map D.int).take j ++ .bl (decide (c = 1)) :: (ws.map D.int).drop (j + 1)), .tup ((ws.map D.int).take j ++ .str (Str.ofString c.repr) :: (ws.map D.int).drop (j + 1)), .tup ((ws.map D.int).take j ++ .int 100000000000000000000000000000 :: (ws.map D.int).drop (j + 1)), .tup (ws.map D.int).reverse] := ⟨_, rfl⟩
    obtain ⟨S5, hS5⟩ : ∃ S5 : Store, S5 = S4 ++ [.lst (ws.map D.int), .lst [.tup (cut (ws.map D.int) none (some (-1))), .tup (ws.map D.int ++ [.int 0]), .non, .int 0, .str "ab", .tup [], .tup [.tup (ws.map D.int)], .int ws[0], .tup ((ws.map D.int).take j ++ .int (-1) :: (ws.map D.int).drop (j + 1)), .tup ((ws.map D.int).take j ++ .non :: (ws.map D.int).drop (j + 1))], .lst [.tup ((ws.map D.int).take j ++ .bl (decide (c = 1)) :: (ws.map D.int).drop (j + 1)), .tup ((ws.map D.int).take j ++ .str (Str.ofString c.repr) :: (ws.map D.int).drop (j + 1)), .tup ((ws.map D.int).take j ++ .int 100000000000000000000000000000 :: (ws.map D.int).drop (j + 1)), .tup (ws.map D.int).reverse], .lst V] := ⟨_, rfl⟩
    have hS5' := hS5
    rw [hV] at hS5'
    rw [← hS5']
    have lW : (ws.map D.int).length ≤ 60 := by rw [List.length_map]; exact w2
    have hV0 : ∀ d ∈ V, ScV d := by
      have sW : ∀ d ∈ ws.map D.int, sc1 d = true := fun d hd => by
        obtain ⟨v, _, rfl⟩ := List.mem_map.mp hd
        rfl
      have sT : ∀ d ∈ (ws.map D.int).take j, sc1 d = true := fun d hd => sW d (List.mem_of_mem_take hd)
      have sD : ∀ d ∈ (ws.map D.int).drop (j + 1), sc1 d = true := fun d hd => sW d (List.mem_of_mem_drop hd)
      have mid : ∀ x : D, sc1 x = true → ScV (.tup ((ws.map D.int).take j ++ x :: (ws.map D.int).drop (j + 1))) := fun x hx => by
        refine ⟨by simp; omega, fun d hd => ?_⟩
        rcases List.mem_append.mp hd with z | z
        · exact sT d z
        · rcases List.mem_cons.mp z with rfl | z
          · exact hx
          · exact sD d z
      rw [hV]
      intro d hd
      simp only [List.mem_cons, List.not_mem_nil, or_false] at hd
      rcases hd with rfl | rfl | rfl | rfl | rfl | rfl | rfl | rfl | rfl | rfl | rfl | rfl | rfl | rfl
      · refine ⟨Nat.le_trans (cut_len _ _ _) (by omega), fun d hd => ?_⟩
        unfold cut at hd
        exact sW d (List.mem_of_mem_drop (List.mem_of_mem_take hd))
      · refine ⟨by simp; omega, fun d hd => ?_⟩
        rcases List.mem_append.mp hd with z | z
        · exact sW d z
        · simp only [List.mem_cons, List.not_mem_nil, or_false] at z
          subst z
          rfl
      · exact trivial
      · exact trivial
      · exact trivial
      · exact ⟨by simp, fun d hd => by cases hd⟩
      · refine ⟨by simp, fun d hd => ?_⟩
        simp only [List.mem_cons, List.not_mem_nil, or_false] at hd
        subst hd
        rfl
      · exact trivial
      · exact mid _ rfl
      · exact mid _ rfl
      · exact mid _ rfl
      · exact mid _ rfl
      · exact mid _ rfl
      · exact ⟨by simpa using by omega, fun d hd => sW d (List.mem_reverse.mp hd)⟩
    have lV : V.length = 14 := by rw [hV]; rfl
    have gV : S5[S4.length + 3]? = some (.lst V) := by rw [hS5, List.getElem?_append_right (by omega)]; simp
    have af5 : Af s k S S5 := by rw [hS5]; exact af.pushs _
    clear hS5 hS5' hV
    obtain ⟨J, hJ⟩ : ∃ J : Nat → Ls → Store → Prop, ∀ i ls S6, J i ls S6 ↔ ∃ x4 x5 x6 x7 x8, ls = [some (.ref s), some (.tup [.tup (.tup (cs.map D.str) :: t1.d :: t2.d :: .int q :: .tup (bs.map bD) :: rest), .tup (told.map bD)]), some (.ref r), some (.ref rr), x4, x5, x6, x7, x8] ∧ Ext [] S5 S6 := ⟨_, fun _ _ _ => Iff.rfl⟩
    have r5 : S5[r]? = some (.dct kvs) := af5.at_ hr hrs
    have lk5 : LK S0 S5 r kvs (lotsOf cs t1 t2) := lk.mono af5.ext (fun i hi => by simp at hi; subst hi; exact .inr hs0)
    refine wp_obj (ds := V) J (fun i ls S6 hi => ?_) (by omega) ((hJ _ _ _).mpr ⟨_, _, _, _, _, rfl, Ext.refl _ _⟩) ?_ ?_
    · obtain ⟨x4, x5, x6, x7, x8, rfl, y⟩ := (hJ _ _ _).mp hi
      exact y.at_ _ _ gV (by simp)
    · intro i d ls S6 hd hi
      obtain ⟨x4, x5, x6, x7, x8, rfl, y⟩ := (hJ _ _ _).mp hi
      have sc := hV0 d (List.mem_of_getElem? hd)
      refine ⟨_, rfl, ?_⟩
      simp
      refine wp_mono (isW _ S6 sc) ?_
      rintro _ S7 ⟨rfl, y7⟩
      simp
      have y67 := y.trans y7
      refine wp_mono (lawW _ S7 sc (y67.at_ _ _ r5 (by simp)) (lk5.mono y67 (by simp))) ?_
      rintro _ S8 ⟨rfl, y8⟩
      simp
      refine wp_mono (due _ S8) ?_
      rintro _ S9 ⟨rfl, rfl⟩
      simp
      exact (hJ _ _ _).mpr ⟨_, _, _, _, _, rfl, y67.trans y8⟩
    · intro ls S6 hi
      obtain ⟨x4, x5, x6, x7, x8, rfl, y⟩ := (hJ _ _ _).mp hi
      simp
      exact ⟨af5.st.ext y (by simp) (by simp), af5.ext.trans (y.mono (by simp))⟩
end
end PV

set_option Elab.async false
set_option linter.all false
set_option maxRecDepth 100000
set_option maxHeartbeats 1000000
/-! The great office, by PV. -/
namespace PV
open PySem
def gName (p : Str) (v : Int) : Str := p ++ Str.ofString v.repr
theorem str_ok10 {v : Int} (h0 : 0 ≤ v) (h1 : v < 1100) : v.natAbs.log2 < 1920 ∧ (Str.ofString v.repr).length ≤ 10 := by
  refine ⟨(str_ok h0 h1).1, ?_⟩
  obtain ⟨n, rfl⟩ : ∃ n : Nat, v = n := ⟨v.toNat, by omega⟩
  exact str_small ⟨n, by omega⟩
def csG : List Str := (List.range 40).map fun (k : Nat) => gName "c" (100 + (k : Int))
def grp (n k : Nat) : List Str := (csG.drop (n * k)).take n
def t1G : T := .node "t" ((List.range 4).map fun (k : Nat) => T.node (gName "w" k) ((grp 10 k).map .leaf))
def t2G : T := .node "u" ((List.range 2).map fun (k : Nat) => T.node (gName "v" k) ((grp 20 k).map .leaf))
theorem dG {p : Str} {n m : Nat} {r : Str} : T.d (.node r ((List.range m).map fun (k : Nat) => T.node (gName p k) ((grp n k).map .leaf))) = .tup [.str r, .tup ((List.range m).map fun (k : Nat) => .tup [.str (gName p k), .tup ((grp n k).map .str)])] := by
  rw [T.d, T.dL_map, List.map_map]
  congr 5
  funext k
  simp only [Function.comp_apply, T.d, T.dL_leaf]
theorem in4G : In4 csG t1G t2G where
  n1 := rfl
  n2 := rfl
  nd := by decide +kernel
  l1 := List.Perm.of_eq (by decide +kernel)
  l2 := List.Perm.of_eq (by decide +kernel)
  z0 := by decide +kernel
  k1 := by decide +kernel
  d1 := by decide +kernel
  d2 := by decide +kernel
theorem zzG : plA csG t1G t2G "zz.zz.zz.zz." = none := by decide +kernel
theorem lenG : csG.length = 40 := rfl
theorem namesG : (∀ k : Fin 4, gName "w" (k.val : Nat) ∈ csG ++ (t1G.nm ++ t2G.nm)) ∧ Str.ofString "v0" ∈ csG ++ (t1G.nm ++ t2G.nm) := by decide +kernel

def bGreat (iT : Nat) : S := .cons (.set 1 (.bi .tuple (.cons (.lc [("k", 2)] (.nm 2) (.qr (.int 40)) .nil (.bin .add (.str "c") (.bi .str (.cons (.bin .add (.int 100) (.v 2)) (.nil))))) (.nil)))) (.cons (.set 3 (.bi .tuple (.cons (.lc [("k", 2)] (.nm 2) (.qr (.int 40)) .nil (.call iT (.cons (.v 0) (.cons (.int 1000) (.nil))))) (.nil)))) (.cons (.set 4 (.lc [("k", 2)] (.nm 2) (.qr (.int 4)) .nil (.sl (.v 1) (.bin .mul (.int 10) (.v 2)) (.bin .add (.bin .mul (.int 10) (.v 2)) (.int 10))))) (.cons (.set 5 (.tup (.cons (.str "u") (.cons (.bi .tuple (.cons (.lc [("k", 2)] (.nm 2) (.qr (.int 2)) .nil (.tup (.cons (.bin .add (.str "v") (.bi .str (.cons (.v 2) (.nil)))) (.cons (.sl (.v 1) (.bin .mul (.int 20) (.v 2)) (.bin .add (.bin .mul (.int 20) (.v 2)) (.int 20))) (.nil))))) (.nil))) (.nil))))) (.cons (.set 6 (.tup (.cons (.v 1) (.cons (.tup (.cons (.str "t") (.cons (.bi .tuple (.cons (.lc [("k", 2)] (.nm 2) (.qr (.int 4)) .nil (.tup (.cons (.bin .add (.str "w") (.bi .str (.cons (.v 2) (.nil)))) (.cons (.ix (.v 4) (.v 2)) (.nil))))) (.nil))) (.nil)))) (.cons (.v 5) (.cons (.bin .add (.bi .sum (.cons (.v 3) (.nil))) (.call iT (.cons (.v 0) (.cons (.int 2) (.nil))))) (.cons (.tup (.nil)) (.cons (.tup (.nil)) (.nil))))))))) (.cons (.slc 7 [("k", 2)] (.nm 2) (.qr (.int 4)) .nil (.tup (.cons (.bin .add (.str "w") (.bi .str (.cons (.v 2) (.nil)))) (.cons (.bi .sum (.cons (.sl (.v 3) (.bin .mul (.int 10) (.v 2)) (.bin .add (.bin .mul (.int 10) (.v 2)) (.int 10))) (.nil))) (.cons (.bin .add (.bi .sum (.cons (.sl (.v 3) (.bin .mul (.int 10) (.v 2)) (.bin .add (.bin .mul (.int 10) (.v 2)) (.int 10))) (.nil))) (.int 5)) (.nil)))))) (.cons (.ret (.lst (.cons (.tup (.cons (.v 6) (.cons (.bin .add (.bi .tuple (.cons (.v 7) (.nil))) (.tup (.cons (.tup (.cons (.str "v0") (.cons (.int 0) (.cons (.bi .sum (.cons (.sl (.v 3) .nil (.int 20)) (.nil))) (.nil))))) (.nil)))) (.nil)))) (.cons (.v 3) (.nil))))) (.nil)))))))
section
variable {P : List Df} {m f n : Nat} {ps qs rs us vs : List Str}
theorem cut_grp {α : Type} {xs : List α} {b k : Nat} (h : b * k + b ≤ xs.length) : cut xs (some ((b : Int) * (k : Int))) (some ((b : Int) * (k : Int) + (b : Int))) = (xs.drop (b * k)).take b := by
  have e1 : (b : Int) * (k : Int) = ((b * k : Nat) : Int) := by rw [Int.natCast_mul]
  have e2 : (b : Int) * (k : Int) + (b : Int) = ((b * k + b : Nat) : Int) := by rw [e1]; omega
  rw [e2, e1, cut_mid (by omega) h]
  congr 1
  omega
theorem sp_great {iM iT iP : Nat} (dr : Draws P iM iT iP) (h : P[f]? = some ⟨1, 8, [], ps, bGreat iT⟩) (hm : 10000 < m) {s k : Nat} {S : Store} (st : StOk S s k) :
    wp (callF P m (n + 3) f [.ref s] S) fun d S' => ∃ (r : Nat) (q : Int) (told : List Item) (ws : List Int), d = .ref r ∧
      S'[r]? = some (.lst [.tup [.tup (.tup (csG.map D.str) :: t1G.d :: t2G.d :: .int q :: .tup (([] : List Item).map bD) :: [.tup []]), .tup (told.map bD)], rowD ws]) ∧ ws.length = 40 ∧ (∀ w ∈ ws, 0 ≤ w ∧ w < 1000) ∧ (∀ b ∈ told, b.1 ∈ csG ++ (t1G.nm ++ t2G.nm)) ∧ told.length = 5 ∧ Af s k S S' := by
  have hb := big
  refine wp_callF h rfl ?_
  simp [bGreat, startD]
  have lc1 : (Str.ofString "c").length = 1 := by decide +kernel
  have lw1 : (Str.ofString "w").length = 1 := by decide +kernel
  have lv1 : (Str.ofString "v").length = 1 := by decide +kernel
  -- the cells
  refine wp_lcR (fun i acc S' => acc = ((List.range i).map fun (k : Nat) => gName "c" (100 + (k : Int))).map D.str ∧ Af s k S S') (by omega) ⟨rfl, (Af.refl st).push _⟩ (by simp) ?_ ?_
  · rintro i acc S' hi ⟨rfl, af⟩ hr
    obtain ⟨o1, o2⟩ := str_ok10 (v := 100 + (i : Int)) (by omega) (by omega)
    unfold lcTurn
    simp [o1, lc1]
    refine ⟨by omega, by omega, by simpa using hr, by omega, ?_, af.setN st (Nat.le_refl _) _⟩
    rw [List.range_succ]
    simp [gName]
  · rintro acc S1 ⟨rfl, af1⟩ hr1
    simp [hr1]
    have ec : (List.range 40).map (D.str ∘ fun (k : Nat) => gName "c" (100 + (k : Int))) = csG.map D.str := by unfold csG; rw [List.map_map]
    rw [ec]
    clear hr1 ec
    refine wp_lcR (fun i acc S' => ∃ ws : List Int, acc = ws.map D.int ∧ ws.length = i ∧ (∀ w ∈ ws, 0 ≤ w ∧ w < 1000) ∧ Af s k S S') (by omega) ⟨[], rfl, rfl, by simp, af1.push _⟩ (by simp) ?_ ?_
    · rintro i acc S' hi ⟨ws, rfl, hw1, hw2, af⟩ hr
      unfold lcTurn
      simp
      refine wp_mono (dr.tk (n := n) af.st (by decide) (by decide)) ?_
      rintro _ S2 ⟨v, rfl, v1, v2, af2⟩
      have hs := st.lt
      have l1 := af1.ext.len
      have e := af2.at_ hr (by omega)
      refine ⟨e, by simp [hw1]; omega, ws ++ [v], by simp, by simp [hw1], fun w hw => ?_, (af.trans af2).setN st l1 _⟩
      rcases List.mem_append.mp hw with z | z
      · exact hw2 w z
      · simp only [List.mem_cons, List.not_mem_nil, or_false] at z
        subst z
        exact ⟨v1, v2⟩
    · rintro acc S2 ⟨ws, rfl, hw1, hw2, af2⟩ hr2
      simp [hr2]
      clear hr2
      -- the lots
      refine wp_lcR (fun i acc S' => acc = ((List.range i).map fun (k : Nat) => D.tup ((grp 10 k).map D.str)) ∧ Af s k S S') (by omega) ⟨rfl, af2.push _⟩ (by simp) ?_ ?_
      · rintro i acc S' hi ⟨rfl, af⟩ hr
        unfold lcTurn
        have hc := cut_grp (xs := csG.map D.str) (b := 10) (k := i) (by rw [List.length_map, lenG]; omega)
        rw [show ((10 : Nat) : Int) = 10 from rfl] at hc
        simp [slD, hc]
        refine ⟨by simpa using hr, by omega, ?_, af.setN st af2.ext.len _⟩
        rw [List.range_succ]
        simp [grp, List.map_drop, List.map_take]
      · rintro acc S3 ⟨rfl, af3⟩ hr3
        have l2 := af2.ext.len
        have l3 := lt_of_some hr3
        simp
        -- the second tree
        refine wp_lcR (fun i acc S' => acc = ((List.range i).map fun (k : Nat) => D.tup [.str (gName "v" k), .tup ((grp 20 k).map D.str)]) ∧ Ext [] S3 S') (by omega) ⟨rfl, Ext.push _ _ _⟩ (by simp) ?_ ?_
        · rintro i acc S' hi ⟨rfl, x4⟩ hr
          obtain ⟨o1, o2⟩ := str_ok10 (v := (i : Int)) (by omega) (by omega)
          unfold lcTurn
          have hc := cut_grp (xs := csG.map D.str) (b := 20) (k := i) (by rw [List.length_map, lenG]; omega)
          rw [show ((20 : Nat) : Int) = 20 from rfl] at hc
          rw [Int.natAbs_natCast] at o1
          simp [slD, hc, o1, lv1]
          refine ⟨by omega, by omega, by omega, by simpa using hr, by omega, ?_, x4.setN (Nat.le_refl _) _⟩
          rw [List.range_succ]
          simp [grp, gName, List.map_drop, List.map_take]
        · rintro acc S4 ⟨rfl, x4⟩ hr4
          have r34 := x4.at_ _ _ hr3 (by simp)
          have af4 : Af s k S S4 := ⟨af3.st.ext x4 (by simp) (by simp), af3.ext.trans (x4.mono (by simp))⟩
          simp [hr4]
          refine ⟨by omega, ?_⟩
          have e2 : D.tup [.str (Str.ofString "u"), .tup ((List.range 2).map fun (k : Nat) => D.tup [.str (gName "v" k), .tup ((grp 20 k).map D.str)])] = t2G.d := dG.symm
          rw [e2]
          clear hr4
          have l4 := lt_of_some r34
          -- the first tree
          refine wp_lcR (fun i acc S' => acc = ((List.range i).map fun (k : Nat) => D.tup [.str (gName "w" k), .tup ((grp 10 k).map D.str)]) ∧ Ext [] S4 S') (by omega) ⟨rfl, Ext.push _ _ _⟩ (by simp) ?_ ?_
          · rintro i acc S' hi ⟨rfl, x5⟩ hr
            obtain ⟨o1, o2⟩ := str_ok10 (v := (i : Int)) (by omega) (by omega)
            rw [Int.natAbs_natCast] at o1
            have r5 := x5.at_ _ _ r34 (by simp)
            unfold lcTurn
            simp [r5, o1, lw1, hi]
            refine ⟨by omega, by omega, by omega, by simpa using hr, by omega, ?_, x5.setN (Nat.le_refl _) _⟩
            rw [List.range_succ]
            simp [gName]
          · rintro acc S5 ⟨rfl, x5⟩ hr5
            have af5 : Af s k S S5 := ⟨af4.st.ext x5 (by simp) (by simp), af4.ext.trans (x5.mono (by simp))⟩
            simp [hr5]
            have e1 : D.tup [.str (Str.ofString "t"), .tup ((List.range 4).map fun (k : Nat) => D.tup [.str (gName "w" k), .tup ((grp 10 k).map D.str)])] = t1G.d := dG.symm
            rw [e1]
            clear hr5
            refine ⟨by omega, ?_⟩
            refine wp_mono (dr.tk (n := n) af5.st (by decide) (by decide)) ?_
            rintro _ S6 ⟨v, rfl, v1, v2, af6⟩
            simp
            refine ⟨by omega, ?_⟩
            have af06 := af5.trans af6
            have l06 := af06.ext.len
            obtain ⟨q, hq⟩ : ∃ q, q = ws.sum + v := ⟨_, rfl⟩
            rw [← hq]
            obtain ⟨gs, hgs⟩ : ∃ gs : Nat → Int, gs = fun k => ((ws.drop (10 * k)).take 10).sum := ⟨_, rfl⟩
            refine wp_lcR (fun i acc S' => acc = ((List.range i).map fun (k : Nat) => ((gName "w" k, gs k, some (gs k + 5)) : Item)).map bD ∧ Ext [] S6 S') (by omega) ⟨rfl, Ext.push _ _ _⟩ (by simp) ?_ ?_
            · rintro i acc S' hi ⟨rfl, x7⟩ hr
              obtain ⟨o1, o2⟩ := str_ok10 (v := (i : Int)) (by omega) (by omega)
              rw [Int.natAbs_natCast] at o1
              have hc := cut_grp (xs := ws.map D.int) (b := 10) (k := i) (by rw [List.length_map, hw1]; omega)
              rw [show ((10 : Nat) : Int) = 10 from rfl, ← List.map_drop, ← List.map_take] at hc
              unfold lcTurn
              have eS : asInts (((ws.map D.int).drop (10 * i)).take 10) = some ((ws.drop (10 * i)).take 10) := by rw [← List.map_drop, ← List.map_take, asInts_map]
              simp [slD, hc, o1, lw1]
              rw [eS]
              refine ⟨by omega, by omega, ?_⟩
              simp [slD, hc]
              rw [eS]
              simp
              refine ⟨by omega, by simpa using hr, by omega, ?_, x7.setN (Nat.le_refl _) _⟩
              rw [List.range_succ]
              simp [gName, bD, hiD, hgs]
            · rintro acc S7 ⟨rfl, x7⟩ hr7
              have af7 : Af s k S S7 := ⟨af06.st.ext x7 (by simp) (by simp), af06.ext.trans (x7.mono (by simp))⟩
              have eS : asInts ((ws.map D.int).take 20) = some (ws.take 20) := by rw [← List.map_take, asInts_map]
              simp [hr7]
              rw [eS]
              simp
              refine ⟨by omega, by omega, by omega, by omega, q, ((List.range 4).map fun (k : Nat) => ((gName "w" k, gs k, some (gs k + 5)) : Item)) ++ [(Str.ofString "v0", 0, some (ws.take 20).sum)], ws, ⟨⟨rfl, ?_⟩, rfl⟩, hw1, hw2, fun x y z hx => ?_, by simp, af7.push _⟩
              · simp [bD, hiD]
              · have key : x ∈ csG ++ (t1G.nm ++ t2G.nm) := by
                  rcases List.mem_append.mp hx with hx | hx
                  · obtain ⟨i, hi, e⟩ := List.mem_map.mp hx
                    have e : gName "w" i = x := congrArg (fun p : Item => p.1) e
                    rw [← e]
                    exact namesG.1 ⟨i, List.mem_range.mp hi⟩
                  · simp only [List.mem_cons, List.not_mem_nil, or_false] at hx
                    have e : x = Str.ofString "v0" := congrArg (fun p : Item => p.1) hx
                    rw [e]
                    exact namesG.2
                simpa using key
end
end PV

set_option Elab.async false
set_option linter.all false
set_option maxRecDepth 100000
set_option maxHeartbeats 1000000
/-! The law of bounds and worlds, by PV. -/
namespace PV
open PySem
def bTail04 (iT iTo iL iC iEn iWo : Nat) : S := .cons (.set 5 (.tup (.cons (.v 4) (.cons (.call iTo (.cons (.v 1) (.cons (.v 4) (.cons (.call iT (.cons (.v 1) (.cons (.int 6) (.nil)))) (.nil))))) (.nil))))) (.cons (.set 6 (.call iL (.cons (.v 4) (.nil)))) (.cons (.set 7 (.call iC (.cons (.v 3) (.cons (.bi .min (.cons (.bin .add (.ix (.v 4) (.int 3)) (.int 1)) (.cons (.ite (.cmp .gt (.v 3) (.int 3)) (.int 6) (.int 8)) (.nil)))) (.nil))))) (.cons (.ite (.bo false (.cons (.no (.call iEn (.cons (.v 1) (.cons (.v 5) (.cons (.v 6) (.nil)))))) (.cons (.no (.call iWo (.cons (.v 1) (.cons (.v 5) (.cons (.v 6) (.cons (.v 7) (.nil))))))) (.nil)))) (.cons (.ret (.bl false)) (.nil)) (.nil)) (.nil))))
def bLaw04 (iSt iT iOf iTo iL iC iEn iWo iGr iP : Nat) : S := .cons (.set 1 (.call iSt (.cons (.v 0) (.nil)))) (.cons (.for (.nm 2) (.qr (.int 2)) (.cons (.set 3 (.bin .add (.int 1) (.call iT (.cons (.v 1) (.cons (.int 4) (.nil)))))) (.cons (.set 4 (.call iOf (.cons (.v 1) (.cons (.v 3) (.cons (.ite (.cmp .lt (.v 3) (.int 4)) (.int 7) (.int 5)) (.nil)))))) (bTail04 iT iTo iL iC iEn iWo)))) (.cons (.ite (.cmp .eq (.call iT (.cons (.v 1) (.cons (.int 8) (.nil)))) (.int 0)) (.cons (.asg (.tup (.cons (.nm 5) (.cons (.nm 8) (.nil)))) (.call iGr (.cons (.v 1) (.nil)))) (.cons (.set 9 (.call iT (.cons (.v 1) (.cons (.int 40) (.nil))))) (.cons (.set 10 (.bin .add (.bin .add (.sl (.v 8) .nil (.v 9)) (.tup (.cons (.bin .add (.ix (.v 8) (.v 9)) (.call iP (.cons (.v 1) (.cons (.lst (.cons (.int 1) (.cons (.int 4) (.cons (.int 6) (.nil))))) (.nil))))) (.nil)))) (.sl (.v 8) (.bin .add (.v 9) (.int 1)) .nil))) (.cons (.set 6 (.call iL (.cons (.ix (.v 5) (.int 0)) (.nil)))) (.cons (.ret (.bo true (.cons (.call iEn (.cons (.v 1) (.cons (.v 5) (.cons (.v 6) (.nil))))) (.cons (.call iWo (.cons (.v 1) (.cons (.v 5) (.cons (.v 6) (.cons (.lst (.cons (.v 8) (.cons (.v 10) (.cons (.slr (.v 8)) (.nil))))) (.nil)))))) (.nil))))) (.nil)))))) (.nil)) (.cons (.ret (.bl true)) (.nil))))
structure Law04P (P : List Df) (iM iT iP iS iN iTr iK iL iMx iOf iKn iHo iAr iPl iPc iLi iLow iHig iSums iW iCo iIs iX iSt iSa iDu iBo iSu iLI iC iTo iAs iEn iWo iGr f : Nat) : Prop where
  off : OffP P iM iT iP iS iN iTr iK iL iMx iOf
  st : ∃ ps, P[iSt]? = some ⟨1, 3, [], ps, bStart iM⟩
  ends : EndsP P iKn iHo iAr iPl iLi iPc iX iLow iHig iAs
  sa : ∃ ps, P[iSa]? = some ⟨2, 3, [], ps, bSame iSa⟩
  bo : ∃ ps, P[iBo]? = some ⟨2, 11, [], ps, bBounds⟩
  en : ∃ ps, P[iEn]? = some ⟨3, 8, [], ps, bEnds iBo iSa iAs iT⟩
  wo : WorldsP P iM iT iP iKn iHo iAr iPl iW iCo iLi iSums iIs iBo iSu iLI iDu iWo
  to : ToldP P iM iT iP iK iL iC iSu iTo
  gr : ∃ ps, P[iGr]? = some ⟨1, 8, [], ps, bGreat iT⟩
  law : ∃ ps, P[f]? = some ⟨1, 11, [], ps, bLaw04 iSt iT iOf iTo iL iC iEn iWo iGr iP⟩
theorem OffOk.in4 {many : Nat} {most : Int} {o : Off} (h : OffOk many most o) (hm : many ≤ 50) : In4 o.cs o.t1 o.t2 :=
  ⟨h.n1, h.n2, h.nd, h.l1, h.l2, by rw [h.len]; omega, h.k1, h.d1, h.d2⟩
theorem OffOk.zz {many : Nat} {most : Int} {o : Off} (h : OffOk many most o) (hm : many ≤ 25) : plA o.cs o.t1 o.t2 "zz.zz.zz.zz." = none := by
  cases e : plA o.cs o.t1 o.t2 "zz.zz.zz.zz." with
  | none => rfl
  | some k =>
    have hmem := (h.in4 (by omega)).plx.mp (by rw [e]; simp)
    have := (h.short _ hmem).2 hm
    have l12 : (Str.ofString "zz.zz.zz.zz.").length = 12 := by decide +kernel
    omega
theorem OffOk.bpl {many : Nat} {most : Int} {o : Off} (h : OffOk many most o) (hm : many ≤ 50) : ∀ b ∈ o.bs, plA o.cs o.t1 o.t2 b.1 ≠ none := fun b hb => by
  refine (h.in4 hm).plx.mpr ?_
  have h1 : b.1 ∈ o.bs.map (·.1) := List.mem_map.mpr ⟨b, hb, rfl⟩
  have h2 := h.bsub.subset h1
  unfold Off.every at h2
  rw [← lots_names]
  exact (isort_perm leS _).mem_iff.mp h2
theorem OffOk.blen {many : Nat} {most : Int} {o : Off} (h : OffOk many most o) (hm : many ≤ 50) : o.bs.length ≤ 100 := by
  have h1 := h.bsub.length_le
  unfold Off.every at h1
  rw [(isort_perm leS _).length_eq, lots_names, List.length_map] at h1
  have := h.len
  have := h.k1
  simp only [List.length_append] at h1
  omega
section
variable {P : List Df} {m f n : Nat} {ps qs rs us vs : List Str} {iM iT iP iS iN iTr iK iL iMx iOf iKn iHo iAr iPl iPc iLi iLow iHig iSums iW iCo iIs iX iSt iSa iDu iBo iSu iLI iC iTo iAs iEn iWo iGr : Nat}
theorem sp_tail04 (lp : Law04P P iM iT iP iS iN iTr iK iL iMx iOf iKn iHo iAr iPl iPc iLi iLow iHig iSums iW iCo iIs iX iSt iSa iDu iBo iSu iLI iC iTo iAs iEn iWo iGr f) (hm : 10000 < m) {many : Nat} {most : Int} {o : Off} (ok : OffOk many most o) (h4 : many ≤ 4) (h1 : 1 ≤ many) (h7 : most ≤ 7) {s k : Nat} {S : Store} (st : StOk S s k)
    (x0 x2 x5 x6 x7 x8 x9 x10 : Option D) :
    wp (exS (callF P m (n + 12)) (callFK P m (n + 12)) m (bTail04 iT iTo iL iC iEn iWo) [x0, some (.ref s), x2, some (.int many), some (Off.d o), x5, x6, x7, x8, x9, x10] S) fun fl S' => ∃ y5 y6 y7, fl = .next [x0, some (.ref s), x2, some (.int many), some (Off.d o), y5, y6, y7, x8, x9, x10] ∧ StOk S' s k := by
  have hb := big
  have dr := lp.off.dr
  obtain ⟨_, hSa⟩ := lp.sa
  obtain ⟨_, hBo⟩ := lp.bo
  obtain ⟨_, hEn⟩ := lp.en
  obtain ⟨_, hK⟩ := lp.off.knots
  obtain ⟨_, hL⟩ := lp.off.lots
  obtain ⟨_, hC⟩ := lp.to.c
  have a := ok.in4 (by omega)
  have ai := a.arcIn
  simp [bTail04]
  refine wp_mono (dr.tk (n := n + 10) st (by decide) (by decide)) ?_
  rintro _ S1 ⟨v, rfl, v1, v2, af1⟩
  simp
  obtain ⟨mt, rfl⟩ : ∃ mt : Nat, v = mt := ⟨v.toNat, by omega⟩
  obtain ⟨q0, q1⟩ := ok.q0
  refine wp_mono (sp_told (n := n + 7) lp.to hm a (by rw [ok.len]; exact h4) o.q q0 (by omega) [.tup (o.bs.map bD), .tup (o.ws.map wiD)] af1.st (many := mt) (by omega)) ?_
  rintro _ S2 ⟨told, rfl, t1, t2, af2⟩
  simp
  refine ⟨by omega, ?_⟩
  have z1 := ai.z1
  have z2 := ai.z2
  have z0 := ai.z0
  refine wp_mono (sp_lots (n := n + 10) hL hK hm o.cs o.t1 o.t2 [.int o.q, .tup (o.bs.map bD), .tup (o.ws.map wiD)] S2 ai.n1 ai.n2 (by omega) (by omega) (by omega) a.lotsNd) ?_
  rintro _ S3 ⟨r, kvs, rfl, g3, lk3, hr3, x3⟩
  have e3 : ixD (Off.d o) (.int 3) S3 = some (.int o.q) := rfl
  have l2 := af2.st.lt
  have af12 := af1.trans af2
  have af3 : Af s k S S3 := ⟨af2.st.ext x3 (by simp) (by simp), af12.ext.trans (x3.mono (by simp))⟩
  simp [e3]
  have main : ∀ z : Int, (z = 6 ∨ z = 8) → wp (callF P m (n + 12) iC [.int many, .int (if z < o.q + 1 then z else o.q + 1)] S3) fun d S' => ∃ (r : Nat) (rows : List (List Int)), d = .ref r ∧ S'[r]? = some (.lst (rows.map rowD)) ∧ rows ≠ [] ∧ rows.length ≤ 6561 ∧ (∀ ws ∈ rows, RowOk many (if z < o.q + 1 then z else o.q + 1) ws) ∧ S3.length ≤ r ∧ Ext [] S3 S' := fun z hz =>
    sp_lawcounts (n := n + 11) hC hm h4 (by split <;> omega) (by split <;> omega) S3
  have hbs : ∀ b ∈ o.bs ++ told, plA o.cs o.t1 o.t2 b.1 ≠ none := fun b hb => by
    rcases List.mem_append.mp hb with z | z
    · exact ok.bpl (by omega) b z
    · exact a.plx.mpr (t2 b z)
  have hz : (o.bs ++ told).length ≤ 5000 := by
    have := ok.blen (by omega)
    rw [List.length_append, t1]; omega
  have h64 : (lotsOf o.cs o.t1 o.t2).length < 64 := by
    have e1 := congrArg List.length (lots_names (cs := o.cs) (t1 := o.t1) (t2 := o.t2))
    rw [List.length_map] at e1
    have := ok.len
    have := ok.k1
    simp only [List.length_append] at e1
    omega
  have rs : r ≠ s := by omega
  split
  all_goals
    refine wp_mono (main _ (by first | exact .inl rfl | exact .inr rfl)) ?_
    rintro _ S4 ⟨r4, rows, rfl, p1, p2, p3, p4, p5, x4⟩
    have l3 := x3.len
    simp
    have g4 := x4.at_ _ _ g3 (by simp)
    have lk4 : LK S2 S4 r kvs (lotsOf o.cs o.t1 o.t2) := lk3.mono x4 (by simp)
    have af4 : Af s k S S4 := ⟨af3.st.ext x4 (by simp) (by simp), af3.ext.trans (x4.mono (by simp))⟩
    refine wp_mono (sp_ends (n := n + 1) lp.ends hBo hSa dr hEn hm a o.q o.bs told [.tup (o.ws.map wiD)] hbs hz af4.st g4 lk4.keys h64 (ok.zz (by omega))) ?_
    rintro _ S5 ⟨rfl, af5⟩
    have g5 := af5.at_ g4 rs
    have lk5 : LK S2 S5 r kvs (lotsOf o.cs o.t1 o.t2) := lk4.mono af5.ext (fun i hi => by simp at hi; subst hi; exact .inr l2)
    have p5' := af5.at_ p1 (by omega)
    simp
    refine wp_mono (sp_worlds (n := n + 2) lp.wo hm a o.q o.bs told [.tup (o.ws.map wiD)] hbs hz af5.st l2 g5 rs lk5 p5' (by omega) p2 p3 fun ws hw => ⟨by have := (p4 ws hw).1; omega, by have := (p4 ws hw).1; omega, (p4 ws hw).2.1⟩) ?_
    rintro _ S6 ⟨rfl, af6⟩
    simp
    exact af6.st

theorem lotsG : (lotsOf csG t1G t2G).length < 64 := by decide +kernel
theorem sp_law04 (lp : Law04P P iM iT iP iS iN iTr iK iL iMx iOf iKn iHo iAr iPl iPc iLi iLow iHig iSums iW iCo iIs iX iSt iSa iDu iBo iSu iLI iC iTo iAs iEn iWo iGr f) (hm : 10000 < m) (ns : List Int) : wp (callF P m (n + 13) f [.rol (ns.map D.int)] []) fun d S' => d = .bl true := by
  have hb := big
  have dr := lp.off.dr
  obtain ⟨_, hM⟩ := dr.mix
  obtain ⟨_, hSt⟩ := lp.st
  obtain ⟨_, hSa⟩ := lp.sa
  obtain ⟨_, hBo⟩ := lp.bo
  obtain ⟨_, hEn⟩ := lp.en
  obtain ⟨_, hK⟩ := lp.off.knots
  obtain ⟨_, hL⟩ := lp.off.lots
  obtain ⟨_, hGr⟩ := lp.gr
  obtain ⟨_, h⟩ := lp.law
  refine wp_callF h rfl ?_
  simp [bLaw04, startD]
  refine wp_mono (sp_start (n := n + 10) hSt hM ns [] hm) ?_
  rintro _ S1 ⟨s, k, rfl, st1, _, _⟩
  simp
  obtain ⟨I, hI⟩ : ∃ I : Nat → Ls → Store → Prop, ∀ i ls S', I i ls S' ↔ ∃ (x2 x3 x4 x5 x6 x7 x8 x9 x10 : Option D), ls = [some (.rol (ns.map D.int)), some (.ref s), x2, x3, x4, x5, x6, x7, x8, x9, x10] ∧ StOk S' s k := ⟨_, fun _ _ _ => Iff.rfl⟩
  refine wp_rng I (by omega) ((hI _ _ _).mpr ⟨_, _, _, _, _, _, _, _, _, rfl, st1⟩) ?_ ?_
  · intro i ls S' hi hj
    obtain ⟨x2, x3, x4, x5, x6, x7, x8, x9, x10, rfl, st⟩ := (hI _ _ _).mp hj
    simp
    refine wp_mono (dr.tk (n := n + 10) st (by decide) (by decide)) ?_
    rintro _ S2 ⟨v, rfl, v1, v2, af2⟩
    simp
    obtain ⟨many, hmany⟩ : ∃ many : Nat, 1 + v = many := ⟨(1 + v).toNat, by omega⟩
    rw [hmany]
    split
    · refine wp_mono (sp_office (n := n + 4) lp.off hm af2.st (many := many) (by omega) (by omega) (most := 7) (by decide) (by decide)) ?_
      rintro _ S3 ⟨o, rfl, ok, af3⟩
      simp
      refine wp_mono (sp_tail04 lp hm ok (by omega) (by omega) (by decide) af3.st _ _ _ _ _ _ _ _) ?_
      rintro _ S4 ⟨y5, y6, y7, rfl, st4⟩
      simp
      exact (hI _ _ _).mpr ⟨_, _, _, _, _, _, _, _, _, rfl, st4⟩
    · refine wp_mono (sp_office (n := n + 4) lp.off hm af2.st (many := many) (by omega) (by omega) (most := 5) (by decide) (by decide)) ?_
      rintro _ S3 ⟨o, rfl, ok, af3⟩
      simp
      refine wp_mono (sp_tail04 lp hm ok (by omega) (by omega) (by decide) af3.st _ _ _ _ _ _ _ _) ?_
      rintro _ S4 ⟨y5, y6, y7, rfl, st4⟩
      simp
      exact (hI _ _ _).mpr ⟨_, _, _, _, _, _, _, _, _, rfl, st4⟩
  · intro ls S' hj
    obtain ⟨x2, x3, x4, x5, x6, x7, x8, x9, x10, rfl, st⟩ := (hI _ _ _).mp hj
    simp
    refine wp_mono (dr.tk (n := n + 10) st (by decide) (by decide)) ?_
    rintro _ S2 ⟨v, rfl, v1, v2, af2⟩
    simp
    intro c
    refine wp_mono (sp_great (n := n + 9) dr hGr hm af2.st) ?_
    rintro _ S3 ⟨r3, q, told, ws, rfl, g3, w1, w2, t2, t1, af3⟩
    simp [g3, rowD]
    refine wp_mono (dr.tk (n := n + 10) af3.st (by decide) (by decide)) ?_
    rintro _ S4 ⟨at_, rfl, a1, a2, af4⟩
    obtain ⟨j, rfl⟩ : ∃ j : Nat, at_ = j := ⟨at_.toNat, by omega⟩
    have hj : j < ws.length := by omega
    have gj := List.getElem?_eq_getElem hj
    have ej : ∀ xs : List D, cut xs (some ((j : Int) + 1)) none = xs.drop (j + 1) := fun xs => by
      rw [cut_lo (by omega)]
      congr 1
    simp [slD, gj, ej]
    refine ⟨by omega, ?_⟩
    have ls4 := af4.st.lt
    refine wp_mono (dr.pkL (n := n + 9) (af4.st.push _) (r := S4.length) (ds := [.int 1, .int 4, .int 6]) (by simp) (by omega) (by simp) (by simp)) ?_
    rintro d5 S5 ⟨hd5, af5⟩
    obtain ⟨z, rfl, hz0, hz6⟩ : ∃ z : Int, d5 = .int z ∧ 0 ≤ z ∧ z ≤ 6 := by
      simp only [List.mem_cons, List.not_mem_nil, or_false] at hd5
      rcases hd5 with rfl | rfl | rfl
      · exact ⟨1, rfl, by decide, by decide⟩
      · exact ⟨4, rfl, by decide, by decide⟩
      · exact ⟨6, rfl, by decide, by decide⟩
    simp [ej]
    refine ⟨by omega, by omega, by omega, ?_⟩
    have a := in4G
    have ai := a.arcIn
    refine wp_mono (sp_lots (n := n + 10) hL hK hm csG t1G t2G [.int q, .tup (([] : List Item).map bD), .tup []] S5 ai.n1 ai.n2 (by have := ai.z0; omega) (by have := ai.z1; omega) (by have := ai.z2; omega) a.lotsNd) ?_
    rintro _ S6 ⟨r, kvs, rfl, g6, lk6, hr6, x6⟩
    simp
    have l5 := af5.st.lt
    have st6 : StOk S6 s k := af5.st.ext x6 (by simp) (by simp)
    have hbs : ∀ b ∈ ([] : List Item) ++ told, plA csG t1G t2G b.1 ≠ none := fun b hb => a.plx.mpr (t2 b (by simpa using hb))
    refine wp_mono (sp_ends (n := n + 1) lp.ends hBo hSa dr hEn hm a q [] told [.tup []] hbs (by simp [t1]) st6 g6 lk6.keys lotsG zzG) ?_
    rintro _ S7 ⟨rfl, af7⟩
    simp
    refine ⟨by omega, ?_⟩
    have g7 := af7.at_ g6 (by omega)
    have lk7 : LK S5 S7 r kvs (lotsOf csG t1G t2G) := lk6.mono af7.ext (fun i hi => by simp at hi; subst hi; exact .inr l5)
    have l67 := af7.ext.len
    have l56 := x6.len
    obtain ⟨rows, hrows⟩ : ∃ rows : List (List Int), rows = [ws, ws.take j ++ (ws[j] + z) :: ws.drop (j + 1), ws.reverse] := ⟨_, rfl⟩
    have er : [D.tup (ws.map D.int), D.tup ((ws.map D.int).take j ++ D.int (ws[j] + z) :: (ws.map D.int).drop (j + 1)), D.tup (ws.map D.int).reverse] = rows.map rowD := by
      rw [hrows]
      simp [rowD, List.map_take, List.map_drop]
    rw [er]
    have wj := w2 ws[j] (List.getElem_mem hj)
    have x8 : Ext [] S7 (S7 ++ [O.lst (rows.map rowD)]) := Ext.push _ _ _
    refine wp_mono (sp_worlds (n := n + 2) lp.wo hm a q [] told [.tup []] hbs (by simp [t1]) (rr := S7.length) (af7.st.push _) l5 (x8.at_ _ _ g7 (by simp)) (by omega) (lk7.mono x8 (by simp)) (rows := rows) (by simp) (by omega) (by rw [hrows]; simp) (by rw [hrows]; simp) fun row hrow => ?_) ?_
    · rw [hrows] at hrow
      simp only [List.mem_cons, List.not_mem_nil, or_false] at hrow
      rcases hrow with rfl | rfl | rfl
      · exact ⟨by omega, by omega, fun w hw => ⟨(w2 w hw).1, by have := (w2 w hw).2; omega⟩⟩
      · refine ⟨by simp; omega, by simp; omega, fun w hw => ?_⟩
        rcases List.mem_append.mp hw with h | h
        · have := w2 w (List.mem_of_mem_take h); omega
        · rcases List.mem_cons.mp h with rfl | h
          · omega
          · have := w2 w (List.mem_of_mem_drop h); omega
      · refine ⟨by simp; omega, by simp; omega, fun w hw => ?_⟩
        have := w2 w (List.mem_reverse.mp hw); omega
    · rintro _ S8 ⟨rfl, af8⟩
      rfl
end
end PV

set_option Elab.async false
set_option linter.all false
set_option maxRecDepth 100000
set_option maxHeartbeats 0
namespace PV.Row
open PySem PySem.Spec PyProof.Rows L2
def top (i : Nat) : Stmt := PySem.Challenge.pw_safelytold_k04_bounds_and_worlds.main.body.getD i (.Pass ⟨0, 0, 0, 0⟩)
def c0 : Fc := { x := "is_whole", params := defArgs (top 4), body := defBody (top 4), sc := defScope (top 4), dfl := [], N := ["value"], df := ⟨1, 1, [], ["value"], .cons (.ret (.bo true (.cons (.isi .int (.v 0)) (.cons (.no (.isi .bool (.v 0))) (.nil))))) (.nil)⟩ }
def c1 : Fc := { x := "knots_of", params := defArgs (top 6), body := defBody (top 6), sc := defScope (top 6), dfl := [.non], N := ["tree", "above", "found", "part"], df := ⟨2, 4, [.non], ["tree", "above"], .cons (.set 2 (.lst (.cons (.tup (.cons (.ix (.v 0) (.int 0)) (.cons (.v 1) (.nil)))) (.nil)))) (.cons (.for (.nm 3) (.q (.ix (.v 0) (.int 1))) (.cons (.ite (.isi .tuple (.v 3)) (.cons (.ex (.mt .extend (.v 2) (.cons (.call 1 (.cons (.v 3) (.cons (.ix (.v 0) (.int 0)) (.nil)))) (.nil)))) (.nil)) (.nil)) (.nil))) (.cons (.ret (.v 2)) (.nil)))⟩ }
def c2 : Fc := { x := "holders_of", params := defArgs (top 7), body := defBody (top 7), sc := defScope (top 7), dfl := [], N := ["tree", "holders", "waiting", "name", "parts", "part"], df := ⟨1, 6, [], ["tree"], .cons (.set 1 (.dnew)) (.cons (.set 2 (.lst (.cons (.v 0) (.nil)))) (.cons (.whl (.v 2) (.cons (.asg (.tup (.cons (.nm 3) (.cons (.nm 4) (.nil)))) (.mt .pop (.v 2) (.nil))) (.cons (.for (.nm 5) (.q (.v 4)) (.cons (.ite (.isi .tuple (.v 5)) (.cons (.ex (.mt .append (.v 2) (.cons (.v 5) (.nil)))) (.nil)) (.cons (.six (.v 1) (.v 5) (.v 3)) (.nil))) (.nil))) (.nil)))) (.cons (.ret (.v 1)) (.nil))))⟩ }
def c3 : Fc := { x := "arcs_of", params := defArgs (top 8), body := defBody (top 8), sc := defScope (top 8), dfl := [], N := ["office", "cells", "first", "second", "arcs", "name", "above", "begins", "ends", "cell"], df := ⟨1, 10, [], ["office"], .cons (.par3 1 2 3 (.ix (.v 0) (.int 0)) (.ix (.v 0) (.int 1)) (.ix (.v 0) (.int 2))) (.cons (.set 4 (.lst (.cons (.tup (.cons (.ix (.v 2) (.int 0)) (.cons (.ix (.v 3) (.int 0)) (.cons (.ix (.v 2) (.int 0)) (.nil))))) (.nil)))) (.cons (.ex (.mt .extend (.v 4) (.cons (.lc [("name", 5), ("above", 6)] (.tup (.cons (.nm 5) (.cons (.nm 6) (.nil)))) (.q (.sl (.call 1 (.cons (.v 2) (.nil))) (.int 1) .nil)) .nil (.tup (.cons (.v 5) (.cons (.v 6) (.cons (.v 5) (.nil)))))) (.nil)))) (.cons (.ex (.mt .extend (.v 4) (.cons (.lc [("name", 5), ("above", 6)] (.tup (.cons (.nm 5) (.cons (.nm 6) (.nil)))) (.q (.sl (.call 1 (.cons (.v 3) (.nil))) (.int 1) .nil)) .nil (.tup (.cons (.v 5) (.cons (.v 5) (.cons (.v 6) (.nil)))))) (.nil)))) (.cons (.set 7 (.call 2 (.cons (.v 2) (.nil)))) (.cons (.set 8 (.call 2 (.cons (.v 3) (.nil)))) (.cons (.ex (.mt .extend (.v 4) (.cons (.lc [("cell", 9)] (.nm 9) (.q (.v 1)) .nil (.tup (.cons (.v 9) (.cons (.ix (.v 7) (.v 9)) (.cons (.ix (.v 8) (.v 9)) (.nil)))))) (.nil)))) (.cons (.ret (.bi .tuple (.cons (.v 4) (.nil)))) (.nil))))))))⟩ }
def c4 : Fc := { x := "places_of", params := defArgs (top 9), body := defBody (top 9), sc := defScope (top 9), dfl := [], N := ["office", "places", "number", "arc"], df := ⟨1, 4, [], ["office"], .cons (.sdc 1 [("number", 2), ("arc", 3)] (.tup (.cons (.nm 2) (.cons (.nm 3) (.nil)))) (.qe (.call 3 (.cons (.v 0) (.nil)))) .nil (.ix (.v 3) (.int 0)) (.v 2)) (.cons (.six (.v 1) (.ix (.ix (.v 0) (.int 2)) (.int 0)) (.int 0)) (.cons (.ret (.v 1)) (.nil)))⟩ }
def c5 : Fc := { x := "place_of", params := defArgs (top 10), body := defBody (top 10), sc := defScope (top 10), dfl := [], N := ["office", "name", "places"], df := ⟨2, 3, [], ["office", "name"], .cons (.set 2 (.call 4 (.cons (.v 0) (.nil)))) (.cons (.ite (.cmp .nin (.v 1) (.v 2)) (.cons (.rse 1 (.cons (.v 1) (.nil))) (.nil)) (.nil)) (.cons (.ret (.ix (.v 2) (.v 1))) (.nil)))⟩ }
def c6 : Fc := { x := "limits_of", params := defArgs (top 12), body := defBody (top 12), sc := defScope (top 12), dfl := [], N := ["stand", "office", "told", "places", "lows", "highs", "name", "low", "high", "arc"], df := ⟨1, 10, [], ["stand"], .cons (.asg (.tup (.cons (.nm 1) (.cons (.nm 2) (.nil)))) (.v 0)) (.cons (.set 3 (.call 4 (.cons (.v 1) (.nil)))) (.cons (.set 4 (.bin .mul (.lst (.cons (.int 0) (.nil))) (.bin .sub (.bi .len (.cons (.v 3) (.nil))) (.int 1)))) (.cons (.set 5 (.bin .mul (.lst (.cons (.non) (.nil))) (.bin .sub (.bi .len (.cons (.v 3) (.nil))) (.int 1)))) (.cons (.six (.v 5) (.int 0) (.ix (.v 1) (.int 3))) (.cons (.for (.tup (.cons (.nm 6) (.cons (.nm 7) (.cons (.nm 8) (.nil))))) (.q (.bin .add (.ix (.v 1) (.int 4)) (.v 2))) (.cons (.set 9 (.ix (.v 3) (.v 6))) (.cons (.six (.v 4) (.v 9) (.bi .max (.cons (.ix (.v 4) (.v 9)) (.cons (.v 7) (.nil))))) (.cons (.ite (.cmp .isn (.v 8) (.non)) (.cons (.six (.v 5) (.v 9) (.ite (.cmp .is (.ix (.v 5) (.v 9)) (.non)) (.v 8) (.bi .min (.cons (.ix (.v 5) (.v 9)) (.cons (.v 8) (.nil)))))) (.nil)) (.nil)) (.nil))))) (.cons (.ret (.tup (.cons (.v 4) (.cons (.v 5) (.nil))))) (.nil)))))))⟩ }
def c7 : Fc := { x := "low_of", params := defArgs (top 13), body := defBody (top 13), sc := defScope (top 13), dfl := [], N := ["stand", "name", "arc", "lows", "highs"], df := ⟨2, 5, [], ["stand", "name"], .cons (.set 2 (.call 5 (.cons (.ix (.v 0) (.int 0)) (.cons (.v 1) (.nil))))) (.cons (.asg (.tup (.cons (.nm 3) (.cons (.nm 4) (.nil)))) (.call 6 (.cons (.v 0) (.nil)))) (.cons (.ret (.ix (.v 3) (.v 2))) (.nil)))⟩ }
def c8 : Fc := { x := "high_of", params := defArgs (top 14), body := defBody (top 14), sc := defScope (top 14), dfl := [], N := ["stand", "name", "arc", "lows", "highs"], df := ⟨2, 5, [], ["stand", "name"], .cons (.set 2 (.call 5 (.cons (.ix (.v 0) (.int 0)) (.cons (.v 1) (.nil))))) (.cons (.asg (.tup (.cons (.nm 3) (.cons (.nm 4) (.nil)))) (.call 6 (.cons (.v 0) (.nil)))) (.cons (.ret (.ix (.v 4) (.v 2))) (.nil)))⟩ }
def c9 : Fc := { x := "sums_of", params := defArgs (top 15), body := defBody (top 15), sc := defScope (top 15), dfl := [], N := ["office", "world", "arcs", "knots", "held", "arc", "count", "cell", "begin", "end", "name", "above"], df := ⟨2, 12, [], ["office", "world"], .cons (.set 2 (.call 3 (.cons (.v 0) (.nil)))) (.cons (.set 3 (.sl (.v 2) (.int 1) (.bin .sub (.bi .len (.cons (.v 2) (.nil))) (.bi .len (.cons (.v 1) (.nil)))))) (.cons (.set 4 (.dd2 (.ix (.ix (.v 0) (.int 1)) (.int 0)) (.int 0) (.ix (.ix (.v 0) (.int 2)) (.int 0)) (.int 0))) (.cons (.for (.nm 5) (.q (.v 3)) (.cons (.six (.v 4) (.ix (.v 5) (.int 0)) (.int 0)) (.nil))) (.cons (.for (.tup (.cons (.nm 6) (.cons (.tup (.cons (.nm 7) (.cons (.nm 8) (.cons (.nm 9) (.nil))))) (.nil)))) (.qz2 (.v 1) (.sl (.v 2) (.bin .sub (.bi .len (.cons (.v 2) (.nil))) (.bi .len (.cons (.v 1) (.nil)))) .nil)) (.cons (.aix (.v 4) (.v 8) .add (.v 6)) (.cons (.aix (.v 4) (.v 9) .add (.v 6)) (.nil)))) (.cons (.for (.tup (.cons (.nm 10) (.cons (.nm 8) (.cons (.nm 9) (.nil))))) (.qv (.v 3)) (.cons (.set 11 (.ite (.cmp .eq (.v 9) (.v 10)) (.v 8) (.v 9))) (.cons (.six (.v 4) (.v 11) (.bin .add (.ix (.v 4) (.v 11)) (.ix (.v 4) (.v 10)))) (.nil)))) (.cons (.ret (.bin .add (.bin .add (.tup (.cons (.ix (.v 4) (.ix (.ix (.v 0) (.int 1)) (.int 0))) (.nil))) (.bi .tuple (.cons (.lc [("arc", 5)] (.nm 5) (.q (.v 3)) .nil (.ix (.v 4) (.ix (.v 5) (.int 0)))) (.nil)))) (.v 1))) (.nil)))))))⟩ }
def c10 : Fc := { x := "is_counts", params := defArgs (top 16), body := defBody (top 16), sc := defScope (top 16), dfl := [], N := ["office", "value", "item"], df := ⟨2, 3, [], ["office", "value"], .cons (.ite (.bo false (.cons (.no (.isi .tuple (.v 1))) (.cons (.cmp .ne (.bi .len (.cons (.v 1) (.nil))) (.bi .len (.cons (.ix (.v 0) (.int 0)) (.nil)))) (.nil)))) (.cons (.ret (.bl false)) (.nil)) (.nil)) (.cons (.ret (.bi .all (.cons (.lc [("item", 2)] (.nm 2) (.q (.v 1)) .nil (.bo true (.cons (.call 0 (.cons (.v 2) (.nil))) (.cons (.cmp .ge (.v 2) (.int 0)) (.nil))))) (.nil)))) (.nil))⟩ }
def c11 : Fc := { x := "is_world", params := defArgs (top 17), body := defBody (top 17), sc := defScope (top 17), dfl := [], N := ["stand", "value", "lows", "highs", "sums", "low", "number", "high"], df := ⟨2, 8, [], ["stand", "value"], .cons (.ite (.no (.call 10 (.cons (.ix (.v 0) (.int 0)) (.cons (.v 1) (.nil))))) (.cons (.ret (.bl false)) (.nil)) (.nil)) (.cons (.asg (.tup (.cons (.nm 2) (.cons (.nm 3) (.nil)))) (.call 6 (.cons (.v 0) (.nil)))) (.cons (.set 4 (.call 9 (.cons (.ix (.v 0) (.int 0)) (.cons (.v 1) (.nil))))) (.cons (.ret (.bi .all (.cons (.lc [("low", 5), ("number", 6), ("high", 7)] (.tup (.cons (.nm 5) (.cons (.nm 6) (.cons (.nm 7) (.nil))))) (.qz3 (.v 2) (.v 4) (.v 3)) .nil (.bo true (.cons (.cmp .le (.v 5) (.v 6)) (.cons (.bo false (.cons (.cmp .is (.v 7) (.non)) (.cons (.cmp .le (.v 6) (.v 7)) (.nil)))) (.nil))))) (.nil)))) (.nil))))⟩ }
def c12 : Fc := { x := "_law_mixed", params := defArgs (top 19), body := defBody (top 19), sc := defScope (top 19), dfl := [], N := ["number", "k", "first", "second"], df := ⟨2, 4, [], ["number", "k"], .cons (.set 2 (.bin .mod (.bi .int (.cons (.bin .add (.bin .add (.bin .mul (.v 0) (.int 48271)) (.bin .mul (.v 1) (.int 69621))) (.int 97)) (.nil))) (.int 2147483647))) (.cons (.set 3 (.bin .mod (.bi .int (.cons (.bin .add (.bin .add (.bin .mul (.v 2) (.bin .add (.bin .add (.v 2) (.bin .mul (.int 2) (.v 1))) (.int 1))) (.bin .mul (.v 1) (.int 16807))) (.int 31)) (.nil))) (.int 2147483629))) (.cons (.ret (.bin .mod (.bi .int (.cons (.bin .add (.bin .mul (.v 3) (.int 40692)) (.v 2)) (.nil))) (.int 2147483587))) (.nil)))⟩ }
def c13 : Fc := { x := "_law_start", params := defArgs (top 20), body := defBody (top 20), sc := defScope (top 20), dfl := [], N := ["script", "seed", "cell"], df := ⟨1, 3, [], ["script"], .cons (.set 1 (.bi .len (.cons (.v 0) (.nil)))) (.cons (.for (.nm 2) (.q (.sl (.v 0) .nil (.int 63))) (.cons (.set 1 (.call 12 (.cons (.bin .add (.v 1) (.v 2)) (.cons (.int 5) (.nil))))) (.nil))) (.cons (.ret (.lst (.cons (.int 0) (.cons (.int 0) (.cons (.int 0) (.cons (.v 1) (.cons (.bi .list (.cons (.sl (.v 0) .nil (.int 63)) (.nil))) (.cons (.int 0) (.nil))))))))) (.nil)))⟩ }
def c14 : Fc := { x := "_law_take", params := defArgs (top 21), body := defBody (top 21), sc := defScope (top 21), dfl := [], N := ["state", "limit", "cells", "cell", "value"], df := ⟨2, 5, [], ["state", "limit"], .cons (.set 2 (.ix (.v 0) (.int 4))) (.cons (.aix (.v 0) (.int 2) .add (.int 1)) (.cons (.ite (.bo true (.cons (.cmp .eq (.ix (.v 0) (.int 0)) (.int 0)) (.cons (.cmp .lt (.ix (.v 0) (.int 1)) (.bi .len (.cons (.v 2) (.nil)))) (.nil)))) (.cons (.set 3 (.ix (.v 2) (.ix (.v 0) (.int 1)))) (.cons (.aix (.v 0) (.int 1) .add (.int 1)) (.cons (.ite (.cmp .lt (.bi .abs (.cons (.v 3) (.nil))) (.bin .pow (.int 10) (.int 18))) (.cons (.ret (.bin .mod (.bi .int (.cons (.call 12 (.cons (.v 3) (.cons (.ix (.v 0) (.int 2)) (.nil)))) (.nil))) (.v 1))) (.nil)) (.nil)) (.cons (.six (.v 0) (.int 0) (.bi .abs (.cons (.v 3) (.nil)))) (.cons (.six (.v 0) (.int 5) (.int 60)) (.nil)))))) (.nil)) (.cons (.ite (.cmp .eq (.ix (.v 0) (.int 0)) (.int 0)) (.cons (.ret (.bin .mod (.bi .int (.cons (.call 12 (.cons (.ix (.v 0) (.int 3)) (.cons (.ix (.v 0) (.int 2)) (.nil)))) (.nil))) (.v 1))) (.nil)) (.nil)) (.cons (.set 4 (.bin .mod (.bi .int (.cons (.ix (.v 0) (.int 0)) (.nil))) (.v 1))) (.cons (.aix (.v 0) (.int 5) .sub (.int 1)) (.cons (.six (.v 0) (.int 0) (.bin .mul (.bin .fdiv (.ix (.v 0) (.int 0)) (.v 1)) (.bi .int (.cons (.cmp .gt (.ix (.v 0) (.int 5)) (.int 0)) (.nil))))) (.cons (.ret (.v 4)) (.nil))))))))⟩ }
def c15 : Fc := { x := "_law_pick", params := defArgs (top 22), body := defBody (top 22), sc := defScope (top 22), dfl := [], N := ["state", "some"], df := ⟨2, 2, [], ["state", "some"], .cons (.ret (.ix (.v 1) (.call 14 (.cons (.v 0) (.cons (.bi .len (.cons (.v 1) (.nil))) (.nil)))))) (.nil)⟩ }
def c16 : Fc := { x := "_law_shuffled", params := defArgs (top 23), body := defBody (top 23), sc := defScope (top 23), dfl := [], N := ["state", "some", "left", "found", "k", "at"], df := ⟨2, 6, [], ["state", "some"], .cons (.set 2 (.bi .list (.cons (.v 1) (.nil)))) (.cons (.set 3 (.lst (.nil))) (.cons (.for (.nm 4) (.qr (.bi .len (.cons (.v 1) (.nil)))) (.cons (.set 5 (.call 14 (.cons (.v 0) (.cons (.bi .len (.cons (.v 2) (.nil))) (.nil))))) (.cons (.ex (.mt .append (.v 3) (.cons (.ix (.v 2) (.v 5)) (.nil)))) (.cons (.set 2 (.bin .add (.sl (.v 2) .nil (.v 5)) (.sl (.v 2) (.bin .add (.v 5) (.int 1)) .nil))) (.nil))))) (.cons (.ret (.v 3)) (.nil))))⟩ }
def c17 : Fc := { x := "_law_same", params := defArgs (top 24), body := defBody (top 24), sc := defScope (top 24), dfl := [], N := ["told", "due", "k"], df := ⟨2, 3, [], ["told", "due"], .cons (.ite (.cmp .is (.v 1) (.non)) (.cons (.ret (.cmp .is (.v 0) (.non))) (.nil)) (.nil)) (.cons (.ite (.isi .bool (.v 1)) (.cons (.ret (.bo true (.cons (.isi .bool (.v 0)) (.cons (.cmp .eq (.v 0) (.v 1)) (.nil))))) (.nil)) (.nil)) (.cons (.ite (.isi .int (.v 1)) (.cons (.ret (.bo true (.cons (.isi .int (.v 0)) (.cons (.no (.isi .bool (.v 0))) (.cons (.cmp .eq (.v 0) (.v 1)) (.nil)))))) (.nil)) (.nil)) (.cons (.ite (.isi .str (.v 1)) (.cons (.ret (.bo true (.cons (.isi .str (.v 0)) (.cons (.cmp .eq (.v 0) (.v 1)) (.nil))))) (.nil)) (.nil)) (.cons (.ite (.bo false (.cons (.no (.isi .tuple (.v 0))) (.cons (.cmp .ne (.bi .len (.cons (.v 0) (.nil))) (.bi .len (.cons (.v 1) (.nil)))) (.nil)))) (.cons (.ret (.bl false)) (.nil)) (.nil)) (.cons (.for (.nm 2) (.qr (.bi .len (.cons (.v 1) (.nil)))) (.cons (.ite (.no (.call 17 (.cons (.ix (.v 0) (.v 2)) (.cons (.ix (.v 1) (.v 2)) (.nil))))) (.cons (.ret (.bl false)) (.nil)) (.nil)) (.nil))) (.cons (.ret (.bl true)) (.nil)))))))⟩ }
def c18 : Fc := { x := "_law_is_due", params := defArgs (top 25), body := defBody (top 25), sc := defScope (top 25), dfl := [], N := ["told", "due"], df := ⟨2, 2, [], ["told", "due"], .cons (.ret (.ite (.v 1) (.cmp .is (.v 0) (.bl true)) (.cmp .is (.v 0) (.bl false)))) (.nil)⟩ }
def c19 : Fc := { x := "_law_names", params := defArgs (top 26), body := defBody (top 26), sc := defScope (top 26), dfl := [], N := ["state", "many", "signs", "word", "k", "start", "found", "cut"], df := ⟨2, 8, [], ["state", "many"], .cons (.set 2 (.str "abcdefghijklmnopqrstuvwxyz0123456789.")) (.cons (.set 3 (.mt .join (.str "") (.cons (.lc [("k", 4)] (.nm 4) (.qr (.int 10)) .nil (.ix (.v 2) (.call 14 (.cons (.v 0) (.cons (.int 37) (.nil)))))) (.nil)))) (.cons (.set 5 (.call 14 (.cons (.v 0) (.cons (.int 37) (.nil))))) (.cons (.set 6 (.lst (.nil))) (.cons (.for (.nm 4) (.qr (.v 1)) (.cons (.set 7 (.call 14 (.cons (.v 0) (.cons (.int 11) (.nil))))) (.cons (.ex (.mt .append (.v 6) (.cons (.bin .add (.bin .add (.sl (.v 3) .nil (.v 7)) (.ix (.v 2) (.bin .mod (.bi .int (.cons (.bin .add (.v 5) (.v 4)) (.nil))) (.int 37)))) (.bin .mul (.ix (.v 2) (.bin .fdiv (.v 4) (.int 37))) (.bi .int (.cons (.cmp .gt (.v 1) (.int 37)) (.nil))))) (.nil)))) (.nil)))) (.cons (.ret (.bi .tuple (.cons (.bi .sorted (.cons (.v 6) (.nil))) (.nil)))) (.nil))))))⟩ }
def c20 : Fc := { x := "_law_knots", params := defArgs (top 27), body := defBody (top 27), sc := defScope (top 27), dfl := [], N := ["tree", "found", "left", "turn", "name", "parts", "above", "cells", "inner", "again", "part"], df := ⟨1, 11, [], ["tree"], .cons (.par2 1 2 (.lst (.nil)) (.lst (.cons (.tup (.cons (.v 0) (.cons (.non) (.nil)))) (.nil)))) (.cons (.for (.nm 3) (.qr (.int 10000)) (.cons (.ite (.cmp .eq (.v 2) (.lst (.nil))) (.cons (.brk) (.nil)) (.nil)) (.cons (.asg (.tup (.cons (.tup (.cons (.nm 4) (.cons (.nm 5) (.nil)))) (.cons (.nm 6) (.nil)))) (.mt .popAt (.v 2) (.cons (.int 0) (.nil)))) (.cons (.par2 7 8 (.lst (.nil)) (.bi .list (.cons (.v 5) (.nil)))) (.cons (.for (.nm 9) (.qr (.int 10000)) (.cons (.ite (.cmp .eq (.v 8) (.lst (.nil))) (.cons (.brk) (.nil)) (.nil)) (.cons (.set 10 (.mt .pop (.v 8) (.nil))) (.cons (.ite (.isi .str (.v 10)) (.cons (.ex (.mt .append (.v 7) (.cons (.v 10) (.nil)))) (.nil)) (.cons (.set 8 (.bin .add (.v 8) (.bi .list (.cons (.ix (.v 10) (.int 1)) (.nil))))) (.nil))) (.nil))))) (.cons (.ex (.mt .append (.v 1) (.cons (.lst (.cons (.v 4) (.cons (.v 7) (.cons (.v 6) (.nil))))) (.nil)))) (.cons (.set 2 (.bin .add (.lc [("part", 10)] (.nm 10) (.q (.v 5)) (.no (.isi .str (.v 10))) (.tup (.cons (.v 10) (.cons (.v 4) (.nil))))) (.v 2))) (.nil)))))))) (.cons (.ret (.v 1)) (.nil)))⟩ }
def c21 : Fc := { x := "_law_lots", params := defArgs (top 28), body := defBody (top 28), sc := defScope (top 28), dfl := [], N := ["office", "found", "cell", "name", "cells", "above"], df := ⟨1, 6, [], ["office"], .cons (.set 1 (.dnew)) (.cons (.for (.nm 2) (.q (.ix (.v 0) (.int 0))) (.cons (.six (.v 1) (.v 2) (.lst (.cons (.v 2) (.nil)))) (.nil))) (.cons (.for (.tup (.cons (.nm 3) (.cons (.nm 4) (.cons (.nm 5) (.nil))))) (.q (.bin .add (.call 20 (.cons (.ix (.v 0) (.int 1)) (.nil))) (.call 20 (.cons (.ix (.v 0) (.int 2)) (.nil))))) (.cons (.six (.v 1) (.v 3) (.v 4)) (.nil))) (.cons (.ret (.v 1)) (.nil))))⟩ }
def c22 : Fc := { x := "_law_tree", params := defArgs (top 29), body := defBody (top 29), sc := defScope (top 29), dfl := [], N := ["state", "cells", "spare", "deep", "name", "left", "parts", "turn", "size", "group"], df := ⟨4, 10, [], ["state", "cells", "spare", "deep"], .cons (.par3 4 5 6 (.mt .pop (.v 2) (.nil)) (.bi .list (.cons (.v 1) (.nil))) (.lst (.nil))) (.cons (.for (.nm 7) (.qr (.bi .len (.cons (.v 1) (.nil)))) (.cons (.ite (.cmp .ne (.v 5) (.lst (.nil))) (.cons (.set 8 (.bin .add (.int 1) (.call 14 (.cons (.v 0) (.cons (.bi .len (.cons (.v 5) (.nil))) (.nil)))))) (.cons (.par2 9 5 (.sl (.v 5) .nil (.v 8)) (.sl (.v 5) (.v 8) .nil)) (.cons (.ite (.bo true (.cons (.cmp .gt (.v 3) (.int 0)) (.cons (.cmp .gt (.bi .len (.cons (.v 2) (.nil))) (.int 4)) (.cons (.cmp .gt (.call 14 (.cons (.v 0) (.cons (.int 3) (.nil)))) (.int 0)) (.nil))))) (.cons (.ex (.mt .append (.v 6) (.cons (.call 22 (.cons (.v 0) (.cons (.v 9) (.cons (.v 2) (.cons (.bin .sub (.v 3) (.int 1)) (.nil)))))) (.nil)))) (.nil)) (.cons (.set 6 (.bin .add (.v 6) (.v 9))) (.nil))) (.nil)))) (.nil)) (.nil))) (.cons (.ret (.tup (.cons (.v 4) (.cons (.bi .tuple (.cons (.v 6) (.nil))) (.nil))))) (.nil)))⟩ }
def c23 : Fc := { x := "_law_mix", params := defArgs (top 30), body := defBody (top 30), sc := defScope (top 30), dfl := [], N := ["state", "names", "most", "some", "name"], df := ⟨3, 5, [], ["state", "names", "most"], .cons (.set 3 (.sl (.call 16 (.cons (.v 0) (.cons (.v 1) (.nil)))) .nil (.call 14 (.cons (.v 0) (.cons (.bin .add (.v 2) (.int 1)) (.nil)))))) (.cons (.ret (.bi .tuple (.cons (.lc [("name", 4)] (.nm 4) (.q (.bi .sorted (.cons (.v 3) (.nil)))) .nil (.tup (.cons (.v 4) (.cons (.call 15 (.cons (.v 0) (.cons (.lst (.cons (.int 1) (.cons (.int 1) (.cons (.neg (.int 1)) (.cons (.int 2) (.cons (.neg (.int 2)) (.cons (.int 3) (.nil)))))))) (.nil)))) (.nil))))) (.nil)))) (.nil))⟩ }
def c24 : Fc := { x := "_law_office", params := defArgs (top 31), body := defBody (top 31), sc := defScope (top 31), dfl := [], N := ["state", "many", "most", "names", "cells", "spare", "first", "second", "office", "every", "bounds", "wishes", "name", "low", "k", "pair"], df := ⟨3, 16, [], ["state", "many", "most"], .cons (.set 3 (.call 16 (.cons (.v 0) (.cons (.call 19 (.cons (.v 0) (.cons (.bin .add (.v 1) (.int 12)) (.nil)))) (.nil))))) (.cons (.set 4 (.bi .tuple (.cons (.bi .sorted (.cons (.sl (.v 3) .nil (.v 1)) (.nil))) (.nil)))) (.cons (.set 5 (.sl (.v 3) (.v 1) .nil)) (.cons (.set 6 (.call 22 (.cons (.v 0) (.cons (.call 16 (.cons (.v 0) (.cons (.v 4) (.nil)))) (.cons (.v 5) (.cons (.call 14 (.cons (.v 0) (.cons (.int 4) (.nil)))) (.nil))))))) (.cons (.set 7 (.call 22 (.cons (.v 0) (.cons (.call 16 (.cons (.v 0) (.cons (.v 4) (.nil)))) (.cons (.v 5) (.cons (.call 14 (.cons (.v 0) (.cons (.int 4) (.nil)))) (.nil))))))) (.cons (.set 8 (.tup (.cons (.v 4) (.cons (.v 6) (.cons (.v 7) (.cons (.call 14 (.cons (.v 0) (.cons (.bin .add (.v 2) (.int 1)) (.nil)))) (.cons (.tup (.nil)) (.cons (.tup (.nil)) (.nil))))))))) (.cons (.set 9 (.bi .sorted (.cons (.call 21 (.cons (.v 8) (.nil))) (.nil)))) (.cons (.par2 10 11 (.lst (.nil)) (.lst (.nil))) (.cons (.for (.nm 12) (.q (.v 9)) (.cons (.ite (.cmp .eq (.call 14 (.cons (.v 0) (.cons (.int 4) (.nil)))) (.int 0)) (.cons (.set 13 (.call 15 (.cons (.v 0) (.cons (.lst (.cons (.int 0) (.cons (.int 0) (.cons (.int 0) (.cons (.int 1) (.nil)))))) (.nil))))) (.cons (.ex (.mt .append (.v 10) (.cons (.tup (.cons (.v 12) (.cons (.v 13) (.cons (.call 15 (.cons (.v 0) (.cons (.lst (.cons (.non) (.cons (.bin .add (.v 13) (.call 14 (.cons (.v 0) (.cons (.bin .add (.v 2) (.int 1)) (.nil))))) (.cons (.int 1000000) (.nil))))) (.nil)))) (.nil))))) (.nil)))) (.nil))) (.nil)) (.nil))) (.cons (.for (.nm 14) (.qr (.call 14 (.cons (.v 0) (.cons (.int 4) (.nil))))) (.cons (.set 15 (.call 15 (.cons (.v 0) (.cons (.lst (.cons (.tup (.cons (.int 1) (.cons (.int 1) (.nil)))) (.cons (.tup (.cons (.int 0) (.cons (.int 1) (.nil)))) (.cons (.tup (.cons (.int 1) (.cons (.int 0) (.nil)))) (.cons (.tup (.cons (.int 9) (.cons (.int 10) (.nil)))) (.cons (.tup (.cons (.int 100) (.cons (.int 100) (.nil)))) (.nil))))))) (.nil))))) (.cons (.ex (.mt .append (.v 11) (.cons (.bin .add (.bin .add (.tup (.cons (.call 23 (.cons (.v 0) (.cons (.v 9) (.cons (.int 3) (.nil))))) (.nil))) (.v 15)) (.tup (.cons (.bin .sub (.call 14 (.cons (.v 0) (.cons (.int 9) (.nil)))) (.int 4)) (.nil)))) (.nil)))) (.nil)))) (.cons (.ret (.bin .add (.sl (.v 8) .nil (.int 4)) (.tup (.cons (.bi .tuple (.cons (.v 10) (.nil))) (.cons (.bi .tuple (.cons (.v 11) (.nil))) (.nil)))))) (.nil)))))))))))⟩ }
def c25 : Fc := { x := "_law_bounds", params := defArgs (top 32), body := defBody (top 32), sc := defScope (top 32), dfl := [], N := ["stand", "name", "office", "told", "tops", "names", "here", "item", "lows", "highs", "high"], df := ⟨2, 11, [], ["stand", "name"], .cons (.asg (.tup (.cons (.nm 2) (.cons (.nm 3) (.nil)))) (.v 0)) (.cons (.set 4 (.tup (.cons (.ix (.ix (.v 2) (.int 1)) (.int 0)) (.cons (.ix (.ix (.v 2) (.int 2)) (.int 0)) (.nil))))) (.cons (.set 5 (.ite (.cmp .isin (.v 1) (.v 4)) (.v 4) (.tup (.cons (.v 1) (.nil))))) (.cons (.slc 6 [("item", 7)] (.nm 7) (.q (.bin .add (.ix (.v 2) (.int 4)) (.v 3))) (.cmp .isin (.ix (.v 7) (.int 0)) (.v 5)) (.v 7)) (.cons (.par2 8 9 (.lc [("item", 7)] (.nm 7) (.q (.v 6)) .nil (.ix (.v 7) (.int 1))) (.lc [("item", 7)] (.nm 7) (.q (.v 6)) .nil (.ix (.v 7) (.int 2)))) (.cons (.set 9 (.bin .add (.lc [("high", 10)] (.nm 10) (.q (.v 9)) (.cmp .isn (.v 10) (.non)) (.v 10)) (.ite (.cmp .isin (.v 1) (.v 4)) (.lst (.cons (.ix (.v 2) (.int 3)) (.nil))) (.lst (.nil))))) (.cons (.ret (.lst (.cons (.bi .max (.cons (.bin .add (.lst (.cons (.int 0) (.nil))) (.v 8)) (.nil))) (.cons (.ite (.cmp .ne (.v 9) (.lst (.nil))) (.bi .min (.cons (.v 9) (.nil))) (.non)) (.nil))))) (.nil)))))))⟩ }
def c26 : Fc := { x := "_law_sum", params := defArgs (top 33), body := defBody (top 33), sc := defScope (top 33), dfl := [], N := ["office", "lots", "world", "name", "k"], df := ⟨4, 5, [], ["office", "lots", "world", "name"], .cons (.ret (.bi .sum (.cons (.lc [("k", 4)] (.nm 4) (.qr (.bi .len (.cons (.v 2) (.nil)))) (.cmp .isin (.ix (.ix (.v 0) (.int 0)) (.v 4)) (.ix (.v 1) (.v 3))) (.ix (.v 2) (.v 4))) (.nil)))) (.nil)⟩ }
def c27 : Fc := { x := "_law_is_world", params := defArgs (top 34), body := defBody (top 34), sc := defScope (top 34), dfl := [], N := ["stand", "lots", "value", "cells", "one", "name", "low", "high", "number"], df := ⟨3, 9, [], ["stand", "lots", "value"], .cons (.set 3 (.ix (.ix (.v 0) (.int 0)) (.int 0))) (.cons (.ite (.bo false (.cons (.no (.isi .tuple (.v 2))) (.cons (.cmp .ne (.bi .len (.cons (.v 2) (.nil))) (.bi .len (.cons (.v 3) (.nil)))) (.nil)))) (.cons (.ret (.bl false)) (.nil)) (.nil)) (.cons (.ite (.cmp .gt (.bi .len (.cons (.lc [("one", 4)] (.nm 4) (.q (.v 2)) (.bo false (.cons (.no (.isi .int (.v 4))) (.cons (.isi .bool (.v 4)) (.cons (.cmp .lt (.v 4) (.int 0)) (.nil))))) (.v 4)) (.nil))) (.int 0)) (.cons (.ret (.bl false)) (.nil)) (.nil)) (.cons (.lks 1 (.for (.nm 5) (.q (.v 1)) (.cons (.asg (.tup (.cons (.nm 6) (.cons (.nm 7) (.nil)))) (.call 25 (.cons (.v 0) (.cons (.v 5) (.nil))))) (.cons (.set 8 (.call 26 (.cons (.ix (.v 0) (.int 0)) (.cons (.v 1) (.cons (.v 2) (.cons (.v 5) (.nil))))))) (.cons (.ite (.bo false (.cons (.cmp .lt (.v 8) (.v 6)) (.cons (.bo true (.cons (.cmp .isn (.v 7) (.non)) (.cons (.cmp .gt (.v 8) (.v 7)) (.nil)))) (.nil)))) (.cons (.ret (.bl false)) (.nil)) (.nil)) (.nil)))))) (.cons (.ret (.bl true)) (.nil)))))⟩ }
def c28 : Fc := { x := "_law_counts", params := defArgs (top 35), body := defBody (top 35), sc := defScope (top 35), dfl := [], N := ["many", "most", "rows", "k", "longer", "row", "count"], df := ⟨2, 7, [], ["many", "most"], .cons (.set 2 (.lst (.cons (.tup (.nil)) (.nil)))) (.cons (.for (.nm 3) (.qr (.v 0)) (.cons (.set 4 (.lst (.nil))) (.cons (.for (.nm 5) (.q (.v 2)) (.cons (.set 4 (.bin .add (.v 4) (.lc [("count", 6)] (.nm 6) (.qr (.bin .add (.bin .sub (.v 1) (.bi .sum (.cons (.v 5) (.nil)))) (.int 1))) .nil (.bin .add (.v 5) (.tup (.cons (.v 6) (.nil))))))) (.nil))) (.cons (.set 2 (.v 4)) (.nil))))) (.cons (.ret (.v 2)) (.nil)))⟩ }
def c29 : Fc := { x := "_law_told", params := defArgs (top 36), body := defBody (top 36), sc := defScope (top 36), dfl := [], N := ["state", "office", "many", "lots", "counts", "found", "k", "name", "number", "low"], df := ⟨3, 10, [], ["state", "office", "many"], .cons (.set 3 (.call 21 (.cons (.v 1) (.nil)))) (.cons (.set 4 (.call 15 (.cons (.v 0) (.cons (.call 28 (.cons (.bi .len (.cons (.ix (.v 1) (.int 0)) (.nil))) (.cons (.ix (.v 1) (.int 3)) (.nil)))) (.nil))))) (.cons (.set 5 (.lst (.nil))) (.cons (.for (.nm 6) (.qr (.v 2)) (.cons (.set 7 (.call 15 (.cons (.v 0) (.cons (.bi .sorted (.cons (.v 3) (.nil))) (.nil))))) (.cons (.set 8 (.bi .max (.cons (.int 0) (.cons (.bin .add (.call 26 (.cons (.v 1) (.cons (.v 3) (.cons (.v 4) (.cons (.v 7) (.nil)))))) (.call 15 (.cons (.v 0) (.cons (.lst (.cons (.int 0) (.cons (.int 0) (.cons (.int 0) (.cons (.int 0) (.cons (.int 0) (.cons (.int 1) (.cons (.neg (.int 1)) (.nil))))))))) (.nil))))) (.nil))))) (.cons (.set 9 (.bi .max (.cons (.int 0) (.cons (.bin .sub (.v 8) (.call 15 (.cons (.v 0) (.cons (.lst (.cons (.int 0) (.cons (.int 1) (.cons (.int 2) (.nil))))) (.nil))))) (.nil))))) (.cons (.ex (.mt .append (.v 5) (.cons (.tup (.cons (.v 7) (.cons (.v 9) (.cons (.call 15 (.cons (.v 0) (.cons (.lst (.cons (.non) (.cons (.v 8) (.cons (.bin .add (.v 8) (.int 1)) (.nil))))) (.nil)))) (.nil))))) (.nil)))) (.nil)))))) (.cons (.ret (.bi .tuple (.cons (.v 5) (.nil)))) (.nil)))))⟩ }
def c30 : Fc := { x := "_law_asked", params := defArgs (top 37), body := defBody (top 37), sc := defScope (top 37), dfl := [], N := ["way", "stand", "name", "by_name", "e"], df := ⟨4, 5, [], ["way", "stand", "name", "by_name"], .cons (.tr (.cons (.ite (.cmp .eq (.v 0) (.str "low")) (.cons (.ret (.tup (.cons (.str "told") (.cons (.ite (.v 3) (.callk 7 ["stand", "name"] (.nil) (.cons (.v 1) (.cons (.v 2) (.nil)))) (.call 7 (.cons (.v 1) (.cons (.v 2) (.nil))))) (.nil))))) (.nil)) (.nil)) (.cons (.ret (.tup (.cons (.str "told") (.cons (.ite (.v 3) (.callk 8 ["stand", "name"] (.nil) (.cons (.v 1) (.cons (.v 2) (.nil)))) (.call 8 (.cons (.v 1) (.cons (.v 2) (.nil))))) (.nil))))) (.nil))) (.hd 1 false (some 4) (.cons (.ret (.tup (.cons (.str "unknown") (.cons (.xf 4 1 0) (.nil))))) (.nil)) (.nil))) (.nil)⟩ }
def c31 : Fc := { x := "_law_ends_are_told", params := defArgs (top 38), body := defBody (top 38), sc := defScope (top 38), dfl := [], N := ["state", "stand", "lots", "name", "due", "way", "number", "by_name"], df := ⟨3, 8, [], ["state", "stand", "lots"], .cons (.for (.nm 3) (.q (.bi .sorted (.cons (.v 2) (.nil)))) (.cons (.set 4 (.call 25 (.cons (.v 1) (.cons (.v 3) (.nil))))) (.cons (.for (.tup (.cons (.nm 5) (.cons (.nm 6) (.nil)))) (.q (.tup (.cons (.tup (.cons (.str "low") (.cons (.ix (.v 4) (.int 0)) (.nil)))) (.cons (.tup (.cons (.str "high") (.cons (.ix (.v 4) (.int 1)) (.nil)))) (.nil))))) (.cons (.for (.nm 7) (.q (.tup (.cons (.bl true) (.cons (.bl false) (.nil))))) (.cons (.ite (.no (.call 17 (.cons (.call 30 (.cons (.v 5) (.cons (.v 1) (.cons (.v 3) (.cons (.v 7) (.nil)))))) (.cons (.tup (.cons (.str "told") (.cons (.v 6) (.nil)))) (.nil))))) (.cons (.ret (.bl false)) (.nil)) (.nil)) (.nil))) (.nil))) (.nil)))) (.cons (.for (.nm 5) (.q (.tup (.cons (.str "low") (.cons (.str "high") (.nil))))) (.cons (.ite (.no (.call 17 (.cons (.call 30 (.cons (.v 5) (.cons (.v 1) (.cons (.str "zz.zz.zz.zz.") (.cons (.cmp .eq (.call 14 (.cons (.v 0) (.cons (.int 2) (.nil)))) (.int 0)) (.nil)))))) (.cons (.tup (.cons (.str "unknown") (.cons (.str "zz.zz.zz.zz.") (.nil)))) (.nil))))) (.cons (.ret (.bl false)) (.nil)) (.nil)) (.nil))) (.cons (.ret (.bl true)) (.nil)))⟩ }
def c32 : Fc := { x := "_law_worlds_are_told", params := defArgs (top 39), body := defBody (top 39), sc := defScope (top 39), dfl := [], N := ["state", "stand", "lots", "rows", "value", "due", "row", "at", "values"], df := ⟨4, 9, [], ["state", "stand", "lots", "rows"], .cons (.for (.nm 4) (.q (.v 3)) (.cons (.set 5 (.call 27 (.cons (.v 1) (.cons (.v 2) (.cons (.v 4) (.nil)))))) (.cons (.ite (.bo false (.cons (.no (.call 18 (.cons (.call 11 (.cons (.v 1) (.cons (.v 4) (.nil)))) (.cons (.v 5) (.nil))))) (.cons (.no (.call 18 (.cons (.callk 11 ["stand", "value"] (.nil) (.cons (.v 1) (.cons (.v 4) (.nil)))) (.cons (.v 5) (.nil))))) (.nil)))) (.cons (.ret (.bl false)) (.nil)) (.nil)) (.nil)))) (.cons (.set 6 (.call 15 (.cons (.v 0) (.cons (.v 3) (.nil))))) (.cons (.set 7 (.call 14 (.cons (.v 0) (.cons (.bi .len (.cons (.v 6) (.nil))) (.nil))))) (.cons (.set 8 (.lst (.cons (.sl (.v 6) .nil (.neg (.int 1))) (.cons (.bin .add (.v 6) (.tup (.cons (.int 0) (.nil)))) (.cons (.non) (.cons (.int 0) (.cons (.str "ab") (.cons (.tup (.nil)) (.cons (.tup (.cons (.v 6) (.nil))) (.cons (.ix (.bi .list (.cons (.v 6) (.nil))) (.int 0)) (.cons (.bin .add (.bin .add (.sl (.v 6) .nil (.v 7)) (.tup (.cons (.neg (.int 1)) (.nil)))) (.sl (.v 6) (.bin .add (.v 7) (.int 1)) .nil)) (.cons (.bin .add (.bin .add (.sl (.v 6) .nil (.v 7)) (.tup (.cons (.non) (.nil)))) (.sl (.v 6) (.bin .add (.v 7) (.int 1)) .nil)) (.nil))))))))))))) (.cons (.set 8 (.bin .add (.v 8) (.lst (.cons (.bin .add (.bin .add (.sl (.v 6) .nil (.v 7)) (.tup (.cons (.cmp .eq (.ix (.v 6) (.v 7)) (.int 1)) (.nil)))) (.sl (.v 6) (.bin .add (.v 7) (.int 1)) .nil)) (.cons (.bin .add (.bin .add (.sl (.v 6) .nil (.v 7)) (.tup (.cons (.bi .str (.cons (.ix (.v 6) (.v 7)) (.nil))) (.nil)))) (.sl (.v 6) (.bin .add (.v 7) (.int 1)) .nil)) (.cons (.bin .add (.bin .add (.sl (.v 6) .nil (.v 7)) (.tup (.cons (.bin .pow (.int 10) (.int 29)) (.nil)))) (.sl (.v 6) (.bin .add (.v 7) (.int 1)) .nil)) (.cons (.slr (.v 6)) (.nil)))))))) (.cons (.for (.nm 4) (.q (.v 8)) (.cons (.ite (.no (.call 18 (.cons (.call 11 (.cons (.v 1) (.cons (.v 4) (.nil)))) (.cons (.call 27 (.cons (.v 1) (.cons (.v 2) (.cons (.v 4) (.nil))))) (.nil))))) (.cons (.ret (.bl false)) (.nil)) (.nil)) (.nil))) (.cons (.ret (.bl true)) (.nil)))))))⟩ }
def c33 : Fc := { x := "_law_great", params := defArgs (top 40), body := defBody (top 40), sc := defScope (top 40), dfl := [], N := ["state", "cells", "k", "counts", "lots", "second", "office", "told"], df := ⟨1, 8, [], ["state"], .cons (.set 1 (.bi .tuple (.cons (.lc [("k", 2)] (.nm 2) (.qr (.int 40)) .nil (.bin .add (.str "c") (.bi .str (.cons (.bin .add (.int 100) (.v 2)) (.nil))))) (.nil)))) (.cons (.set 3 (.bi .tuple (.cons (.lc [("k", 2)] (.nm 2) (.qr (.int 40)) .nil (.call 14 (.cons (.v 0) (.cons (.int 1000) (.nil))))) (.nil)))) (.cons (.set 4 (.lc [("k", 2)] (.nm 2) (.qr (.int 4)) .nil (.sl (.v 1) (.bin .mul (.int 10) (.v 2)) (.bin .add (.bin .mul (.int 10) (.v 2)) (.int 10))))) (.cons (.set 5 (.tup (.cons (.str "u") (.cons (.bi .tuple (.cons (.lc [("k", 2)] (.nm 2) (.qr (.int 2)) .nil (.tup (.cons (.bin .add (.str "v") (.bi .str (.cons (.v 2) (.nil)))) (.cons (.sl (.v 1) (.bin .mul (.int 20) (.v 2)) (.bin .add (.bin .mul (.int 20) (.v 2)) (.int 20))) (.nil))))) (.nil))) (.nil))))) (.cons (.set 6 (.tup (.cons (.v 1) (.cons (.tup (.cons (.str "t") (.cons (.bi .tuple (.cons (.lc [("k", 2)] (.nm 2) (.qr (.int 4)) .nil (.tup (.cons (.bin .add (.str "w") (.bi .str (.cons (.v 2) (.nil)))) (.cons (.ix (.v 4) (.v 2)) (.nil))))) (.nil))) (.nil)))) (.cons (.v 5) (.cons (.bin .add (.bi .sum (.cons (.v 3) (.nil))) (.call 14 (.cons (.v 0) (.cons (.int 2) (.nil))))) (.cons (.tup (.nil)) (.cons (.tup (.nil)) (.nil))))))))) (.cons (.slc 7 [("k", 2)] (.nm 2) (.qr (.int 4)) .nil (.tup (.cons (.bin .add (.str "w") (.bi .str (.cons (.v 2) (.nil)))) (.cons (.bi .sum (.cons (.sl (.v 3) (.bin .mul (.int 10) (.v 2)) (.bin .add (.bin .mul (.int 10) (.v 2)) (.int 10))) (.nil))) (.cons (.bin .add (.bi .sum (.cons (.sl (.v 3) (.bin .mul (.int 10) (.v 2)) (.bin .add (.bin .mul (.int 10) (.v 2)) (.int 10))) (.nil))) (.int 5)) (.nil)))))) (.cons (.ret (.lst (.cons (.tup (.cons (.v 6) (.cons (.bin .add (.bi .tuple (.cons (.v 7) (.nil))) (.tup (.cons (.tup (.cons (.str "v0") (.cons (.int 0) (.cons (.bi .sum (.cons (.sl (.v 3) .nil (.int 20)) (.nil))) (.nil))))) (.nil)))) (.nil)))) (.cons (.v 3) (.nil))))) (.nil)))))))⟩ }
def c34 : Fc := { x := "law", params := defArgs (top 41), body := defBody (top 41), sc := defScope (top 41), dfl := [], N := ["script", "state", "turn", "many", "office", "stand", "lots", "rows", "counts", "at", "other"], df := ⟨1, 11, [], ["script"], .cons (.set 1 (.call 13 (.cons (.v 0) (.nil)))) (.cons (.for (.nm 2) (.qr (.int 2)) (.cons (.set 3 (.bin .add (.int 1) (.call 14 (.cons (.v 1) (.cons (.int 4) (.nil)))))) (.cons (.set 4 (.call 24 (.cons (.v 1) (.cons (.v 3) (.cons (.ite (.cmp .lt (.v 3) (.int 4)) (.int 7) (.int 5)) (.nil)))))) (.cons (.set 5 (.tup (.cons (.v 4) (.cons (.call 29 (.cons (.v 1) (.cons (.v 4) (.cons (.call 14 (.cons (.v 1) (.cons (.int 6) (.nil)))) (.nil))))) (.nil))))) (.cons (.set 6 (.call 21 (.cons (.v 4) (.nil)))) (.cons (.set 7 (.call 28 (.cons (.v 3) (.cons (.bi .min (.cons (.bin .add (.ix (.v 4) (.int 3)) (.int 1)) (.cons (.ite (.cmp .gt (.v 3) (.int 3)) (.int 6) (.int 8)) (.nil)))) (.nil))))) (.cons (.ite (.bo false (.cons (.no (.call 31 (.cons (.v 1) (.cons (.v 5) (.cons (.v 6) (.nil)))))) (.cons (.no (.call 32 (.cons (.v 1) (.cons (.v 5) (.cons (.v 6) (.cons (.v 7) (.nil))))))) (.nil)))) (.cons (.ret (.bl false)) (.nil)) (.nil)) (.nil)))))))) (.cons (.ite (.cmp .eq (.call 14 (.cons (.v 1) (.cons (.int 8) (.nil)))) (.int 0)) (.cons (.asg (.tup (.cons (.nm 5) (.cons (.nm 8) (.nil)))) (.call 33 (.cons (.v 1) (.nil)))) (.cons (.set 9 (.call 14 (.cons (.v 1) (.cons (.int 40) (.nil))))) (.cons (.set 10 (.bin .add (.bin .add (.sl (.v 8) .nil (.v 9)) (.tup (.cons (.bin .add (.ix (.v 8) (.v 9)) (.call 15 (.cons (.v 1) (.cons (.lst (.cons (.int 1) (.cons (.int 4) (.cons (.int 6) (.nil))))) (.nil))))) (.nil)))) (.sl (.v 8) (.bin .add (.v 9) (.int 1)) .nil))) (.cons (.set 6 (.call 21 (.cons (.ix (.v 5) (.int 0)) (.nil)))) (.cons (.ret (.bo true (.cons (.call 31 (.cons (.v 1) (.cons (.v 5) (.cons (.v 6) (.nil))))) (.cons (.call 32 (.cons (.v 1) (.cons (.v 5) (.cons (.v 6) (.cons (.lst (.cons (.v 8) (.cons (.v 10) (.cons (.slr (.v 8)) (.nil))))) (.nil)))))) (.nil))))) (.nil)))))) (.nil)) (.cons (.ret (.bl true)) (.nil))))⟩ }
def C : List Fc := [c0, c1, c2, c3, c4, c5, c6, c7, c8, c9, c10, c11, c12, c13, c14, c15, c16, c17, c18, c19, c20, c21, c22, c23, c24, c25, c26, c27, c28, c29, c30, c31, c32, c33, c34]
def KT : List (Nat × Nat × List Str) := [(7, 0, ["stand", "name"]), (8, 0, ["stand", "name"]), (11, 0, ["stand", "value"])]
def ini (i : Nat) : Stmt := match top i with
  | .ClassDef _ _ _ b _ _ _ _ _ _ _ => b.getD 0 (.Pass ⟨0, 0, 0, 0⟩)
  | _ => .Pass ⟨0, 0, 0, 0⟩
def xc0 : Xc := { y := "ToldError", fs := [], params := defArgs (ini 1), body := defBody (ini 1), sc := defScope (ini 1) }
def xc1 : Xc := { y := "UnknownName", fs := ["name"], params := defArgs (ini 2), body := defBody (ini 2), sc := defScope (ini 2) }
def xc : List Xc := [xc0, xc1]
theorem hxs : xc.all Xc.okS = true := by decide +kernel
theorem hxb : ∀ x ∈ xc, x.binds := by
  intro x hx
  simp only [xc, List.mem_cons, List.not_mem_nil, or_false] at hx
  rcases hx with rfl | rfl
  · exact .inl rfl
  · exact .inr fun _ _ _ _ _ _ _ _ _ us hl => match us, hl with | [_, _], _ => rfl
theorem hck : ∀ c ∈ C, c.ck (ftOf C) KT (xtOf xc) = true := by
  have h : (C.all fun c => c.ck (ftOf C) KT (xtOf xc)) = true := by decide +kernel
  exact List.all_eq_true.mp h
theorem hb0 : BindC c0 := BindC.of0 rfl rfl fun _ _ _ _ _ _ us hl => match us, hl with | [_], _ => rfl
theorem hb1 : BindC c1 := BindC.of1 (by decide) rfl rfl fun n h1 h2 T kV doc pm an cdv ct us its l1 l2 => by
  have h1 : n ≤ 2 := h1
  have h2 : 2 - n ≤ 1 := h2
  rcases (by omega : n = 1 ∨ 1 < n) with rfl | hn
  · exact match us, its, l1, l2 with | [_], [_], _, _ => ⟨_, rfl, rfl⟩
  obtain rfl : n = 2 := by omega
  exact match us, its, l1, l2 with | [_, _], [_], _, _ => ⟨_, rfl, rfl⟩
theorem hb2 : BindC c2 := BindC.of0 rfl rfl fun _ _ _ _ _ _ us hl => match us, hl with | [_], _ => rfl
theorem hb3 : BindC c3 := BindC.of0 rfl rfl fun _ _ _ _ _ _ us hl => match us, hl with | [_], _ => rfl
theorem hb4 : BindC c4 := BindC.of0 rfl rfl fun _ _ _ _ _ _ us hl => match us, hl with | [_], _ => rfl
theorem hb5 : BindC c5 := BindC.of0 rfl rfl fun _ _ _ _ _ _ us hl => match us, hl with | [_, _], _ => rfl
theorem hb6 : BindC c6 := BindC.of0 rfl rfl fun _ _ _ _ _ _ us hl => match us, hl with | [_], _ => rfl
theorem hb7 : BindC c7 := BindC.of0 rfl rfl fun _ _ _ _ _ _ us hl => match us, hl with | [_, _], _ => rfl
theorem hb8 : BindC c8 := BindC.of0 rfl rfl fun _ _ _ _ _ _ us hl => match us, hl with | [_, _], _ => rfl
theorem hb9 : BindC c9 := BindC.of0 rfl rfl fun _ _ _ _ _ _ us hl => match us, hl with | [_, _], _ => rfl
theorem hb10 : BindC c10 := BindC.of0 rfl rfl fun _ _ _ _ _ _ us hl => match us, hl with | [_, _], _ => rfl
theorem hb11 : BindC c11 := BindC.of0 rfl rfl fun _ _ _ _ _ _ us hl => match us, hl with | [_, _], _ => rfl
theorem hb12 : BindC c12 := BindC.of0 rfl rfl fun _ _ _ _ _ _ us hl => match us, hl with | [_, _], _ => rfl
theorem hb13 : BindC c13 := BindC.of0 rfl rfl fun _ _ _ _ _ _ us hl => match us, hl with | [_], _ => rfl
theorem hb14 : BindC c14 := BindC.of0 rfl rfl fun _ _ _ _ _ _ us hl => match us, hl with | [_, _], _ => rfl
theorem hb15 : BindC c15 := BindC.of0 rfl rfl fun _ _ _ _ _ _ us hl => match us, hl with | [_, _], _ => rfl
theorem hb16 : BindC c16 := BindC.of0 rfl rfl fun _ _ _ _ _ _ us hl => match us, hl with | [_, _], _ => rfl
theorem hb17 : BindC c17 := BindC.of0 rfl rfl fun _ _ _ _ _ _ us hl => match us, hl with | [_, _], _ => rfl
theorem hb18 : BindC c18 := BindC.of0 rfl rfl fun _ _ _ _ _ _ us hl => match us, hl with | [_, _], _ => rfl
theorem hb19 : BindC c19 := BindC.of0 rfl rfl fun _ _ _ _ _ _ us hl => match us, hl with | [_, _], _ => rfl
theorem hb20 : BindC c20 := BindC.of0 rfl rfl fun _ _ _ _ _ _ us hl => match us, hl with | [_], _ => rfl
theorem hb21 : BindC c21 := BindC.of0 rfl rfl fun _ _ _ _ _ _ us hl => match us, hl with | [_], _ => rfl
theorem hb22 : BindC c22 := BindC.of0 rfl rfl fun _ _ _ _ _ _ us hl => match us, hl with | [_, _, _, _], _ => rfl
theorem hb23 : BindC c23 := BindC.of0 rfl rfl fun _ _ _ _ _ _ us hl => match us, hl with | [_, _, _], _ => rfl
theorem hb24 : BindC c24 := BindC.of0 rfl rfl fun _ _ _ _ _ _ us hl => match us, hl with | [_, _, _], _ => rfl
theorem hb25 : BindC c25 := BindC.of0 rfl rfl fun _ _ _ _ _ _ us hl => match us, hl with | [_, _], _ => rfl
theorem hb26 : BindC c26 := BindC.of0 rfl rfl fun _ _ _ _ _ _ us hl => match us, hl with | [_, _, _, _], _ => rfl
theorem hb27 : BindC c27 := BindC.of0 rfl rfl fun _ _ _ _ _ _ us hl => match us, hl with | [_, _, _], _ => rfl
theorem hb28 : BindC c28 := BindC.of0 rfl rfl fun _ _ _ _ _ _ us hl => match us, hl with | [_, _], _ => rfl
theorem hb29 : BindC c29 := BindC.of0 rfl rfl fun _ _ _ _ _ _ us hl => match us, hl with | [_, _, _], _ => rfl
theorem hb30 : BindC c30 := BindC.of0 rfl rfl fun _ _ _ _ _ _ us hl => match us, hl with | [_, _, _, _], _ => rfl
theorem hb31 : BindC c31 := BindC.of0 rfl rfl fun _ _ _ _ _ _ us hl => match us, hl with | [_, _, _], _ => rfl
theorem hb32 : BindC c32 := BindC.of0 rfl rfl fun _ _ _ _ _ _ us hl => match us, hl with | [_, _, _, _], _ => rfl
theorem hb33 : BindC c33 := BindC.of0 rfl rfl fun _ _ _ _ _ _ us hl => match us, hl with | [_], _ => rfl
theorem hb34 : BindC c34 := BindC.of0 rfl rfl fun _ _ _ _ _ _ us hl => match us, hl with | [_], _ => rfl
theorem hB : ∀ c ∈ C, BindC c := by
  intro c hc
  simp only [C, List.mem_cons, List.not_mem_nil, or_false] at hc
  rcases hc with rfl | rfl | rfl | rfl | rfl | rfl | rfl | rfl | rfl | rfl | rfl | rfl | rfl | rfl | rfl | rfl | rfl | rfl | rfl | rfl | rfl | rfl | rfl | rfl | rfl | rfl | rfl | rfl | rfl | rfl | rfl | rfl | rfl | rfl | rfl
  · exact hb0
  · exact hb1
  · exact hb2
  · exact hb3
  · exact hb4
  · exact hb5
  · exact hb6
  · exact hb7
  · exact hb8
  · exact hb9
  · exact hb10
  · exact hb11
  · exact hb12
  · exact hb13
  · exact hb14
  · exact hb15
  · exact hb16
  · exact hb17
  · exact hb18
  · exact hb19
  · exact hb20
  · exact hb21
  · exact hb22
  · exact hb23
  · exact hb24
  · exact hb25
  · exact hb26
  · exact hb27
  · exact hb28
  · exact hb29
  · exact hb30
  · exact hb31
  · exact hb32
  · exact hb33
  · exact hb34
theorem hk0 : KBindC c7 0 ["stand", "name"] := KBindC.of0 rfl rfl fun _ _ _ _ _ _ us ws h1 h2 => match us, ws, h1, h2 with | [], [_, _], _, _ => rfl
theorem hk1 : KBindC c8 0 ["stand", "name"] := KBindC.of0 rfl rfl fun _ _ _ _ _ _ us ws h1 h2 => match us, ws, h1, h2 with | [], [_, _], _, _ => rfl
theorem hk2 : KBindC c11 0 ["stand", "value"] := KBindC.of0 rfl rfl fun _ _ _ _ _ _ us ws h1 h2 => match us, ws, h1, h2 with | [], [_, _], _, _ => rfl
theorem hKB : ∀ f n ks, (f, n, ks) ∈ KT → ∃ c, C[f]? = some c ∧ KBindC c n ks ∧ n ≤ c.df.ps.length := by
  intro f n ks h
  simp only [KT, List.mem_cons, List.not_mem_nil, or_false, Prod.mk.injEq] at h
  rcases h with ⟨rfl, rfl, rfl⟩ | ⟨rfl, rfl, rfl⟩ | ⟨rfl, rfl, rfl⟩
  · exact ⟨c7, rfl, hk0, by decide⟩
  · exact ⟨c8, rfl, hk1, by decide⟩
  · exact ⟨c11, rfl, hk2, by decide⟩
end PV.Row
namespace PV.Row
open PySem PySem.Spec PyProof.Rows L2
theorem lp : Law04P (C.map (·.df)) 12 14 15 16 19 22 20 21 23 24 1 2 3 4 5 6 7 8 9 0 10 11 1 13 17 18 25 26 27 28 29 30 31 32 33 34 := by
  repeat' (first | exact rfl | exact ⟨_, rfl⟩ | constructor)
end PV.Row
namespace PV.Row
open PySem PySem.Spec PyProof.Rows L2
theorem lawF : LawF C 20000 13 34 c34 where
  at_ := rfl
  x := rfl
  dfl := rfl
  ps := rfl
  np := rfl
  bind := fun _ _ _ _ _ _ us hl => match us, hl with | [_], _ => rfl
  walk := fun ns => sp_law04 (n := 0) lp (by decide) ns
abbrev loose : List Str := List.append (xc.map fun x => x.y) ((C.map fun c => c.x).filter fun x => !decide (x = "law"))
abbrev R : PySem.W.OpenRow := PySem.W.OpenLaw.row PySem.Challenge.rw_safelytold_k04_bounds_and_worlds
abbrev hk : PySem.W.Hook := hookV R.prog 4 (faOf C) (C.map Fc.d) xc
def ob (s : PySem.W.SharedT) : AlV := obsVG R.prog 4 (faOf C) (C.map Fc.d) xc (HandSHeadRun.getT s)
theorem ob_eq (s : PySem.W.SharedT) : ob s = hk.obs s.abs := obsVG_eq (HandSHeadRun.getT_eq s)
theorem run (w : World) : HandSHeadRun.RunEq R (PySem.W.view R.prog [41]) hk ob 4000 loose w := by
  intro os
  kernel_rfl
end PV.Row
open PySem PySem.W PySem.Calls PyProof.Rows
theorem PySem.Challenge.cw_safelytold_k04_bounds_and_worlds_holds : PySem.Challenge.rw_safelytold_k04_bounds_and_worlds.Holds := by
  w_on; o_law
  refine HandSHeadRun.head_any (r := OpenLaw.row PySem.Challenge.rw_safelytold_k04_bounds_and_worlds) (q := view (OpenLaw.row PySem.Challenge.rw_safelytold_k04_bounds_and_worlds).prog [41]) (H := PV.Row.hk) (ob := PV.Row.ob) (M := 4000) (loose := PV.Row.loose) (d := HandSHeadRun.topDef (OpenLaw.row PySem.Challenge.rw_safelytold_k04_bounds_and_worlds).prog 41) (kwd := []) PV.Row.ob_eq
    (by kernel_rfl) (fun s => by kernel_rfl) PV.Row.run (by kernel_rfl) (by kernel_rfl) (by kernel_rfl) (by rfl) (by first | assumption | decide +kernel) (by decide +kernel) ⟨rfl, rfl, rfl, rfl, rfl, by decide +kernel⟩ ?hw ?hc
  case hw => w_witness2
  case hc =>
    refine L2.walk_ofE (l := PySem.Challenge.rw_safelytold_k04_bounds_and_worlds) (n := 63) (k := 13 + 2) (x := "script") (CX := L2.CX0) rfl (by decide) (by kernel_rfl) ⟨rfl, by decide, by decide⟩ ?F (fun _ _ _ _ z => z)
    intro w mg fa h Y G hmg0
    obtain ⟨K, KX, c⟩ := Y
    have hmg : mg ("law" : PySem.Str) = some (.ref fa) := by
      have e : (HandSHeadRun.topDef (OpenLaw.row PySem.Challenge.rw_safelytold_k04_bounds_and_worlds).prog 41).name = ("law" : PySem.Str) := by kernel_rfl
      rw [← e]
      exact hmg0
    obtain ⟨fd, hb, hs, hF⟩ := PV.law_head (prog := (PySem.Challenge.rw_safelytold_k04_bounds_and_worlds).prog) (w := w) PV.Row.lawF PV.Row.hck PV.Row.hB PV.Row.hKB PV.Row.hxs PV.Row.hxb KX G hmg c
    exact ⟨K, fd, _, KX, hb, fun H a ns hl hO hS => hs H a ns hO hS, hF⟩
