import PyProof.Rows.All
import HandS.ForMost
import HandS.Exc
import HandS.TryOnly
import HandS.ExcOwn
import HandS.ExcInit
import HandS.ExcField
import HandS.ExcIs
import HandS.TupAny
import HandS.TupMul
import HandS.Steps
import HandS.Deep
import HandS.IsInst
import HandS.Style
import HandS.Text
import KE.GoesMore
import KE.GoesEnum
import HandS.Zip
import HandS.WordsExc
import KE.KExcIs
import PySem.Challenge.RW_seekwright_k59_whole_tables_of_how_far
set_option Elab.async false
set_option linter.all false
set_option maxRecDepth 10000
/-! The data layer: values, store, the IR and its evaluator. Plain Lean, nothing of the model. -/
namespace DL

inductive D where
  | non
  | bl (b : Bool)
  | int (i : Int)
  | str (s : List Nat)
  | tup (xs : List D)
  | ref (l : Nat)
  | fl (ns : List Int)
  | fn (f : Nat)
  deriving Inhabited

inductive Cell where
  | lst (xs : List D)
  | dic (tk : Bool) (kvs : List (D × D))

abbrev Store := List Cell
abbrev Env := List (Option D)

structure DX where
  cls : Nat
  flds : List (String × D)

inductive Res (α : Type) where
  | ok (a : α) (st : Store)
  | exc (x : DX) (st : Store)
  | bad

@[simp] def Res.bind {α β : Type} (r : Res α) (f : α → Store → Res β) : Res β :=
  match r with
  | .ok a st => f a st
  | .exc x st => .exc x st
  | .bad => .bad

/-- no exception may leave (a comprehension) -/
@[simp] def Res.nox {α : Type} (r : Res α) : Res α :=
  match r with
  | .ok a st => .ok a st
  | _ => .bad

inductive Bop | add | sub | mul | fdiv | mod | pow
  deriving DecidableEq
inductive Cop | eq | ne | lt | le | gt | ge | isin | notin | is | isnot
  deriving DecidableEq
inductive Bi | len | int | min | max | tuple | list | all | any | sum | sorted | abs | str | set | dict
  deriving DecidableEq
inductive Ty | int | bool | str | tuple | list | dict
  deriving DecidableEq
inductive Me | append | index | join | get | setdefault | extend | update | pop | endswith | startswith | split | values | items | keys
  deriving DecidableEq

/-- expressions, targets (var, tup, ix), sources of loops (rng, enum, zip, else a value), left-out parts (nop) -/
inductive E where
  | nop
  | var (i : Nat)
  | cst (d : D)
  | bin (o : Bop) (a b : E)
  | cmp (o : Cop) (a b : E)
  | chain (o1 o2 : Cop) (a b c : E)
  | and (es : List E)
  | or (es : List E)
  | not (a : E)
  | neg (a : E)
  | ife (c a b : E)
  | tup (es : List E)
  | lst (es : List E)
  | dic (tk : Bool)
  | ix (a b : E)
  | sl (a lo hi : E)
  | rev (a : E)
  | call (f : Nat) (es : List E)
  | bi (b : Bi) (es : List E)
  | isi (a : E) (t : Ty)
  | me (m : Me) (a : E) (es : List E)
  | lc (elt tg src : E) (ifs : List E) (own : List (String × Nat))
  | rng (es : List E)
  | enum (a : E)
  | zip (a b : E)

inductive XE where
  | fld (n : String)
  | str (s : List Nat)
  | isf (c : Nat) (a b : XE)

inductive Hs where
  | app (i : Nat) (x : XE)
  | ret (x : XE)
  | cnt

inductive S where
  | set (i : Nat) (e : E)
  | setT (tg e : E)
  | setX (a b e : E)
  | aug (i : Nat) (o : Bop) (e : E)
  | ex (e : E)
  | ret (e : E)
  | retN
  | ifs (c : E) (a b : List S)
  | whl (c : E) (b : List S)
  | for (tg src : E) (b : List S)
  | brk
  | cnt
  | pas
  | rais (c : Nat) (es : List E)
  | tryA (b : List S) (c : Nat) (i : Nat) (h : Hs)

/-! ### data to be compared -/
inductive PD where
  | non | bl (b : Bool) | int (i : Int) | str (s : List Nat) | lst (xs : List PD) | tup (xs : List PD)

mutual
def PD.eqv : PD → PD → Bool
  | .non, .non => true
  | .bl a, .bl b => a == b
  | .bl a, .int j => (if a then 1 else 0) == j
  | .int i, .bl b => i == (if b then 1 else 0)
  | .int i, .int j => i == j
  | .str x, .str y => x == y
  | .lst xs, .lst ys => PD.eqvs xs ys
  | .tup xs, .tup ys => PD.eqvs xs ys
  | _, _ => false
def PD.eqvs : List PD → List PD → Bool
  | [], [] => true
  | x :: xs, y :: ys => PD.eqv x y && PD.eqvs xs ys
  | _, _ => false
end

mutual
/-- n: how deep tuples may lie in tuples -/
def rsv (n : Nat) : D → Option PD
  | .non => some .non
  | .bl b => some (.bl b)
  | .int i => some (.int i)
  | .str s => some (.str s)
  | .tup xs => if n = 0 then none else (rsvs (n - 1) xs).map .tup
  | _ => none
def rsvs (n : Nat) : List D → Option (List PD)
  | [] => some []
  | x :: xs => match rsv n x, rsvs n xs with
    | some a, some b => some (a :: b)
    | _, _ => none
end
/-- a list at the top is looked into (its items hold no lists) -/
def rsv1 (st : Store) : D → Option PD
  | .ref l => match st[l]? with
    | some (.lst xs) => (rsvs 40 xs).map .lst
    | _ => none
  | d => rsv 40 d

def eqD (st : Store) (a b : D) : Option Bool :=
  match rsv1 st a, rsv1 st b with
  | some x, some y => some (PD.eqv x y)
  | _, _ => none

mutual
def D.same : D → D → Bool
  | .non, .non => true
  | .bl a, .bl b => a == b
  | .int a, .int b => a == b
  | .str a, .str b => a == b
  | .tup a, .tup b => D.sames a b
  | .ref a, .ref b => a == b
  | .fl a, .fl b => a == b
  | .fn a, .fn b => a == b
  | _, _ => false
def D.sames : List D → List D → Bool
  | [], [] => true
  | x :: xs, y :: ys => D.same x y && D.sames xs ys
  | _, _ => false
end

def isK : D → Bool
  | .int _ => true
  | .str _ => true
  | _ => false
def isKs : List D → Bool
  | [] => true
  | d :: ds => isK d && isKs ds
/-- a key of a dict: ints and texts, or tuples of them -/
def keyOkD (tk : Bool) (d : D) : Bool :=
  if tk = true then (match d with | .tup ds => isKs ds | _ => false) else isK d

/-! ### labels -/
mutual
def wfD (n : Nat) : D → Bool
  | .ref l => decide (l < n)
  | .tup xs => wfDs n xs
  | _ => true
def wfDs (n : Nat) : List D → Bool
  | [] => true
  | x :: xs => wfD n x && wfDs n xs
end
def wfC (n : Nat) : Cell → Prop
  | .lst xs => wfDs n xs = true
  | .dic _ kvs => ∀ p ∈ kvs, wfD n p.1 = true ∧ wfD n p.2 = true

def TruncOk (st st' : Store) (ds : List D) : Prop :=
  st.length ≤ st'.length ∧ (∀ d ∈ ds, wfD st.length d = true) ∧ ∀ l c, l < st.length → st'[l]? = some c → st[l]? = some c ∨ wfC st.length c
open Classical in
noncomputable def settle (st st' : Store) (ds : List D) : Store := if TruncOk st st' ds then st'.take st.length else st'

/-! ### operations -/
def rep {α : Type} (xs : List α) : Nat → List α
  | 0 => []
  | n + 1 => xs ++ rep xs n

def okS (n : Nat) : Bool := decide (n ≤ 1000000)
def small64 (i : Int) : Bool := decide (-(2 ^ 64) < i) && decide (i < 2 ^ 64)

def newL (xs : List D) (st : Store) : Option (D × Store) := some ((.ref st.length), st ++ [.lst xs])

def addD (x y : D) (st : Store) : Option (D × Store) :=
  match x, y with
  | .int i, .int j => some (.int (i + j), st)
  | .str a, .str b => if okS (a.length + b.length) = true then some (.str (a ++ b), st) else none
  | .tup a, .tup b => if okS (a.length + b.length) = true then some (.tup (a ++ b), st) else none
  | .ref a, .ref b => match st[a]?, st[b]? with
    | some (.lst xs), some (.lst ys) => if okS (xs.length + ys.length) = true then newL (xs ++ ys) st else none
    | _, _ => none
  | _, _ => none
def subD (x y : D) (st : Store) : Option (D × Store) :=
  match x, y with
  | .int i, .int j => some (.int (i - j), st)
  | _, _ => none
def mulD (x y : D) (st : Store) : Option (D × Store) :=
  match x, y with
  | .int i, .int j => if small64 i = true ∨ small64 j = true then some (.int (i * j), st) else none
  | .str a, .int j => if a.length ≤ 1000 ∧ 1 ≤ j ∧ j ≤ 1000 then some (.str (rep a j.toNat), st) else none
  | .tup a, .int j => if 1 ≤ a.length ∧ a.length ≤ 1000 ∧ 1 ≤ j ∧ j ≤ 1000 then some (.tup (rep a j.toNat), st) else none
  | .ref a, .int j => match st[a]? with
    | some (.lst xs) => if xs.length ≤ 1000 ∧ 0 ≤ j ∧ j ≤ 1000 then newL (rep xs j.toNat) st else none
    | _ => none
  | _, _ => none
def fdivD (x y : D) (st : Store) : Option (D × Store) :=
  match x, y with
  | .int i, .int j => if 0 < j ∧ j < 1073741824 then some (.int (i / j), st) else none
  | _, _ => none
def modD (x y : D) (st : Store) : Option (D × Store) :=
  match x, y with
  | .int i, .int j => if 0 < j then some (.int (i % j), st) else none
  | _, _ => none
def powD (x y : D) (st : Store) : Option (D × Store) :=
  match x, y with
  | .int i, .int j => if 0 ≤ j ∧ j ≤ 1000 ∧ small64 i = true then some (.int (i ^ j.toNat), st) else none
  | _, _ => none
@[simp] def binD (o : Bop) (x y : D) (st : Store) : Option (D × Store) :=
  match o with
  | .add => addD x y st
  | .sub => subD x y st
  | .mul => mulD x y st
  | .fdiv => fdivD x y st
  | .mod => modD x y st
  | .pow => powD x y st

/-- the flat things that `in` compares -/
def flat : D → Bool
  | .non => true | .int _ => true | .str _ => true | .bl _ => true
  | _ => false

def flats : List D → Bool
  | [] => true
  | x :: xs => flat x && flats xs

def inD (x y : D) (st : Store) : Option Bool :=
  match y with
  | .str b => match x with
    | .str [a] => some (decide (a ∈ b))
    | _ => none
  | .tup ys => if flat x = true ∧ flats ys = true then match rsv 40 x, rsvs 40 ys with
      | some p, some qs => some (qs.any fun q => PD.eqv q p)
      | _, _ => none
    else none
  | .ref l => match st[l]? with
    | some (.lst ys) => match rsv 40 x, rsvs 40 ys with
      | some p, some qs => some (qs.any fun q => PD.eqv q p)
      | _, _ => none
    | some (.dic tk kvs) => if keyOkD tk x = true then some (kvs.any fun p => D.same p.1 x) else none
    | _ => none
  | _ => none

def ltD (x y : D) : Option Bool :=
  match x, y with
  | .int i, .int j => some (decide (i < j))
  | .str i, .str j => some (decide (i < j))
  | _, _ => none
def leD (x y : D) : Option Bool :=
  match x, y with
  | .int i, .int j => some (decide (i ≤ j))
  | _, _ => none
def isNon (x : D) : Bool :=
  match x with
  | .non => true
  | _ => false
@[simp] def cmpD (o : Cop) (x y : D) (st : Store) : Option Bool :=
  match o with
  | .eq => eqD st x y
  | .ne => (eqD st x y).map (!·)
  | .lt => ltD x y
  | .le => leD x y
  | .gt => ltD y x
  | .ge => leD y x
  | .isin => inD x y st
  | .notin => (inD x y st).map (!·)
  | .is => if isNon y = true then some (isNon x) else none
  | .isnot => if isNon y = true then some (!isNon x) else none

def truD (x : D) (st : Store) : Option Bool :=
  match x with
  | .non => some false
  | .bl b => some b
  | .int i => some (i != 0)
  | .str s => some (!s.isEmpty)
  | .tup xs => some (!xs.isEmpty)
  | .ref l => match st[l]? with
    | some (.lst xs) => some (!xs.isEmpty)
    | _ => none
  | _ => none

/-- an item at an int, from the end for one below nought -/
def atD {α : Type} (xs : List α) (i : Int) : Option α :=
  if 0 ≤ i then xs[i.toNat]? else if -(xs.length : Int) ≤ i then xs[(i + xs.length).toNat]? else none

def lookD (k : D) : List (D × D) → Option D
  | [] => none
  | p :: r => if D.same p.1 k = true then some p.2 else lookD k r

def ixD (x y : D) (st : Store) : Option (D × Store) :=
  match x, y with
  | .tup xs, .int i => match atD xs i with | some d => some (d, st) | none => none
  | .str s, .int i => match atD s i with | some c => some ((.str [c]), st) | none => none
  | .ref l, k => match st[l]? with
    | some (.lst xs) => match k with
      | .int i => match atD xs i with | some d => some (d, st) | none => none
      | _ => none
    | some (.dic tk kvs) => if keyOkD tk k = true then match lookD k kvs with | some d => some (d, st) | none => none else none
    | none => none
  | _, _ => none

/-- a slice's bound as a place among n -/
def sIx (n d : Nat) : Option Int → Nat
  | none => d
  | some v => if v < 0 then (v + (n : Int)).toNat else min v.toNat n
def cut {α : Type} (xs : List α) (lo hi : Option Int) : List α :=
  (xs.drop (sIx xs.length 0 lo)).take (sIx xs.length xs.length hi - sIx xs.length 0 lo)

def slD (x : D) (lo hi : Option Int) (st : Store) : Option (D × Store) :=
  match x with
  | .str s => some ((.str (cut s lo hi)), st)
  | .tup xs => some ((.tup (cut xs lo hi)), st)
  | .ref l => match st[l]? with
    | some (.lst xs) => newL (cut xs lo hi) st
    | _ => none
  | _ => none

def revD (x : D) (st : Store) : Option (D × Store) :=
  match x with
  | .str s => some ((.str s.reverse), st)
  | .ref l => match st[l]? with
    | some (.lst xs) => newL xs.reverse st
    | _ => none
  | _ => none

def ints? : List D → Option (List Int)
  | [] => some []
  | .int i :: r => match ints? r with | some b => some (i :: b) | none => none
  | _ => none
def bools? : List D → Option (List Bool)
  | [] => some []
  | .bl i :: r => match bools? r with | some b => some (i :: b) | none => none
  | _ => none
def strs? : List D → Option (List (List Nat))
  | [] => some []
  | .str i :: r => match strs? r with | some b => some (i :: b) | none => none
  | _ => none

def minI : Int → List Int → Int
  | m, [] => m
  | m, x :: r => minI (if x < m then x else m) r
def maxI : Int → List Int → Int
  | m, [] => m
  | m, x :: r => maxI (if m < x then x else m) r

/-- the items of a list or tuple -/
def itemsD (x : D) (st : Store) : Option (List D) :=
  match x with
  | .tup xs => some xs
  | .ref l => match st[l]? with | some (.lst xs) => some xs | _ => none
  | _ => none

def lenD (xs : List D) (st : Store) : Option (D × Store) :=
  match xs with
  | [.str s] => some (.int s.length, st)
  | [x] => match itemsD x st with | some ys => some (.int ys.length, st) | none => none
  | _ => none
def intD (xs : List D) (st : Store) : Option (D × Store) :=
  match xs with
  | [.int i] => some (.int i, st)
  | [.bl k] => some (.int (if k then 1 else 0), st)
  | _ => none
def minD (xs : List D) (st : Store) : Option (D × Store) :=
  match xs with
  | [.ref l] => match st[l]? with
    | some (.lst ys) => match ints? ys with | some (m :: r) => some (.int (minI m r), st) | _ => none
    | _ => none
  | [.int a, .int b] => some (.int (minI a [b]), st)
  | [.int a, .int b, .int c] => some (.int (minI a [b, c]), st)
  | [.int a, .int b, .int c, .int d] => some (.int (minI a [b, c, d]), st)
  | _ => none
def maxD (xs : List D) (st : Store) : Option (D × Store) :=
  match xs with
  | [.int a, .int b] => some (.int (maxI a [b]), st)
  | _ => none
def tupleD (xs : List D) (st : Store) : Option (D × Store) :=
  match xs with
  | [x] => match itemsD x st with | some ys => some (.tup ys, st) | none => none
  | _ => none
def listD (xs : List D) (st : Store) : Option (D × Store) :=
  match xs with
  | [.fl ns] => newL (ns.map .int) st
  | [x] => match itemsD x st with | some ys => newL ys st | none => none
  | _ => none
def allD (xs : List D) (st : Store) : Option (D × Store) :=
  match xs with
  | [.ref l] => match st[l]? with
    | some (.lst ys) => match bools? ys with | some bs => some (.bl (bs.all id), st) | none => none
    | _ => none
  | _ => none
def anyD (xs : List D) (st : Store) : Option (D × Store) :=
  match xs with
  | [.ref l] => match st[l]? with
    | some (.lst ys) => match bools? ys with | some bs => some (.bl (bs.any id), st) | none => none
    | _ => none
  | _ => none
@[simp] def biD (b : Bi) (xs : List D) (st : Store) : Option (D × Store) :=
  match b with
  | .len => lenD xs st
  | .int => intD xs st
  | .min => minD xs st
  | .max => maxD xs st
  | .tuple => tupleD xs st
  | .list => listD xs st
  | .all => allD xs st
  | .any => anyD xs st
  | _ => none

def isiD (x : D) (t : Ty) (st : Store) : Option Bool :=
  match x with
  | .non => some false
  | .bl _ => some (t == .bool || t == .int)
  | .int _ => some (t == .int)
  | .str _ => some (t == .str)
  | .tup _ => some (t == .tuple)
  | .ref l => match st[l]? with
    | some (.lst _) => some (t == .list)
    | some (.dic _ _) => some (t == .dict)
    | none => none
  | _ => none

def join (sep : List Nat) : List (List Nat) → List Nat
  | [] => []
  | [x] => x
  | x :: y :: r => x ++ (sep ++ join sep (y :: r))

def appendD (x : D) (xs : List D) (st : Store) : Option (D × Store) :=
  match x, xs with
  | .ref l, [y] => match st[l]? with
    | some (.lst ys) => if okS ys.length = true then some (.non, st.set l (.lst (ys ++ [y]))) else none
    | _ => none
  | _, _ => none
/-- how many signs joining takes at most -/
def joinSize (sep : List Nat) : List (List Nat) → Nat
  | [] => 0
  | x :: r => x.length + sep.length + joinSize sep r
def joinD (x : D) (xs : List D) (st : Store) : Option (D × Store) :=
  match x, xs with
  | .str s, [y] => match itemsD y st with
    | some ys => match strs? ys with
      | some zs => if okS (joinSize s zs) = true then some (.str (join s zs), st) else none
      | none => none
    | none => none
  | _, _ => none
@[simp] def meD (m : Me) (x : D) (xs : List D) (st : Store) : Option (D × Store) :=
  match m with
  | .append => appendD x xs st
  | .join => joinD x xs st
  | _ => none

def putD (k v : D) (kvs : List (D × D)) : List (D × D) :=
  if (kvs.any fun p => D.same p.1 k) = true then kvs.map (fun p => if D.same p.1 k = true then (p.1, v) else p) else kvs ++ [(k, v)]

def setXD (kt : List D) (x i v : D) (st : Store) : Option Store :=
  match x with
  | .ref l => match st[l]? with
    | some (.lst xs) => match i with
      | .int j => if 0 ≤ j ∧ j < xs.length then some (st.set l (.lst (xs.set j.toNat v))) else none
      | _ => none
    | some (.dic tk kvs) => if okS kvs.length = true ∧ keyOkD tk i = true ∧ (kt.any fun d => D.same d i) = false then some (st.set l (.dic tk (putD i v kvs))) else none
    | none => none
  | _ => none

/-- the receiver of a method is of its kind -/
def isL (x : D) (st : Store) : Bool :=
  match x with
  | .ref l => match st[l]? with | some (.lst _) => true | _ => false
  | _ => false
def isS (x : D) : Bool :=
  match x with
  | .str _ => true
  | _ => false
def isDc (x : D) (st : Store) : Bool :=
  match x with
  | .ref l => match st[l]? with | some (.dic _ _) => true | _ => false
  | _ => false
@[simp] def recv (m : Me) (x : D) (st : Store) : Bool :=
  match m with
  | .append => isL x st
  | .extend => isL x st
  | .join => isS x
  | .get => isDc x st
  | .setdefault => isDc x st
  | .update => isDc x st
  | _ => true

/-! ### the evaluator -/
@[simp] def ofO {α β : Type} (o : Option α) (st : Store) (f : α → β) : Res β :=
  match o with
  | some a => .ok (f a) st
  | none => .bad

def rangeL (lo : Int) (n : Nat) : List D := (List.range n).map fun k => .int (lo + (k : Nat))
def rangeD (lo : Int) (n : Nat) : List D := (List.range n).map fun k => .int (lo - (k : Nat))
def small62 (i : Int) : Bool := decide (-(2 ^ 60) ≤ i) && decide (i < 2 ^ 60)
def rngD : List D → Option (List D)
  | [.int j] => if small62 j = true then some (rangeL 0 j.toNat) else none
  | [.int i, .int j] => if small62 i = true ∧ small62 j = true then some (rangeL i (j - i).toNat) else none
  | [.int i, .int j, .int (-1)] => if small62 i = true ∧ small62 j = true then some (rangeD i (i - j).toNat) else none
  | _ => none

@[simp] def ofV (o : Option (D × Store)) : Res D :=
  match o with
  | some p => .ok p.1 p.2
  | none => .bad

abbrev Guard := Option (Nat × List D)
def GuardOk : Guard → Store → Prop
  | none, _ => True
  | some (l, xs), st => st[l]? = some (.lst xs)

def enumL (i : Nat) : List D → List D
  | [] => []
  | x :: r => .tup [.int (i : Nat), x] :: enumL (i + 1) r
def zipL : List D → List D → List D
  | x :: xs, y :: ys => .tup [x, y] :: zipL xs ys
  | _, _ => []

@[simp] def consO (o : Option D) (ys : List D) : List D :=
  match o with
  | some y => y :: ys
  | none => ys
open Classical in
noncomputable def lcL (step : D → Store → Res (Option D)) (g : Guard) : List D → Store → Res (List D)
  | [], st => if GuardOk g st then .ok [] st else .bad
  | x :: xs, st => if GuardOk g st then
      (step x st).bind fun o st1 => (lcL step g xs st1).bind fun ys st2 => .ok (consO o ys) st2
    else .bad

mutual
/-- a target of names takes a value -/
def putT : E → D → Env → Option Env
  | .var i, d, ρ => some (ρ.set i (some d))
  | .tup ts, .tup ds, ρ => putTs ts ds ρ
  | _, _, _ => none
def putTs : List E → List D → Env → Option Env
  | [], [], ρ => some ρ
  | t :: ts, d :: ds, ρ => match putT t d ρ with
    | some ρ => putTs ts ds ρ
    | none => none
  | _, _, _ => none
end
mutual
/-- the slots of a target -/
def tgSlots : E → List Nat
  | .var i => [i]
  | .tup ts => tgSlotss ts
  | _ => []
def tgSlotss : List E → List Nat
  | [] => []
  | t :: ts => tgSlots t ++ tgSlotss ts
end

def wipeE (ρ : Env) : List Nat → Env
  | [] => ρ
  | v :: vs => (wipeE ρ vs).set v none

structure XCls where
  flds : List String
  up : List Nat
structure Ctx where
  xc : List XCls
  kt : List D
  call : Nat → List D → Store → Res D

mutual
noncomputable def evE (C : Ctx) (ρ : Env) : E → Store → Res D
  | .var i, st => match ρ[i]? with | some (some d) => .ok d st | _ => .bad
  | .cst d, st => .ok d st
  | .bin o a b, st => (evE C ρ a st).bind fun x st => (evE C ρ b st).bind fun y st => ofV (binD o x y st)
  | .cmp o a b, st => (evE C ρ a st).bind fun x st => (evE C ρ b st).bind fun y st => ofO (cmpD o x y st) st .bl
  | .chain o1 o2 a b c, st => (evE C ρ a st).bind fun x st => (evE C ρ b st).bind fun y st => match cmpD o1 x y st with
    | some true => (evE C ρ c st).bind fun z st => ofO (cmpD o2 y z st) st .bl
    | some false => .ok (.bl false) st
    | none => .bad
  | .and es, st => evAnd C ρ es st
  | .or es, st => evOr C ρ es st
  | .not a, st => (evE C ρ a st).bind fun x st => ofO (truD x st) st fun b => .bl (!b)
  | .neg a, st => (evE C ρ a st).bind fun x st => match x with | .int i => .ok (.int (-i)) st | _ => .bad
  | .ife c a b, st => (evE C ρ c st).bind fun x st => match truD x st with
    | some true => evE C ρ a st
    | some false => evE C ρ b st
    | none => .bad
  | .tup es, st => (evEs C ρ es st).bind fun xs st => if okS xs.length = true then .ok (.tup xs) st else .bad
  | .lst es, st => (evEs C ρ es st).bind fun xs st => if okS xs.length = true then ofV (newL xs st) else .bad
  | .dic tk, st => .ok (.ref st.length) (st ++ [.dic tk []])
  | .ix a b, st => (evE C ρ a st).bind fun x st => (evE C ρ b st).bind fun y st => ofV (ixD x y st)
  | .sl a lo hi, st => (evE C ρ a st).bind fun x st => (evP C ρ lo st).bind fun l st => (evP C ρ hi st).bind fun h st => ofV (slD x l h st)
  | .rev a, st => (evE C ρ a st).bind fun x st => ofV (revD x st)
  | .call f es, st => (evEs C ρ es st).bind fun xs st => C.call f xs st
  | .bi b es, st => (evEs C ρ es st).bind fun xs st => ofV (biD b xs st)
  | .isi a t, st => (evE C ρ a st).bind fun x st => ofO (isiD x t st) st .bl
  | .me m a es, st => (evE C ρ a st).bind fun x st => if recv m x st = true then (evEs C ρ es st).bind fun xs st => ofV (meD m x xs st) else .bad
  | .lc elt tg src ifs own, st => (evI C ρ src st).bind fun p st =>
      if okS p.1.length = true then
        (lcL (fun x st => match putT tg x (wipeE ρ (own.map (·.2))) with
          | some ρ' => (evIfs C ρ' ifs st).bind fun b st => if b = true then (evE C ρ' elt st).bind fun y st => .ok (some y) st else .ok none st
          | none => .bad) p.2 p.1 st).nox.bind fun ys st => ofV (newL ys st)
      else .bad
  | _, _ => .bad
noncomputable def evP (C : Ctx) (ρ : Env) : E → Store → Res (Option Int)
  | .nop, st => .ok none st
  | e, st => (evE C ρ e st).bind fun x st => match x with | .int i => .ok (some i) st | _ => .bad
noncomputable def evEs (C : Ctx) (ρ : Env) : List E → Store → Res (List D)
  | [], st => .ok [] st
  | e :: es, st => (evE C ρ e st).bind fun x st => (evEs C ρ es st).bind fun xs st => .ok (x :: xs) st
/-- bools alone -/
noncomputable def evAnd (C : Ctx) (ρ : Env) : List E → Store → Res D
  | [], st => .ok (.bl true) st
  | e :: es, st => (evE C ρ e st).bind fun x st => match x with
    | .bl true => evAnd C ρ es st
    | .bl false => .ok (.bl false) st
    | _ => .bad
noncomputable def evIfs (C : Ctx) (ρ : Env) : List E → Store → Res Bool
  | [], st => .ok true st
  | e :: es, st => (evE C ρ e st).bind fun x st => match truD x st with
    | some true => evIfs C ρ es st
    | some false => .ok false st
    | none => .bad
noncomputable def evOr (C : Ctx) (ρ : Env) : List E → Store → Res D
  | [], st => .ok (.bl false) st
  | e :: es, st => (evE C ρ e st).bind fun x st => match x with
    | .bl true => .ok (.bl true) st
    | .bl false => evOr C ρ es st
    | _ => .bad
noncomputable def evI (C : Ctx) (ρ : Env) : E → Store → Res (List D × Guard)
  | .rng es, st => (evEs C ρ es st).bind fun xs st => ofO (rngD xs) st fun r => (r, none)
  | .enum a, st => (evE C ρ a st).bind fun x st => match x with
    | .tup xs => .ok (enumL 0 xs, none) st
    | .ref l => match st[l]? with | some (.lst xs) => .ok (enumL 0 xs, some (l, xs)) st | _ => .bad
    | _ => .bad
  | e, st => (evE C ρ e st).bind fun x st => match x with
    | .tup xs => .ok (xs, none) st
    | .str s => .ok (s.map (fun c => .str [c]), none) st
    | .ref l => match st[l]? with | some (.lst xs) => .ok (xs, some (l, xs)) st | _ => .bad
    | _ => .bad
end

/-! ### statements -/
inductive SRes where
  | nx (ρ : Env) (st : Store)
  | brk (ρ : Env) (st : Store)
  | cnt (ρ : Env) (st : Store)
  | ret (d : D) (st : Store)
  | exc (x : DX) (ρ : Env) (st : Store)
  | bad

/-- behind an expression -/
@[simp] def SRes.of {α : Type} (ρ : Env) (r : Res α) (f : α → Store → SRes) : SRes :=
  match r with
  | .ok a st => f a st
  | .exc x st => .exc x ρ st
  | .bad => .bad
@[simp] def SRes.bind (r : SRes) (f : Env → Store → SRes) : SRes :=
  match r with
  | .nx ρ st => f ρ st
  | r => r

open Classical in
noncomputable def forL (body : D → Env → Store → SRes) (g : Guard) : List D → Env → Store → SRes
  | [], ρ, st => if GuardOk g st then .nx ρ st else .bad
  | x :: xs, ρ, st => if GuardOk g st then
      match body x ρ st with
      | .nx ρ st => forL body g xs ρ st
      | .cnt ρ st => forL body g xs ρ st
      | .brk ρ st => .nx ρ st
      | r => r
    else .bad

noncomputable def whN (c : Env → Store → Res Bool) (body : Env → Store → SRes) : Nat → Env → Store → SRes
  | 0, _, _ => .bad
  | n + 1, ρ, st => .of ρ (c ρ st) fun b st => if b = true then
      match body ρ st with
      | .nx ρ st => whN c body n ρ st
      | .cnt ρ st => whN c body n ρ st
      | .brk ρ st => .nx ρ st
      | r => r
    else .nx ρ st
open Classical in
noncomputable def whL (c : Env → Store → Res Bool) (body : Env → Store → SRes) (ρ : Env) (st : Store) : SRes :=
  if h : ∃ n, whN c body n ρ st ≠ .bad then whN c body (Classical.choose h) ρ st else .bad

def evXE (xc : List XCls) (x : DX) : XE → Option D
  | .fld n => x.flds.lookup n
  | .str s => if okS s.length = true then some (.str s) else none
  | .isf c a b => match xc[x.cls]? with
    | some k => if k.up.contains c = true then evXE xc x a else none
    | none => none

noncomputable def evHs (xc : List XCls) (h : Hs) (x : DX) (ρ : Env) (st : Store) (i : Nat) : SRes :=
  match h with
  | .app j y => match evXE xc x y, ρ[j]? with
    | some d, some (some (.ref l)) => match st[l]? with
      | some (.lst ys) => if okS ys.length = true ∧ i ≠ j then .nx (ρ.set i none) (st.set l (.lst (ys ++ [d]))) else .bad
      | _ => .bad
    | _, _ => .bad
  | .ret y => match evXE xc x y with
    | some d => .ret d st
    | none => .bad
  | .cnt => .cnt (ρ.set i none) st

section
variable (C : Ctx)
noncomputable def evT (ρ : Env) (e : E) (st : Store) : Res Bool := (evE C ρ e st).bind fun x st => ofO (truD x st) st id

mutual
noncomputable def evS : S → Env → Store → SRes
  | .set i e, ρ, st => .of ρ (evE C ρ e st) fun d st => .nx (ρ.set i (some d)) st
  | .setT tg e, ρ, st => .of ρ (evE C ρ e st) fun d st => match putT tg d ρ with
    | some ρ => .nx ρ st
    | none => .bad
  | .setX a b e, ρ, st => .of ρ (evE C ρ e st) fun d st => .of ρ (evE C ρ a st) fun x st => .of ρ (evE C ρ b st) fun y st => match setXD C.kt x y d st with
    | some st => .nx ρ st
    | none => .bad
  | .aug i o e, ρ, st => match ρ[i]? with
    | some (some x) => .of ρ (evE C ρ e st) fun y st => match x, y with
      | .int _, .int _ => .of ρ (ofV (binD o x y st)) fun d st => .nx (ρ.set i (some d)) st
      | _, _ => .bad
    | _ => .bad
  | .ex e, ρ, st => .of ρ (evE C ρ e st) fun _ st => .nx ρ st
  | .ret e, ρ, st => .of ρ (evE C ρ e st) fun d st => .ret d st
  | .retN, ρ, st => .ret .non st
  | .ifs c a b, ρ, st => .of ρ (evT C ρ c st) fun k st => if k = true then evSs a ρ st else evSs b ρ st
  | .whl c b, ρ, st => whL (fun ρ st => evT C ρ c st) (evSs b) ρ st
  | .for tg src b, ρ, st => .of ρ (evI C ρ src st) fun p st => forL (fun x ρ st => match putT tg x ρ with
      | some ρ => evSs b ρ st
      | none => .bad) p.2 p.1 ρ st
  | .brk, ρ, st => .brk ρ st
  | .cnt, ρ, st => .cnt ρ st
  | .pas, ρ, st => .nx ρ st
  | .rais c es, ρ, st => .of ρ (evEs C ρ es st) fun ds st => match C.xc[c]? with
    | some k => if ds.length = k.flds.length then .exc ⟨c, k.flds.zip ds⟩ ρ st else .bad
    | none => .bad
  | .tryA b c i h, ρ, st => match evSs b ρ st with
    | .exc x ρ st => if x.cls = c ∧ i < ρ.length then evHs C.xc h x ρ st i else .bad
    | r => r
noncomputable def evSs : List S → Env → Store → SRes
  | [], ρ, st => .nx ρ st
  | s :: r, ρ, st => (evS s ρ st).bind fun ρ st => evSs r ρ st
end
end

structure Fn where
  np : Nat
  ns : Nat
  body : List S

noncomputable def callF (XC : List XCls) (KT : List D) (T : List Fn) : Nat → Nat → List D → Store → Res D
  | 0, _, _, _ => .bad
  | k + 1, f, args, st => match T[f]? with
    | none => .bad
    | some fn => if args.length = fn.np then
        match evSs ⟨XC, KT, callF XC KT T k⟩ fn.body (args.map some ++ List.replicate (fn.ns - fn.np) none) st with
        | .ret d st' => .ok d (settle st st' [d])
        | .nx _ st' => .ok .non (settle st st' [])
        | .exc x _ st' => .exc x (settle st st' (x.flds.map (·.2)))
        | _ => .bad
      else .bad

end DL

set_option Elab.async false
set_option linter.all false
set_option maxRecDepth 100000
set_option maxHeartbeats 4000000
/-! The soundness of the evaluator, over HandS: how data lie in the heap. -/
namespace DS
open PySem PySem.Spec PyProof.Rows L2
open DL (D Cell Store DX Res SRes)

abbrev DE := DL.E
abbrev DSt := DL.S
def sS (s : List Nat) : Str := ⟨s.toArray⟩
theorem sS_cps (s : List Nat) : (sS s).cps.toList = s := by simp [sS]
theorem sS_len (s : List Nat) : (sS s).length = s.length := by simp [sS, Str.length]
theorem sS_app (a b : List Nat) : sS a ++ sS b = sS (a ++ b) := by
  show (⟨a.toArray ++ b.toArray⟩ : Str) = _
  simp [sS]
theorem sS_inj {a b : List Nat} (h : sS a = sS b) : a = b := by
  have := congrArg (fun x : Str => x.cps.toList) h
  simpa [sS] using this
theorem lineM {n : Nat} (h : n ≤ 1000000) : n ≤ sizeLine := by rw [sizeLine_eq]; omega
theorem lineLt {n : Nat} (h : n ≤ 1000000) : n < sizeLine := by rw [sizeLine_eq]; omega

/-- what is fixed through a law: the written part, the defs' addresses, the exception classes' addresses, the written tuples -/
structure Gl where
  K : PySem.W.Frag
  fa : Nat → Option Addr
  xa : Nat → Option Addr
  kt : List D

/-- a written tuple -/
def KTup (K : PySem.W.Frag) (a : Addr) (xs : List V) : Prop :=
  ∃ (o : Obj) (its : Array Value) (n : Nat), K.lookup a = some o ∧ o.cls = .type "tuple" ∧ o.data = .seq its n ∧ its.size ≤ sizeLine ∧ Vals xs its.toList

variable (G : Gl)
mutual
def Rep (ι : List Addr) (H : Hp) : D → V → Prop
  | .non, v => v = .non
  | .bl b, v => v = .bl b
  | .int i, v => v = .int i
  | .str s, v => v = .str (sS s) ∧ s.length ≤ sizeLine ∧ PySem.PyData.strOk (sS s) = true
  | .tup ds, v => ∃ a vs, v = .ref a ∧ (H a = some (.tup vs) ∨ (KTup G.K a vs ∧ ∃ d ∈ G.kt, DL.D.same d (.tup ds) = true)) ∧ RepL ι H ds vs
  | .ref l, v => ∃ a, v = .ref a ∧ ι[l]? = some a
  | .fl ns, v => ∃ a, v = .ref a ∧ ((∃ o, H a = some (.frz o (.lst (ns.map V.int)))) ∨ ∃ (o : Obj) (its : Array Value) (n : Nat), G.K.lookup a = some o ∧ o.cls = .type "list" ∧ o.dict = none ∧ o.data = .seq its n ∧ its.size ≤ sizeLine ∧ Vals (ns.map V.int) its.toList)
  | .fn f, v => ∃ a, G.fa f = some a ∧ v = .ref a
def RepL (ι : List Addr) (H : Hp) : List D → List V → Prop
  | [], vs => vs = []
  | d :: ds, vs => ∃ v r, vs = v :: r ∧ Rep ι H d v ∧ RepL ι H ds r
end

/-- a key of a dict -/
def keyK : D → Option Key
  | .int i => some (.inl i)
  | .str s => some (.inr (sS s))
  | _ => none
def keysT : List D → Option (List Key)
  | [] => some []
  | d :: ds => match keyK d, keysT ds with
    | some k, some ks => some (k :: ks)
    | _, _ => none
def keyT : D → Option (List Key)
  | .tup ds => keysT ds
  | _ => none
def RepK {κ : Type} (f : D → Option κ) (ι : List Addr) (H : Hp) : List (D × D) → List (κ × V) → Prop
  | [], ks => ks = []
  | p :: r, ks => ∃ k v s, ks = (k, v) :: s ∧ f p.1 = some k ∧ Rep G ι H p.2 v ∧ RepK f ι H r s
def CellRep (ι : List Addr) (H : Hp) (a : Addr) : Cell → Prop
  | .lst ds => ∃ vs, H a = some (.lst vs) ∧ RepL G ι H ds vs
  | .dic false kvs => ∃ ks, H a = some (.dK ks) ∧ RepK G keyK ι H kvs ks
  | .dic true kvs => ∃ ks, H a = some (.dT ks) ∧ RepK G keyT ι H kvs ks

def Imm : HO → Prop
  | .tup _ => True
  | .frz _ _ => True
  | _ => False

/-- the heap goes on: labels are added, of what was tracked only the labelled lists and dicts change -/
structure Ext (ι : List Addr) (H : Hp) (ι' : List Addr) (H' : Hp) : Prop where
  pre : ∃ r, ι' = ι ++ r
  new : ∀ a ∈ ι', a ∈ ι ∨ H a = none
  keep : ∀ a o, H a = some o → a ∉ ι → H' a = some o
  imm : ∀ a o, H a = some o → Imm o → H' a = some o
  there : ∀ a, H a ≠ none → H' a ≠ none

structure RS (ι : List Addr) (st : Store) (H : Hp) : Prop where
  len : st.length = ι.length
  nd : ι.Nodup
  cell : ∀ (l : Nat) (c : Cell), st[l]? = some c → ∃ a, ι[l]? = some a ∧ CellRep G ι H a c

structure RepEnv (ι : List Addr) (H : Hp) (ρ : DL.Env) (σ : L2.St) : Prop where
  len : ρ.length = σ.length
  at_ : ∀ (i : Nat) (d : D), ρ[i]? = some (some d) → ∃ v, σ[i]? = some (some v) ∧ Rep G ι H d v

variable {G}
section
variable {ι ι' ι'' : List Addr} {H H' H'' : Hp} {st : Store} {a : Addr} {l : Nat}
theorem Ext.refl : Ext ι H ι H := ⟨⟨[], by simp⟩, fun a h => .inl h, fun _ _ e _ => e, fun _ _ e _ => e, fun _ h => h⟩
theorem Ext.mem (e : Ext ι H ι' H') (h : a ∈ ι) : a ∈ ι' := by
  obtain ⟨r, rfl⟩ := e.pre
  exact List.mem_append_left _ h
theorem Ext.trans (e : Ext ι H ι' H') (f : Ext ι' H' ι'' H'') : Ext ι H ι'' H'' := by
  refine ⟨?_, fun a h => ?_, fun a o q n => ?_, fun a o q i => f.imm a o (e.imm a o q i) i, fun a h => f.there a (e.there a h)⟩
  · obtain ⟨r, rfl⟩ := e.pre
    obtain ⟨s, rfl⟩ := f.pre
    exact ⟨r ++ s, by simp⟩
  · rcases f.new a h with h | h
    · exact e.new a h
    · right
      cases q : H a with
      | none => rfl
      | some o => exact absurd h (e.there a (by rw [q]; simp))
  · refine f.keep a o (e.keep a o q n) fun h => ?_
    rcases e.new a h with h | h
    · exact n h
    · rw [q] at h; cases h
theorem Ext.get (e : Ext ι H ι' H') (h : ι[l]? = some a) : ι'[l]? = some a := by
  obtain ⟨r, rfl⟩ := e.pre
  rw [List.getElem?_append_left]
  · exact h
  · exact (List.getElem?_eq_some_iff.mp h).1

mutual
theorem Rep.mono (e : Ext ι H ι' H') : ∀ {d : D} {v : V}, Rep G ι H d v → Rep G ι' H' d v
  | .non, _, h => h
  | .bl _, _, h => h
  | .int _, _, h => h
  | .str _, _, h => h
  | .tup ds, _, ⟨a, vs, h1, h2, h3⟩ => ⟨a, vs, h1, h2.elim (fun h => .inl (e.imm a _ h trivial)) .inr, RepL.mono e h3⟩
  | .ref l, _, ⟨a, h1, h2⟩ => ⟨a, h1, e.get h2⟩
  | .fl ns, _, ⟨a, h1, h2⟩ => ⟨a, h1, h2.elim (fun ⟨o, h⟩ => .inl ⟨o, e.imm a _ h trivial⟩) .inr⟩
  | .fn _, _, h => h
theorem RepL.mono (e : Ext ι H ι' H') : ∀ {ds : List D} {vs : List V}, RepL G ι H ds vs → RepL G ι' H' ds vs
  | [], _, h => h
  | d :: ds, _, ⟨v, r, h1, h2, h3⟩ => ⟨v, r, h1, Rep.mono e h2, RepL.mono e h3⟩
end
theorem RepK.mono {κ : Type} {f : D → Option κ} (e : Ext ι H ι' H') : ∀ {ds : List (D × D)} {vs : List (κ × V)}, RepK G f ι H ds vs → RepK G f ι' H' ds vs
  | [], _, h => h
  | p :: ds, _, ⟨k, v, r, h1, h2, h3, h4⟩ => ⟨k, v, r, h1, h2, h3.mono e, RepK.mono e h4⟩
theorem RepEnv.mono {ρ : DL.Env} {σ : L2.St} (e : Ext ι H ι' H') (h : RepEnv G ι H ρ σ) : RepEnv G ι' H' ρ σ :=
  ⟨h.len, fun i d q => let ⟨v, h1, h2⟩ := h.at_ i d q; ⟨v, h1, h2.mono e⟩⟩
theorem RepEnv.set {ρ : DL.Env} {σ : L2.St} {i : Nat} {d : D} {v : V} (h : RepEnv G ι H ρ σ) (r : Rep G ι H d v) : RepEnv G ι H (ρ.set i (some d)) (σ.set i (some v)) := by
  refine ⟨by simp [h.len], fun j c q => ?_⟩
  by_cases hj : i = j
  · subst hj
    by_cases hi : i < ρ.length
    · rw [List.getElem?_set_self hi] at q
      cases q
      exact ⟨v, List.getElem?_set_self (by rw [← h.len]; exact hi), r⟩
    · rw [List.getElem?_eq_none (by simpa using hi)] at q; cases q
  · rw [List.getElem?_set_ne hj] at q
    obtain ⟨u, h1, h2⟩ := h.at_ j c q
    exact ⟨u, by rw [List.getElem?_set_ne hj]; exact h1, h2⟩
theorem RepEnv.unset {ρ : DL.Env} {σ : L2.St} {i : Nat} (h : RepEnv G ι H ρ σ) : RepEnv G ι H (ρ.set i none) (σ.set i none) := by
  refine ⟨by simp [h.len], fun j c q => ?_⟩
  by_cases hj : i = j
  · subst hj
    by_cases hi : i < ρ.length
    · rw [List.getElem?_set_self hi] at q; cases q
    · rw [List.getElem?_eq_none (by simpa using hi)] at q; cases q
  · rw [List.getElem?_set_ne hj] at q
    obtain ⟨u, h1, h2⟩ := h.at_ j c q
    exact ⟨u, by rw [List.getElem?_set_ne hj]; exact h1, h2⟩
theorem RepEnv.wipe {ρ : DL.Env} {σ : L2.St} : ∀ (vs : List Nat), RepEnv G ι H ρ σ → RepEnv G ι H (DL.wipeE ρ vs) (L2.wipe σ vs)
  | [], h => h
  | v :: vs, h => (RepEnv.wipe vs h).unset

theorem RepL.length : ∀ {ds : List D} {vs : List V}, RepL G ι H ds vs → ds.length = vs.length
  | [], _, h => by cases h; rfl
  | d :: ds, _, ⟨v, r, h1, _, h3⟩ => by subst h1; simp [RepL.length h3]
theorem RepL.get : ∀ {ds : List D} {vs : List V} {i : Nat} {d : D}, RepL G ι H ds vs → ds[i]? = some d → ∃ v, vs[i]? = some v ∧ Rep G ι H d v
  | [], _, i, d, h, e => by simp at e
  | x :: ds, _, 0, d, ⟨v, r, h1, h2, _⟩, e => by simp at e; subst e; subst h1; exact ⟨v, rfl, h2⟩
  | x :: ds, _, i + 1, d, ⟨v, r, h1, _, h3⟩, e => by subst h1; simpa using RepL.get (i := i) h3 (by simpa using e)
theorem RepL.get' : ∀ {ds : List D} {vs : List V} {i : Nat} {v : V}, RepL G ι H ds vs → vs[i]? = some v → ∃ d, ds[i]? = some d ∧ Rep G ι H d v
  | [], _, i, v, h, e => by cases h; simp at e
  | x :: ds, _, 0, d, ⟨v, r, h1, h2, _⟩, e => by subst h1; simp at e; subst e; exact ⟨x, rfl, h2⟩
  | x :: ds, _, i + 1, d, ⟨v, r, h1, _, h3⟩, e => by subst h1; simpa using RepL.get' (i := i) h3 (by simpa using e)
theorem RepL.append : ∀ {ds es : List D} {vs us : List V}, RepL G ι H ds vs → RepL G ι H es us → RepL G ι H (ds ++ es) (vs ++ us)
  | [], _, _, _, h, g => by cases h; exact g
  | d :: ds, _, _, _, ⟨v, r, h1, h2, h3⟩, g => by subst h1; exact ⟨v, _, rfl, h2, RepL.append h3 g⟩
theorem RepL.single {d : D} {v : V} (h : Rep G ι H d v) : RepL G ι H [d] [v] := ⟨v, [], rfl, h, rfl⟩
theorem RepL.take : ∀ (n : Nat) {ds : List D} {vs : List V}, RepL G ι H ds vs → RepL G ι H (ds.take n) (vs.take n)
  | 0, _, _, _ => by simp [RepL]
  | n + 1, [], _, h => by cases h; simp [RepL]
  | n + 1, d :: ds, _, ⟨v, r, h1, h2, h3⟩ => by subst h1; exact ⟨v, _, rfl, h2, RepL.take n h3⟩
theorem RepL.drop : ∀ (n : Nat) {ds : List D} {vs : List V}, RepL G ι H ds vs → RepL G ι H (ds.drop n) (vs.drop n)
  | 0, _, _, h => h
  | n + 1, [], _, h => by cases h; simp [RepL]
  | n + 1, d :: ds, _, ⟨v, r, h1, h2, h3⟩ => by subst h1; exact RepL.drop n h3
theorem RepL.set : ∀ (i : Nat) {ds : List D} {vs : List V} {d : D} {v : V}, RepL G ι H ds vs → Rep G ι H d v → RepL G ι H (ds.set i d) (vs.set i v)
  | _, [], _, _, _, h, _ => by cases h; simp [RepL]
  | 0, d :: ds, _, _, _, ⟨v, r, h1, h2, h3⟩, g => by subst h1; exact ⟨_, _, rfl, g, h3⟩
  | n + 1, d :: ds, _, _, _, ⟨v, r, h1, h2, h3⟩, g => by subst h1; exact ⟨v, _, rfl, h2, RepL.set n h3 g⟩
theorem RepL.rep {ds : List D} {vs : List V} (h : RepL G ι H ds vs) : ∀ n, RepL G ι H (DL.rep ds n) (List.replicate n vs).flatten
  | 0 => by simp [DL.rep, RepL]
  | n + 1 => by
    rw [List.replicate_succ, List.flatten_cons]
    exact h.append (RepL.rep h n)
theorem RepL.reverse : ∀ {ds : List D} {vs : List V}, RepL G ι H ds vs → RepL G ι H ds.reverse vs.reverse
  | [], _, h => by cases h; simp [RepL]
  | d :: ds, _, ⟨v, r, h1, h2, h3⟩ => by
    subst h1
    rw [List.reverse_cons, List.reverse_cons]
    exact (RepL.reverse h3).append (RepL.single h2)
theorem RepL.ints : ∀ {ns : List Int}, RepL G ι H (ns.map .int) (ns.map V.int)
  | [] => rfl
  | n :: ns => ⟨_, _, rfl, rfl, RepL.ints⟩

/-! ### the heap's steps -/
theorem RS.get (S : RS G ι st H) {c : Cell} (h : st[l]? = some c) (ha : ι[l]? = some a) : CellRep G ι H a c := by
  obtain ⟨b, hb, q⟩ := S.cell l c h
  rw [ha] at hb; cases hb; exact q
theorem RS.lt (S : RS G ι st H) {c : Cell} (h : st[l]? = some c) : l < ι.length := by
  rw [← S.len]; exact (List.getElem?_eq_some_iff.mp h).1
theorem CellRep.mono {c : Cell} (e : Ext ι H ι' H') (h : CellRep G ι H a c) (k : H' a = H a) : CellRep G ι' H' a c := by
  cases c with
  | lst ds => obtain ⟨vs, h1, h2⟩ := h; exact ⟨vs, k.trans h1, h2.mono e⟩
  | dic tk kvs =>
    cases tk with
    | false => obtain ⟨vs, h1, h2⟩ := h; exact ⟨vs, k.trans h1, h2.mono e⟩
    | true => obtain ⟨vs, h1, h2⟩ := h; exact ⟨vs, k.trans h1, h2.mono e⟩
theorem CellRep.some_ {c : Cell} (h : CellRep G ι H a c) : ∃ o, H a = some o ∧ ¬ Imm o := by
  cases c with
  | lst ds => obtain ⟨vs, h1, _⟩ := h; exact ⟨_, h1, fun z => z⟩
  | dic tk kvs =>
    cases tk with
    | false => obtain ⟨vs, h1, _⟩ := h; exact ⟨_, h1, fun z => z⟩
    | true => obtain ⟨vs, h1, _⟩ := h; exact ⟨_, h1, fun z => z⟩
/-- a new address is no label's -/
theorem RS.fresh (S : RS G ι st H) (h : H a = none) : a ∉ ι := fun hm => by
  obtain ⟨l, hl⟩ := List.mem_iff_getElem?.mp hm
  have hlt : l < st.length := by rw [S.len]; exact (List.getElem?_eq_some_iff.mp hl).1
  obtain ⟨o, q, _⟩ := (S.get (List.getElem?_eq_getElem hlt) hl).some_
  rw [h] at q; cases q
/-- a new object that has no label -/
theorem Ext.laid {o : HO} (h : H a = none) : Ext ι H ι (upd H a o) := by
  have k : ∀ b u, H b = some u → upd H a o b = some u := fun b u q => by rw [upd_ne (ne_of_none q h)]; exact q
  refine ⟨⟨[], by simp⟩, fun a h => .inl h, fun b u q _ => k b u q, fun b u q _ => k b u q, fun b q z => ?_⟩
  cases e : H b with
  | none => exact q e
  | some u => rw [k b u e] at z; cases z
theorem RS.laid {o : HO} (S : RS G ι st H) (h : H a = none) : RS G ι st (upd H a o) := by
  refine ⟨S.len, S.nd, fun l c q => ?_⟩
  obtain ⟨b, h1, h2⟩ := S.cell l c q
  obtain ⟨u, h3, _⟩ := h2.some_
  exact ⟨b, h1, h2.mono (Ext.laid h) (upd_ne (ne_of_none h3 h))⟩
/-- a new object with a label -/
theorem Ext.alloc {o : HO} (h : H a = none) : Ext ι H (ι ++ [a]) (upd H a o) := by
  have k : ∀ b u, H b = some u → upd H a o b = some u := fun b u q => by rw [upd_ne (ne_of_none q h)]; exact q
  refine ⟨⟨[a], rfl⟩, fun b hb => ?_, fun b u q _ => k b u q, fun b u q _ => k b u q, fun b q z => ?_⟩
  · rcases List.mem_append.mp hb with hb | hb
    · exact .inl hb
    · rw [List.mem_singleton.mp hb]; exact .inr h
  · cases e : H b with
    | none => exact q e
    | some u => rw [k b u e] at z; cases z
theorem RS.alloc {o : HO} {c : Cell} (S : RS G ι st H) (h : H a = none) (hc : CellRep G (ι ++ [a]) (upd H a o) a c) : RS G (ι ++ [a]) (st ++ [c]) (upd H a o) := by
  refine ⟨by simp [S.len], ?_, fun l c' q => ?_⟩
  · rw [List.nodup_append]
    refine ⟨S.nd, by simp, fun x hx y hy => ?_⟩
    rw [List.mem_singleton.mp hy]
    rintro rfl
    exact S.fresh h hx
  · by_cases hl : l < st.length
    · rw [List.getElem?_append_left hl] at q
      obtain ⟨b, h1, h2⟩ := S.cell l c' q
      obtain ⟨u, h3, _⟩ := h2.some_
      refine ⟨b, ?_, h2.mono (Ext.alloc h) (upd_ne (ne_of_none h3 h))⟩
      rw [List.getElem?_append_left (by rw [← S.len]; exact hl)]
      exact h1
    · have e : l = st.length := by
        have := (List.getElem?_eq_some_iff.mp q).1
        simp at this; omega
      subst e
      rw [List.getElem?_append_right (Nat.le_refl _), Nat.sub_self] at q
      cases q
      refine ⟨a, ?_, hc⟩
      rw [S.len, List.getElem?_append_right (Nat.le_refl _), Nat.sub_self]; rfl
theorem Rep.alloc (S : RS G ι st H) : Rep G (ι ++ [a]) H' (.ref st.length) (.ref a) := ⟨a, rfl, by rw [S.len, List.getElem?_append_right (Nat.le_refl _), Nat.sub_self]; rfl⟩
/-- a labelled object is written -/
theorem Ext.write {o u : HO} (hl : ι[l]? = some a) (h : H a = some o) (hi : ¬ Imm o) : Ext ι H ι (upd H a u) := by
  refine ⟨⟨[], by simp⟩, fun a h => .inl h, fun b v q n => ?_, fun b v q i => ?_, fun b q z => ?_⟩
  · rw [upd_ne fun z => n (by rw [z]; exact List.mem_of_getElem? hl)]; exact q
  · rw [upd_ne fun z => hi (by subst z; rw [h] at q; cases q; exact i)]; exact q
  · by_cases hb : b = a
    · subst hb; rw [upd_same] at z; cases z
    · rw [upd_ne hb] at z; exact q z
theorem RS.write {o u : HO} {c : Cell} (S : RS G ι st H) (hl : ι[l]? = some a) (h : H a = some o) (hi : ¬ Imm o) (hc : CellRep G ι (upd H a u) a c) : RS G ι (st.set l c) (upd H a u) := by
  refine ⟨by simp [S.len], S.nd, fun m c' q => ?_⟩
  by_cases hm : l = m
  · subst hm
    have : l < st.length := by rw [S.len]; exact (List.getElem?_eq_some_iff.mp hl).1
    rw [List.getElem?_set_self this] at q
    cases q
    exact ⟨a, hl, hc⟩
  · rw [List.getElem?_set_ne hm] at q
    obtain ⟨b, h1, h2⟩ := S.cell m c' q
    refine ⟨b, h1, h2.mono (Ext.write hl h hi) (upd_ne fun z => hm ?_)⟩
    subst z
    have hlt := (List.getElem?_eq_some_iff.mp hl)
    have hmt := (List.getElem?_eq_some_iff.mp h1)
    obtain ⟨x1, x2⟩ := hlt
    obtain ⟨y1, y2⟩ := hmt
    exact (List.getElem_inj S.nd).mp (x2.trans y2.symm)
end
end DS

set_option Elab.async false
set_option linter.all false
set_option maxRecDepth 100000
set_option maxHeartbeats 4000000
namespace DS
open PySem PySem.Spec PyProof.Rows L2
open DL (D Cell Store DX Res SRes)

/-- a two-place operation by data -/
def tV2 (G : Gl) (f : D → D → Store → Option (D × Store)) : R2 := fun x y H Q => ∃ ι d1 d2 st d st', Rep G ι H d1 x ∧ Rep G ι H d2 y ∧ RS G ι st H ∧ f d1 d2 st = some (d, st') ∧
  ∀ v H' ι', Ext ι H ι' H' → RS G ι' st' H' → Rep G ι' H' d v → Q v H'

section
variable {G : Gl} {X : Cx} {ι : List Addr} {H : Hp} {st : Store}
theorem sqT_of {xs : List V} {a : Addr} {P : Prop} (hK : X.K = G.K) (h : H a = some (.tup xs) ∨ (KTup G.K a xs ∧ P)) : SqT X.K H a xs := by
  rcases h with h | ⟨h, _⟩
  · exact .inl (.inl h)
  · rw [hK]; exact .inr h
/-- the end of an operation that makes a tuple -/
theorem fin_tup {Q : VK} {ds : List D} {vs : List V} (S : RS G ι st H) (r : RepL G ι H ds vs) (k : ∀ v H' ι', Ext ι H ι' H' → RS G ι' st H' → Rep G ι' H' (.tup ds) v → Q v H') :
    ∀ p, H p = none → Q (.ref p) (upd H p (.tup vs)) := fun p hp =>
  k _ _ ι (Ext.laid hp) (S.laid hp) ⟨p, vs, rfl, .inl upd_same, r.mono (Ext.laid hp)⟩
theorem fin_lst {Q : VK} {ds : List D} {vs : List V} (S : RS G ι st H) (r : RepL G ι H ds vs) (k : ∀ v H' ι', Ext ι H ι' H' → RS G ι' (st ++ [.lst ds]) H' → Rep G ι' H' (.ref st.length) v → Q v H') :
    ∀ p, H p = none → Q (.ref p) (upd H p (.lst vs)) := fun p hp =>
  k _ _ (ι ++ [p]) (Ext.alloc hp) (S.alloc hp ⟨vs, upd_same, r.mono (Ext.alloc hp)⟩) (Rep.alloc S)
theorem RS.lst (S : RS G ι st H) {l : Nat} {a : Addr} {xs : List D} (h : st[l]? = some (.lst xs)) (ha : ι[l]? = some a) : ∃ vs, H a = some (.lst vs) ∧ RepL G ι H xs vs := S.get h ha

theorem rep_len {α : Type} (xs : List α) : ∀ n, (DL.rep xs n).length = xs.length * n
  | 0 => by simp [DL.rep]
  | n + 1 => by rw [DL.rep, List.length_append, rep_len xs n, Nat.mul_succ]; omega
theorem rep_flat {α : Type} (xs : List α) : ∀ n, DL.rep xs n = (List.replicate n xs).flatten
  | 0 => by simp [DL.rep]
  | n + 1 => by rw [DL.rep, List.replicate_succ, List.flatten_cons, rep_flat xs n]

theorem strOk_app {a b : List Nat} (h : PyData.strOk (sS a) = true) (g : PyData.strOk (sS b) = true) : PyData.strOk (sS (a ++ b)) = true := by
  unfold PyData.strOk sS at *
  simp only [List.all_toArray] at *
  rw [List.all_append, h, g]; rfl
theorem strOk_of_sub {a b : List Nat} (h : PyData.strOk (sS a) = true) (hs : ∀ c ∈ b, c ∈ a) : PyData.strOk (sS b) = true := by
  unfold PyData.strOk sS at *
  simp only [List.all_toArray, List.all_eq_true] at *
  exact fun c hc => h c (hs c hc)

theorem op_addD (hK : X.K = G.K) : OpR X (binaryOp .Add) (tV2 G (DL.addD)) := by
  intro pins s σ H x y v u Q I rx ry ⟨ι, d1, d2, st, d, st', r1, r2, S, e, k⟩
  unfold DL.addD at e
  split at e
  · cases e
    exact op_add pins s σ H x y v u Q I rx ry ⟨_, _, r1, r2, k _ _ ι Ext.refl S rfl⟩
  · split at e
    · rename_i a b hok
      cases e
      obtain ⟨rfl, l1, o1⟩ := r1
      obtain ⟨rfl, l2, o2⟩ := r2
      have hl : a.length + b.length ≤ sizeLine := lineM (of_decide_eq_true hok)
      refine op_add_str pins s σ H _ _ v u Q I rx ry ⟨_, _, rfl, rfl, by rw [sS_len, sS_len]; exact hl, k _ _ ι Ext.refl S ⟨by rw [sS_app], by rw [List.length_append]; exact hl, strOk_app o1 o2⟩⟩
    · cases e
  · split at e
    · rename_i a b hok
      cases e
      obtain ⟨p, vs, rfl, h1, q1⟩ := r1
      obtain ⟨p', vs', rfl, h2, q2⟩ := r2
      have hl : vs.length + vs'.length ≤ sizeLine := by rw [← q1.length, ← q2.length]; exact lineM (of_decide_eq_true hok)
      refine op_catA pins s σ H _ _ v u Q I rx ry ⟨p, p', vs, vs', rfl, rfl, sqT_of hK h1, sqT_of hK h2, hl, fun z => ?_, fun z z' => ?_, fun z z' => fin_tup S (q1.append q2) k⟩
      · have : a = [] := by
          have := q1.length; rw [z] at this; exact List.eq_nil_of_length_eq_zero this
        subst this
        exact k _ _ ι Ext.refl S ⟨p', vs', rfl, h2, q2⟩
      · have : b = [] := by
          have := q2.length; rw [z'] at this; exact List.eq_nil_of_length_eq_zero this
        subst this
        exact k _ _ ι Ext.refl S ⟨p, vs, rfl, by rw [List.append_nil]; exact h1, by rw [List.append_nil]; exact q1⟩
    · cases e
  · split at e
    · split at e
      · rename_i l1 l2 xs ys h1 h2 hok
        cases e
        obtain ⟨p, rfl, e1⟩ := r1
        obtain ⟨p', rfl, e2⟩ := r2
        obtain ⟨vs, g1, q1⟩ := S.lst h1 e1
        obtain ⟨vs', g2, q2⟩ := S.lst h2 e2
        have hl : vs.length + vs'.length ≤ sizeLine := by rw [← q1.length, ← q2.length]; exact lineM (of_decide_eq_true hok)
        exact op_cat pins s σ H _ _ v u Q I rx ry ⟨p, p', vs, vs', rfl, rfl, g1, g2, hl, fin_lst S (q1.append q2) k⟩
      · cases e
    · cases e
  · cases e

theorem op_subD : OpR X (binaryOp .Sub) (tV2 G (DL.subD)) := by
  intro pins s σ H x y v u Q I rx ry ⟨ι, d1, d2, st, d, st', r1, r2, S, e, k⟩
  unfold DL.subD at e
  split at e
  · cases e
    exact op_sub pins s σ H x y v u Q I rx ry ⟨_, _, r1, r2, k _ _ ι Ext.refl S rfl⟩
  · cases e
theorem op_fdivD : OpR X (binaryOp .FloorDiv) (tV2 G (DL.fdivD)) := by
  intro pins s σ H x y v u Q I rx ry ⟨ι, d1, d2, st, d, st', r1, r2, S, e, k⟩
  unfold DL.fdivD at e
  split at e
  · split at e
    · rename_i hc
      cases e
      exact op_fdiv pins s σ H x y v u Q I rx ry ⟨_, _, r1, r2, hc, k _ _ ι Ext.refl S rfl⟩
    · cases e
  · cases e
theorem op_modD : OpR X (binaryOp .Mod) (tV2 G (DL.modD)) := by
  intro pins s σ H x y v u Q I rx ry ⟨ι, d1, d2, st, d, st', r1, r2, S, e, k⟩
  unfold DL.modD at e
  split at e
  · split at e
    · rename_i hc
      cases e
      exact op_mod pins s σ H x y v u Q I rx ry ⟨_, _, r1, r2, hc, k _ _ ι Ext.refl S rfl⟩
    · cases e
  · cases e
theorem small64_iff {i : Int} (h : DL.small64 i = true) : -(2 ^ 64) < i ∧ i < 2 ^ 64 := by
  unfold DL.small64 at h
  rw [Bool.and_eq_true, decide_eq_true_eq, decide_eq_true_eq] at h
  exact h
theorem op_powD : OpR X (binaryOp .Pow) (tV2 G (DL.powD)) := by
  intro pins s σ H x y v u Q I rx ry ⟨ι, d1, d2, st, d, st', r1, r2, S, e, k⟩
  unfold DL.powD at e
  split at e
  · split at e
    · rename_i hc
      cases e
      have h := small64_iff hc.2.2
      exact op_pow pins s σ H x y v u Q I rx ry ⟨_, _, r1, r2, ⟨hc.1, by omega, by omega⟩, k _ _ ι Ext.refl S rfl⟩
    · cases e
  · cases e

/-- t * 1 is t -/
theorem tuple_mul1 (l : Addr) (items : Array Value) (n : Nat) (dd : Option Addr) (sl : Array (Option Value)) (u : Tok) :
    Meets (Builtin.«tuple.__mul__» ⟨[.ref l, .int 1 u], []⟩) (fun _ R s => s.heap.get? l = some { cls := .type "tuple", dict := dd, data := .seq items n, slots := sl } ∧ R (.ok (.ret (Value.ref l))) s) :=
  .of_wp fun prog w A R s h => by
    obtain ⟨hp, g, d, tk, os⟩ := s
    obtain ⟨hl, h⟩ := h
    have f1 := AutoSeq1.idx_int
    have c1 : (items.isEmpty || (1 : Int) == 1) = true := by simp
    wp_walk using wpAny_loadPart' hl
    exact ⟨_, rfl, h⟩
theorem op_repT1 {pins : List (Addr × Obj)} {s : Shared} {σ : L2.St} {p : Addr} {xs : List V} {t : Tok} {Q : VK} (I : Inv X pins σ H s) (hT : SqT X.K H p xs) (q : Q (.ref p) H) :
    wpAny (model X.prog X.w) X.A (binaryOp .Mult (.ref p) (.int 1 t)) (EP X pins σ Q) X.xe s := by
  obtain ⟨its, r, ⟨⟨cls, dd, data, sl⟩, ho, hc, n, hd⟩, hs⟩ := I.tuple hT
  simp only at hc hd
  subst hc hd
  refine wpAny_binaryOp_repeat_ref (T := "tuple") (U := "int") (by decide) ⟨_, ho, rfl⟩ (fun s' => typeIs_int s' 1 t) noFill_tuple_mul F.fills_int_mul F.slot_int_rmul repeat_tuple F.slot_int_index.lookup
    (call_meets F.slot_int_rmul (typeIs_int s 1 t) F.entry_int_rmul (F.args_int_rmul_2 _ _) (int_rmul_tuple 1 t p its.toArray n dd sl)
      ⟨ho, rfl, ⟨_, ho, rfl⟩, call_meets F.slot_tuple_mul ⟨_, ho, rfl⟩ F.entry_tuple_mul (F.args_tuple_mul_2 _ _) (tuple_mul1 p its.toArray n dd sl t) ⟨ho, ?_⟩⟩)
  exact ⟨.ref p, H, I, rfl, q⟩

theorem op_mulD (hK : X.K = G.K) : OpR X (binaryOp .Mult) (tV2 G DL.mulD) := by
  intro pins s σ H x y v u Q I rx ry ⟨ι, d1, d2, st, d, st', r1, r2, S, e, k⟩
  unfold DL.mulD at e
  split at e
  · split at e
    · rename_i hc
      cases e
      exact op_mul pins s σ H x y v u Q I rx ry ⟨_, _, r1, r2, hc.imp small64_iff small64_iff, k _ _ ι Ext.refl S rfl⟩
    · cases e
  · split at e
    · rename_i a j hc
      cases e
      obtain ⟨rfl, l1, o1⟩ := r1
      have r2' : y = V.int j := r2
      subst r2'
      obtain ⟨t, rfl⟩ := rx
      obtain ⟨t', rfl⟩ := ry
      have e1 : Txt.mul (sS a) j = sS (DL.rep a j.toNat) := by
        unfold Txt.mul
        rw [if_neg (by omega)]
        by_cases hj : j = 1
        · subst hj
          simp [DL.rep]
        · by_cases ha : a = []
          · subst ha
            have : ∀ n, DL.rep ([] : List Nat) n = [] := fun n => by
              induction n with
              | zero => rfl
              | succ n ih => rw [DL.rep, ih]; rfl
            rw [this]; simp [sS, Str.length]
          · have h0 : ¬ ((j == 1 || (sS a).length == 0) = true) := by
              rw [sS_len]
              simp [hj, ha]
            rw [if_neg h0, rep_flat]
            unfold sS
            congr 1
            have : ∀ (n : Nat) (acc : Array Nat), List.foldl (fun x1 x2 => x1 ++ x2) acc (List.replicate n a.toArray) = acc ++ (List.replicate n a).flatten.toArray := fun n => by
              induction n with
              | zero => intro acc; simp
              | succ n ih => intro acc; rw [List.replicate_succ, List.foldl_cons, ih, List.replicate_succ, List.flatten_cons]; simp
            have h2 := this j.toNat #[]
            simpa using h2
      refine SB.mul (mulOk_of 1000 1000 (by rw [sS_len]; exact hc.1) (by omega) (by omega) (by decide) (by decide)) fun t' kk => ?_
      rw [e1]
      refine ⟨.str _, H, I.tok _, ⟨_, rfl⟩, k _ _ ι Ext.refl S ⟨rfl, ?_, strOk_of_sub o1 fun c hc => ?_⟩⟩
      · rw [rep_len]
        have h3 : a.length * j.toNat ≤ 1000 * 1000 := Nat.mul_le_mul hc.1 (by omega)
        exact lineM h3
      · rw [rep_flat] at hc
        obtain ⟨l, h1, h2⟩ := List.mem_flatten.mp hc
        rw [List.eq_of_mem_replicate h1] at h2
        exact h2
    · cases e
  · split at e
    · rename_i a j hc
      cases e
      obtain ⟨p, vs, rfl, h1, q1⟩ := r1
      have r2' : y = V.int j := r2
      subst r2'
      have hl := q1.length
      by_cases hj : j = 1
      · subst hj
        cases rx
        obtain ⟨t', rfl⟩ := ry
        refine op_repT1 I (sqT_of hK h1) (k _ _ ι Ext.refl S ?_)
        have : DL.rep a (1 : Int).toNat = a := by simp [DL.rep]
        rw [this]
        exact ⟨p, vs, rfl, h1, q1⟩
      · refine op_repT pins s σ H _ _ v u Q I rx ry ⟨p, j, vs, rfl, rfl, sqT_of hK h1, fun z => ?_, by omega, by omega, by omega, fin_tup S (q1.rep _) k⟩
        rw [z, List.length_nil] at hl
        omega
    · cases e
  · split at e
    · split at e
      · rename_i a j _ xs h1 hc
        cases e
        obtain ⟨p, rfl, e1⟩ := r1
        have r2' : y = V.int j := r2
        subst r2'
        obtain ⟨vs, g1, q1⟩ := S.lst h1 e1
        have hl := q1.length
        have h3 : vs.length * j.toNat ≤ 1000 * 1000 := Nat.mul_le_mul (by omega) (by omega)
        exact op_rep pins s σ H _ _ v u Q I rx ry ⟨p, j, vs, rfl, rfl, g1, by omega, by omega, lineM h3, fin_lst S (q1.rep _) k⟩
      · cases e
    · cases e
  · cases e

/-! ### comparisons -/
/-- a comparison by data: nothing is made -/
def tC2 (G : Gl) (f : D → D → Store → Option Bool) : R2 := fun x y H Q => ∃ ι d1 d2 st b, Rep G ι H d1 x ∧ Rep G ι H d2 y ∧ RS G ι st H ∧ f d1 d2 st = some b ∧ Q (.bl b) H

mutual
def pdOf : DL.PD → PyData
  | .non => .none
  | .bl b => .bool b
  | .int i => .int i
  | .str s => .str (sS s)
  | .lst xs => .list (pdOfs xs)
  | .tup xs => .tuple (pdOfs xs)
def pdOfs : List DL.PD → List PyData
  | [] => []
  | x :: xs => pdOf x :: pdOfs xs
end
theorem pd_lst (xs : List DL.PD) : pdOf (.lst xs) = .list (pdOfs xs) := by rw [pdOf]
theorem pd_tup (xs : List DL.PD) : pdOf (.tup xs) = .tuple (pdOfs xs) := by rw [pdOf]
mutual
theorem eqv_pd : ∀ x y : DL.PD, PyData.eqv (pdOf x) (pdOf y) = DL.PD.eqv x y
  | .non, y => by cases y <;> simp [pdOf, PyData.eqv, DL.PD.eqv]
  | .bl a, y => by cases y <;> simp [pdOf, PyData.eqv, DL.PD.eqv]
  | .int a, y => by cases y <;> simp [pdOf, PyData.eqv, DL.PD.eqv]
  | .str a, .str b => by
    simp only [pdOf, PyData.eqv, DL.PD.eqv]
    rw [Bool.eq_iff_iff]
    simp only [beq_iff_eq]
    exact ⟨fun h => sS_inj h, fun h => by rw [h]⟩
  | .str a, .non => by simp [pdOf, PyData.eqv, DL.PD.eqv]
  | .str a, .bl _ => by simp [pdOf, PyData.eqv, DL.PD.eqv]
  | .str a, .int _ => by simp [pdOf, PyData.eqv, DL.PD.eqv]
  | .str a, .lst _ => by simp [pdOf, PyData.eqv, DL.PD.eqv]
  | .str a, .tup _ => by simp [pdOf, PyData.eqv, DL.PD.eqv]
  | .lst xs, .lst ys => by simp only [pdOf, PyData.eqv, DL.PD.eqv]; exact eqvs_pd xs ys
  | .lst xs, .non => by simp [pdOf, PyData.eqv, DL.PD.eqv]
  | .lst xs, .bl _ => by simp [pdOf, PyData.eqv, DL.PD.eqv]
  | .lst xs, .int _ => by simp [pdOf, PyData.eqv, DL.PD.eqv]
  | .lst xs, .str _ => by simp [pdOf, PyData.eqv, DL.PD.eqv]
  | .lst xs, .tup _ => by simp [pdOf, PyData.eqv, DL.PD.eqv]
  | .tup xs, .tup ys => by simp only [pdOf, PyData.eqv, DL.PD.eqv]; exact eqvs_pd xs ys
  | .tup xs, .non => by simp [pdOf, PyData.eqv, DL.PD.eqv]
  | .tup xs, .bl _ => by simp [pdOf, PyData.eqv, DL.PD.eqv]
  | .tup xs, .int _ => by simp [pdOf, PyData.eqv, DL.PD.eqv]
  | .tup xs, .str _ => by simp [pdOf, PyData.eqv, DL.PD.eqv]
  | .tup xs, .lst _ => by simp [pdOf, PyData.eqv, DL.PD.eqv]
theorem eqvs_pd : ∀ xs ys : List DL.PD, PyData.eqvAll (pdOfs xs) (pdOfs ys) = DL.PD.eqvs xs ys
  | [], [] => rfl
  | [], _ :: _ => rfl
  | _ :: _, [] => rfl
  | x :: xs, y :: ys => by
    simp only [pdOfs, PyData.eqvAll, DL.PD.eqvs]
    rw [eqv_pd x y, eqvs_pd xs ys]
end

theorem sqL_of {xs : List V} {a : Addr} (h : H a = some (.lst xs)) : SqL X.K H a xs := .inl (.inl h)
theorem shaped_of {d : PyData} (h1 : d.canLay0 = true) (h2 : d.depth ≤ 64) : SeqAt.shaped d = true := by
  unfold SeqAt.shaped
  rw [h1, decide_eq_true h2]; rfl
mutual
theorem rsv_dp (hK : X.K = G.K) : ∀ {n : Nat} {d : D} {v : V} {p : DL.PD}, Rep G ι H d v → DL.rsv n d = some p → Dp X.K H v (pdOf p) ∧ (pdOf p).canLay0 = true ∧ (pdOf p).depth ≤ n
  | n, .non, v, p, h, e => by
    cases e
    rw [show v = V.non from h]
    exact ⟨.non, by simp [pdOf, PyData.canLay0], by simp [pdOf, PyData.depth]⟩
  | n, .bl b, v, p, h, e => by
    cases e
    rw [show v = V.bl b from h]
    exact ⟨.bl b, by simp [pdOf, PyData.canLay0], by simp [pdOf, PyData.depth]⟩
  | n, .int b, v, p, h, e => by
    cases e
    rw [show v = V.int b from h]
    exact ⟨.int b, by simp [pdOf, PyData.canLay0], by simp [pdOf, PyData.depth]⟩
  | n, .str b, v, p, h, e => by
    cases e
    obtain ⟨rfl, _, h3⟩ := h
    exact ⟨.str _, by simpa [pdOf, PyData.canLay0] using h3, by simp [pdOf, PyData.depth]⟩
  | n, .tup xs, v, p, h, e => by
    obtain ⟨a, vs, rfl, h1, h2⟩ := h
    rw [DL.rsv] at e
    split at e
    · cases e
    · rename_i hn
      obtain ⟨qs, e1, rfl⟩ := Option.map_eq_some_iff.mp e
      obtain ⟨g1, g2, g3⟩ := rsvs_dp hK h2 e1
      rw [pd_tup]
      refine ⟨.tup (sqT_of hK h1) g1, by simpa [PyData.canLay0] using g2, ?_⟩
      simp only [PyData.depth]
      omega
  | n, .ref _, v, p, h, e => by cases e
  | n, .fl _, v, p, h, e => by cases e
  | n, .fn _, v, p, h, e => by cases e
theorem rsvs_dp (hK : X.K = G.K) : ∀ {n : Nat} {ds : List D} {vs : List V} {ps : List DL.PD}, RepL G ι H ds vs → DL.rsvs n ds = some ps → DpAll X.K H vs (pdOfs ps) ∧ PyData.canLayAll0 (pdOfs ps) = true ∧ PyData.depthAll (pdOfs ps) ≤ n
  | n, [], vs, ps, h, e => by
    cases e; cases h
    exact ⟨.nil, by simp [pdOfs, PyData.canLayAll0], by simp [pdOfs, PyData.depthAll]⟩
  | n, d :: ds, vs, ps, h, e => by
    obtain ⟨v, r, rfl, h1, h2⟩ := h
    rw [DL.rsvs] at e
    split at e
    · rename_i a b ea eb
      cases e
      obtain ⟨g1, g2, g3⟩ := rsv_dp hK h1 ea
      obtain ⟨k1, k2, k3⟩ := rsvs_dp hK h2 eb
      refine ⟨.cons g1 k1, by simp [pdOfs, PyData.canLayAll0, g2, k2], ?_⟩
      simp only [pdOfs, PyData.depthAll]
      omega
    · cases e
end
theorem rsv1_dp (hK : X.K = G.K) (S : RS G ι st H) {d : D} {v : V} {p : DL.PD} (h : Rep G ι H d v) (e : DL.rsv1 st d = some p) : Dp X.K H v (pdOf p) ∧ SeqAt.shaped (pdOf p) = true := by
  unfold DL.rsv1 at e
  split at e
  · split at e
    · rename_i l xs hl
      obtain ⟨a, rfl, ha⟩ := h
      obtain ⟨vs, g1, g2⟩ := S.lst hl ha
      obtain ⟨qs, e1, rfl⟩ := Option.map_eq_some_iff.mp e
      obtain ⟨k1, k2, k3⟩ := rsvs_dp hK g2 e1
      rw [pd_lst]
      refine ⟨.lst (sqL_of g1) k1, shaped_of (by simpa [PyData.canLay0] using k2) ?_⟩
      simp only [PyData.depth]
      omega
    · cases e
  · obtain ⟨k1, k2, k3⟩ := rsv_dp hK h e
    exact ⟨k1, shaped_of k2 (by omega)⟩
theorem op_eqDD (hK : X.K = G.K) (hu : X.A.units + 64 < cLine) : OpR X (compareOp .Eq) (tC2 G fun x y st => DL.eqD st x y) := by
  intro pins s σ H x y v u Q I rx ry ⟨ι, d1, d2, st, b, r1, r2, S, e, k⟩
  dsimp only at e
  unfold DL.eqD at e
  split at e
  · rename_i p q e1 e2
    cases e
    obtain ⟨g1, g2⟩ := rsv1_dp hK S r1 e1
    obtain ⟨k1, k2⟩ := rsv1_dp hK S r2 e2
    exact op_eqD hu pins s σ H x y v u Q I rx ry ⟨_, _, g1, k1, g2, k2, by rw [eqv_pd]; exact k⟩
  · cases e
theorem op_neDD (hK : X.K = G.K) (hu : X.A.units + 64 < cLine) : OpR X (compareOp .NotEq) (tC2 G fun x y st => (DL.eqD st x y).map (!·)) := by
  intro pins s σ H x y v u Q I rx ry ⟨ι, d1, d2, st, b, r1, r2, S, e, k⟩
  dsimp only at e
  obtain ⟨c, e, rfl⟩ := Option.map_eq_some_iff.mp e
  unfold DL.eqD at e
  split at e
  · rename_i p q e1 e2
    have ec : DL.PD.eqv p q = c := by simpa using e
    subst ec
    obtain ⟨g1, g2⟩ := rsv1_dp hK S r1 e1
    obtain ⟨k1, k2⟩ := rsv1_dp hK S r2 e2
    exact op_neD hu pins s σ H x y v u Q I rx ry ⟨_, _, g1, k1, g2, k2, by rw [eqv_pd]; exact k⟩
  · cases e
theorem op_ltDD : OpR X (compareOp .Lt) (tC2 G fun x y st => DL.ltD x y) := by
  intro pins s σ H x y v u Q I rx ry ⟨ι, d1, d2, st, b, r1, r2, S, e, k⟩
  dsimp only at e
  unfold DL.ltD at e
  split at e
  · cases e
    exact op_lt pins s σ H x y v u Q I rx ry ⟨_, _, r1, r2, k⟩
  · cases e
    obtain ⟨rfl, _, _⟩ := r1
    obtain ⟨rfl, _, _⟩ := r2
    exact op_lt_str pins s σ H _ _ v u Q I rx ry ⟨_, _, rfl, rfl, by rw [sS_cps, sS_cps]; exact k⟩
  · cases e
theorem op_gtDD : OpR X (compareOp .Gt) (tC2 G fun x y st => DL.ltD y x) := by
  intro pins s σ H x y v u Q I rx ry ⟨ι, d1, d2, st, b, r1, r2, S, e, k⟩
  dsimp only at e
  unfold DL.ltD at e
  split at e
  · cases e
    exact op_gt pins s σ H x y v u Q I rx ry ⟨_, _, r1, r2, k⟩
  · cases e
    obtain ⟨rfl, _, _⟩ := r1
    obtain ⟨rfl, _, _⟩ := r2
    exact op_gt_str pins s σ H _ _ v u Q I rx ry ⟨_, _, rfl, rfl, by rw [sS_cps, sS_cps]; exact k⟩
  · cases e
theorem op_leDD : OpR X (compareOp .LtE) (tC2 G fun x y st => DL.leD x y) := by
  intro pins s σ H x y v u Q I rx ry ⟨ι, d1, d2, st, b, r1, r2, S, e, k⟩
  dsimp only at e
  unfold DL.leD at e
  split at e
  · cases e
    exact op_le pins s σ H x y v u Q I rx ry ⟨_, _, r1, r2, k⟩
  · cases e
theorem op_geDD : OpR X (compareOp .GtE) (tC2 G fun x y st => DL.leD y x) := by
  intro pins s σ H x y v u Q I rx ry ⟨ι, d1, d2, st, b, r1, r2, S, e, k⟩
  dsimp only at e
  unfold DL.leD at e
  split at e
  · cases e
    exact op_ge pins s σ H x y v u Q I rx ry ⟨_, _, r1, r2, k⟩
  · cases e
theorem isNon_rep {d : D} {v : V} (h : Rep G ι H d v) : DL.isNon d = decide (v = .non) := by
  cases d with
  | non => rw [show v = V.non from h]; rfl
  | bl b => rw [show v = V.bl b from h]; rfl
  | int b => rw [show v = V.int b from h]; rfl
  | str b => obtain ⟨rfl, _⟩ := h; rfl
  | tup b => obtain ⟨a, vs, rfl, _⟩ := h; rfl
  | ref b => obtain ⟨a, rfl, _⟩ := h; rfl
  | fl b => obtain ⟨a, rfl, _⟩ := h; rfl
  | fn b => obtain ⟨a, _, rfl⟩ := h; rfl
theorem op_isDD : OpR X (compareOp .Is) (tC2 G fun x y st => if DL.isNon y = true then some (DL.isNon x) else none) := by
  intro pins s σ H x y v u Q I rx ry ⟨ι, d1, d2, st, b, r1, r2, S, e, k⟩
  dsimp only at e
  split at e
  · rename_i hn
    cases e
    rw [isNon_rep r2, decide_eq_true_eq] at hn
    exact op_isN pins s σ H x y v u Q I rx ry ⟨hn, by rw [← isNon_rep r1]; exact k⟩
  · cases e
theorem op_isnotDD : OpR X (compareOp .IsNot) (tC2 G fun x y st => if DL.isNon y = true then some (!DL.isNon x) else none) := by
  intro pins s σ H x y v u Q I rx ry ⟨ι, d1, d2, st, b, r1, r2, S, e, k⟩
  dsimp only at e
  split at e
  · rename_i hn
    cases e
    rw [isNon_rep r2, decide_eq_true_eq] at hn
    exact op_notN pins s σ H x y v u Q I rx ry ⟨hn, by rw [← isNon_rep r1]; exact k⟩
  · cases e

/-! ### in -/
theorem flat_rep {d : D} {v : V} (h : Rep G ι H d v) (hf : DL.flat d = true) : flatV v = true := by
  cases d with
  | non => rw [show v = V.non from h]; rfl
  | bl b => rw [show v = V.bl b from h]; rfl
  | int b => rw [show v = V.int b from h]; rfl
  | str b => obtain ⟨rfl, _⟩ := h; rfl
  | _ => cases hf
theorem eqV_rep {d e : D} {v u : V} {p q : DL.PD} (h : Rep G ι H d v) (h' : Rep G ι H e u) (f : DL.flat d = true) (g : DL.flat e = true) (hp : DL.rsv 40 d = some p) (hq : DL.rsv 40 e = some q) : eqV v u = DL.PD.eqv p q := by
  cases d <;> cases e <;> first
    | (cases f; done)
    | (cases g; done)
    | (simp only [DL.rsv, Option.some.injEq] at hp hq
       subst hp hq
       first
        | (rw [show v = _ from h, show u = _ from h']; simp [eqV, DL.PD.eqv]; done)
        | (obtain ⟨rfl, _⟩ := h; rw [show u = _ from h']; simp [eqV, DL.PD.eqv]; done)
        | (obtain ⟨rfl, _⟩ := h'; rw [show v = _ from h]; simp [eqV, DL.PD.eqv]; done)
        | (obtain ⟨rfl, _⟩ := h; obtain ⟨rfl, _⟩ := h'
           simp only [eqV, DL.PD.eqv]
           rw [Bool.eq_iff_iff]
           simp only [beq_iff_eq]
           exact ⟨fun z => sS_inj z, fun z => by rw [z]⟩))
theorem flats_rep : ∀ {ds : List D} {vs : List V}, RepL G ι H ds vs → DL.flats ds = true → vs.all flatV = true
  | [], _, h, _ => by cases h; rfl
  | d :: ds, _, ⟨v, r, h1, h2, h3⟩, hf => by
    subst h1
    rw [DL.flats, Bool.and_eq_true] at hf
    rw [List.all_cons, flat_rep h2 hf.1, flats_rep h3 hf.2]; rfl
theorem inV_rep {e : D} {u : V} {p : DL.PD} (h' : Rep G ι H e u) (g : DL.flat e = true) (hp : DL.rsv 40 e = some p) : ∀ {ds : List D} {vs : List V} {qs : List DL.PD}, RepL G ι H ds vs → DL.flats ds = true → DL.rsvs 40 ds = some qs → inV u vs = qs.any fun q => DL.PD.eqv q p
  | [], _, qs, h, _, eq => by cases h; cases eq; rfl
  | d :: ds, _, qs, ⟨v, r, h1, h2, h3⟩, hf, eq => by
    subst h1
    rw [DL.flats, Bool.and_eq_true] at hf
    rw [DL.rsvs] at eq
    split at eq
    · rename_i a b ea eb
      cases eq
      have ih := inV_rep h' g hp h3 hf.2 eb
      unfold inV at ih ⊢
      rw [List.any_cons, List.any_cons, ih, eqV_rep h2 h' hf.1 g ea hp]
    · cases eq
theorem keyK_rep {d : D} {v : V} {k : Key} (h : Rep G ι H d v) (e : keyK d = some k) : v = kV k := by
  cases d <;> simp only [keyK, Option.some.injEq] at e <;> first | (cases e; done) | skip
  · subst e; exact h
  · subst e; exact h.1
theorem keysT_rep : ∀ {ds : List D} {vs : List V} {ks : List Key}, RepL G ι H ds vs → keysT ds = some ks → vs = ks.map kV
  | [], _, ks, h, e => by cases h; cases e; rfl
  | d :: ds, _, ks, ⟨v, r, h1, h2, h3⟩, e => by
    subst h1
    rw [keysT] at e
    split at e
    · rename_i k ks' e1 e2
      cases e
      rw [keyK_rep h2 e1, keysT_rep h3 e2]; rfl
    · cases e
end
end DS

set_option Elab.async false
set_option linter.all false
set_option maxRecDepth 100000
set_option maxHeartbeats 4000000
namespace DS
open PySem PySem.Spec PyProof.Rows L2
open DL (D Cell Store DX Res SRes)
section
variable {G : Gl} {X : Cx} {ι : List Addr} {H : Hp} {st : Store}

/-! ### keys -/
theorem same_key {d e : D} {k l : Key} (hd : keyK d = some k) (he : keyK e = some l) : DL.D.same d e = decide (k = l) := by
  cases d <;> simp only [keyK, Option.some.injEq] at hd <;> first | (cases hd; done) | skip
  · cases e <;> simp only [keyK, Option.some.injEq] at he <;> first | (cases he; done) | skip
    · subst hd he
      simp only [DL.D.same]
      rw [key_ll]
    · subst hd he
      simp only [DL.D.same]
      rw [key_lr]
  · cases e <;> simp only [keyK, Option.some.injEq] at he <;> first | (cases he; done) | skip
    · subst hd he
      simp only [DL.D.same]
      rw [key_rl]
    · subst hd he
      simp only [DL.D.same]
      rw [key_rr, Bool.eq_iff_iff]
      simp only [beq_iff_eq, decide_eq_true_eq]
      exact ⟨fun z => by rw [z], fun z => sS_inj z⟩
theorem sames_key : ∀ {ds es : List D} {k l : List Key}, keysT ds = some k → keysT es = some l → DL.D.sames ds es = decide (k = l)
  | [], [], k, l, h, g => by cases h; cases g; rfl
  | [], e :: es, k, l, h, g => by
    cases h
    rw [keysT] at g
    split at g
    · cases g; rfl
    · cases g
  | d :: ds, [], k, l, h, g => by
    cases g
    rw [keysT] at h
    split at h
    · cases h; rfl
    · cases h
  | d :: ds, e :: es, k, l, h, g => by
    rw [keysT] at h g
    split at h
    · rename_i k1 k2 e1 e2
      cases h
      split at g
      · rename_i l1 l2 f1 f2
        cases g
        rw [DL.D.sames, same_key e1 f1, sames_key e2 f2, Bool.eq_iff_iff]
        simp
      · cases g
    · cases h
theorem same_keyT {d e : D} {k l : List Key} (hd : keyT d = some k) (he : keyT e = some l) : DL.D.same d e = decide (k = l) := by
  cases d <;> first | (cases hd; done) | skip
  cases e <;> first | (cases he; done) | skip
  rw [DL.D.same]
  exact sames_key hd he
/-- a dict's look-up by data -/
theorem look_rep {κ : Type} [DecidableEq κ] {f : D → Option κ} (hf : ∀ {d e : D} {k l : κ}, f d = some k → f e = some l → DL.D.same d e = decide (k = l)) {d : D} {k : κ} (hd : f d = some k) :
    ∀ {kvs : List (D × D)} {ks : List (κ × V)}, RepK G f ι H kvs ks → (∀ e, DL.lookD d kvs = some e → ∃ v, valV ks k = some v ∧ Rep G ι H e v) ∧ (kvs.any fun p => DL.D.same p.1 d) = (valV ks k).isSome
  | [], ks, h => by cases h; exact ⟨fun e z => (by cases z), rfl⟩
  | p :: kvs, ks, ⟨k', v, s, h1, h2, h3, h4⟩ => by
    subst h1
    have hs := hf h2 hd
    obtain ⟨i1, i2⟩ := look_rep (κ := κ) hf hd h4
    rw [List.any_cons]
    by_cases e : k' = k
    · rw [decide_eq_true e] at hs
      refine ⟨fun x z => ?_, ?_⟩
      · rw [DL.lookD, if_pos hs] at z
        cases z
        exact ⟨v, valV_pos e, h3⟩
      · rw [hs, valV_pos e]; rfl
    · rw [decide_eq_false e] at hs
      refine ⟨fun x z => ?_, ?_⟩
      · rw [DL.lookD, if_neg (by rw [hs]; exact Bool.false_ne_true)] at z
        rw [valV_neg e]
        exact i1 x z
      · rw [hs, valV_neg e, Bool.false_or]
        exact i2
theorem any_rep {κ : Type} [DecidableEq κ] {f : D → Option κ} (hf : ∀ {d e : D} {k l : κ}, f d = some k → f e = some l → DL.D.same d e = decide (k = l)) {d : D} {k : κ} (hd : f d = some k)
    {kvs : List (D × D)} {ks : List (κ × V)} (h : RepK G f ι H kvs ks) : (kvs.any fun p => DL.D.same p.1 d) = (ks.any fun kv => decide (kv.1 = k)) := by
  rw [valV_any]; exact (look_rep hf hd h).2
theorem RepK.length {κ : Type} {f : D → Option κ} : ∀ {kvs : List (D × D)} {ks : List (κ × V)}, RepK G f ι H kvs ks → kvs.length = ks.length
  | [], _, h => by cases h; rfl
  | p :: r, _, ⟨k, v, s, h1, _, _, h4⟩ => by subst h1; simp [RepK.length h4]
theorem RepK.append {κ : Type} {f : D → Option κ} : ∀ {kvs kvs' : List (D × D)} {ks ks' : List (κ × V)}, RepK G f ι H kvs ks → RepK G f ι H kvs' ks' → RepK G f ι H (kvs ++ kvs') (ks ++ ks')
  | [], _, _, _, h, g => by cases h; exact g
  | p :: r, _, _, _, ⟨k, v, s, h1, h2, h3, h4⟩, g => by subst h1; exact ⟨k, v, _, rfl, h2, h3, h4.append g⟩
theorem repl_rep {κ : Type} [DecidableEq κ] {f : D → Option κ} (hf : ∀ {d e : D} {k l : κ}, f d = some k → f e = some l → DL.D.same d e = decide (k = l)) {d e : D} {k : κ} {v : V} (hd : f d = some k) (he : Rep G ι H e v) :
    ∀ {kvs : List (D × D)} {ks : List (κ × V)}, RepK G f ι H kvs ks → RepK G f ι H (kvs.map fun p => if DL.D.same p.1 d = true then (p.1, e) else p) (ks.map fun kv => if kv.1 = k then (kv.1, v) else kv)
  | [], _, h => by cases h; rfl
  | p :: r, _, ⟨k', v', s, h1, h2, h3, h4⟩ => by
    subst h1
    have hs := hf h2 hd
    by_cases q : k' = k
    · rw [decide_eq_true q] at hs
      rw [List.map_cons, List.map_cons, if_pos hs, if_pos q]
      exact ⟨_, _, _, rfl, h2, he, repl_rep hf hd he h4⟩
    · rw [decide_eq_false q] at hs
      rw [List.map_cons, List.map_cons, if_neg (by rw [hs]; exact Bool.false_ne_true), if_neg q]
      exact ⟨_, _, _, rfl, h2, h3, repl_rep hf hd he h4⟩
theorem put_rep {κ : Type} [DecidableEq κ] {f : D → Option κ} (hf : ∀ {d e : D} {k l : κ}, f d = some k → f e = some l → DL.D.same d e = decide (k = l)) {d e : D} {k : κ} {v : V} (hd : f d = some k) (he : Rep G ι H e v)
    {kvs : List (D × D)} {ks : List (κ × V)} (h : RepK G f ι H kvs ks) : RepK G f ι H (DL.putD d e kvs) (putK ks k v) := by
  unfold DL.putD putK
  rw [any_rep hf hd h]
  by_cases q : (ks.any fun kv => decide (kv.1 = k)) = true
  · rw [if_pos q, if_pos q]; exact repl_rep hf hd he h
  · rw [if_neg q, if_neg q]; exact h.append ⟨k, v, [], rfl, hd, he, rfl⟩

theorem isK_some {d : D} (h : DL.isK d = true) : ∃ k, keyK d = some k := by
  cases d <;> first | (cases h; done) | exact ⟨_, rfl⟩
theorem isKs_some : ∀ {ds : List D}, DL.isKs ds = true → ∃ k, keysT ds = some k
  | [], _ => ⟨_, rfl⟩
  | d :: ds, h => by
    rw [DL.isKs, Bool.and_eq_true] at h
    obtain ⟨k, hk⟩ := isK_some h.1
    obtain ⟨ks, hks⟩ := isKs_some h.2
    exact ⟨k :: ks, by rw [keysT, hk, hks]⟩
theorem keyT_some {d : D} (h : DL.keyOkD true d = true) : ∃ k, keyT d = some k := by
  cases d <;> first | (cases h; done) | exact isKs_some h
/-- a tuple that is a key -/
theorem key_is {pins : List (Addr × Obj)} {σ : L2.St} {s : Shared} (hK : X.K = G.K) (I : Inv X pins σ H s) {b : Addr} {vs : List V} {ks : List Key} {P : Prop} (h : H b = some (.tup vs) ∨ (KTup G.K b vs ∧ P)) (e : vs = ks.map kV) :
    (tupleKind (mixKind X.prog X.w)).is s.heap ks b := by
  subst e
  rcases h with h | ⟨⟨o, its, n, h1, h2, h3, _, r⟩, _⟩
  · exact key_of I.hok h
  · rw [← hK] at h1
    refine ⟨o, its, n, I.kIn _ _ h1, h2, h3, ?_⟩
    simpa using items_are r
/-- d[y], there, by data -/
theorem d_getD {pins : List (Addr × Obj)} {σ : L2.St} {s : Shared} {A : Around} {E : Value → Shared → Prop} {Q : Value → Shared → Prop} {l : Nat} {a : Addr} {tk : Bool} {kvs : List (D × D)} {y e : D} {yv : V} {u : Value}
    (hK : X.K = G.K) (hu : A.units + 1 < cLine) (I : Inv X pins σ H s) (S : RS G ι st H) (h : st[l]? = some (.dic tk kvs)) (ha : ι[l]? = some a) (r : Rep G ι H y yv) (ry : RelV yv u) (hk : DL.keyOkD tk y = true) (he : DL.lookD y kvs = some e)
    (k : ∀ v w' s', Inv X pins σ H s' → RelV v w' → Rep G ι H e v → Q w' s') : s.TypeIs (.ref a) "dict" ∧ wpAny (model X.prog X.w) A (getItem (.ref a) u) Q E s := by
  have hc := S.get h ha
  cases tk with
  | false =>
    obtain ⟨ks, g1, g2⟩ := hc
    obtain ⟨kk, hkk⟩ := isK_some (show DL.isK y = true from hk)
    obtain ⟨v, hv, rv⟩ := (look_rep same_key hkk g2).1 e he
    have eyv := keyK_rep r hkk
    subst eyv
    have g : DGet H a (kV kk) (some v) := by rw [← hv]; exact DGet.k g1
    exact ⟨dict_typeIs I g, d_getItem hu I g ry fun w' s' I' rw' => k v w' s' I' rw' rv⟩
  | true =>
    obtain ⟨ks, g1, g2⟩ := hc
    obtain ⟨kk, hkk⟩ := keyT_some hk
    obtain ⟨v, hv, rv⟩ := (look_rep same_keyT hkk g2).1 e he
    cases y with
    | tup ds =>
      obtain ⟨b, vs, rfl, h1, h2⟩ := r
      have evs := keysT_rep h2 hkk
      cases ry
      obtain ⟨z, hd, xs, rel, dd⟩ := dt_of I.hok g1
      refine ⟨dd.typeIs, ?_⟩
      obtain ⟨w', hw, rw'⟩ := RelO.some_of (v := v) (o := (atKey xs kk).map (·.2)) (by rw [← hv]; exact rel.val kk)
      obtain ⟨p, hp, hp2⟩ := Option.map_eq_some_iff.mp hw
      refine wpAny_getItem_heap (tupleKind_room_in1 hu) (key_is hK I h1 evs) dd hp ?_
      rw [hp2]
      exact k v w' _ (I.tok _) rw' rv
    | _ => cases hkk
/-- y in d, by data -/
theorem d_inD {pins : List (Addr × Obj)} {σ : L2.St} {s : Shared} {A : Around} {E : Value → Shared → Prop} {Q : Value → Shared → Prop} {l : Nat} {a : Addr} {tk : Bool} {kvs : List (D × D)} {y : D} {yv : V} {u : Value}
    (hK : X.K = G.K) (hu : A.units + 1 < cLine) (I : Inv X pins σ H s) (S : RS G ι st H) (h : st[l]? = some (.dic tk kvs)) (ha : ι[l]? = some a) (r : Rep G ι H y yv) (ry : RelV yv u) (hk : DL.keyOkD tk y = true) :
    ((∀ s', Inv X pins σ H s' → Q (.bool (kvs.any fun p => DL.D.same p.1 y)) s') → wpAny (model X.prog X.w) A (compareOp .In u (.ref a)) Q E s) ∧
    ((∀ s', Inv X pins σ H s' → Q (.bool (!kvs.any fun p => DL.D.same p.1 y)) s') → wpAny (model X.prog X.w) A (compareOp .NotIn u (.ref a)) Q E s) := by
  have hc := S.get h ha
  cases tk with
  | false =>
    obtain ⟨ks, g1, g2⟩ := hc
    obtain ⟨kk, hkk⟩ := isK_some (show DL.isK y = true from hk)
    have e := (look_rep same_key hkk g2).2
    have eyv := keyK_rep r hkk
    subst eyv
    rw [e]
    exact ⟨fun k => d_in hu I (DGet.k g1) ry k, fun k => d_notIn hu I (DGet.k g1) ry k⟩
  | true =>
    obtain ⟨ks, g1, g2⟩ := hc
    obtain ⟨kk, hkk⟩ := keyT_some hk
    have e := (look_rep same_keyT hkk g2).2
    cases y with
    | tup ds =>
      obtain ⟨b, vs, rfl, h1, h2⟩ := r
      have evs := keysT_rep h2 hkk
      cases ry
      obtain ⟨z, hd, xs, rel, dd⟩ := dt_of I.hok g1
      have q := (rel.val kk).isSome_eq
      rw [Option.isSome_map] at q
      rw [e]
      constructor
      · intro k
        refine wpAny_in_heap (tupleKind_room_in1 hu) (key_is hK I h1 evs) hd dd ?_
        rw [← q]
        exact k _ (I.tok _)
      · intro k
        refine wpAny_notIn_heap (tupleKind_room_in1 hu) (key_is hK I h1 evs) hd dd ?_
        rw [← q]
        exact k _ (I.tok _)
    | _ => cases hkk
end
end DS

set_option Elab.async false
set_option linter.all false
set_option maxRecDepth 100000
set_option maxHeartbeats 4000000
namespace DS
open PySem PySem.Spec PyProof.Rows L2
open DL (D Cell Store DX Res SRes)
section
variable {G : Gl} {X : Cx} {ι : List Addr} {H : Hp} {st : Store}

theorem op_inGen {f : Value → Value → Sem Value} {neg : Bool} (hK : X.K = G.K) (hu : X.A.units + 65 < cLine)
    (hop : f = if neg then compareOp .NotIn else compareOp .In) : OpR X f (tC2 G fun x y st => (DL.inD x y st).map fun b => if neg then !b else b) := by
  intro pins s σ H x y v u Q I rx ry ⟨ι, d1, d2, st, b, r1, r2, S, e, k⟩
  dsimp only at e
  obtain ⟨c, e0, rfl⟩ := Option.map_eq_some_iff.mp e
  clear e
  revert e0
  intro e
  unfold DL.inD at e
  split at e
  · rename_i bs
    split at e
    · rename_i a
      cases e
      obtain ⟨rfl, _, _⟩ := r1
      obtain ⟨rfl, _, _⟩ := r2
      have hx : sS [a] = (⟨#[a]⟩ : Str) := rfl
      rw [hx] at rx
      cases neg with
      | false => subst hop; exact op_in_sign pins s σ H _ _ v u Q I rx ry ⟨a, sS bs, rfl, rfl, by rw [sS_cps]; exact k⟩
      | true => subst hop; exact op_notIn_sign pins s σ H _ _ v u Q I rx ry ⟨a, sS bs, rfl, rfl, by rw [sS_cps]; exact k⟩
    · cases e
  · rename_i ys
    split at e
    · rename_i hf
      split at e
      · rename_i p qs e1 e2
        cases e
        obtain ⟨a, vs, rfl, h1, h2⟩ := r2
        have q := inV_rep r1 hf.1 e1 h2 hf.2 e2
        have hfx := flat_rep r1 hf.1
        have hfs := flats_rep h2 hf.2
        cases neg with
        | false => subst hop; exact op_in_seq pins s σ H _ _ v u Q I rx ry ⟨a, vs, rfl, .inr (sqT_of hK h1), hfx, hfs, by rw [q]; exact k⟩
        | true => subst hop; exact op_notIn_seq pins s σ H _ _ v u Q I rx ry ⟨a, vs, rfl, .inr (sqT_of hK h1), hfx, hfs, by rw [q]; exact k⟩
      · cases e
    · cases e
  · rename_i l
    split at e
    · rename_i ys hl
      split at e
      · rename_i p qs e1 e2
        cases e
        obtain ⟨a, rfl, ha⟩ := r2
        obtain ⟨vs, g1, g2⟩ := S.lst hl ha
        obtain ⟨k1, k2, k3⟩ := rsv_dp hK r1 e1
        obtain ⟨m1, m2, m3⟩ := rsvs_dp hK g2 e2
        have sh : SeqAt.shaped (.list (pdOfs qs)) = true := shaped_of (by simpa [PyData.canLay0] using m2) (by simp only [PyData.depth]; omega)
        have ea : ((pdOfs qs).any fun z => PyData.eqv z (pdOf p)) = qs.any fun q => DL.PD.eqv q p := by
          have : ∀ l : List DL.PD, ((pdOfs l).any fun z => PyData.eqv z (pdOf p)) = l.any fun q => DL.PD.eqv q p := fun l => by
            induction l with
            | nil => rfl
            | cons z l ih => rw [pdOfs, List.any_cons, List.any_cons, ih, eqv_pd]
          exact this qs
        cases neg with
        | false => subst hop; exact op_inD hu pins s σ H _ _ v u Q I rx ry ⟨_, _, k1, .lst (sqL_of g1) m1, shaped_of k2 (by omega), sh, by rw [ea]; exact k⟩
        | true => subst hop; exact op_notInD hu pins s σ H _ _ v u Q I rx ry ⟨_, _, k1, .lst (sqL_of g1) m1, shaped_of k2 (by omega), sh, by rw [ea]; exact k⟩
      · cases e
    · rename_i tk kvs hl
      split at e
      · rename_i hk
        cases e
        obtain ⟨a, rfl, ha⟩ := r2
        cases ry
        obtain ⟨q1, q2⟩ := d_inD (E := X.xe) (Q := EP X pins σ Q) hK (A := X.A) (by omega) I S hl ha r1 rx hk
        cases neg with
        | false => subst hop; exact q1 fun s' I' => ⟨.bl _, H, I', rfl, k⟩
        | true => subst hop; exact q2 fun s' I' => ⟨.bl _, H, I', rfl, k⟩
      · cases e
    · cases e
  · cases e
theorem op_inDD (hK : X.K = G.K) (hu : X.A.units + 65 < cLine) : OpR X (compareOp .In) (tC2 G DL.inD) := by
  have h := op_inGen (G := G) (f := compareOp .In) (neg := false) hK hu rfl
  intro pins s σ H x y v u Q I rx ry ⟨ι, d1, d2, st, b, r1, r2, S, e, k⟩
  exact h pins s σ H x y v u Q I rx ry ⟨ι, d1, d2, st, b, r1, r2, S, by dsimp only; rw [e]; rfl, k⟩
theorem op_notinDD (hK : X.K = G.K) (hu : X.A.units + 65 < cLine) : OpR X (compareOp .NotIn) (tC2 G fun x y st => (DL.inD x y st).map (!·)) :=
  op_inGen (neg := true) hK hu rfl

/-! ### items -/
theorem atD_get {α : Type} {xs : List α} {i : Int} {d : α} (h : DL.atD xs i = some d) : ∃ j : Nat, xs[j]? = some d ∧ ∀ {β : Type} (ys : List β), ys.length = xs.length → atI ys i = ys[j]? := by
  unfold DL.atD at h
  split at h
  · rename_i h0
    refine ⟨i.toNat, h, fun ys hl => ?_⟩
    have hlt := (List.getElem?_eq_some_iff.mp h).1
    unfold atI ixN
    rw [if_pos h0, if_pos (by omega)]; rfl
  · rename_i h0
    split at h
    · rename_i h1
      refine ⟨_, h, fun ys hl => ?_⟩
      unfold atI ixN
      rw [if_neg h0, if_pos (by omega), hl]; rfl
    · cases h
theorem ix_D (hK : X.K = G.K) (hu : X.A.units + 64 < cLine) : IxR X (tV2 G DL.ixD) := by
  intro value slice pins s σ H x y v u Q I rx ry ⟨ι, d1, d2, st, d, st', r1, r2, S, e, k⟩ hs
  unfold DL.ixD at e
  split at e
  · rename_i xs i
    split at e
    · rename_i d' hd
      cases e
      obtain ⟨a, vs, rfl, h1, h2⟩ := r1
      obtain rfl : y = V.int i := r2
      obtain ⟨j, g1, g2⟩ := atD_get hd
      obtain ⟨w, h3, h4⟩ := h2.get g1
      exact ix_tup value slice pins s σ H _ _ v u Q I rx ry ⟨a, vs, i, w, rfl, rfl, sqT_of hK h1, by rw [g2 vs h2.length.symm]; exact h3, k _ _ ι Ext.refl S h4⟩ hs
    · cases e
  · rename_i xs i
    split at e
    · rename_i c hd
      cases e
      obtain ⟨rfl, l1, o1⟩ := r1
      obtain rfl : y = V.int i := r2
      obtain ⟨j, g1, g2⟩ := atD_get hd
      refine ix_str value slice pins s σ H _ _ v u Q I rx ry ⟨sS xs, i, c, rfl, rfl, by rw [sS_len]; exact l1, by rw [sS_cps, g2 xs rfl]; exact g1, k _ _ ι Ext.refl S ⟨rfl, lineM (by simp), strOk_of_sub o1 fun c' hc => ?_⟩⟩ hs
      rw [List.mem_singleton.mp hc]
      exact List.mem_of_getElem? g1
    · cases e
  · rename_i l kk
    split at e
    · rename_i xs hl
      split at e
      · rename_i i
        split at e
        · rename_i d' hd
          cases e
          obtain ⟨a, rfl, ha⟩ := r1
          obtain rfl : y = V.int i := r2
          obtain ⟨vs, q1, h2⟩ := S.lst hl ha
          obtain ⟨j, g1, g2⟩ := atD_get hd
          obtain ⟨w, h3, h4⟩ := h2.get g1
          exact ix_list value slice pins s σ H _ _ v u Q I rx ry ⟨a, vs, i, w, rfl, rfl, sqL_of q1, by rw [g2 vs h2.length.symm]; exact h3, k _ _ ι Ext.refl S h4⟩ hs
        · cases e
      · cases e
    · rename_i tk kvs hl
      split at e
      · rename_i hk
        split at e
        · rename_i d' hd
          cases e
          obtain ⟨a, rfl, ha⟩ := r1
          cases rx
          obtain ⟨t1, t2⟩ := d_getD (E := X.xe) (Q := EP X pins σ Q) (A := X.A) hK (by omega) I S hl ha r2 ry hk hd fun w w' s' I' rw' rr => ⟨w, H, I', rw', k _ _ ι Ext.refl S rr⟩
          exact tail_any t1 PySem.F.slot_dict_getitem.lookup t2 hs
        · cases e
      · cases e
    · cases e
  · cases e

/-! ### slices -/
theorem sIx_eq (n d : Nat) (o : Option Int) : DL.sIx n d o = HT.sIx n d o := by cases o <;> rfl
/-- a slice by data -/
def tSlD (G : Gl) : V → Option Int → Option Int → Hp → VK → Prop := fun x lo hi H Q => ∃ ι d st d' st', Rep G ι H d x ∧ RS G ι st H ∧ DL.slD d lo hi st = some (d', st') ∧
  ∀ v H' ι', Ext ι H ι' H' → RS G ι' st' H' → Rep G ι' H' d' v → Q v H'
theorem cut_mem {α : Type} {xs : List α} {lo hi : Option Int} {c : α} (h : c ∈ DL.cut xs lo hi) : c ∈ xs := List.mem_of_mem_drop (List.mem_of_mem_take h)
theorem cut_len {α : Type} (xs : List α) (lo hi : Option Int) : (DL.cut xs lo hi).length ≤ xs.length := by
  unfold DL.cut
  rw [List.length_take, List.length_drop]; omega
theorem RepL.cut {ds : List D} {vs : List V} (h : RepL G ι H ds vs) (lo hi : Option Int) : RepL G ι H (DL.cut ds lo hi) (cutV vs lo hi) := by
  unfold DL.cut cutV
  rw [sIx_eq, sIx_eq, h.length]
  exact (h.drop _).take _
theorem sl_D (hK : X.K = G.K) : SlR X (tSlD G) := by
  intro pins s σ H x v vl vu lo hi sl Q I rx hs pl pu ⟨ι, d, st, d', st', r, S, e, k⟩
  unfold DL.slD at e
  split at e
  · rename_i z
    cases e
    obtain ⟨rfl, l1, o1⟩ := r
    refine sl_str pins s σ H _ v vl vu lo hi sl Q I rx hs pl pu ⟨sS z, rfl, by rw [sS_len]; exact l1, k _ _ ι Ext.refl S ⟨?_, Nat.le_trans (cut_len _ _ _) l1, strOk_of_sub o1 fun c hc => cut_mem hc⟩⟩
    unfold cutS DL.cut
    rw [sS_cps, sS_len, sIx_eq, sIx_eq]
    rfl
  · rename_i xs
    cases e
    obtain ⟨a, vs, rfl, h1, h2⟩ := r
    refine sl_tupA pins s σ H _ v vl vu lo hi sl Q I rx hs pl pu ⟨a, vs, rfl, sqT_of hK h1, fun hw => ?_, fun hw => fin_tup S (h2.cut lo hi) k⟩
    refine k _ _ ι Ext.refl S ?_
    have : DL.cut xs lo hi = xs := by
      unfold DL.cut
      rw [sIx_eq, sIx_eq, h2.length, hw.1, hw.2, List.drop_zero, Nat.sub_zero, ← h2.length, List.take_length]
    rw [this]
    exact ⟨a, vs, rfl, h1, h2⟩
  · rename_i l
    split at e
    · rename_i xs hl
      cases e
      obtain ⟨a, rfl, ha⟩ := r
      obtain ⟨vs, q1, h2⟩ := S.lst hl ha
      exact sl_list pins s σ H _ v vl vu lo hi sl Q I rx hs pl pu ⟨a, vs, rfl, sqL_of q1, fin_lst S (h2.cut lo hi) k⟩
    · cases e
  · cases e

/-! ### calls of built-ins -/
def tVN (G : Gl) (f : List D → Store → Option (D × Store)) : List V → Hp → VK → Prop := fun xs H Q => ∃ ι ds st d st', RepL G ι H ds xs ∧ RS G ι st H ∧ f ds st = some (d, st') ∧
  ∀ v H' ι', Ext ι H ι' H' → RS G ι' st' H' → Rep G ι' H' d v → Q v H'
theorem RepL.one {d : D} {vs : List V} (h : RepL G ι H [d] vs) : ∃ v, vs = [v] ∧ Rep G ι H d v := by
  obtain ⟨v, r, h1, h2, h3⟩ := h
  cases h3
  exact ⟨v, h1, h2⟩
/-- the items of a list or a tuple -/
theorem items_rep (hK : X.K = G.K) (S : RS G ι st H) {x : D} {v : V} {ys : List D} (r : Rep G ι H x v) (e : DL.itemsD x st = some ys) :
    ∃ a vs, v = .ref a ∧ RepL G ι H ys vs ∧ ((SqL X.K H a vs) ∨ (SqT X.K H a vs ∧ x = .tup ys)) := by
  unfold DL.itemsD at e
  split at e
  · cases e
    obtain ⟨a, vs, rfl, h1, h2⟩ := r
    exact ⟨a, vs, rfl, h2, .inr ⟨sqT_of hK h1, rfl⟩⟩
  · split at e
    · rename_i l xs hl
      cases e
      obtain ⟨a, rfl, ha⟩ := r
      obtain ⟨vs, q1, h2⟩ := S.lst hl ha
      exact ⟨a, vs, rfl, h2, .inl (sqL_of q1)⟩
    · cases e
  · cases e
theorem lenV_rep (hK : X.K = G.K) (S : RS G ι st H) {x : D} {v : V} {ys : List D} (r : Rep G ι H x v) (e : DL.itemsD x st = some ys) : LenV X.K v H ys.length := by
  obtain ⟨a, vs, rfl, h2, h3⟩ := items_rep hK S r e
  rw [h2.length]
  rcases h3 with h3 | ⟨h3, _⟩
  · exact .inl ⟨vs, h3, rfl⟩
  · exact .inr ⟨vs, h3, rfl⟩
theorem call_lenD (hK : X.K = G.K) : CallR X (.builtin "len") (tVN G DL.lenD) := by
  intro pins s σ H xs us Q I rr ⟨ι, ds, st, d, st', r, S, e, k⟩
  unfold DL.lenD at e
  split at e
  · rename_i z
    cases e
    obtain ⟨v, rfl, rfl, l1, o1⟩ := r.one
    exact call_len pins s σ H _ us Q I rr ⟨_, z.length, rfl, ⟨by rw [sS_len]; exact l1, (sS_len z).symm⟩, k _ _ ι Ext.refl S rfl⟩
  · split at e
    · rename_i x hx ys hys
      cases e
      obtain ⟨v, rfl, r1⟩ := r.one
      exact call_len pins s σ H _ us Q I rr ⟨v, ys.length, rfl, lenV_rep hK S r1 hys, k _ _ ι Ext.refl S rfl⟩
    · cases e
  · cases e
theorem call_intD : CallR X (.type "int") (tVN G DL.intD) := by
  intro pins s σ H xs us Q I rr ⟨ι, ds, st, d, st', r, S, e, k⟩
  unfold DL.intD at e
  split at e
  · rename_i i
    cases e
    obtain ⟨v, rfl, r1⟩ := r.one
    exact call_int1 pins s σ H _ us Q I rr (.inl ⟨i, by rw [show v = V.int i from r1], k _ _ ι Ext.refl S rfl⟩)
  · rename_i i
    cases e
    obtain ⟨v, rfl, r1⟩ := r.one
    exact call_int1 pins s σ H _ us Q I rr (.inr ⟨i, by rw [show v = V.bl i from r1], k _ _ ι Ext.refl S rfl⟩)
  · cases e
theorem ints_rep : ∀ {ds : List D} {vs : List V} {ns : List Int}, RepL G ι H ds vs → DL.ints? ds = some ns → vs = ns.map V.int
  | [], _, ns, h, e => by cases h; cases e; rfl
  | d :: ds, _, ns, ⟨v, r, h1, h2, h3⟩, e => by
    subst h1
    cases d <;> first | (cases e; done) | skip
    simp only [DL.ints?] at e
    split at e
    · rename_i b hb
      cases e
      rw [show v = V.int _ from h2, ints_rep h3 hb]; rfl
    · cases e
theorem bools_rep : ∀ {ds : List D} {vs : List V} {ns : List Bool}, RepL G ι H ds vs → DL.bools? ds = some ns → vs = ns.map V.bl
  | [], _, ns, h, e => by cases h; cases e; rfl
  | d :: ds, _, ns, ⟨v, r, h1, h2, h3⟩, e => by
    subst h1
    cases d <;> first | (cases e; done) | skip
    simp only [DL.bools?] at e
    split at e
    · rename_i b hb
      cases e
      rw [show v = V.bl _ from h2, bools_rep h3 hb]; rfl
    · cases e
theorem strs_rep : ∀ {ds : List D} {vs : List V} {ns : List (List Nat)}, RepL G ι H ds vs → DL.strs? ds = some ns → vs = (ns.map sS).map V.str ∧ ∀ x ∈ ns, PyData.strOk (sS x) = true
  | [], _, ns, h, e => by cases h; cases e; exact ⟨rfl, fun x hx => by simp at hx⟩
  | d :: ds, _, ns, ⟨v, r, h1, h2, h3⟩, e => by
    subst h1
    cases d <;> first | (cases e; done) | skip
    simp only [DL.strs?] at e
    split at e
    · rename_i b hb
      cases e
      obtain ⟨i1, i2⟩ := strs_rep h3 hb
      obtain ⟨rfl, _, o1⟩ := h2
      refine ⟨by rw [i1]; rfl, fun x hx => ?_⟩
      rcases List.mem_cons.mp hx with rfl | hx
      · exact o1
      · exact i2 x hx
    · cases e
theorem minI_spec : ∀ (m : Int) (r : List Int), DL.minI m r ∈ m :: r ∧ ∀ y ∈ m :: r, DL.minI m r ≤ y
  | m, [] => by simp [DL.minI]
  | m, x :: r => by
    rw [DL.minI]
    obtain ⟨h1, h2⟩ := minI_spec (if x < m then x else m) r
    constructor
    · rcases List.mem_cons.mp h1 with h | h
      · rw [h]
        by_cases hx : x < m
        · rw [if_pos hx]; simp
        · rw [if_neg hx]; simp
      · simp [h]
    · intro y hy
      have h0 := h2 _ List.mem_cons_self
      rcases List.mem_cons.mp hy with rfl | hy
      · by_cases hx : x < y
        · rw [if_pos hx] at h0 ⊢; omega
        · rw [if_neg hx] at h0 ⊢; omega
      · rcases List.mem_cons.mp hy with rfl | hy
        · by_cases hx : y < m
          · rw [if_pos hx] at h0 ⊢; omega
          · rw [if_neg hx] at h0 ⊢; omega
        · exact h2 y (List.mem_cons_of_mem _ hy)
theorem call_min3 (hc : X.calm = true) : CallR X (.builtin "min") (fun xs H Q => ∃ a b c : Int, xs = [.int a, .int b, .int c] ∧ Q (.int (DL.minI a [b, c])) H) := by
  intro pins s σ H xs us Q I r h
  obtain ⟨a, b, c, rfl, q⟩ := h
  cases r with
  | cons r1 r2 =>
    cases r2 with
    | cons r2 r3 =>
      cases r3 with
      | cons r3 r4 =>
        cases r4
        obtain ⟨t, rfl⟩ := r1
        obtain ⟨t', rfl⟩ := r2
        obtain ⟨t'', rfl⟩ := r3
        refine min_three_ints (I.ok.hd hc) fun h' tk k => ⟨_, H, I.kept k, ?_, q⟩
        simp only [DL.minI]
        by_cases h1 : b < a
        · by_cases h2 : c < b
          · simp [h1, h2, L2.RelV]
          · simp [h1, h2, L2.RelV]
        · by_cases h2 : c < a
          · simp [h1, h2, L2.RelV]
          · simp [h1, h2, L2.RelV]
theorem call_minD (hK : X.K = G.K) (hc : X.calm = true) : CallR X (.builtin "min") (tVN G fun xs st => if xs.length = 4 then none else DL.minD xs st) := by
  intro pins s σ H xs us Q I rr ⟨ι, ds, st, d, st', r, S, e, k⟩
  dsimp only at e
  split at e
  · cases e
  rename_i h4
  unfold DL.minD at e
  split at e
  · rename_i l
    split at e
    · rename_i ys hl
      split at e
      · rename_i m r' hn
        cases e
        obtain ⟨v, rfl, a, rfl, ha⟩ := r.one
        obtain ⟨vs, q1, h2⟩ := S.lst hl ha
        have := ints_rep h2 hn
        subst this
        obtain ⟨g1, g2⟩ := minI_spec m r'
        refine cr_min hc pins s σ H _ us Q I rr ⟨a, m :: r', rfl, sqL_of q1, by simp, fun m' h1 h3 => k _ _ ι Ext.refl S ?_⟩
        have e1 := g2 m' h1
        have e2 := h3 _ g1
        show V.int m' = V.int _
        rw [show m' = DL.minI m r' by omega]
      · cases e
    · cases e
  · rename_i a b
    cases e
    obtain ⟨v, r', rfl, h1, h2⟩ := r
    obtain ⟨w, rfl, h3⟩ := h2.one
    refine call_min2 hc pins s σ H _ us Q I rr ⟨a, b, by rw [show v = V.int a from h1, show w = V.int b from h3], k _ _ ι Ext.refl S ?_⟩
    show V.int _ = V.int _
    simp [DL.minI]
  · rename_i a b c
    cases e
    obtain ⟨v, r', rfl, h1, h2⟩ := r
    obtain ⟨v2, r'', rfl, h3, h4⟩ := h2
    obtain ⟨w, rfl, h5⟩ := h4.one
    exact call_min3 hc pins s σ H _ us Q I rr ⟨a, b, c, by rw [show v = V.int a from h1, show v2 = V.int b from h3, show w = V.int c from h5], k _ _ ι Ext.refl S rfl⟩
  · simp at h4
  · cases e
theorem call_tupleD (hK : X.K = G.K) : CallR X (.type "tuple") (tVN G DL.tupleD) := by
  intro pins s σ H xs us Q I rr ⟨ι, ds, st, d, st', r, S, e, k⟩
  unfold DL.tupleD at e
  split at e
  · split at e
    · rename_i x ys hys
      cases e
      obtain ⟨v, rfl, r1⟩ := r.one
      obtain ⟨a, vs, rfl, h2, h3⟩ := items_rep hK S r1 hys
      rcases h3 with h3 | ⟨h3, rfl⟩
      · exact call_tuple_of pins s σ H _ us Q I rr ⟨a, vs, rfl, .inl ⟨h3, fin_tup S h2 k⟩⟩
      · exact call_tuple_of pins s σ H _ us Q I rr ⟨a, vs, rfl, .inr ⟨h3, k _ _ ι Ext.refl S r1⟩⟩
    · cases e
  · cases e
theorem call_allD (hK : X.K = G.K) (hc : X.calm = true) : CallR X (.builtin "all") (tVN G DL.allD) := by
  intro pins s σ H xs us Q I rr ⟨ι, ds, st, d, st', r, S, e, k⟩
  unfold DL.allD at e
  split at e
  · split at e
    · rename_i l ys hl
      split at e
      · rename_i bs hb
        cases e
        obtain ⟨v, rfl, a, rfl, ha⟩ := r.one
        obtain ⟨vs, q1, h2⟩ := S.lst hl ha
        have := bools_rep h2 hb
        subst this
        exact cr_all hc pins s σ H _ us Q I rr ⟨a, bs, rfl, sqL_of q1, k _ _ ι Ext.refl S rfl⟩
      · cases e
    · cases e
  · cases e
theorem call_anyD (hK : X.K = G.K) (hc : X.calm = true) : CallR X (.builtin "any") (tVN G DL.anyD) := by
  intro pins s σ H xs us Q I rr ⟨ι, ds, st, d, st', r, S, e, k⟩
  unfold DL.anyD at e
  split at e
  · split at e
    · rename_i l ys hl
      split at e
      · rename_i bs hb
        cases e
        obtain ⟨v, rfl, a, rfl, ha⟩ := r.one
        obtain ⟨vs, q1, h2⟩ := S.lst hl ha
        have := bools_rep h2 hb
        subst this
        exact cr_any hc pins s σ H _ us Q I rr ⟨a, bs, rfl, sqL_of q1, k _ _ ι Ext.refl S rfl⟩
      · cases e
    · cases e
  · cases e
end
end DS

set_option Elab.async false
set_option linter.all false
set_option maxRecDepth 100000
set_option maxHeartbeats 4000000
namespace DS
open PySem PySem.Spec PyProof.Rows L2
open DL (D Cell Store DX Res SRes)
section
variable {G : Gl} {X : Cx} {ι : List Addr} {H : Hp} {st : Store}

/-! ### isinstance -/
def tyN : DL.Ty → String
  | .int => "int" | .bool => "bool" | .str => "str" | .tuple => "tuple" | .list => "list" | .dict => "dict"
def dTy : D → Store → Option String
  | .non, _ => some "NoneType"
  | .bl _, _ => some "bool"
  | .int _, _ => some "int"
  | .str _, _ => some "str"
  | .tup _, _ => some "tuple"
  | .ref l, st => match st[l]? with
    | some (.lst _) => some "list"
    | some (.dic _ _) => some "dict"
    | none => none
  | _, _ => none
theorem kit_all : ∀ T : DL.Ty, kitB "NoneType" (tyN T) = some false ∧ kitB "bool" (tyN T) = some (T == .bool || T == .int) ∧ kitB "int" (tyN T) = some (T == .int) ∧ kitB "str" (tyN T) = some (T == .str) ∧ kitB "tuple" (tyN T) = some (T == .tuple) ∧
    kitB "list" (tyN T) = some (T == .list) ∧ kitB "dict" (tyN T) = some (T == .dict) := by
  intro T
  cases T <;> exact ⟨by decide +kernel, by decide +kernel, by decide +kernel, by decide +kernel, by decide +kernel, by decide +kernel, by decide +kernel⟩
theorem isi_kit {x : D} {T : DL.Ty} {b : Bool} (e : DL.isiD x T st = some b) : ∃ n, dTy x st = some n ∧ kitB n (tyN T) = some b := by
  obtain ⟨k1, k2, k3, k4, k5, k6, k7⟩ := kit_all T
  unfold DL.isiD at e
  split at e
  · cases e; exact ⟨_, rfl, k1⟩
  · cases e; exact ⟨_, rfl, k2⟩
  · cases e; exact ⟨_, rfl, k3⟩
  · cases e; exact ⟨_, rfl, k4⟩
  · cases e; exact ⟨_, rfl, k5⟩
  · split at e
    · rename_i hl
      cases e; exact ⟨"list", by rw [dTy, hl], k6⟩
    · rename_i hl
      cases e; exact ⟨"dict", by rw [dTy, hl], k7⟩
    · cases e
  · cases e
theorem ty_rep (hK : X.K = G.K) (S : RS G ι st H) {x : D} {v : V} {n : String} (r : Rep G ι H x v) (e : dTy x st = some n) : TyX X.K H v (.type n) := by
  cases x with
  | non => cases e; rw [show v = V.non from r]; exact .base .non
  | bl b => cases e; rw [show v = V.bl b from r]; exact .base (.bl b)
  | int b => cases e; rw [show v = V.int b from r]; exact .base (.int b)
  | str b => cases e; obtain ⟨rfl, _⟩ := r; exact .base (.str _)
  | tup b =>
    cases e
    obtain ⟨a, vs, rfl, h1, _⟩ := r
    rcases h1 with h1 | ⟨⟨o, its, n, h1, h2, _⟩, _⟩
    · exact .base (.tup h1)
    · exact .kTuple (by rw [hK]; exact h1) h2
  | ref l =>
    obtain ⟨a, rfl, ha⟩ := r
    simp only [dTy] at e
    split at e
    · rename_i xs hl
      cases e
      obtain ⟨vs, q1, _⟩ := S.lst hl ha
      exact .base (.lst q1)
    · rename_i tk kvs hl
      cases e
      have hc := S.get hl ha
      cases tk with
      | false => obtain ⟨ks, g1, _⟩ := hc; exact .base (.dK g1)
      | true => obtain ⟨ks, g1, _⟩ := hc; exact .base (.dT g1)
    · cases e
  | fl _ => cases e
  | fn _ => cases e
def tIsi (G : Gl) (T : DL.Ty) : List V → Hp → VK → Prop := fun xs H Q => ∃ ι d v st b, xs = [v, .ty (tyN T)] ∧ Rep G ι H d v ∧ RS G ι st H ∧ DL.isiD d T st = some b ∧ Q (.bl b) H
theorem call_isiD (hK : X.K = G.K) (T : DL.Ty) : CallR X (.builtin "isinstance") (tIsi G T) := by
  intro pins s σ H xs us Q I rr h
  obtain ⟨ι, d, v, st, b, rfl, r, S, e, k⟩ := h
  obtain ⟨n, h1, h2⟩ := isi_kit e
  exact call_isi pins s σ H _ us Q I rr ⟨v, .ty (tyN T), .type n, .type (tyN T), b, rfl, .ty _, ty_rep hK S r h1, kit_ty h2, k⟩

/-! ### list(..), append, join -/
theorem fl_seq (hK : X.K = G.K) {ns : List Int} {v : V} (r : Rep G ι H (.fl ns) v) : ∃ a, v = .ref a ∧ SqL X.K H a (ns.map V.int) := by
  obtain ⟨a, rfl, h⟩ := r
  rcases h with ⟨o, h⟩ | h
  · exact ⟨a, rfl, .inl (.inr ⟨o, h⟩)⟩
  · exact ⟨a, rfl, .inr (by rw [hK]; exact h)⟩
theorem call_listD (hK : X.K = G.K) : CallR X (.type "list") (tVN G DL.listD) := by
  intro pins s σ H xs us Q I rr ⟨ι, ds, st, d, st', r, S, e, k⟩
  unfold DL.listD at e
  split at e
  · rename_i ns
    cases e
    obtain ⟨v, rfl, r1⟩ := r.one
    obtain ⟨a, rfl, h⟩ := fl_seq hK r1
    exact call_list_of pins s σ H _ us Q I rr ⟨a, _, rfl, .inl h, fin_lst S RepL.ints k⟩
  · split at e
    · rename_i x _ ys hys
      cases e
      obtain ⟨v, rfl, r1⟩ := r.one
      obtain ⟨a, vs, rfl, h2, h3⟩ := items_rep hK S r1 hys
      exact call_list_of pins s σ H _ us Q I rr ⟨a, vs, rfl, h3.imp id (fun h => h.1), fin_lst S h2 k⟩
    · cases e
  · cases e
/-- a method by data -/
def tMe (G : Gl) (f : D → List D → Store → Option (D × Store)) : V → List V → Hp → VK → Prop := fun x xs H Q => ∃ ι d0 ds st d st', Rep G ι H d0 x ∧ RepL G ι H ds xs ∧ RS G ι st H ∧ f d0 ds st = some (d, st') ∧
  ∀ v H' ι', Ext ι H ι' H' → RS G ι' st' H' → Rep G ι' H' d v → Q v H'
theorem mt_appendD : MtR X "list.append" (tMe G DL.appendD) := by
  intro pins s σ H x xs v us Q I rx rs ⟨ι, d0, ds, st, d, st', r0, r, S, e, k⟩
  unfold DL.appendD at e
  split at e
  · split at e
    · rename_i l y ys hl
      split at e
      · rename_i hz
        cases e
        obtain ⟨a, rfl, ha⟩ := r0
        obtain ⟨w, rfl, r1⟩ := r.one
        obtain ⟨vs, q1, h2⟩ := S.lst hl ha
        have E := Ext.write (u := .lst (vs ++ [w])) ha q1 (fun z => z)
        refine mt_append pins s σ H _ _ v us Q I rx rs ⟨a, vs, w, rfl, rfl, q1, by rw [← h2.length]; exact lineLt (of_decide_eq_true hz), k _ _ ι E (S.write ha q1 (fun z => z) ⟨_, upd_same, ?_⟩) rfl⟩
        exact (h2.append (RepL.single r1)).mono E
      · cases e
    · cases e
  · cases e
theorem glue_fold (sep : List Nat) : ∀ (zs : List (List Nat)) (acc : List Nat), (zs.map sS).foldl (fun (acc : Array Nat) (p : Str) => acc ++ (sS sep).cps ++ p.cps) acc.toArray = (acc ++ (zs.map (sep ++ ·)).flatten).toArray
  | [], acc => by simp
  | z :: zs, acc => by
    rw [List.map_cons, List.foldl_cons]
    have : acc.toArray ++ (sS sep).cps ++ (sS z).cps = (acc ++ (sep ++ z)).toArray := by simp [sS]
    rw [this, glue_fold sep zs]
    simp
theorem join_flat (sep : List Nat) : ∀ (x : List Nat) (r : List (List Nat)), DL.join sep (x :: r) = x ++ (r.map (sep ++ ·)).flatten
  | x, [] => by simp [DL.join]
  | x, y :: r => by
    rw [DL.join, join_flat sep y r]
    simp
theorem glued_eq (sep : List Nat) (zs : List (List Nat)) : Txt.join (sS sep) (zs.map sS) = sS (DL.join sep zs) := by
  cases zs with
  | nil => rfl
  | cons x r =>
    rw [join_flat]
    show (⟨(r.map sS).foldl (fun (acc : Array Nat) (p : Str) => acc ++ (sS sep).cps ++ p.cps) x.toArray⟩ : Str) = _
    rw [glue_fold]
    rfl
theorem joinSize_ge (sep : List Nat) : ∀ zs : List (List Nat), (DL.join sep zs).length ≤ DL.joinSize sep zs ∧ ((zs.map sS).map (·.length)).sum + (zs.map sS).length * (sS sep).length = DL.joinSize sep zs
  | [] => by simp [DL.join, DL.joinSize]
  | [x] => by
    simp [DL.join, DL.joinSize, sS_len]
  | x :: y :: r => by
    obtain ⟨h1, h2⟩ := joinSize_ge sep (y :: r)
    constructor
    · rw [DL.join, DL.joinSize, List.length_append, List.length_append]; omega
    · rw [DL.joinSize, List.map_cons, List.map_cons, List.sum_cons, List.length_cons, Nat.add_mul, ← h2, sS_len, sS_len]
      omega
theorem strOk_join (sep : List Nat) (hs : PyData.strOk (sS sep) = true) : ∀ zs : List (List Nat), (∀ x ∈ zs, PyData.strOk (sS x) = true) → PyData.strOk (sS (DL.join sep zs)) = true
  | [], _ => by simp [DL.join, sS, PyData.strOk]
  | [x], h => h x (by simp)
  | x :: y :: r, h => by
    rw [DL.join]
    exact strOk_app (h x (by simp)) (strOk_app hs (strOk_join sep hs (y :: r) fun z hz => h z (List.mem_cons_of_mem _ hz)))
theorem mt_joinD (hK : X.K = G.K) : MtR X "str.join" (tMe G DL.joinD) := by
  intro pins s σ H x xs v us Q I rx rs ⟨ι, d0, ds, st, d, st', r0, r, S, e, k⟩
  unfold DL.joinD at e
  split at e
  · rename_i sep y
    split at e
    · rename_i ys hys
      split at e
      · rename_i zs hzs
        split at e
        · rename_i hz
          cases e
          obtain ⟨rfl, l1, o1⟩ := r0
          obtain ⟨w, rfl, r1⟩ := r.one
          obtain ⟨a, vs, rfl, h2, h3⟩ := items_rep hK S r1 hys
          obtain ⟨rfl, o2⟩ := strs_rep h2 hzs
          obtain ⟨g1, g2⟩ := joinSize_ge sep zs
          have hz' : DL.joinSize sep zs ≤ 1000000 := of_decide_eq_true hz
          refine mt_join pins s σ H _ _ v us Q I rx rs ⟨sS sep, a, zs.map sS, rfl, rfl, h3.imp id (fun h => h.1), by rw [g2]; omega, k _ _ ι Ext.refl S ⟨by rw [glued_eq], lineM (by omega), strOk_join sep o1 zs o2⟩⟩
        · cases e
      · cases e
    · cases e
  · cases e

/-! ### stores -/
def tSetD (G : Gl) : V → V → V → Hp → (Hp → Prop) → Prop := fun o i v H Q => ∃ ι d0 d1 d2 st st', Rep G ι H d0 o ∧ Rep G ι H d1 i ∧ Rep G ι H d2 v ∧ RS G ι st H ∧ DL.setXD G.kt d0 d1 d2 st = some st' ∧
  ∀ H' ι', Ext ι H ι' H' → RS G ι' st' H' → Q H'
theorem set_D (hK : X.K = G.K) (hu : X.A.units + 64 < cLine) : PSet X (tSetD G) := by
  intro pins s σ H o i v ov iv u Q I ro ri rv ⟨ι, d0, d1, d2, st, st', r0, r1, r2, S, e, k⟩
  unfold DL.setXD at e
  split at e
  · rename_i l
    split at e
    · rename_i xs hl
      split at e
      · rename_i j
        split at e
        · rename_i hj
          cases e
          obtain ⟨a, rfl, ha⟩ := r0
          obtain rfl : i = V.int j := r1
          obtain ⟨vs, q1, h2⟩ := S.lst hl ha
          have E := Ext.write (u := .lst (vs.set j.toNat v)) ha q1 (fun z => z)
          refine set_list pins s σ H _ _ v ov iv u Q I ro ri rv ⟨a, vs, j, j.toNat, rfl, rfl, q1, ?_, k _ ι E (S.write ha q1 (fun z => z) ⟨_, upd_same, (h2.set _ r2).mono E⟩)⟩
          unfold ixN
          rw [if_pos hj.1, if_pos (by rw [← h2.length]; exact hj.2)]
        · cases e
      · cases e
    · rename_i tk kvs hl
      split at e
      · rename_i hc
        obtain ⟨c1, c2, c3⟩ := hc
        cases e
        obtain ⟨a, rfl, ha⟩ := r0
        cases ro
        have hcell := S.get hl ha
        cases tk with
        | false =>
          obtain ⟨ks, g1, g2⟩ := hcell
          obtain ⟨kk, hkk⟩ := isK_some (show DL.isK d1 = true from c2)
          have ei := keyK_rep r1 hkk
          subst ei
          have E := Ext.write (u := .dK (putK ks kk v)) ha g1 (fun z => z)
          refine d_setItem (E := X.xe) (A := X.A) (Q := fun _ s' => ∃ H', Inv X pins σ H' s' ∧ Q H') (by omega) I (DPut.k g1 (by rw [← g2.length]; exact lineLt (of_decide_eq_true c1))) ri rv fun s' I' => ⟨_, I', k _ ι E (S.write ha g1 (fun z => z) ⟨_, upd_same, (put_rep same_key hkk r2 g2).mono E⟩)⟩
        | true =>
          obtain ⟨ks, g1, g2⟩ := hcell
          obtain ⟨kk, hkk⟩ := keyT_some c2
          cases d1 with
          | tup ds =>
            obtain ⟨b, vs, rfl, h1, h2⟩ := r1
            rcases h1 with h1 | ⟨_, d, hd, hs⟩
            · have evs := keysT_rep h2 hkk
              subst evs
              have E := Ext.write (u := .dT (putK ks kk v)) ha g1 (fun z => z)
              refine d_setItem (E := X.xe) (A := X.A) (Q := fun _ s' => ∃ H', Inv X pins σ H' s' ∧ Q H') (by omega) I (DPut.t g1 h1 (by rw [← g2.length]; exact lineLt (of_decide_eq_true c1))) ri rv fun s' I' => ⟨_, I', k _ ι E (S.write ha g1 (fun z => z) ⟨_, upd_same, (put_rep same_keyT hkk r2 g2).mono E⟩)⟩
            · have := List.any_eq_false.mp c3 d hd
              exact absurd hs this
          | _ => cases hkk
      · cases e
    · cases e
  · cases e
end
end DS

set_option Elab.async false
set_option linter.all false
set_option maxRecDepth 100000
set_option maxHeartbeats 4000000
/-! readings by data: the judgements' combinators -/
namespace DS
open PySem PySem.Spec PyProof.Rows L2
open DL (D Cell Store DX Res SRes)

def XRep (G : Gl) (ι : List Addr) (H : Hp) (x : DX) (cls : Value) (dd : Option Addr) : Prop :=
  ∃ C a fs, G.xa x.cls = some C ∧ cls = .ref C ∧ dd = some a ∧ H a = some (.xd fs) ∧ ∀ n d, x.flds.lookup n = some d → ∃ v, fs.lookup (Str.ofString n) = some v ∧ Rep G ι H d v

/-- what is wanted behind: R tells how the answer stands for the data -/
def RPost (G : Gl) {α β : Type} (W : WX) (R : α → β → List Addr → Hp → Prop) (σ : L2.St) (ι : List Addr) (H : Hp) (r : Res α) (Q : β → Hp → Prop) : Prop :=
  match r with
  | .ok d st' => ∀ b H' ι', Ext ι H ι' H' → RS G ι' st' H' → R d b ι' H' → Q b H'
  | .exc x st' => ∀ cls dd H' ι', Ext ι H ι' H' → RS G ι' st' H' → XRep G ι' H' x cls dd → W cls dd σ H'
  | .bad => False
/-- a reading by data -/
def tG (G : Gl) {α β : Type} (W : WX) (R : α → β → List Addr → Hp → Prop) (m : DL.Env → Store → Res α) : L2.St → Hp → (β → Hp → Prop) → Prop := fun σ H Q =>
  ∃ ι ρ st, RepEnv G ι H ρ σ ∧ RS G ι st H ∧ RPost G W R σ ι H (m ρ st) Q
abbrev RD (G : Gl) : D → V → List Addr → Hp → Prop := fun d v ι H => Rep G ι H d v
abbrev RA (G : Gl) : List D → List V → List Addr → Hp → Prop := fun d v ι H => RepL G ι H d v
abbrev RB : Bool → Bool → List Addr → Hp → Prop := fun a b _ _ => b = a
abbrev RO : Option Int → Option Int → List Addr → Hp → Prop := fun a b _ _ => b = a
abbrev tD (G : Gl) (W : WX) (m : DL.Env → Store → Res D) : TE := tG G W (RD G) m
abbrev tDT (G : Gl) (W : WX) (m : DL.Env → Store → Res Bool) : TT := tG G W RB m
abbrev tDA (G : Gl) (W : WX) (m : DL.Env → Store → Res (List D)) : TA := tG G W (RA G) m
abbrev tDO (G : Gl) (W : WX) (m : DL.Env → Store → Res (Option Int)) : TO := tG G W RO m

section
variable {G : Gl} {X : Cx} {ι ι' : List Addr} {H H' : Hp} {st : Store} {W : WX} {α β γ δ : Type} {R : α → β → List Addr → Hp → Prop} {R' : γ → δ → List Addr → Hp → Prop} {σ : L2.St} {ρ : DL.Env}
theorem RPost.ext {r : Res α} {Q : β → Hp → Prop} (h : RPost G W R σ ι H r Q) (e : Ext ι H ι' H') : RPost G W R σ ι' H' r Q := by
  cases r with
  | ok d st' => exact fun b H2 ι2 e2 => h b H2 ι2 (e.trans e2)
  | exc x st' => exact fun c d H2 ι2 e2 => h c d H2 ι2 (e.trans e2)
  | bad => exact h
/-- first this, then that -/
theorem tG_bind {m : DL.Env → Store → Res α} {f : α → Store → Res γ} {K : β → Hp → Prop} {Q : δ → Hp → Prop} (hρ : RepEnv G ι H ρ σ) (S : RS G ι st H) (h : RPost G W R' σ ι H ((m ρ st).bind f) Q)
    (k : ∀ d st1 x H1 ι1, Ext ι H ι1 H1 → RS G ι1 st1 H1 → R d x ι1 H1 → RPost G W R' σ ι1 H1 (f d st1) Q → K x H1) : tG G W R m σ H K := by
  refine ⟨ι, ρ, st, hρ, S, ?_⟩
  cases e : m ρ st with
  | ok d st1 =>
    rw [e] at h
    exact fun b H1 ι1 e1 S1 r1 => k d st1 b H1 ι1 e1 S1 r1 (RPost.ext h e1)
  | exc x st1 => rw [e] at h; exact h
  | bad => rw [e] at h; exact h
theorem tG_imp {m m' : DL.Env → Store → Res α} {Q Q' : β → Hp → Prop} (h : tG G W R m σ H Q) (e : ∀ ρ st, m ρ st = m' ρ st) (q : ∀ b H, Q b H → Q' b H) : tG G W R m' σ H Q' := by
  obtain ⟨ι, ρ, st, hρ, S, h⟩ := h
  refine ⟨ι, ρ, st, hρ, S, ?_⟩
  rw [← e]
  cases e : m ρ st with
  | ok d st1 => rw [e] at h; exact fun b H1 ι1 e1 S1 r1 => q _ _ (h b H1 ι1 e1 S1 r1)
  | exc x st1 => rw [e] at h; exact h
  | bad => rw [e] at h; exact h
theorem PEi {e : Expr} {t t' : TE} (h : PE X e t) (i : ∀ σ H Q, t' σ H Q → t σ H Q) : PE X e t' := ⟨fun pins s σ H Q I q => h.run pins s σ H Q I (i σ H Q q)⟩
theorem PTi {e : Expr} {t t' : TT} (h : PT X e t) (i : ∀ σ H Q, t' σ H Q → t σ H Q) : PT X e t' := ⟨fun pins s σ H Q I q => h.run pins s σ H Q I (i σ H Q q)⟩
theorem PWi {e : Expr} {t t' : TT} (h : PW X e t) (i : ∀ σ H Q, t' σ H Q → t σ H Q) : PW X e t' := ⟨fun wh pins s σ H Q I q => h.run wh pins s σ H Q I (i σ H Q q)⟩
theorem PAi {e : List Expr} {t t' : TA} (h : PA X e t) (i : ∀ σ H Q, t' σ H Q → t σ H Q) : PA X e t' := ⟨fun p pins s σ H Q I q => h.run p pins s σ H Q I (i σ H Q q)⟩
theorem PSi {e : Stmt} {t t' : TS} (h : PS X e t) (i : ∀ D σ H, t' D σ H → t D σ H) : PS X e t' := ⟨fun pins s σ H D I q => h.run pins s σ H D I (i D σ H q)⟩
theorem PSsi {e : List Stmt} {t t' : TS} (h : PSs X e t) (i : ∀ D σ H, t' D σ H → t D σ H) : PSs X e t' := ⟨fun pins s σ H D I q => h.run pins s σ H D I (i D σ H q)⟩
/-- the end of a value-level operation -/
theorem ofV_post {o : Option (D × Store)} {Q : VK} (h : RPost G W (RD G) σ ι H (DL.ofV o) Q) : ∃ d st', o = some (d, st') ∧ ∀ v H' ι', Ext ι H ι' H' → RS G ι' st' H' → Rep G ι' H' d v → Q v H' := by
  cases o with
  | none => exact h.elim
  | some p => exact ⟨p.1, p.2, rfl, h⟩
theorem ofO_post {α' : Type} {o : Option α'} {f : α' → α} {Q : β → Hp → Prop} (h : RPost G W R σ ι H (DL.ofO o st f) Q) : ∃ b, o = some b ∧ ∀ v H' ι', Ext ι H ι' H' → RS G ι' st H' → R (f b) v ι' H' → Q v H' := by
  cases o with
  | none => exact h.elim
  | some p => exact ⟨p, rfl, h⟩

/-! ### the forms -/
variable {a b c : Expr} {pos : Pos} {ma mb mc : DL.Env → Store → Res D}
theorem d_op {op : Operator} {f : D → D → Store → Option (D × Store)} (ho : OpR X (binaryOp op) (tV2 G f)) (ha : PE X a (tD G W ma)) (hb : PE X b (tD G W mb)) :
    PE X (.BinOp a op b pos) (tD G W fun ρ st => (ma ρ st).bind fun x st => (mb ρ st).bind fun y st => DL.ofV (f x y st)) :=
  PEi (pe_op ho ha hb) fun σ H Q ⟨ι, ρ, st, hρ, S, h⟩ => tG_bind hρ S h fun d st1 x H1 ι1 e1 S1 r1 h1 => tG_bind (hρ.mono e1) S1 h1 fun d2 st2 y H2 ι2 e2 S2 r2 h2 =>
    let ⟨d', st', e, k⟩ := ofV_post h2
    ⟨ι2, d, d2, st2, d', st', r1.mono e2, r2, S2, e, k⟩
theorem d_cmp {op : CmpOp} {f : D → D → Store → Option Bool} (ho : OpR X (compareOp op) (tC2 G f)) (ha : PE X a (tD G W ma)) (hb : PE X b (tD G W mb)) (hm : behindInMarks op b = false) :
    PE X (.Compare a [op] [b] pos) (tD G W fun ρ st => (ma ρ st).bind fun x st => (mb ρ st).bind fun y st => DL.ofO (f x y st) st .bl) :=
  PEi (pe_cmpR ho ha hb hm) fun σ H Q ⟨ι, ρ, st, hρ, S, h⟩ => tG_bind hρ S h fun d st1 x H1 ι1 e1 S1 r1 h1 => tG_bind (hρ.mono e1) S1 h1 fun d2 st2 y H2 ι2 e2 S2 r2 h2 =>
    let ⟨c, e, k⟩ := ofO_post h2
    ⟨ι2, d, d2, st2, c, r1.mono e2, r2, S2, e, k _ _ ι2 Ext.refl S2 rfl⟩
theorem d_cmpT {op : CmpOp} {f : D → D → Store → Option Bool} (ho : OpR X (compareOp op) (tC2 G f)) (ha : PE X a (tD G W ma)) (hb : PE X b (tD G W mb)) (hm : behindInMarks op b = false) :
    PT X (.Compare a [op] [b] pos) (tDT G W fun ρ st => (ma ρ st).bind fun x st => (mb ρ st).bind fun y st => DL.ofO (f x y st) st id) :=
  PTi (pt_cmpR ho ha hb hm) fun σ H Q ⟨ι, ρ, st, hρ, S, h⟩ => tG_bind hρ S h fun d st1 x H1 ι1 e1 S1 r1 h1 => tG_bind (hρ.mono e1) S1 h1 fun d2 st2 y H2 ι2 e2 S2 r2 h2 =>
    let ⟨c, e, k⟩ := ofO_post h2
    ⟨ι2, d, d2, st2, c, r1.mono e2, r2, S2, e, c, rfl, k _ _ ι2 Ext.refl S2 rfl⟩
/-- truth -/
theorem tru_rep (hK : X.K = G.K) (S : RS G ι st H) {x : D} {v : V} {k : Bool} (r : Rep G ι H x v) (e : DL.truD x st = some k) : TruV X.K v H k := by
  unfold DL.truD at e
  split at e
  · cases e; rw [show v = V.non from r]; rfl
  · cases e; rw [show v = V.bl _ from r]; rfl
  · cases e; rw [show v = V.int _ from r]; rfl
  · rename_i s
    cases e
    obtain ⟨rfl, l1, _⟩ := r
    refine ⟨by rw [sS_len]; exact l1, ?_⟩
    rw [sS_len]
    cases s with
    | nil => rfl
    | cons _ _ => simp; omega
  · rename_i xs
    cases e
    obtain ⟨a, vs, rfl, h1, h2⟩ := r
    refine .inr (.inl ⟨vs, sqT_of hK h1, ?_⟩)
    have := h2.length
    cases xs <;> cases vs <;> first | rfl | simp at this
  · split at e
    · rename_i l xs hl
      cases e
      obtain ⟨a, rfl, ha⟩ := r
      obtain ⟨vs, q1, h2⟩ := S.lst hl ha
      refine .inl ⟨vs, sqL_of q1, ?_⟩
      have := h2.length
      cases xs <;> cases vs <;> first | rfl | simp at this
    · cases e
  · cases e
/-- any expression as a test -/
theorem d_truth (hK : X.K = G.K) (ha : PE X a (tD G W ma)) (he : ∀ whole, isTrue a X.env whole = (do let v ← whole; standAt a.pos; holding [v] (truthy v))) :
    PT X a (tDT G W fun ρ st => (ma ρ st).bind fun x st => DL.ofO (DL.truD x st) st id) :=
  PTi (pt_truth ha he) fun σ H Q ⟨ι, ρ, st, hρ, S, h⟩ => tG_bind hρ S h fun d st1 x H1 ι1 e1 S1 r1 h1 =>
    let ⟨c, e, k⟩ := ofO_post h1
    ⟨c, tru_rep hK S1 r1 e, k _ _ ι1 Ext.refl S1 rfl⟩
theorem d_not {mt : DL.Env → Store → Res Bool} (ha : PT X a (tDT G W mt)) : PT X (.UnaryOp .Not a pos) (tDT G W fun ρ st => (mt ρ st).bind fun b st => .ok (!b) st) :=
  PTi (pt_not ha) fun σ H Q ⟨ι, ρ, st, hρ, S, h⟩ => tG_bind hρ S h fun d st1 x H1 ι1 e1 S1 r1 h1 => by
    subst r1
    exact h1 _ _ ι1 Ext.refl S1 rfl
/-- not x, as a value -/
theorem d_notV (hK : X.K = G.K) (ha : PE X a (tD G W ma)) : PE X (.UnaryOp .Not a pos) (tD G W fun ρ st => (ma ρ st).bind fun x st => DL.ofO (DL.truD x st) st fun b => .bl (!b)) := by
  refine ⟨fun pins s σ H Q I ⟨ι, ρ, st, hρ, S, h⟩ => ?_⟩
  have hu : UnR X (unaryOp .Not) fun x H Q => ∃ k, TruV X.K x H k ∧ Q (.bl (!k)) H := by
    intro pins s σ H x v Q I rx h
    refine not_of (thn (tru_ok pins s σ H x v (fun k H' => Q (.bl (!k)) H') I rx h) fun b s' ⟨H', I', q⟩ => ⟨.bl (!b), H', I', rfl, q⟩)
  refine (pe_un hu ha).run pins s σ H Q I (tG_bind hρ S h fun d st1 x H1 ι1 e1 S1 r1 h1 => ?_)
  obtain ⟨c, e, k⟩ := ofO_post h1
  exact ⟨c, tru_rep hK S1 r1 e, k _ _ ι1 Ext.refl S1 rfl⟩
theorem d_neg (ha : PE X a (tD G W ma)) : PE X (.UnaryOp .USub a pos) (tD G W fun ρ st => (ma ρ st).bind fun x st => match x with | .int i => .ok (.int (-i)) st | _ => .bad) :=
  PEi (pe_un un_neg ha) fun σ H Q ⟨ι, ρ, st, hρ, S, h⟩ => tG_bind hρ S h fun d st1 x H1 ι1 e1 S1 r1 h1 => by
    cases d <;> first | exact h1.elim | skip
    exact ⟨_, r1, h1 _ _ ι1 Ext.refl S1 rfl⟩
theorem d_ife {mt : DL.Env → Store → Res Bool} (hc : PT X c (tDT G W mt)) (ha : PE X a (tD G W ma)) (hb : PE X b (tD G W mb)) :
    PE X (.IfExp c a b pos) (tD G W fun ρ st => (mt ρ st).bind fun k st => if k = true then ma ρ st else mb ρ st) :=
  PEi (pe_ifExp hc ha hb) fun σ H Q ⟨ι, ρ, st, hρ, S, h⟩ => tG_bind hρ S h fun d st1 x H1 ι1 e1 S1 r1 h1 => by
    subst r1
    cases x with
    | true => exact ⟨ι1, ρ, st1, hρ.mono e1, S1, h1⟩
    | false => exact ⟨ι1, ρ, st1, hρ.mono e1, S1, h1⟩
theorem d_chain {o1 o2 : CmpOp} {f1 f2 : D → D → Store → Option Bool} (h1 : OpR X (compareOp o1) (tC2 G f1)) (h2 : OpR X (compareOp o2) (tC2 G f2)) (ha : PE X a (tD G W ma)) (hb : PE X b (tD G W mb)) (hc : PE X c (tD G W mc))
    (hm : lastMarks [o1, o2] [b, c] = false) : PE X (.Compare a [o1, o2] [b, c] pos) (tD G W fun ρ st => (ma ρ st).bind fun x st => (mb ρ st).bind fun y st => match f1 x y st with
      | some true => (mc ρ st).bind fun z st => DL.ofO (f2 y z st) st .bl
      | some false => .ok (.bl false) st
      | none => .bad) :=
  PEi (pe_chain h1 h2 ha hb hc hm) fun σ H Q ⟨ι, ρ, st, hρ, S, h⟩ => tG_bind hρ S h fun d st1 x H1 ι1 e1 S1 r1 g1 => tG_bind (hρ.mono e1) S1 g1 fun d2 st2 y H2 ι2 e2 S2 r2 g2 => by
    split at g2
    · rename_i e
      refine ⟨ι2, d, d2, st2, true, r1.mono e2, r2, S2, e, true, rfl, ?_⟩
      rw [if_pos rfl]
      refine tG_bind ((hρ.mono e1).mono e2) S2 g2 fun d3 st3 z H3 ι3 e3 S3 r3 g3 => ?_
      obtain ⟨c, e, k⟩ := ofO_post g3
      exact ⟨ι3, d2, d3, st3, c, r2.mono e3, r3, S3, e, k _ _ ι3 Ext.refl S3 rfl⟩
    · rename_i e
      refine ⟨ι2, d, d2, st2, false, r1.mono e2, r2, S2, e, false, rfl, ?_⟩
      rw [if_neg Bool.false_ne_true]
      exact g2 _ _ ι2 Ext.refl S2 rfl
    · exact g2.elim
theorem d_chainT {o1 o2 : CmpOp} {f1 f2 : D → D → Store → Option Bool} (h1 : OpR X (compareOp o1) (tC2 G f1)) (h2 : OpR X (compareOp o2) (tC2 G f2)) (ha : PE X a (tD G W ma)) (hb : PE X b (tD G W mb)) (hc : PE X c (tD G W mc))
    (hm : lastMarks [o1, o2] [b, c] = false) : PT X (.Compare a [o1, o2] [b, c] pos) (tDT G W fun ρ st => (ma ρ st).bind fun x st => (mb ρ st).bind fun y st => match f1 x y st with
      | some true => (mc ρ st).bind fun z st => DL.ofO (f2 y z st) st id
      | some false => .ok false st
      | none => .bad) :=
  PTi (pt_chain h1 h2 ha hb hc hm) fun σ H Q ⟨ι, ρ, st, hρ, S, h⟩ => tG_bind hρ S h fun d st1 x H1 ι1 e1 S1 r1 g1 => tG_bind (hρ.mono e1) S1 g1 fun d2 st2 y H2 ι2 e2 S2 r2 g2 => by
    split at g2
    · rename_i e
      refine ⟨ι2, d, d2, st2, true, r1.mono e2, r2, S2, e, true, rfl, ?_⟩
      rw [if_pos rfl]
      refine tG_bind ((hρ.mono e1).mono e2) S2 g2 fun d3 st3 z H3 ι3 e3 S3 r3 g3 => ?_
      obtain ⟨c, e, k⟩ := ofO_post g3
      exact ⟨ι3, d2, d3, st3, c, r2.mono e3, r3, S3, e, c, rfl, k _ _ ι3 Ext.refl S3 rfl⟩
    · rename_i e
      refine ⟨ι2, d, d2, st2, false, r1.mono e2, r2, S2, e, false, rfl, ?_⟩
      rw [if_neg Bool.false_ne_true]
      exact ⟨false, rfl, g2 _ _ ι2 Ext.refl S2 rfl⟩
    · exact g2.elim

/-! ### argument lists -/
theorem star1 {e : Expr} (es : List Expr) (env : PySem.Env) (h : PySem.W.isStarred e = false) : starEach (e :: es) env = (false, eval e env) :: starEach es env := by
  cases e <;> first | rfl | cases h
theorem d_nil : PA X [] (tDA G W fun ρ st => .ok [] st) := PAi pa_nil fun σ H Q ⟨ι, ρ, st, hρ, S, h⟩ => h [] H ι Ext.refl S rfl
theorem d_cons {es : List Expr} {me : DL.Env → Store → Res (List D)} (hs : PySem.W.isStarred a = false) (ha : PE X a (tD G W ma)) (he : PA X es (tDA G W me)) :
    PA X (a :: es) (tDA G W fun ρ st => (ma ρ st).bind fun x st => (me ρ st).bind fun xs st => .ok (x :: xs) st) :=
  PAi (pa_cons ha he (star1 es _ hs)) fun σ H Q ⟨ι, ρ, st, hρ, S, h⟩ => tG_bind hρ S h fun d st1 x H1 ι1 e1 S1 r1 h1 => tG_bind (hρ.mono e1) S1 h1 fun d2 st2 y H2 ι2 e2 S2 r2 h2 =>
    h2 _ _ ι2 Ext.refl S2 ⟨_, _, rfl, r1.mono e2, r2⟩
theorem d_tup {es : List Expr} {me : DL.Env → Store → Res (List D)} {k : Nat} (he : PA X es (tDA G W me)) : PE X (.Tuple es k pos) (tD G W fun ρ st => (me ρ st).bind fun xs st => if DL.okS xs.length = true then .ok (.tup xs) st else .bad) :=
  PEi (pe_tup he) fun σ H Q ⟨ι, ρ, st, hρ, S, h⟩ => tG_bind hρ S h fun ds st1 xs H1 ι1 e1 S1 r1 h1 => by
    split at h1
    · rename_i hz
      exact ⟨by rw [← RepL.length r1]; exact lineM (of_decide_eq_true hz), fin_tup S1 r1 h1⟩
    · exact h1.elim
theorem d_lst {es : List Expr} {me : DL.Env → Store → Res (List D)} (he : PA X es (tDA G W me)) : PE X (.List es pos) (tD G W fun ρ st => (me ρ st).bind fun xs st => if DL.okS xs.length = true then DL.ofV (DL.newL xs st) else .bad) :=
  PEi (pe_lst he) fun σ H Q ⟨ι, ρ, st, hρ, S, h⟩ => tG_bind hρ S h fun ds st1 xs H1 ι1 e1 S1 r1 h1 => by
    split at h1
    · rename_i hz
      exact ⟨by rw [← RepL.length r1]; exact lineM (of_decide_eq_true hz), fin_lst S1 r1 h1⟩
    · exact h1.elim
theorem d_dic {tk : Bool} : PE X (.Dict [] [] pos) (tD G W fun ρ st => .ok (.ref st.length) (st ++ [.dic tk []])) := by
  cases tk with
  | false =>
    exact PEi pe_dnewK fun σ H Q ⟨ι, ρ, st, hρ, S, h⟩ p hp => h _ _ (ι ++ [p]) (Ext.alloc hp) (S.alloc hp ⟨[], upd_same, rfl⟩) (Rep.alloc S)
  | true =>
    exact PEi pe_dnewT fun σ H Q ⟨ι, ρ, st, hρ, S, h⟩ p hp => h _ _ (ι ++ [p]) (Ext.alloc hp) (S.alloc hp ⟨[], upd_same, rfl⟩) (Rep.alloc S)
theorem d_ix (hK : X.K = G.K) (hu : X.A.units + 64 < cLine) (ha : PE X a (tD G W ma)) (hb : PE X b (tD G W mb)) (hs : PlainIx b) :
    PE X (.Subscript a b pos) (tD G W fun ρ st => (ma ρ st).bind fun x st => (mb ρ st).bind fun y st => DL.ofV (DL.ixD x y st)) :=
  PEi (pe_ix (ix_D hK hu) ha hb hs) fun σ H Q ⟨ι, ρ, st, hρ, S, h⟩ => tG_bind hρ S h fun d st1 x H1 ι1 e1 S1 r1 h1 => tG_bind (hρ.mono e1) S1 h1 fun d2 st2 y H2 ι2 e2 S2 r2 h2 =>
    let ⟨d', st', e, k⟩ := ofV_post h2
    ⟨ι2, d, d2, st2, d', st', r1.mono e2, r2, S2, e, k⟩
/-- a slice's part -/
theorem d_part {e : Expr} {me : DL.Env → Store → Res D} (he : PE X e (tD G W me)) : PO X (some e) (tDO G W fun ρ st => (me ρ st).bind fun x st => match x with | .int i => .ok (some i) st | _ => .bad) := by
  refine ⟨fun pins s σ H Q I ⟨ι, ρ, st, hρ, S, h⟩ => (po_some he).run pins s σ H Q I (tG_bind hρ S h fun d st1 x H1 ι1 e1 S1 r1 h1 => ?_)⟩
  cases d <;> first | exact h1.elim | skip
  exact ⟨_, r1, h1 _ _ ι1 Ext.refl S1 rfl⟩
theorem d_nopart : PO X none (tDO G W fun ρ st => .ok none st) := ⟨fun pins s σ H Q I ⟨ι, ρ, st, hρ, S, h⟩ => po_none.run pins s σ H Q I (h _ _ ι Ext.refl S rfl)⟩
theorem d_sl {lo hi : Option Expr} {ml mh : DL.Env → Store → Res (Option Int)} {p2 : Pos} (hK : X.K = G.K) (ha : PE X a (tD G W ma)) (hl : PO X lo (tDO G W ml)) (hh : PO X hi (tDO G W mh)) :
    PE X (.Subscript a (.Slice lo hi none p2) pos) (tD G W fun ρ st => (ma ρ st).bind fun x st => (ml ρ st).bind fun l st => (mh ρ st).bind fun h st => DL.ofV (DL.slD x l h st)) :=
  PEi (pe_slice (sl_D hK) ha hl hh) fun σ H Q ⟨ι, ρ, st, hρ, S, h⟩ => tG_bind hρ S h fun d st1 x H1 ι1 e1 S1 r1 h1 => tG_bind (hρ.mono e1) S1 h1 fun l st2 y H2 ι2 e2 S2 r2 h2 => tG_bind ((hρ.mono e1).mono e2) S2 h2 fun l' st3 z H3 ι3 e3 S3 r3 h3 => by
    subst r2 r3
    obtain ⟨d', st', e, k⟩ := ofV_post h3
    exact ⟨ι3, d, st3, d', st', (r1.mono e2).mono e3, S3, e, k⟩
/-- a built-in function, a built-in type called -/
theorem d_bi {id : String} {f : List D → Store → Option (D × Store)} {x : Str} {p : Pos} {e : Expr} {es : List Expr} {me : DL.Env → Store → Res (List D)} (hc : CallR X (.builtin id) (tVN G f)) (hg : L2.Gl X x) (hm : X.mg x = none) (hv : bootBuiltins x = some (.builtin id))
    (ha : PA X (e :: es) (tDA G W me)) (hs : PySem.W.isStarred e = false) (hn : x ≠ "__name__") (hdb : (x == ("__debug__" : Str)) = false) (hpl : (backTo pos (starEach es X.env)).any (·.1) = false) :
    PE X (.Call (.Name x p) (e :: es) [] pos) (tD G W fun ρ st => (me ρ st).bind fun xs st => DL.ofV (f xs st)) :=
  PEi (pe_callB hc hg hm hv ha hn hdb (star1 es _ hs) hpl) fun σ H Q ⟨ι, ρ, st, hρ, S, h⟩ => tG_bind hρ S h fun ds st1 xs H1 ι1 e1 S1 r1 h1 =>
    let ⟨d', st', e, k⟩ := ofV_post h1
    ⟨ι1, ds, st1, d', st', r1, S1, e, k⟩
theorem d_biT {id : String} {f : List D → Store → Option (D × Store)} {x : Str} {p : Pos} {e : Expr} {es : List Expr} {me : DL.Env → Store → Res (List D)} (hc : CallR X (.type id) (tVN G f)) (hg : L2.Gl X x) (hm : X.mg x = none) (hv : bootBuiltins x = some (.type id))
    (ha : PA X (e :: es) (tDA G W me)) (hs : PySem.W.isStarred e = false) (hn : x ≠ "__name__") (hdb : (x == ("__debug__" : Str)) = false) (hpl : (backTo pos (starEach es X.env)).any (·.1) = false) :
    PE X (.Call (.Name x p) (e :: es) [] pos) (tD G W fun ρ st => (me ρ st).bind fun xs st => DL.ofV (f xs st)) :=
  PEi (pe_callTy hc hg hm hv ha hn hdb (star1 es _ hs) hpl) fun σ H Q ⟨ι, ρ, st, hρ, S, h⟩ => tG_bind hρ S h fun ds st1 xs H1 ι1 e1 S1 r1 h1 =>
    let ⟨d', st', e, k⟩ := ofV_post h1
    ⟨ι1, ds, st1, d', st', r1, S1, e, k⟩
end
end DS

set_option Elab.async false
set_option linter.all false
set_option maxRecDepth 100000
set_option maxHeartbeats 4000000
/-! x[::-1] -/
namespace DS
open PySem PySem.Spec PyProof.Rows L2
open DL (D Cell Store DX Res SRes)
def revS (z : Str) : Str := ⟨z.cps.toList.reverse.toArray⟩
def tRevA (K : PySem.W.Frag) (te : TE) : TE := fun σ H Q => te σ H fun x H1 => (∃ z, x = .str z ∧ z.length ≤ sizeLine ∧ Q (.str (revS z)) H1) ∨ ∃ a xs, x = .ref a ∧ SqL K H1 a xs ∧ ∀ p, H1 p = none → Q (.ref p) (upd H1 p (.lst xs.reverse))
theorem sidx_rev (n : Nat) : Builtin.Str.strSliceIndices none none (-1) n = (List.range n).reverse := by
  have : Builtin.Str.strSliceIndices none none (-1) n = sliceRange ((n : Int) - 1) (-1) (-1) := by
    first
      | rfl
      | (unfold Builtin.Str.strSliceIndices; simp)
  rw [this, PySem.W.krv_sliceRange, PySem.W.krv_range]
theorem pe_revA {X : Cx} {e : Expr} {te : TE} {k : Nat} {p1 p2 p3 pos : Pos} (he : PE X e te) : PE X (.Subscript e (.Slice none none (some (.UnaryOp .USub (.Constant (.int 1) k p1) p2)) p3) pos) (tRevA X.K te) := by
  refine ⟨fun pins s σ H Q I h => ?_⟩
  refine Subscript_ (thn (he.run pins s σ H _ I h) fun v s1 ⟨x, H1, I1, r1, q1⟩ => ?_)
  have hst : PO X (some (.UnaryOp .USub (.Constant (.int 1) k p1) p2)) (tPart (tUn (rU fun i => .int (-i)) (tC (.int 1)))) := po_some (pe_un un_neg pe_int)
  refine wpAny_Slice (thn (po_none.run pins s1 σ H1 (fun o H2 => o = none ∧ H2 = H1) I1 ⟨rfl, rfl⟩) fun vl s2 ⟨l, H2, I2, pl, el, e2⟩ => ?_)
  subst el e2
  refine thn (po_none.run pins s2 σ H2 (fun o H3 => o = none ∧ H3 = H2) I2 ⟨rfl, rfl⟩) fun vu s3 ⟨u, H3, I3, pu, eu, e3⟩ => ?_
  subst eu e3
  refine thn (hst.run pins s3 σ H3 (fun o H4 => o = some (-1) ∧ H4 = H3) I3 ⟨1, rfl, -1, rfl, rfl, rfl⟩) fun vs s4 ⟨o, H4, I4, ps, eo, e4⟩ => ?_
  subst eo e4
  have I5 : Inv X pins σ H4 { s4 with heap := s4.heap.push { cls := .type "slice", data := .fields #[vl, vu, vs] } } := I4.kept (t' := s4.toks) fun b ob q => Heap.get?_push_of_some _ q
  rcases q1 with ⟨z, rfl, hz, q⟩ | ⟨a, xs, ex, hx, q⟩
  · obtain ⟨t, rfl⟩ := r1
    obtain ⟨l, rfl, hl⟩ := IsPart.raw pl
    obtain ⟨u, rfl, hu⟩ := IsPart.raw pu
    obtain ⟨st, rfl, hst'⟩ := IsPart.raw ps
    show wpAny (model X.prog X.w) X.A (subscriptTail e (.Slice none none (some (.UnaryOp .USub (.Constant (.int 1) k p1) p2)) p3) (.str z t) (.ref s4.heap.objs.size)) (EP X pins σ Q) X.xe _
    refine tail_any (ops := [.str z t, .ref s4.heap.objs.size]) (typeIs_str _ z t) (F.slot_str_getitem.lookup) ?_ (by with_unfolding_all rfl)
    refine wpAny_getItem_str_slice (l := l) (u := u) (st := st) ⟨_, Heap.get?_push_size _ rfl, rfl, rfl⟩ (by rw [hst']; rfl) ?_
    unfold sliceMade slicePicked
    rw [hl, hu, hst']
    show Made.post (if (((-1 : Int) == 1) && _) = true then _ else Made.str ⟨((Builtin.Str.strSliceIndices none none (-1) z.length).filterMap (z.cps[·]?)).toArray⟩) (EP X pins σ Q) _
    rw [sidx_rev]
    have hall : ((List.range z.length).reverse.filterMap (z.cps[·]?)) = z.cps.toList.reverse := by
      rw [List.filterMap_reverse]
      congr 1
      exact PySem.W.krv_all z.cps
    rw [hall]
    rw [if_neg (by simp)]
    refine ⟨?_, .str (revS z), H4, I5.tok _, ⟨_, rfl⟩, q⟩
    show (z.cps.toList.reverse.toArray).size ≤ sizeLine
    rw [List.size_toArray, List.length_reverse, Array.length_toList]
    exact hz
  · subst ex
    cases r1
    obtain ⟨its, r, ht, hz⟩ := I5.list hx
    have hlen := r.length
    show wpAny (model X.prog X.w) X.A (subscriptTail e (.Slice none none (some (.UnaryOp .USub (.Constant (.int 1) k p1) p2)) p3) (.ref a) (.ref s4.heap.objs.size)) (EP X pins σ Q) X.xe { s4 with heap := s4.heap.push { cls := .type "slice", data := .fields #[vl, vu, vs] } }
    refine tail_any (ops := [.ref a, .ref s4.heap.objs.size]) ht.isList.typeIs (PySem.slot_list_getitem.lookup) ?_ (by with_unfolding_all rfl)
    refine wpAny_getItem_list_slice ht.isList (Heap.IsSliceOf.new _ vl vu vs) pl pu ps (by decide) ?_ (by rw [List.size_toArray]; omega)
    rw [PySem.W.krv_pick]
    refine ⟨.ref _, _, I5.laid (t' := s4.toks) (o := .lst xs.reverse) (fun b ob q => Heap.get?_push_of_some _ q) (Nat.le_refl _) ?_, rfl, q _ (I5.hok.fresh (Nat.le_refl _))⟩
    exact ⟨by rw [List.length_reverse]; exact hz, _, 0, r.reverse, Heap.get?_push_size _ rfl⟩
variable {G : Gl} {X : Cx} {W : WX}
theorem d_rev {e : Expr} {ma : DL.Env → Store → Res D} {k : Nat} {p1 p2 p3 pos : Pos} (hK : X.K = G.K) (ha : PE X e (tD G W ma)) :
    PE X (.Subscript e (.Slice none none (some (.UnaryOp .USub (.Constant (.int 1) k p1) p2)) p3) pos) (tD G W fun ρ st => (ma ρ st).bind fun x st => DL.ofV (DL.revD x st)) :=
  PEi (pe_revA ha) fun σ H Q ⟨ι, ρ, st, hρ, S, h⟩ => tG_bind hρ S h fun d st1 x H1 ι1 e1 S1 r1 h1 => by
    obtain ⟨d', st', e, k⟩ := ofV_post h1
    unfold DL.revD at e
    split at e
    · rename_i z
      cases e
      obtain ⟨rfl, l1, o1⟩ := r1
      refine .inl ⟨sS z, rfl, by rw [sS_len]; exact l1, k _ _ ι1 Ext.refl S1 ⟨?_, by rw [List.length_reverse]; exact l1, strOk_of_sub o1 fun c hc => by simpa using hc⟩⟩
      unfold revS
      rw [sS_cps]
      rfl
    · rename_i l
      split at e
      · rename_i xs hl
        cases e
        obtain ⟨a, rfl, ha⟩ := r1
        obtain ⟨vs, q1, h2⟩ := S1.lst hl ha
        exact .inr ⟨a, vs, rfl, sqL_of q1, fin_lst S1 h2.reverse k⟩
      · cases e
    · cases e
end DS

set_option Elab.async false
set_option linter.all false
set_option maxRecDepth 100000
set_option maxHeartbeats 4000000
namespace DS
open PySem PySem.Spec PyProof.Rows L2
open DL (D Cell Store DX Res SRes)

/-! ### enumerate(a tuple) -/
set_option maxHeartbeats 4000000 in
theorem enum_newB {v : Value} {o : Obj} {P : Heap → Prop} (B : Begins v o P) :
    Meets (Builtin.«enumerate.__new__» ⟨[.type "enumerate", v], []⟩) (fun _ R s => P s.heap ∧
      R (.ok (.ret (.ref (s.heap.push o).objs.size))) { s with heap := (s.heap.push o).push { cls := .type "enumerate", data := .fields #[.none, .bool false, .ref s.heap.objs.size, rawInt 0, .none, .none] } }) :=
  .of_wp fun prog w A R s h => by
    obtain ⟨hp, g, d, tk, os⟩ := s
    obtain ⟨h1, h⟩ := h
    have hsub := sub_enumerate
    have go : ∀ {A' : Around} {E : Value → Shared → Prop} {Q : Value → Shared → Prop}, Q (.ref hp.objs.size) ⟨hp.push o, g, d, tk, os⟩ → wpAny (model prog w) A' (pyIter v) Q E ⟨hp, g, d, tk, os⟩ := fun q => B.iter prog w _ _ ⟨hp, g, d, tk, os⟩ _ h1 q
    wp_walk using go
    refine wpAny_stack_any fun st => wpAny_pure ?_
    split
    · rename_i c _ _ _ _ _
      cases (c == Value.type "enumerate") <;> (wp_walk using go; exact ⟨_, rfl, h⟩)
    · wp_walk using go
      exact ⟨_, rfl, h⟩
theorem enum_begin1 {prog : Program} {w : World} {A : Around} {E : Value → Shared → Prop} {s : Shared} {v : Value} {o : Obj} {P : Heap → Prop} {Q : Value → Shared → Prop} (B : Begins v o P) (h1 : P s.heap)
    (h : ∀ h', IsEnum h' (s.heap.objs.size + 1) s.heap.objs.size 0 .none → h'.get? s.heap.objs.size = some o → (∀ b u, s.heap.get? b = some u → h'.get? b = some u) → Q (.ref (s.heap.objs.size + 1)) { s with heap := h' }) :
    wpAny (model prog w) A (call (.type "enumerate") [v]) Q E s := by
  refine callType_new F.called_enumerate (by decide) (F.typeCall_enumerate_1 _) (F.newCall_enumerate_1 _) (fun ob => F.args_object_init_2 ob _) F.entry_enumerate_new (enum_newB B) ⟨h1, ?_⟩
  have z1 : (s.heap.push o).objs.size = s.heap.objs.size + 1 := Heap.size_push _ _
  have g2 := Heap.get?_push_size (s.heap.push o) (o := { cls := .type "enumerate", data := .fields #[.none, .bool false, .ref s.heap.objs.size, rawInt 0, .none, .none] }) rfl
  show _ ∧ _
  rw [z1] at g2 ⊢
  exact ⟨⟨_, g2, rfl⟩, h _ g2 (Heap.get?_push_of_some _ (Heap.get?_push_size _ B.free)) fun b u e => Heap.get?_push_of_some _ (Heap.get?_push_of_some _ e)⟩

/-- the tuple at a, each item in a new pair -/
def IteT (K : PySem.W.Frag) (a : Addr) : It :=
  ⟨fun i H => ∃ (xs : List V) (x : V), SqT K H a xs ∧ xs[i]? = some x, fun i H v H' => ∃ T x, v = .ref T ∧ H T = none ∧ H' = upd H T (.tup [.int (i : Nat), x]) ∧ ∀ xs, SqT K H a xs → xs[i]? = some x,
    fun i H => ∃ xs : List V, SqT K H a xs ∧ xs.length ≤ i⟩
theorem turn_enumT {P : Program} {w : World} {K : PySem.W.Frag} {elts : List Expr} {kk : Nat} {tpos : Pos} (a e it : Addr) :
    Turn P w K (.Tuple elts kk tpos) (IteT K a) [e, it] e (fun i h => (∃ old, IsEnum h e it ((i : Nat) : Int) old) ∧ h.IsTupleIter it a i ∧ e ≠ it ∧ a ≠ it ∧ a ≠ e) where
  mem := by simp
  obj := fun i h st b hb => by
    obtain ⟨⟨old, he⟩, ⟨o, ho, hc, hd⟩, _⟩ := st
    rcases List.mem_cons.mp hb with z | z
    · exact ⟨_, by rw [z]; exact he, fun v q => (by cases q)⟩
    · rw [List.mem_singleton.mp z]
      exact ⟨o, ho, fun v q => by rw [hd] at q; cases q⟩
  keep := fun i h h' st k => ⟨let ⟨old, he⟩ := st.1; ⟨old, k e (by simp) _ he⟩, st.2.1.at fun o q => k it (by simp) o q, st.2.2⟩
  item := by
    intro X hP hw hK hc i pins s σ H E I hf st hg
    subst hP hw hK
    obtain ⟨⟨old, he⟩, hit, hne, hai, hae⟩ := st
    obtain ⟨xs, x, hq, hx⟩ := hg
    obtain ⟨its, rv, p, hz⟩ := I.tuple hq
    obtain ⟨u, hu, ru⟩ := rv.get hx
    have hlt : i < its.toArray.size := by simpa using (List.getElem?_eq_some_iff.mp hu).1
    have hel : e < s.heap.objs.size := Heap.lt_size he
    have hil : it < s.heap.objs.size := by obtain ⟨_, q, _⟩ := hit; exact Heap.lt_size q
    have DD := Draws.tuple (prog := X.prog) (w := X.w) (A := X.A.in1) (I.ok.hd hc) it a hai its.toArray
    refine wpAny_pyNext_enum_itemD DD he ⟨hit, p⟩ hlt hne (by simp [hne, Ne.symm hae]) fun y h' tk hy ho hit' hT hsz hk => ?_
    have ey : y = u := by
      have : its.toArray[i]? = some u := by simpa using hu
      rw [this] at hy; exact (Option.some.inj hy).symm
    subst ey
    refine ⟨_, rfl, wpAny_letOwnedTupleGo_enum (s := { s with heap := h', toks := tk + 1 }) ho fun h'' he' sb => ?_⟩
    have hT2 : h''.get? s.heap.objs.size = some { cls := .type "tuple", data := .seq #[.int i tk, y] } := (sb.2 _ (Nat.ne_of_gt hel)).trans hT
    have new : ObjOk X.prog X.w (upd H s.heap.objs.size (.tup [.int (i : Nat), x])) h'' s.heap.objs.size (.tup [.int (i : Nat), x]) :=
      ⟨by show 2 ≤ sizeLine; decide, [.int i tk, y], .cons ⟨_, rfl⟩ (.cons ru .nil), ⟨_, hT2, rfl, _, rfl⟩⟩
    have I1 := I.turnedNew (t' := tk + 1) (ch := [e, it]) (fun b ob hb q => (sb.2 b (fun z => hb (by rw [z]; simp))).trans (hk b ob (fun z => hb (by rw [z]; simp)) (fun z => hb (by rw [z]; simp)) q)) hf (Nat.le_refl _) new
    refine ⟨.ref s.heap.objs.size, _, I1, rfl, ⟨_, x, rfl, I.hok.fresh (Nat.le_refl _), rfl, fun ys hy2 => by rw [I.tuple_inj hy2 hq]; exact hx⟩, ⟨⟨y, by rw [Int.natCast_add]; exact he'⟩, hit'.1.at fun o q => (sb.2 it (Ne.symm hne)).trans q, hne, hai, hae⟩, fun b hb => ?_⟩
    have hb' : b < s.heap.objs.size := by
      rcases List.mem_cons.mp hb with z | z
      · rw [z]; exact hel
      · rw [List.mem_singleton.mp z]; exact hil
    rw [upd_ne (Nat.ne_of_lt hb')]
    exact (hf b hb).1
  done := by
    intro X hP hw hK hc i pins s σ H E I hf st hg
    subst hP hw hK
    obtain ⟨⟨old, he⟩, hit, hne, hai, hae⟩ := st
    obtain ⟨xs, hq, hx⟩ := hg
    obtain ⟨its, rv, p, hz⟩ := I.tuple hq
    obtain ⟨f0, f1, f2, f3, f4, f5⟩ := hf it (by simp)
    have hl := rv.length
    -- the iterator stands at its end: one beyond is not met, so i is the length
    unfold pyNext
    have hT : s.TypeIs (.ref e) "enumerate" := ⟨_, he, rfl⟩
    refine wpAny_bind (wpAny_attempt (wpAny_callSpecial?_slot (name := Str.ofString "__next__") hT F.slot_enumerate_next (wpAny_call_entry F.slot_enumerate_next hT F.entry_enumerate_next ?_ (F.args_enumerate_next_1 _))))
    show wpAny _ _ (field (.ref e) 2 >>= _) _ _ _
    refine wpAny_bind (wpAny_field he rfl (x := .ref it) rfl ?_)
    refine wpAny_bind (wpAny_nextOf_tuple_end (I.ok.hd hc) hit p (by simp; omega) fun h' x hx1 hx2 => ?_)
    obtain ⟨o, ho, hcl⟩ := hx2
    refine wpAny_bind (wpAny_isInstance (T := "StopIteration") (b := true) ⟨o, ho, hcl⟩ isSubtype_stop ?_)
    exact wpAny_pure ⟨rfl, I.turned (t' := s.toks) (fun b o hb q => hx1 b o hb q) f0 f1 f3 f4 f5⟩
  self := fun A i s Q E st h => let ⟨⟨_, he⟩, _⟩ := st; wpAny_pyIter_enum he h
theorem pi_enumT {X : Cx} {e : Expr} {ta : TA} {p pos tpos : Pos} {elts : List Expr} {kk : Nat} (hg : L2.Gl X "enumerate") (hm : X.mg "enumerate" = none) (ha : PA X [e] ta) (hs : starEach [e] X.env = [(false, eval e X.env)]) :
    PI X (.Tuple elts kk tpos) (.Call (.Name "enumerate" p) [e] [] pos) (fun σ H R => ta σ H fun vs H1 => ∃ a xs, vs = [.ref a] ∧ SqT X.K H1 a xs ∧ R (IteT X.K a) H1) := by
  refine ⟨fun pins s σ H R I h => ?_⟩
  refine Call_ (ld_blt I hg hm boot_enumerate (PyProof.Rows.callWith_type1 (thn (ha.run pos pins s σ H _ I h) fun us s1 hq => ?_) hs rfl))
  obtain ⟨vs, H1, I1, r1, a, xs, rfl, hq, q⟩ := hq
  obtain ⟨u, rfl, ru⟩ := vals1 r1
  obtain rfl : u = Value.ref a := ru
  obtain ⟨its, rv, p', hz⟩ := I1.tuple hq
  refine enum_begin1 (begins_tuple a its.toArray) p' fun h' he hit hk => wpAny_pyIter_enum he ?_
  have hal : a < s1.heap.objs.size := p'.lt
  refine ⟨s1.heap.objs.size + 1, [s1.heap.objs.size + 1, s1.heap.objs.size], _, _, H1, rfl, I1.kept (t' := s1.toks) hk, turn_enumT a (s1.heap.objs.size + 1) s1.heap.objs.size, ⟨⟨.none, he⟩, ⟨_, hit, rfl, rfl⟩, Nat.succ_ne_self _, Nat.ne_of_lt hal, Nat.ne_of_lt (Nat.lt_succ_of_lt hal)⟩, fun b hb => ?_, q⟩
  have hle : s1.heap.objs.size ≤ b := by
    rcases List.mem_cons.mp hb with z | z
    · rw [z]; exact Nat.le_succ _
    · rw [List.mem_singleton.mp z]; exact Nat.le_refl _
  exact I1.fpOk hle (I1.hok.fresh hle)
end DS

set_option Elab.async false
set_option linter.all false
set_option maxRecDepth 100000
set_option maxHeartbeats 4000000
namespace DS
open PySem PySem.Spec PyProof.Rows L2
open DL (D Cell Store DX Res SRes)

/-- an iterator draws these data (while the guard stands) -/
def JRep (G : Gl) (J : It) (items : List D) (g : DL.Guard) (ι0 : List Addr) (H0 : Hp) : Prop := ∀ (i : Nat) ι st H, Ext ι0 H0 ι H → RS G ι st H → DL.GuardOk g st →
  (∀ d, items[i]? = some d → J.go i H ∧ ∀ x H', J.yld i H x H' → Ext ι H ι H' ∧ RS G ι st H' ∧ Rep G ι H' d x) ∧ (items.length ≤ i → J.stop i H)
abbrev RJ (G : Gl) : (List D × DL.Guard) → It → List Addr → Hp → Prop := fun p J ι H => JRep G J p.1 p.2 ι H
abbrev tI (G : Gl) (W : WX) (m : DL.Env → Store → Res (List D × DL.Guard)) : TI := tG G W (RJ G) m

section
variable {G : Gl} {X : Cx} {ι ι' : List Addr} {H H' : Hp} {st : Store} {W : WX} {σ : L2.St} {ρ : DL.Env} {K : PySem.W.Frag}

theorem sqT_mono {xs : List V} {a : Addr} (e : Ext ι H ι' H') (h : H a = some (.tup xs) ∨ KTup G.K a xs) : H' a = some (.tup xs) ∨ KTup G.K a xs := h.elim (fun h => .inl (e.imm a _ h trivial)) .inr
theorem sqT_K {xs : List V} {a : Addr} (hK : K = G.K) (h : H a = some (.tup xs) ∨ KTup G.K a xs) : SqT K H a xs := by
  rcases h with h | h
  · exact .inl (.inl h)
  · rw [hK]; exact .inr h
theorem tup_of {a : Addr} {xs : List V} {P : Prop} (h : H a = some (.tup xs) ∨ (KTup G.K a xs ∧ P)) : H a = some (.tup xs) ∨ KTup G.K a xs := h.imp id (fun h => h.1)
theorem J_tup (hK : K = G.K) {a : Addr} {vs : List V} {ds : List D} (h : H a = some (.tup vs) ∨ KTup G.K a vs) (r : RepL G ι H ds vs) : JRep G (Itt K a) ds none ι H := by
  intro i ι1 st1 H1 e S _
  have hq : SqT K H1 a vs := sqT_K hK (sqT_mono e h)
  refine ⟨fun d hd => ?_, fun hi => ⟨vs, hq, by rw [← r.length]; exact hi⟩⟩
  obtain ⟨v, hv, rv⟩ := r.get hd
  refine ⟨⟨vs, v, hq, hv⟩, fun x H' y => ?_⟩
  obtain ⟨rfl, y⟩ := y
  have := y vs hq
  rw [hv] at this; cases this
  exact ⟨Ext.refl, S, rv.mono e⟩
theorem J_lst {l : Nat} {a : Addr} {ds : List D} (ha : ι[l]? = some a) : JRep G (Itl K a) ds (some (l, ds)) ι H := by
  intro i ι1 st1 H1 e S g
  obtain ⟨vs, q1, r⟩ := S.lst g (e.get ha)
  have hq : SqL K H1 a vs := .inl (.inl q1)
  refine ⟨fun d hd => ?_, fun hi => ⟨vs, hq, by rw [← r.length]; exact hi⟩⟩
  obtain ⟨v, hv, rv⟩ := r.get hd
  refine ⟨⟨vs, v, hq, hv⟩, fun x H' y => ?_⟩
  obtain ⟨rfl, y⟩ := y
  have := y vs hq
  rw [hv] at this; cases this
  exact ⟨Ext.refl, S, rv⟩
theorem J_str {s : List Nat} (ho : PyData.strOk (sS s) = true) : JRep G (Its (sS s)) (s.map fun c => .str [c]) none ι H := by
  intro i ι1 st1 H1 e S _
  have hsz : (sS s).cps.size = s.length := by simp [sS]
  refine ⟨fun d hd => ?_, fun hi => by show (sS s).cps.size ≤ i; rw [hsz]; simpa using hi⟩
  rw [List.getElem?_map] at hd
  obtain ⟨c, hc, rfl⟩ := Option.map_eq_some_iff.mp hd
  refine ⟨by show i < (sS s).cps.size; rw [hsz]; exact (List.getElem?_eq_some_iff.mp hc).1, fun x H' y => ?_⟩
  obtain ⟨rfl, c', h1, rfl⟩ := y
  have : c' = c := by
    have h2 : (sS s).cps[i]? = s[i]? := by simp [sS]
    rw [h2, hc] at h1; exact (Option.some.inj h1).symm
  subst this
  refine ⟨Ext.refl, S, rfl, lineM (by simp), strOk_of_sub ho fun z hz => ?_⟩
  rw [List.mem_singleton.mp hz]
  exact List.mem_of_getElem? hc
theorem J_rng (lo : Int) (n : Nat) : JRep G (Itr lo n) (DL.rangeL lo n) none ι H := by
  intro i ι1 st1 H1 e S _
  refine ⟨fun d hd => ?_, fun hi => by show n ≤ i; simpa [DL.rangeL] using hi⟩
  unfold DL.rangeL at hd
  rw [List.getElem?_map] at hd
  obtain ⟨k, hk, rfl⟩ := Option.map_eq_some_iff.mp hd
  have hlt : i < n := by simpa using (List.getElem?_eq_some_iff.mp hk).1
  have ek : k = i := by
    rw [List.getElem?_range hlt] at hk; exact (Option.some.inj hk).symm
  subst ek
  refine ⟨hlt, fun x H' y => ?_⟩
  obtain ⟨rfl, rfl⟩ := y
  exact ⟨Ext.refl, S, rfl⟩
theorem J_rngD (lo : Int) (n : Nat) : JRep G (Itc lo (-1) n) (DL.rangeD lo n) none ι H := by
  intro i ι1 st1 H1 e S _
  refine ⟨fun d hd => ?_, fun hi => by show n ≤ i; simpa [DL.rangeD] using hi⟩
  unfold DL.rangeD at hd
  rw [List.getElem?_map] at hd
  obtain ⟨k, hk, rfl⟩ := Option.map_eq_some_iff.mp hd
  have hlt : i < n := by simpa using (List.getElem?_eq_some_iff.mp hk).1
  have ek : k = i := by
    rw [List.getElem?_range hlt] at hk; exact (Option.some.inj hk).symm
  subst ek
  refine ⟨hlt, fun x H' y => ?_⟩
  obtain ⟨rfl, rfl⟩ := y
  refine ⟨Ext.refl, S, ?_⟩
  show V.int _ = V.int _
  rw [Int.mul_neg, Int.mul_one, Int.sub_eq_add_neg]
theorem enumL_get : ∀ (ds : List D) (k i : Nat), (DL.enumL k ds)[i]? = (ds[i]?).map fun d => D.tup [.int ((k + i : Nat) : Int), d]
  | [], k, i => by simp [DL.enumL]
  | d :: ds, k, 0 => by simp [DL.enumL]
  | d :: ds, k, i + 1 => by
    rw [DL.enumL, List.getElem?_cons_succ, enumL_get ds (k + 1) i, List.getElem?_cons_succ]
    have : k + 1 + i = k + (i + 1) := by omega
    rw [this]
theorem enumL_len : ∀ (ds : List D) (k : Nat), (DL.enumL k ds).length = ds.length
  | [], k => rfl
  | d :: ds, k => by rw [DL.enumL, List.length_cons, enumL_len ds (k + 1)]; rfl
theorem J_enumL {l : Nat} {a : Addr} {ds : List D} (ha : ι[l]? = some a) : JRep G (Ite K a) (DL.enumL 0 ds) (some (l, ds)) ι H := by
  intro i ι1 st1 H1 e S g
  obtain ⟨vs, q1, r⟩ := S.lst g (e.get ha)
  have hq : SqL K H1 a vs := .inl (.inl q1)
  refine ⟨fun d hd => ?_, fun hi => ⟨vs, hq, by rw [← r.length]; rw [enumL_len] at hi; exact hi⟩⟩
  rw [enumL_get] at hd
  obtain ⟨d', hd', rfl⟩ := Option.map_eq_some_iff.mp hd
  obtain ⟨v, hv, rv⟩ := r.get hd'
  refine ⟨⟨vs, v, hq, hv⟩, fun x H' y => ?_⟩
  obtain ⟨T, x', rfl, hT, rfl, y⟩ := y
  have := y vs hq
  rw [hv] at this; cases this
  refine ⟨Ext.laid hT, S.laid hT, T, _, rfl, .inl upd_same, ⟨_, _, rfl, by rw [Nat.zero_add]; rfl, RepL.single (rv.mono (Ext.laid hT))⟩⟩
theorem J_enumT (hK : K = G.K) {a : Addr} {vs : List V} {ds : List D} (h : H a = some (.tup vs) ∨ KTup G.K a vs) (r : RepL G ι H ds vs) : JRep G (IteT K a) (DL.enumL 0 ds) none ι H := by
  intro i ι1 st1 H1 e S g
  have hq : SqT K H1 a vs := sqT_K hK (sqT_mono e h)
  refine ⟨fun d hd => ?_, fun hi => ⟨vs, hq, by rw [← r.length]; rw [enumL_len] at hi; exact hi⟩⟩
  rw [enumL_get] at hd
  obtain ⟨d', hd', rfl⟩ := Option.map_eq_some_iff.mp hd
  obtain ⟨v, hv, rv⟩ := r.get hd'
  refine ⟨⟨vs, v, hq, hv⟩, fun x H' y => ?_⟩
  obtain ⟨T, x', rfl, hT, rfl, y⟩ := y
  have := y vs hq
  rw [hv] at this; cases this
  refine ⟨Ext.laid hT, S.laid hT, T, _, rfl, .inl upd_same, ⟨_, _, rfl, by rw [Nat.zero_add]; rfl, RepL.single ((rv.mono e).mono (Ext.laid hT))⟩⟩

theorem PIi {tg e : Expr} {t t' : TI} (h : PI X tg e t) (i : ∀ σ H Q, t' σ H Q → t σ H Q) : PI X tg e t' := ⟨fun pins s σ H Q I q => h.run pins s σ H Q I (i σ H Q q)⟩
/-- a value that is walked -/
theorem d_seq {tg e : Expr} {m : DL.Env → Store → Res D} (hK : X.K = G.K) (he : PE X e (tD G W m)) : PI X tg e (tI G W fun ρ st => (m ρ st).bind fun x st => match x with
    | .tup xs => .ok (xs, none) st
    | .str s => .ok (s.map (fun c => .str [c]), none) st
    | .ref l => match st[l]? with | some (.lst xs) => .ok (xs, some (l, xs)) st | _ => .bad
    | _ => .bad) := by
  refine ⟨fun pins s σ H R I ⟨ι, ρ, st, hρ, S, h⟩ => ?_⟩
  dsimp only at h
  cases em : m ρ st with
  | bad => rw [em] at h; exact h.elim
  | exc x st1 =>
    rw [em] at h
    exact (pi_list he).run pins s σ H R I ⟨ι, ρ, st, hρ, S, by rw [em]; exact h⟩
  | ok d st1 =>
    rw [em] at h
    cases d with
    | tup xs =>
      refine (pi_tup he).run pins s σ H R I ⟨ι, ρ, st, hρ, S, ?_⟩
      rw [em]
      intro v H1 ι1 e1 S1 r1
      obtain ⟨a, vs, rfl, h1, h2⟩ := r1
      exact ⟨a, rfl, ⟨vs, sqT_K hK (tup_of h1)⟩, h _ _ ι1 e1 S1 (J_tup hK (tup_of h1) h2)⟩
    | str s' =>
      refine (pi_str he).run pins s σ H R I ⟨ι, ρ, st, hρ, S, ?_⟩
      rw [em]
      intro v H1 ι1 e1 S1 r1
      obtain ⟨rfl, _, o1⟩ := r1
      exact ⟨sS s', rfl, h _ _ ι1 e1 S1 (J_str o1)⟩
    | ref l =>
      refine (pi_list he).run pins s σ H R I ⟨ι, ρ, st, hρ, S, ?_⟩
      rw [em]
      dsimp only [Res.bind] at h
      split at h
      · rename_i xs hl
        intro v H1 ι1 e1 S1 r1
        obtain ⟨a, rfl, ha⟩ := r1
        obtain ⟨vs, q1, h2⟩ := S1.lst hl ha
        exact ⟨a, rfl, ⟨vs, sqL_of q1⟩, h _ _ ι1 e1 S1 (J_lst ha)⟩
      · exact h.elim
    | _ => exact h.elim
theorem small62_iff {i : Int} (h : DL.small62 i = true) : -(2 ^ 62) ≤ i ∧ i < 2 ^ 62 := by
  unfold DL.small62 at h
  rw [Bool.and_eq_true, decide_eq_true_eq, decide_eq_true_eq] at h
  have h1 : -(2 ^ 60 : Int) ≤ i := h.1
  have h2 : i < 2 ^ 60 := h.2
  omega
/-- range(..) -/
theorem d_rng1 {tg a : Expr} {p pos : Pos} {me : DL.Env → Store → Res (List D)} (hg : L2.Gl X "range") (hm : X.mg "range" = none) (ha : PA X [a] (tDA G W me)) (hs : PySem.W.isStarred a = false)
    (hl : ∀ ρ st ds st', me ρ st = .ok ds st' → ds.length = 1) : PI X tg (.Call (.Name "range" p) [a] [] pos) (tI G W fun ρ st => (me ρ st).bind fun xs st => DL.ofO (DL.rngD xs) st fun r => (r, none)) :=
  PIi (pi_range1 hg hm ha (by rw [star1 _ _ hs]; rfl)) fun σ H Q ⟨ι, ρ, st, hρ, S, h⟩ => by
    dsimp only at h
    cases em : me ρ st with
    | bad => rw [em] at h; exact h.elim
    | exc x st1 => rw [em] at h; exact ⟨ι, ρ, st, hρ, S, by rw [em]; exact h⟩
    | ok ds st1 =>
      rw [em] at h
      refine ⟨ι, ρ, st, hρ, S, ?_⟩
      rw [em]
      intro vs H1 ι1 e1 S1 r1
      obtain ⟨b, eb, k⟩ := ofO_post h
      unfold DL.rngD at eb
      split at eb
      · rename_i j
        split at eb
        · rename_i hj
          cases eb
          obtain ⟨v, rfl, r2⟩ := RepL.one r1
          obtain ⟨b1, b2⟩ := small62_iff hj
          exact ⟨j, by rw [show v = V.int j from r2], b1, b2, k _ _ ι1 e1 S1 (J_rng _ _)⟩
        · cases eb
      · have := hl ρ st _ _ em; simp at this
      · have := hl ρ st _ _ em; simp at this
      · cases eb
theorem d_rng2 {tg a b : Expr} {p pos : Pos} {me : DL.Env → Store → Res (List D)} (hg : L2.Gl X "range") (hm : X.mg "range" = none) (ha : PA X [a, b] (tDA G W me)) (hs : PySem.W.isStarred a = false) (hs2 : PySem.W.isStarred b = false)
    (hl : ∀ ρ st ds st', me ρ st = .ok ds st' → ds.length = 2) : PI X tg (.Call (.Name "range" p) [a, b] [] pos) (tI G W fun ρ st => (me ρ st).bind fun xs st => DL.ofO (DL.rngD xs) st fun r => (r, none)) :=
  PIi (pi_range2 hg hm ha (by rw [star1 _ _ hs, star1 _ _ hs2]; rfl) (by rw [star1 _ _ hs2]; rfl)) fun σ H Q ⟨ι, ρ, st, hρ, S, h⟩ => by
    dsimp only at h
    cases em : me ρ st with
    | bad => rw [em] at h; exact h.elim
    | exc x st1 => rw [em] at h; exact ⟨ι, ρ, st, hρ, S, by rw [em]; exact h⟩
    | ok ds st1 =>
      rw [em] at h
      refine ⟨ι, ρ, st, hρ, S, ?_⟩
      rw [em]
      intro vs H1 ι1 e1 S1 r1
      obtain ⟨b, eb, k⟩ := ofO_post h
      unfold DL.rngD at eb
      split at eb
      · have := hl ρ st _ _ em; simp at this
      · rename_i i j
        split at eb
        · rename_i hj
          cases eb
          obtain ⟨v, r, rfl, r2, r3⟩ := r1
          obtain ⟨v', rfl, r4⟩ := RepL.one r3
          obtain ⟨b1, b2⟩ := small62_iff hj.1
          obtain ⟨b3, b4⟩ := small62_iff hj.2
          exact ⟨i, j, by rw [show v = V.int i from r2, show v' = V.int j from r4], ⟨b1, b2, b3, b4⟩, k _ _ ι1 e1 S1 (J_rng _ _)⟩
        · cases eb
      · have := hl ρ st _ _ em; simp at this
      · cases eb
theorem d_rng3 {tg a b c : Expr} {p pos : Pos} {me : DL.Env → Store → Res (List D)} (hg : L2.Gl X "range") (hm : X.mg "range" = none) (ha : PA X [a, b, c] (tDA G W me)) (hs : PySem.W.isStarred a = false) (hs2 : PySem.W.isStarred b = false) (hs3 : PySem.W.isStarred c = false)
    (hl : ∀ ρ st ds st', me ρ st = .ok ds st' → ds.length = 3) : PI X tg (.Call (.Name "range" p) [a, b, c] [] pos) (tI G W fun ρ st => (me ρ st).bind fun xs st => DL.ofO (DL.rngD xs) st fun r => (r, none)) :=
  PIi (pi_range3 hg hm ha (star1 _ _ hs) (by rw [star1 _ _ hs2, star1 _ _ hs3]; rfl)) fun σ H Q ⟨ι, ρ, st, hρ, S, h⟩ => by
    dsimp only at h
    cases em : me ρ st with
    | bad => rw [em] at h; exact h.elim
    | exc x st1 => rw [em] at h; exact ⟨ι, ρ, st, hρ, S, by rw [em]; exact h⟩
    | ok ds st1 =>
      rw [em] at h
      refine ⟨ι, ρ, st, hρ, S, ?_⟩
      rw [em]
      intro vs H1 ι1 e1 S1 r1
      obtain ⟨b, eb, k⟩ := ofO_post h
      unfold DL.rngD at eb
      split at eb
      · have := hl ρ st _ _ em; simp at this
      · have := hl ρ st _ _ em; simp at this
      · rename_i i j
        split at eb
        · rename_i hj
          cases eb
          obtain ⟨v, r, rfl, r2, r3⟩ := r1
          obtain ⟨v', r', rfl, r4, r5⟩ := r3
          obtain ⟨v'', rfl, r6⟩ := RepL.one r5
          obtain ⟨b1, b2⟩ := small62_iff hj.1
          obtain ⟨b3, b4⟩ := small62_iff hj.2
          exact ⟨i, j, -1, _, by rw [show v = V.int i from r2, show v' = V.int j from r4, show v'' = V.int (-1) from r6], RgC.neg b1 b2 b3 b4, k _ _ ι1 e1 S1 (J_rngD _ _)⟩
        · cases eb
      · cases eb
/-- enumerate(..) -/
theorem d_enum {e : Expr} {p pos tpos : Pos} {elts : List Expr} {kk : Nat} {m : DL.Env → Store → Res D} (hK : X.K = G.K) (hg : L2.Gl X "enumerate") (hm : X.mg "enumerate" = none) (he : PE X e (tD G W m)) (hs : PySem.W.isStarred e = false) :
    PI X (.Tuple elts kk tpos) (.Call (.Name "enumerate" p) [e] [] pos) (tI G W fun ρ st => (m ρ st).bind fun x st => match x with
    | .tup xs => .ok (DL.enumL 0 xs, none) st
    | .ref l => match st[l]? with | some (.lst xs) => .ok (DL.enumL 0 xs, some (l, xs)) st | _ => .bad
    | _ => .bad) := by
  have hss : starEach [e] X.env = [(false, eval e X.env)] := by rw [star1 _ _ hs]; rfl
  have ha : PA X [e] (tCons (tD G W m) tNil) := pa_cons he pa_nil (star1 _ _ hs)
  refine ⟨fun pins s σ H R I ⟨ι, ρ, st, hρ, S, h⟩ => ?_⟩
  dsimp only at h
  cases em : m ρ st with
  | bad => rw [em] at h; exact h.elim
  | exc x st1 =>
    rw [em] at h
    exact (pi_enum hg hm ha hss).run pins s σ H R I ⟨ι, ρ, st, hρ, S, by rw [em]; exact h⟩
  | ok d st1 =>
    rw [em] at h
    cases d with
    | tup xs =>
      refine (pi_enumT hg hm ha hss).run pins s σ H R I ⟨ι, ρ, st, hρ, S, ?_⟩
      rw [em]
      intro v H1 ι1 e1 S1 r1
      obtain ⟨a, vs, rfl, h1, h2⟩ := r1
      exact ⟨a, vs, rfl, sqT_K hK (tup_of h1), h _ _ ι1 e1 S1 (J_enumT hK (tup_of h1) h2)⟩
    | ref l =>
      refine (pi_enum hg hm ha hss).run pins s σ H R I ⟨ι, ρ, st, hρ, S, ?_⟩
      rw [em]
      dsimp only [Res.bind] at h
      split at h
      · rename_i xs hl
        intro v H1 ι1 e1 S1 r1
        obtain ⟨a, rfl, ha⟩ := r1
        obtain ⟨vs, q1, h2⟩ := S1.lst hl ha
        exact ⟨a, vs, rfl, sqL_of q1, h _ _ ι1 e1 S1 (J_enumL ha)⟩
      · exact h.elim
    | _ => exact h.elim

/-! ### targets -/
/-- but for these slots all is as it was -/
def Only (S : List Nat) (σ σ' : L2.St) : Prop := σ'.length = σ.length ∧ ∀ i : Nat, i ∉ S → σ'[i]? = σ[i]?
theorem Only.refl (S : List Nat) (σ : L2.St) : Only S σ σ := ⟨rfl, fun _ _ => rfl⟩
theorem Only.trans {S : List Nat} {a b c : L2.St} (h : Only S a b) (g : Only S b c) : Only S a c := ⟨g.1.trans h.1, fun i hi => (g.2 i hi).trans (h.2 i hi)⟩
theorem Only.mono {S T : List Nat} {a b : L2.St} (h : Only S a b) (k : ∀ i ∈ S, i ∈ T) : Only T a b := ⟨h.1, fun i hi => h.2 i fun z => hi (k i z)⟩
theorem Only.set {σ : L2.St} {i : Nat} {v : Option V} : Only [i] σ (σ.set i v) := ⟨by simp, fun j hj => List.getElem?_set_ne (fun e => hj (by simp [e]))⟩
theorem wipe_in {σ : L2.St} : ∀ {vs : List Nat} {i : Nat}, i ∈ vs → i < σ.length → (L2.wipe σ vs)[i]? = some none
  | v :: vs, i, hi, hl => by
    unfold L2.wipe
    by_cases e : v = i
    · subst e
      exact List.getElem?_set_self (by rw [wipe_length]; exact hl)
    · rw [List.getElem?_set_ne e]
      rcases List.mem_cons.mp hi with z | z
      · exact absurd z.symm e
      · exact wipe_in z hl
theorem Only.wipe {S : List Nat} {σ σ' : L2.St} {vs : List Nat} (h : Only S σ σ') (k : ∀ i ∈ S, i ∈ vs) : L2.wipe σ' vs = L2.wipe σ vs := by
  apply List.ext_getElem?
  intro i
  by_cases hi : i ∈ vs
  · by_cases hl : i < σ.length
    · rw [wipe_in hi hl, wipe_in hi (by rw [h.1]; exact hl)]
    · rw [List.getElem?_eq_none (by rw [wipe_length, h.1]; omega), List.getElem?_eq_none (by rw [wipe_length]; omega)]
  · rw [L2.wipe_out hi, L2.wipe_out hi]
    exact h.2 i fun z => hi (k i z)
theorem wipe_wipe {σ : L2.St} {vs : List Nat} : L2.wipe (L2.wipe σ vs) vs = L2.wipe σ vs := by
  refine Only.wipe (S := vs) ⟨wipe_length σ vs, fun i hi => L2.wipe_out hi⟩ fun _ h => h
/-- a target by data -/
def tT (G : Gl) (S : List Nat) (f : D → DL.Env → Option DL.Env) : TG := fun v σ H Q => ∃ ι ρ ρ' d st, RepEnv G ι H ρ σ ∧ RS G ι st H ∧ Rep G ι H d v ∧ f d ρ = some ρ' ∧
  ∀ σ', RepEnv G ι H ρ' σ' → Only S σ σ' → Q σ' H
def tTs (G : Gl) (S : List Nat) (f : List D → DL.Env → Option DL.Env) : TGs := fun vs σ H Q => ∃ ι ρ ρ' ds st, RepEnv G ι H ρ σ ∧ RS G ι st H ∧ RepL G ι H ds vs ∧ f ds ρ = some ρ' ∧
  ∀ σ', RepEnv G ι H ρ' σ' → Only S σ σ' → Q σ' H
theorem PGi {e : Expr} {t t' : TG} (h : PG X e t) (i : ∀ v σ H Q, t' v σ H Q → t v σ H Q) : PG X e t' := ⟨fun pins s σ H v u Q I r q => h.run pins s σ H v u Q I r (i v σ H Q q)⟩
theorem PGsi {e : List Expr} {t t' : TGs} (h : PGs X e t) (i : ∀ v σ H Q, t' v σ H Q → t v σ H Q) : PGs X e t' := ⟨fun pins s σ H v u Q I r q => h.run pins s σ H v u Q I r (i v σ H Q q)⟩
theorem g_name {i : Nat} {x : Str} {pos : Pos} (hN : X.N.Nodup) (hi : X.N[i]? = some x) (hx : Loc X.env.scope x) (hf : X.fn x = true ∨ X.env.scope.names.lookup x = some .local) : PG X (.Name x pos) (tT G [i] fun d ρ => some (ρ.set i (some d))) :=
  PGi (pg_name hN hi hx hf) fun v σ H Q ⟨ι, ρ, ρ', d, st, hρ, S, r, e, k⟩ => by
    cases e
    exact k _ (hρ.set r) Only.set
theorem asg1 {e : Expr} (es : List Expr) (env : PySem.Env) (h : PySem.W.isStarred e = false) : assignEach (e :: es) env = (false, assign e env) :: assignEach es env := by
  cases e <;> first | rfl | cases h
theorem asg_all : ∀ (es : List Expr) (env : PySem.Env), (es.all fun e => !PySem.W.isStarred e) = true → (assignEach es env).length = es.length ∧ (assignEach es env).findIdx? (·.1) = none
  | [], _, _ => ⟨rfl, rfl⟩
  | e :: es, env, h => by
    rw [List.all_cons, Bool.and_eq_true, Bool.not_eq_true'] at h
    obtain ⟨i1, i2⟩ := asg_all es env h.2
    rw [asg1 es env h.1]
    refine ⟨by simp [i1], ?_⟩
    rw [List.findIdx?_cons, i2]
    rfl
theorem g_tup {es : List Expr} {n : Nat} {pos : Pos} {S : List Nat} {f : List D → DL.Env → Option DL.Env} (hK : X.K = G.K) (hc : X.calm = true) (hs : (es.all fun e => !PySem.W.isStarred e) = true) (h : PGs X es (tTs G S f)) (hl : ∀ ds ρ ρ', f ds ρ = some ρ' → ds.length = es.length) :
    PG X (.Tuple es n pos) (tT G S fun d ρ => match d with | .tup ds => f ds ρ | _ => none) :=
  PGi (pg_tup hc h (asg_all es _ hs).1 (asg_all es _ hs).2) fun v σ H Q ⟨ι, ρ, ρ', d, st, hρ, S, r, e, k⟩ => by
    dsimp only at e
    split at e
    · rename_i ds
      obtain ⟨a, vs, rfl, h1, h2⟩ := r
      refine ⟨a, vs, rfl, sqT_K hK (tup_of h1), ?_, ι, ρ, ρ', ds, st, hρ, S, h2, e, k⟩
      rw [← h2.length, hl _ _ _ e]
    · cases e
theorem g_nil {S : List Nat} : PGs X [] (tTs G S fun ds ρ => match ds with | [] => some ρ | _ => none) :=
  PGsi pgs_nil fun v σ H Q ⟨ι, ρ, ρ', ds, st, hρ, S, r, e, k⟩ => by
    dsimp only at e
    split at e
    · cases e
      cases r
      exact ⟨rfl, k σ hρ (Only.refl _ _)⟩
    · cases e
theorem g_cons {a : Expr} {es : List Expr} {S T : List Nat} {f : D → DL.Env → Option DL.Env} {g : List D → DL.Env → Option DL.Env} (hs : PySem.W.isStarred a = false) (ha : PG X a (tT G S f)) (he : PGs X es (tTs G T g)) :
    PGs X (a :: es) (tTs G (S ++ T) fun ds ρ => match ds with | d :: ds => (match f d ρ with | some ρ => g ds ρ | none => none) | _ => none) :=
  PGsi (pgs_cons ha he (by rw [asg1 es _ hs]; rfl)) fun v σ H Q ⟨ι, ρ, ρ', ds, st, hρ, S, r, e, k⟩ => by
    dsimp only at e
    split at e
    · rename_i d ds
      split at e
      · rename_i ρ1 e1
        obtain ⟨v, vs, rfl, r1, r2⟩ := r
        refine ⟨v, vs, rfl, ι, ρ, ρ1, d, st, hρ, S, r1, e1, fun σ1 h1 o1 => ⟨ι, ρ1, ρ', ds, st, h1, S, r2, e, fun σ2 h2 o2 => k σ2 h2 ?_⟩⟩
        exact (o1.mono fun i hi => List.mem_append_left _ hi).trans (o2.mono fun i hi => List.mem_append_right _ hi)
      · cases e
    · cases e
end
end DS

set_option Elab.async false
set_option linter.all false
set_option maxRecDepth 100000
set_option maxHeartbeats 4000000
namespace DS
open PySem PySem.Spec PyProof.Rows L2
open DL (D Cell Store DX Res SRes)

/-- the heap without what is tracked at D -/
def cutA (H : Hp) (a : Addr) : Hp := fun b => if b = a then none else H b
theorem cutA_ne {H : Hp} {a b : Addr} (h : b ≠ a) : cutA H a b = H b := if_neg h
theorem cutA_same {H : Hp} {a : Addr} : cutA H a a = none := if_pos rfl
theorem cutA_some {H : Hp} {a b : Addr} {o : HO} (h : cutA H a b = some o) : b ≠ a ∧ H b = some o := by
  by_cases e : b = a
  · subst e; rw [cutA_same] at h; cases h
  · rw [cutA_ne e] at h; exact ⟨e, h⟩
theorem cutA_back {H : Hp} {a : Addr} {o : HO} (h : H a = some o) : upd (cutA H a) a o = H := by
  funext b
  by_cases e : b = a
  · subst e; rw [upd_same, h]
  · rw [upd_ne e, cutA_ne e]
theorem cutA_upd {H : Hp} {a : Addr} {o : HO} : cutA (upd H a o) a = cutA H a := by
  funext b
  by_cases e : b = a
  · subst e; rw [cutA_same, cutA_same]
  · rw [cutA_ne e, cutA_ne e, upd_ne e]
theorem cutA_id {H : Hp} {a : Addr} (h : H a = none) : cutA H a = H := by
  funext b
  by_cases e : b = a
  · subst e; rw [cutA_same, h]
  · rw [cutA_ne e]

section
variable {G : Gl} {ι ι' : List Addr} {H H' : Hp} {st : Store} {a : Addr}
theorem Ext.uncut (e : Ext ι H ι' (cutA H' a)) (h : H a = none) : Ext ι H ι' H' :=
  ⟨e.pre, e.new, fun b o q n => (cutA_some (e.keep b o q n)).2, fun b o q i => (cutA_some (e.imm b o q i)).2, fun b q z => by
    have := e.there b q
    cases hb : cutA H' a b with
    | none => exact this hb
    | some o => rw [(cutA_some hb).2] at z; cases z⟩
/-- from the cut heap back: all that it tells is told -/
theorem Ext.ofCut : Ext ι (cutA H a) ι H :=
  ⟨⟨[], by simp⟩, fun b h => .inl h, fun b o q _ => (cutA_some q).2, fun b o q _ => (cutA_some q).2, fun b q z => q (by
    by_cases e : b = a
    · subst e; exact cutA_same
    · rw [cutA_ne e]; exact z)⟩
theorem RS.notMem (S : RS G ι st (cutA H a)) : a ∉ ι := S.fresh cutA_same
theorem RS.uncut (S : RS G ι st (cutA H a)) : RS G ι st H :=
  ⟨S.len, S.nd, fun l c q => by
    obtain ⟨b, h1, h2⟩ := S.cell l c q
    obtain ⟨o, h3, _⟩ := h2.some_
    exact ⟨b, h1, h2.mono Ext.ofCut ((cutA_some h3).2.trans h3.symm)⟩⟩
theorem Ext.cut {xs : List V} (e : Ext ι H ι' H') (h : H a = some (.lst xs)) (n : a ∉ ι) : Ext ι (cutA H a) ι' (cutA H' a) := by
  refine ⟨e.pre, fun b hb => ?_, fun b o q m => ?_, fun b o q i => ?_, fun b q z => ?_⟩
  · rcases e.new b hb with z | z
    · exact .inl z
    · right
      by_cases e1 : b = a
      · subst e1; exact cutA_same
      · rw [cutA_ne e1]; exact z
  · obtain ⟨n1, q1⟩ := cutA_some q
    rw [cutA_ne n1]; exact e.keep b o q1 m
  · obtain ⟨n1, q1⟩ := cutA_some q
    rw [cutA_ne n1]; exact e.imm b o q1 i
  · by_cases e1 : b = a
    · subst e1; exact q cutA_same
    · rw [cutA_ne e1] at q z
      exact e.there b q z
mutual
theorem Rep.cut {xs : List V} (h : H a = some (.lst xs)) : ∀ {d : D} {v : V}, Rep G ι H d v → Rep G ι (cutA H a) d v
  | .non, _, r => r
  | .bl _, _, r => r
  | .int _, _, r => r
  | .str _, _, r => r
  | .tup ds, _, ⟨b, vs, h1, h2, h3⟩ => by
    refine ⟨b, vs, h1, h2.imp (fun q => ?_) id, RepL.cutH h h3⟩
    rw [cutA_ne (fun e => by subst e; rw [h] at q; cases q)]; exact q
  | .ref l, _, r => r
  | .fl ns, _, ⟨b, h1, h2⟩ => by
    refine ⟨b, h1, h2.imp (fun ⟨o, q⟩ => ⟨o, ?_⟩) id⟩
    rw [cutA_ne (fun e => by subst e; rw [h] at q; cases q)]; exact q
  | .fn _, _, r => r
theorem RepL.cutH {xs : List V} (h : H a = some (.lst xs)) : ∀ {ds : List D} {vs : List V}, RepL G ι H ds vs → RepL G ι (cutA H a) ds vs
  | [], _, r => r
  | d :: ds, _, ⟨v, r, h1, h2, h3⟩ => ⟨v, r, h1, Rep.cut h h2, RepL.cutH h h3⟩
end
theorem RepK.cut {xs : List V} {κ : Type} {f : D → Option κ} (h : H a = some (.lst xs)) : ∀ {ds : List (D × D)} {vs : List (κ × V)}, RepK G f ι H ds vs → RepK G f ι (cutA H a) ds vs
  | [], _, r => r
  | p :: ds, _, ⟨k, v, r, h1, h2, h3, h4⟩ => ⟨k, v, r, h1, h2, h3.cut h, RepK.cut h h4⟩
theorem RS.cut {xs : List V} (S : RS G ι st H) (h : H a = some (.lst xs)) (n : a ∉ ι) : RS G ι st (cutA H a) :=
  ⟨S.len, S.nd, fun l c q => by
    obtain ⟨b, h1, h2⟩ := S.cell l c q
    have hb : b ≠ a := fun e => n (by subst e; exact List.mem_of_getElem? h1)
    refine ⟨b, h1, ?_⟩
    cases c with
    | lst ds => obtain ⟨vs, g1, g2⟩ := h2; exact ⟨vs, by rw [cutA_ne hb]; exact g1, g2.cutH h⟩
    | dic tk kvs =>
      cases tk with
      | false => obtain ⟨vs, g1, g2⟩ := h2; exact ⟨vs, by rw [cutA_ne hb]; exact g1, g2.cut h⟩
      | true => obtain ⟨vs, g1, g2⟩ := h2; exact ⟨vs, by rw [cutA_ne hb]; exact g1, g2.cut h⟩⟩
end

/-- no exception is let out -/
abbrev W0 : WX := fun _ _ _ _ => False
/-- a comprehension -/
theorem d_lc {G : Gl} {X : Cx} {W : WX} {elt tg iter : Expr} {ifs : List Expr} {scope : Scope} {own : List (Str × Nat)} {pos : Pos} {S : List Nat} {mi : DL.Env → Store → Res (List D × DL.Guard)} {fg : D → DL.Env → Option DL.Env} {mt : DL.Env → Store → Res Bool} {me : DL.Env → Store → Res D}
    {t : TI → TG → TT → TE → List Nat → TE} (ht : t = tLc)
    (hS : ∀ i ∈ S, i ∈ own.map (·.2)) : ∀ σ H Q, tD G W (fun ρ st => (mi ρ st).bind fun p st => if DL.okS p.1.length = true then
        (DL.lcL (fun x st => match fg x (DL.wipeE ρ (own.map (·.2))) with
          | some ρ' => (mt ρ' st).bind fun b st => if b = true then (me ρ' st).bind fun y st => .ok (some y) st else .ok none st
          | none => .bad) p.2 p.1 st).nox.bind fun ys st => DL.ofV (DL.newL ys st)
      else .bad) σ H Q → t (tI G W mi) (tT G S fg) (tDT G W0 mt) (tD G W0 me) (own.map (·.2)) σ H Q := by
  subst ht
  intro σ H Q ⟨ι, ρ, st, hρ, S0, h⟩
  refine tG_bind hρ S0 h fun p st1 J H1 ι1 e1 S1 hJ h1 => ?_
  intro D0 hD
  split at h1
  rotate_left
  · exact h1.elim
  rename_i hok
  generalize hstep : (fun (x : D) (st : Store) => (match fg x (DL.wipeE ρ (own.map (·.2))) with
          | some ρ' => (mt ρ' st).bind fun b st => if b = true then (me ρ' st).bind fun y st => Res.ok (some y) st else Res.ok none st
          | none => Res.bad)) = step at h1
  obtain ⟨ys, st2, er⟩ : ∃ a s, DL.lcL step p.2 p.1 st1 = Res.ok a s := by
    cases er : DL.lcL step p.2 p.1 st1 with
    | bad => rw [er] at h1; exact h1.elim
    | exc x s => rw [er] at h1; exact h1.elim
    | ok a s => exact ⟨a, s, rfl⟩
  rw [er] at h1
  replace h1 : ∀ v H' ι', Ext ι1 H1 ι' H' → RS G ι' (st2 ++ [.lst ys]) H' → Rep G ι' H' (.ref st2.length) v → Q v H' := h1
  have hlen : p.1.length ≤ 1000000 := of_decide_eq_true hok
  -- the invariant
  refine ⟨fun i m H => m = p.1.length - i ∧ i ≤ p.1.length ∧ ∃ ιi sti yd yr av, Ext ι1 H1 ιi (cutA H D0) ∧ RS G ιi sti (cutA H D0) ∧ H D0 = some (.lst av) ∧ RepL G ιi (cutA H D0) yd av ∧ DL.lcL step p.2 (p.1.drop i) sti = .ok yr st2 ∧ yd ++ yr = ys ∧ yd.length ≤ i,
    ⟨p.1.length, by simp, Nat.zero_le _, ι1, st1, [], ys, [], ?_, ?_, upd_same, rfl, by simpa using er, rfl, Nat.le_refl _⟩, ?_⟩
  · rw [cutA_upd, cutA_id hD]; exact Ext.refl
  · rw [cutA_upd, cutA_id hD]; exact S1
  rintro i m H2 ⟨rfl, hi, ιi, sti, yd, yr, av, ei, Si, hav, rav, hl, hys, hyl⟩
  have Ei : Ext ι1 H1 ιi H2 := ei.uncut hD
  have SiH : RS G ιi sti H2 := Si.uncut
  have nD : D0 ∉ ιi := Si.notMem
  by_cases hlt : i < p.1.length
  · -- a turn
    right
    have hdrop : p.1.drop i = p.1[i] :: p.1.drop (i + 1) := List.drop_eq_getElem_cons hlt
    rw [hdrop, DL.lcL] at hl
    split at hl
    rotate_left
    · cases hl
    rename_i hg
    obtain ⟨hgo, hy⟩ := (hJ i ιi sti H2 Ei SiH hg).1 p.1[i] (List.getElem?_eq_getElem hlt)
    refine ⟨hgo, fun H' => ∃ ιi sti yd yr av, Ext ι1 H1 ιi (cutA H' D0) ∧ RS G ιi sti (cutA H' D0) ∧ H' D0 = some (.lst av) ∧ RepL G ιi (cutA H' D0) yd av ∧ DL.lcL step p.2 (p.1.drop (i + 1)) sti = .ok yr st2 ∧ yd ++ yr = ys ∧ yd.length ≤ i + 1,
      fun H' hN => ⟨p.1.length - (i + 1), by omega, rfl, hlt, hN⟩, fun x H3 y3 => ?_⟩
    obtain ⟨e3, S3, r3⟩ := hy x H3 y3
    -- the step's own computation
    obtain ⟨o, st3, es⟩ : ∃ a s, step p.1[i] sti = Res.ok a s := by
      cases er : step p.1[i] sti with
      | bad => rw [er] at hl; cases hl
      | exc x s => rw [er] at hl; cases hl
      | ok a s => exact ⟨a, s, rfl⟩
    rw [es] at hl
    replace hl : (DL.lcL step p.2 (p.1.drop (i + 1)) st3).bind (fun ys st2 => Res.ok (DL.consO o ys) st2) = .ok yr st2 := hl
    obtain ⟨yr', st4, el⟩ : ∃ a s, DL.lcL step p.2 (p.1.drop (i + 1)) st3 = Res.ok a s := by
      cases er : DL.lcL step p.2 (p.1.drop (i + 1)) st3 with
      | bad => rw [er] at hl; cases hl
      | exc x s => rw [er] at hl; cases hl
      | ok a s => exact ⟨a, s, rfl⟩
    rw [el] at hl
    replace hl : Res.ok (DL.consO o yr') st4 = .ok yr st2 := hl
    injection hl with hl1 hl2
    subst hl2
    rw [← hstep] at es
    dsimp only at es
    split at es
    rotate_left
    · cases es
    rename_i ρ' hρ'
    have hρ1 : RepEnv G ι1 H1 ρ σ := hρ.mono e1
    have hρ2 : RepEnv G ιi H3 (DL.wipeE ρ (own.map (·.2))) (L2.wipe σ (own.map (·.2))) := ((hρ1.mono Ei).wipe _).mono e3
    have hD3 : H3 D0 = some (.lst av) := e3.keep _ _ hav nD
    refine ⟨ιi, _, ρ', p.1[i], sti, hρ2, S3, r3, hρ', fun σ2 h2 o2 => ⟨?_, ?_⟩⟩
    · rw [Only.wipe o2 hS, wipe_wipe]
    refine ⟨ιi, ρ', sti, h2, S3, ?_⟩
    obtain ⟨b, st5, et⟩ : ∃ a s, mt ρ' sti = Res.ok a s := by
      cases er : mt ρ' sti with
      | bad => rw [er] at es; cases es
      | exc x s => rw [er] at es; cases es
      | ok a s => exact ⟨a, s, rfl⟩
    rw [et] at es
    show RPost G W0 RB σ2 ιi H3 (mt ρ' sti) _
    rw [et]
    intro b' H5 ι5 e5 S5 hb'
    obtain rfl : b' = b := hb'
    have hD5 : H5 D0 = some (.lst av) := e5.keep _ _ hD3 nD
    have n5 : D0 ∉ ι5 := fun z => (e5.new _ z).elim nD fun q => by rw [hD3] at q; cases q
    -- the cut heaps
    have c5 : Ext ιi (cutA H2 D0) ι5 (cutA H5 D0) := (e3.trans e5).cut hav nD
    cases b' with
    | false =>
      rw [if_neg Bool.false_ne_true]
      replace es : Res.ok none st5 = Res.ok o st3 := es
      injection es with es1 es2
      subst es1 es2
      exact ⟨ι5, st5, yd, yr', av, ei.trans c5, S5.cut hD5 n5, hD5, rav.mono c5, el, by rw [← hys, ← hl1]; rfl, by omega⟩
    | true =>
      rw [if_pos rfl]
      replace es : (me ρ' st5).bind (fun y st => Res.ok (some y) st) = .ok o st3 := es
      refine ⟨ι5, ρ', st5, h2.mono e5, S5, ?_⟩
      obtain ⟨yd', st6, ee⟩ : ∃ a s, me ρ' st5 = Res.ok a s := by
        cases er : me ρ' st5 with
        | bad => rw [er] at es; cases es
        | exc x s => rw [er] at es; cases es
        | ok a s => exact ⟨a, s, rfl⟩
      rw [ee] at es
      replace es : Res.ok (some yd') st6 = .ok o st3 := es
      injection es with es1 es2
      subst es1 es2
      show RPost G W0 (RD G) σ2 ι5 H5 (me ρ' st5) _
      rw [ee]
      intro y H6 ι6 e6 S6 r6
      have hD6 : H6 D0 = some (.lst av) := e6.keep _ _ hD5 n5
      have n6 : D0 ∉ ι6 := fun z => (e6.new _ z).elim n5 fun q => by rw [hD5] at q; cases q
      have c6 : Ext ιi (cutA H2 D0) ι6 (cutA H6 D0) := ((e3.trans e5).trans e6).cut hav nD
      have hlav : av.length = yd.length := rav.length.symm
      refine ⟨av, hD6, by rw [hlav]; exact lineLt (by omega), ι6, st6, yd ++ [yd'], yr', av ++ [y], ?_, ?_, upd_same, ?_, el, ?_, ?_⟩
      · rw [cutA_upd]; exact ei.trans c6
      · rw [cutA_upd]; exact S6.cut hD6 n6
      · rw [cutA_upd]; exact (rav.mono c6).append (RepL.single (r6.cut hD6))
      · rw [← hys, ← hl1, List.append_assoc]; rfl
      · rw [List.length_append]; simp; omega
  · -- the end
    left
    have hi' : i = p.1.length := by omega
    have hdrop : p.1.drop i = [] := by rw [hi']; simp
    rw [hdrop, DL.lcL] at hl
    split at hl
    rotate_left
    · cases hl
    rename_i hg
    injection hl with hl1 hl2
    subst hl1 hl2
    rw [List.append_nil] at hys
    subst hys
    refine ⟨(hJ i ιi sti H2 Ei SiH hg).2 (by omega), ?_⟩
    have hb := cutA_back hav
    have S' := Si.alloc (a := D0) (o := .lst av) (c := .lst yd) cutA_same ⟨av, upd_same, rav.mono (Ext.alloc cutA_same)⟩
    rw [hb] at S'
    have E' := ei.trans (Ext.alloc (ι := ιi) (a := D0) (o := .lst av) cutA_same)
    rw [hb] at E'
    exact h1 _ _ _ E' S' (Rep.alloc Si)
end DS

set_option Elab.async false
set_option linter.all false
set_option maxRecDepth 100000
set_option maxHeartbeats 4000000
namespace DS
open PySem PySem.Spec PyProof.Rows L2
open DL (D Cell Store DX Res SRes)

/-- what a def promises, by data -/
def spD (G : Gl) (m : List D → Store → Res D) (np : Nat) : Sp := fun vs H Q E => ∃ ι ds st, RepL G ι H ds vs ∧ RS G ι st H ∧ ds.length = np ∧
  RPost G (fun cls dd _ H' => E cls dd H') (RD G) [] ι H (m ds st) Q

section
variable {G : Gl} {X : Cx} {ι ι' : List Addr} {H H' : Hp} {st : Store} {W : WX} {σ : L2.St} {ρ : DL.Env} {a b c e : Expr} {es : List Expr} {pos : Pos} {ma mb mc m : DL.Env → Store → Res D} {me : DL.Env → Store → Res (List D)}

theorem call_post {r : Res D} {Q : VK} (h : RPost G W (RD G) σ ι H r Q) : RPost G (fun cls dd _ H' => WE W σ cls dd H') (RD G) [] ι H r Q := by
  cases r <;> exact h
/-- f(e, ..) -/
theorem d_call {k np : Nat} {fa : Addr} {fd : FuncData} {ps : List Str} {f : List D → Store → Res D} {x : Str} {p : Pos} (F : FnOk X.prog X.w X.K X.mg X.base (L2.CX X.prog X.w) k fa fd ps (spD G f np)) (hr : Room k X.A) (hg : L2.Gl X x) (hm : X.mg x = some (.ref fa))
    (hk : PySem.W.keepIn X.K (.ref fa) = true) (hb : Binds X.K fd ps []) (tk : Takes X W) (hl : ∀ ds st, ds.length ≠ np → f ds st = .bad) (ha : PA X (e :: es) (tDA G W me)) (hs : PySem.W.isStarred e = false) (hdb : (x == ("__debug__" : Str)) = false) (hpl : (backTo pos (starEach es X.env)).any (·.1) = false) :
    PE X (.Call (.Name x p) (e :: es) [] pos) (tD G W fun ρ st => (me ρ st).bind fun xs st => f xs st) :=
  PEi (pe_callS (E := WE W) F hr hg hm hk hb (fun σ => passAt tk σ) ha hdb (star1 es _ hs) hpl) fun σ H Q ⟨ι, ρ, st, hρ, S, h⟩ => tG_bind hρ S h fun ds st1 vs H1 ι1 e1 S1 r1 h1 => by
    refine ⟨ι1, ds, st1, r1, S1, ?_, call_post h1⟩
    by_cases z : ds.length = np
    · exact z
    · rw [hl ds st1 z] at h1; exact h1.elim
/-- f() -/
theorem d_call0 {k np : Nat} {fa : Addr} {fd : FuncData} {ps : List Str} {f : List D → Store → Res D} {x : Str} {p : Pos} (F : FnOk X.prog X.w X.K X.mg X.base (L2.CX X.prog X.w) k fa fd ps (spD G f np)) (hr : Room k X.A) (hg : L2.Gl X x) (hm : X.mg x = some (.ref fa))
    (hk : PySem.W.keepIn X.K (.ref fa) = true) (hb : Binds X.K fd ps []) (tk : Takes X W) (hl : ∀ ds st, ds.length ≠ np → f ds st = .bad) (hdb : (x == ("__debug__" : Str)) = false) :
    PE X (.Call (.Name x p) [] [] pos) (tD G W fun ρ st => (Res.ok ([] : List D) st).bind fun xs st => f xs st) := by
  refine ⟨fun pins s σ H Q I ⟨ι, ρ, st, hρ, S, h⟩ => ?_⟩
  replace h : RPost G W (RD G) σ ι H (f [] st) Q := h
  refine wpAny_Call_Name_kw (ld_glob I hg hm ?_ hdb)
  refine PySem.W.callWith_K0 I.kIn hk (run_fnS (E := WE W) (us := []) (vs := []) F hr hb (passAt tk σ) I .nil ⟨ι, [], st, rfl, S, ?_, call_post h⟩)
  by_cases z : ([] : List D).length = np
  · exact z
  · rw [hl [] st z] at h; exact h.elim

/-! ### methods -/
theorem d_me {apos cpos : Pos} {o : Expr} {T id : String} {name : Str} {f : D → List D → Store → Option (D × Store)} {rc : D → Store → Bool} (pa : PlainAttrs T) (slot : Slot T name id) (hty : typeOf (.builtin id) = pure (.type "method_descriptor")) (hm : MtR X id (tMe G f))
    (hrc : ∀ ι H st d v, Rep G ι H d v → RS G ι st H → rc d st = true → tyV X.K T v H) (ho : PE X o (tD G W ma)) (ha : PA X (e :: es) (tDA G W me)) (hs : PySem.W.isStarred e = false)
    (hbase : attributeBase o name X.env (eval o X.env) = eval o X.env)
    (hfew : ((backTo cpos (starEach (e :: es) X.env)).all (fun x => !x.1) && (backToKw cpos (keywordEach [] X.env)).all (fun x => x.1.isSome) && decide ((e :: es).length + ([] : List Keyword).length + (if ([] : List Keyword).isEmpty then 0 else 1) < 30)) = true)
    (hline : (apos.endLine == cpos.line) = true) (hpl : (backTo cpos (starEach es X.env)).any (·.1) = false) :
    PE X (.Call (.Attribute o name apos) (e :: es) [] cpos) (tD G W fun ρ st => (ma ρ st).bind fun x st => if rc x st = true then (me ρ st).bind fun xs st => DL.ofV (f x xs st) else .bad) :=
  PEi (pe_bm pa slot hty hm ho ha hbase hfew hline (star1 es _ hs) hpl) fun σ H Q ⟨ι, ρ, st, hρ, S, h⟩ => tG_bind hρ S h fun d st1 x H1 ι1 e1 S1 r1 h1 => by
    split at h1
    · rename_i hr
      refine ⟨hrc _ _ _ _ _ r1 S1 hr, tG_bind (hρ.mono e1) S1 h1 fun ds st2 xs H2 ι2 e2 S2 r2 h2 => ?_⟩
      obtain ⟨d', st', e, k⟩ := ofV_post h2
      exact ⟨ι2, d, ds, st2, d', st', r1.mono e2, r2, S2, e, k⟩
    · exact h1.elim
theorem recv_list (hK : X.K = G.K) : ∀ ι H st d v, Rep G ι H d v → RS G ι st H → DL.isL d st = true → tyV X.K "list" v H := by
  intro ι H st d v r S h
  unfold DL.isL at h
  split at h
  · split at h
    · rename_i l _ xs hl
      obtain ⟨a, rfl, ha⟩ := r
      obtain ⟨vs, q1, _⟩ := S.lst hl ha
      exact .inl ⟨rfl, vs, sqL_of q1⟩
    · cases h
  · cases h
theorem recv_str : ∀ ι H (st : Store) d v, Rep G ι H d v → RS G ι st H → DL.isS d = true → tyV X.K "str" v H := by
  intro ι H st d v r S h
  unfold DL.isS at h
  split at h
  · obtain ⟨rfl, _⟩ := r; rfl
  · cases h
/-- isinstance(e, T) -/
theorem d_isi {x : Str} {p p2 : Pos} {y : Str} {T : DL.Ty} (hK : X.K = G.K) (hg : L2.Gl X x) (hm : X.mg x = none) (hx : x = "isinstance") (hg2 : L2.Gl X y) (hm2 : X.mg y = none) (hy : bootBuiltins y = some (.type (tyN T))) (hyn : y ≠ "__name__") (hyd : (y == ("__debug__" : Str)) = false)
    (he : PE X e (tD G W ma)) (hs : PySem.W.isStarred e = false) :
    PE X (.Call (.Name x p) [e, .Name y p2] [] pos) (tD G W fun ρ st => (ma ρ st).bind fun d st => DL.ofO (DL.isiD d T st) st .bl) := by
  subst hx
  have hv : bootBuiltins "isinstance" = some (.builtin "isinstance") := by decide +kernel
  have h2 : PE X (.Name y p2) (tC (.ty (tyN T))) := pe_bltn hg2 hm2 hy rfl hyn hyd
  refine PEi (pe_callB (call_isiD (G := G) hK T) hg hm hv (pa_cons he (pa_cons h2 pa_nil) (star1 _ _ hs)) (by decide) (by decide) (star1 _ _ hs) (by rfl)) fun σ H Q ⟨ι, ρ, st, hρ, S, h⟩ => tG_bind hρ S h fun d st1 v H1 ι1 e1 S1 r1 h1 => ?_
  obtain ⟨b, e, k⟩ := ofO_post h1
  exact ⟨ι1, d, v, st1, b, rfl, r1, S1, e, k _ _ ι1 Ext.refl S1 rfl⟩

/-! ### and, or -/
/-- a bool goes on -/
theorem d_and1 {m : DL.Env → Store → Res D} (ha : PE X a (tD G W m)) : PE X (.BoolOp .And [a] pos) (tD G W fun ρ st => (m ρ st).bind fun x st => match x with | .bl true => .ok (.bl true) st | .bl false => .ok (.bl false) st | _ => .bad) :=
  PEi (pe_one ha) fun σ H Q ⟨ι, ρ, st, hρ, S, h⟩ => tG_bind hρ S h fun d st1 v H1 ι1 e1 S1 r1 h1 => by
    split at h1
    · exact h1 _ _ ι1 Ext.refl S1 r1
    · exact h1 _ _ ι1 Ext.refl S1 r1
    · exact h1.elim
theorem d_or1 {m : DL.Env → Store → Res D} (ha : PE X a (tD G W m)) : PE X (.BoolOp .Or [a] pos) (tD G W fun ρ st => (m ρ st).bind fun x st => match x with | .bl true => .ok (.bl true) st | .bl false => .ok (.bl false) st | _ => .bad) :=
  PEi (pe_one ha) fun σ H Q ⟨ι, ρ, st, hρ, S, h⟩ => tG_bind hρ S h fun d st1 v H1 ι1 e1 S1 r1 h1 => by
    split at h1
    · exact h1 _ _ ι1 Ext.refl S1 r1
    · exact h1 _ _ ι1 Ext.refl S1 r1
    · exact h1.elim
theorem d_andC {rest : List Expr} {m mr : DL.Env → Store → Res D} (ha : PE X a (tD G W m)) (hb : PE X (.BoolOp .And (b :: rest) pos) (tD G W mr)) :
    PE X (.BoolOp .And (a :: b :: rest) pos) (tD G W fun ρ st => (m ρ st).bind fun x st => match x with | .bl true => mr ρ st | .bl false => .ok (.bl false) st | _ => .bad) :=
  PEi (pe_and ha hb) fun σ H Q ⟨ι, ρ, st, hρ, S, h⟩ => tG_bind hρ S h fun d st1 v H1 ι1 e1 S1 r1 h1 => by
    split at h1
    · exact ⟨true, r1, by rw [if_pos rfl]; exact ⟨ι1, ρ, st1, hρ.mono e1, S1, h1⟩⟩
    · exact ⟨false, r1, by rw [if_neg Bool.false_ne_true]; exact h1 _ _ ι1 Ext.refl S1 rfl⟩
    · exact h1.elim
theorem d_orC {rest : List Expr} {m mr : DL.Env → Store → Res D} (ha : PE X a (tD G W m)) (hb : PE X (.BoolOp .Or (b :: rest) pos) (tD G W mr)) :
    PE X (.BoolOp .Or (a :: b :: rest) pos) (tD G W fun ρ st => (m ρ st).bind fun x st => match x with | .bl true => .ok (.bl true) st | .bl false => mr ρ st | _ => .bad) :=
  PEi (pe_or ha hb) fun σ H Q ⟨ι, ρ, st, hρ, S, h⟩ => tG_bind hρ S h fun d st1 v H1 ι1 e1 S1 r1 h1 => by
    split at h1
    · exact ⟨true, r1, by rw [if_pos rfl]; exact h1 _ _ ι1 Ext.refl S1 rfl⟩
    · exact ⟨false, r1, by rw [if_neg Bool.false_ne_true]; exact ⟨ι1, ρ, st1, hρ.mono e1, S1, h1⟩⟩
    · exact h1.elim
/-- the truth of an answer -/
abbrev mT (m : DL.Env → Store → Res D) : DL.Env → Store → Res Bool := fun ρ st => (m ρ st).bind fun x st => DL.ofO (DL.truD x st) st id
theorem d_andT1 {m : DL.Env → Store → Res D} (ha : PT X a (tDT G W (mT m))) : PW X (.BoolOp .And [a] pos) (tDT G W (mT fun ρ st => (m ρ st).bind fun x st => match x with | .bl true => .ok (.bl true) st | .bl false => .ok (.bl false) st | _ => .bad)) :=
  PWi (pw_and1 ha) fun σ H Q ⟨ι, ρ, st, hρ, S, h⟩ => by
    refine ⟨ι, ρ, st, hρ, S, ?_⟩
    dsimp only [mT] at h ⊢
    cases e : m ρ st with
    | bad => rw [e] at h; exact h
    | exc x s => rw [e] at h; exact h
    | ok d s =>
      rw [e] at h
      cases d with
      | bl b => cases b <;> exact h
      | _ => exact h.elim
theorem d_orT1 {m : DL.Env → Store → Res D} (ha : PT X a (tDT G W (mT m))) : PW X (.BoolOp .Or [a] pos) (tDT G W (mT fun ρ st => (m ρ st).bind fun x st => match x with | .bl true => .ok (.bl true) st | .bl false => .ok (.bl false) st | _ => .bad)) :=
  PWi (pw_or1 ha) fun σ H Q ⟨ι, ρ, st, hρ, S, h⟩ => by
    refine ⟨ι, ρ, st, hρ, S, ?_⟩
    dsimp only [mT] at h ⊢
    cases e : m ρ st with
    | bad => rw [e] at h; exact h
    | exc x s => rw [e] at h; exact h
    | ok d s =>
      rw [e] at h
      cases d with
      | bl b => cases b <;> exact h
      | _ => exact h.elim
theorem mT_bl {m : DL.Env → Store → Res D} {ρ : DL.Env} {st : Store} {b : Bool} {s : Store} (e : m ρ st = .ok (.bl b) s) : mT m ρ st = .ok b s := by
  dsimp only [mT]; rw [e]; rfl
theorem d_andTC {rest : List Expr} {m mr : DL.Env → Store → Res D} (ha : PT X a (tDT G W (mT m))) (hb : PW X (.BoolOp .And (b :: rest) pos) (tDT G W (mT mr))) :
    PW X (.BoolOp .And (a :: b :: rest) pos) (tDT G W (mT fun ρ st => (m ρ st).bind fun x st => match x with | .bl true => mr ρ st | .bl false => .ok (.bl false) st | _ => .bad)) :=
  PWi (pw_and ha hb) fun σ H Q ⟨ι, ρ, st, hρ, S, h⟩ => by
    refine ⟨ι, ρ, st, hρ, S, ?_⟩
    dsimp only [mT] at h ⊢
    cases e : m ρ st with
    | bad => rw [e] at h; exact h
    | exc x s => rw [e] at h; exact h
    | ok d s =>
      rw [e] at h
      cases d with
      | bl k =>
        intro k' H1 ι1 e1 S1 hk
        obtain rfl : k' = k := hk
        cases k' with
        | true => rw [if_pos rfl]; exact ⟨ι1, ρ, s, hρ.mono e1, S1, RPost.ext h e1⟩
        | false => rw [if_neg Bool.false_ne_true]; exact h _ _ ι1 e1 S1 rfl
      | _ => exact h.elim
theorem d_orTC {rest : List Expr} {m mr : DL.Env → Store → Res D} (ha : PT X a (tDT G W (mT m))) (hb : PW X (.BoolOp .Or (b :: rest) pos) (tDT G W (mT mr))) :
    PW X (.BoolOp .Or (a :: b :: rest) pos) (tDT G W (mT fun ρ st => (m ρ st).bind fun x st => match x with | .bl true => .ok (.bl true) st | .bl false => mr ρ st | _ => .bad)) :=
  PWi (pw_or ha hb) fun σ H Q ⟨ι, ρ, st, hρ, S, h⟩ => by
    refine ⟨ι, ρ, st, hρ, S, ?_⟩
    dsimp only [mT] at h ⊢
    cases e : m ρ st with
    | bad => rw [e] at h; exact h
    | exc x s => rw [e] at h; exact h
    | ok d s =>
      rw [e] at h
      cases d with
      | bl k =>
        intro k' H1 ι1 e1 S1 hk
        obtain rfl : k' = k := hk
        cases k' with
        | true => rw [if_pos rfl]; exact h _ _ ι1 e1 S1 rfl
        | false => rw [if_neg Bool.false_ne_true]; exact ⟨ι1, ρ, s, hρ.mono e1, S1, RPost.ext h e1⟩
      | _ => exact h.elim
end
end DS

set_option Elab.async false
set_option linter.all false
set_option maxRecDepth 100000
set_option maxHeartbeats 4000000
/-! statements by data -/
namespace DS
open PySem PySem.Spec PyProof.Rows L2
open DL (D Cell Store DX Res SRes)

/-- what is wanted behind a statement, by its outcome -/
def SPost (G : Gl) (W : WX) (ι : List Addr) (H : Hp) (D : Ends) : SRes → Prop
  | .nx ρ st => ∀ σ H' ι', Ext ι H ι' H' → RS G ι' st H' → RepEnv G ι' H' ρ σ → D.nx σ H'
  | .brk ρ st => ∀ σ H' ι', Ext ι H ι' H' → RS G ι' st H' → RepEnv G ι' H' ρ σ → D.bk σ H'
  | .cnt ρ st => ∀ σ H' ι', Ext ι H ι' H' → RS G ι' st H' → RepEnv G ι' H' ρ σ → D.ct σ H'
  | .ret d st => ∀ v H' ι', Ext ι H ι' H' → RS G ι' st H' → Rep G ι' H' d v → D.rt v H'
  | .exc x ρ st => ∀ cls dd σ H' ι', Ext ι H ι' H' → RS G ι' st H' → RepEnv G ι' H' ρ σ → XRep G ι' H' x cls dd → W cls dd σ H'
  | .bad => False
def tS (G : Gl) (W : WX) (m : DL.Env → Store → SRes) : TS := fun D σ H => ∃ ι ρ st, RepEnv G ι H ρ σ ∧ RS G ι st H ∧ SPost G W ι H D (m ρ st)

section
variable {G : Gl} {X : Cx} {ι ι' : List Addr} {H H' : Hp} {st : Store} {W : WX} {σ : L2.St} {ρ : DL.Env} {a b c e : Expr} {pos : Pos} {α β : Type} {R : α → β → List Addr → Hp → Prop} {D D' : Ends} {m ma mb : DL.Env → Store → SRes} {me mi : DL.Env → Store → Res DL.D} {mt : DL.Env → Store → Res Bool} {s : Stmt} {ss : List Stmt}
theorem SPost.ext {r : SRes} (h : SPost G W ι H D r) (e : Ext ι H ι' H') : SPost G W ι' H' D r := by
  cases r with
  | bad => exact h
  | ret d st => exact fun v H2 ι2 e2 => h v H2 ι2 (e.trans e2)
  | exc x ρ st => exact fun c d σ H2 ι2 e2 => h c d σ H2 ι2 (e.trans e2)
  | nx ρ st => exact fun v H2 ι2 e2 => h v H2 ι2 (e.trans e2)
  | brk ρ st => exact fun v H2 ι2 e2 => h v H2 ι2 (e.trans e2)
  | cnt ρ st => exact fun v H2 ι2 e2 => h v H2 ι2 (e.trans e2)
/-- behind an expression -/
theorem s_bind {n : DL.Env → Store → Res α} {f : α → Store → SRes} {K : β → Hp → Prop} (hρ : RepEnv G ι H ρ σ) (S : RS G ι st H) (h : SPost G W ι H D (.of ρ (n ρ st) f))
    (k : ∀ d st1 x H1 ι1, Ext ι H ι1 H1 → RS G ι1 st1 H1 → R d x ι1 H1 → SPost G W ι1 H1 D (f d st1) → K x H1) : tG G W R n σ H K := by
  refine ⟨ι, ρ, st, hρ, S, ?_⟩
  cases e : n ρ st with
  | ok d st1 =>
    rw [e] at h
    exact fun b H1 ι1 e1 S1 r1 => k d st1 b H1 ι1 e1 S1 r1 (SPost.ext h e1)
  | exc x st1 =>
    rw [e] at h
    exact fun cls dd H1 ι1 e1 S1 x1 => h cls dd σ H1 ι1 e1 S1 (hρ.mono e1) x1
  | bad => rw [e] at h; exact h
theorem n_pass : PS X (.Pass pos) (tS G W fun ρ st => .nx ρ st) := PSi ps_pass fun D σ H ⟨ι, ρ, st, hρ, S, h⟩ => h σ H ι Ext.refl S hρ
theorem n_break : PS X (.Break pos) (tS G W fun ρ st => .brk ρ st) := PSi ps_break fun D σ H ⟨ι, ρ, st, hρ, S, h⟩ => h σ H ι Ext.refl S hρ
theorem n_cont : PS X (.Continue pos) (tS G W fun ρ st => .cnt ρ st) := PSi ps_continue fun D σ H ⟨ι, ρ, st, hρ, S, h⟩ => h σ H ι Ext.refl S hρ
theorem n_doc {x j pos'} : PS X (.Expr (.Constant (.str x) j pos) pos') (tS G W fun ρ st => .nx ρ st) := PSi ps_doc fun D σ H ⟨ι, ρ, st, hρ, S, h⟩ => h σ H ι Ext.refl S hρ
theorem n_nil : PSs X [] (tS G W fun ρ st => .nx ρ st) := PSsi pss_nil fun D σ H ⟨ι, ρ, st, hρ, S, h⟩ => h σ H ι Ext.refl S hρ
theorem n_cons (h1 : PS X s (tS G W ma)) (h2 : PSs X ss (tS G W mb)) : PSs X (s :: ss) (tS G W fun ρ st => (ma ρ st).bind fun ρ st => mb ρ st) :=
  PSsi (pss_cons h1 h2) fun D σ H ⟨ι, ρ, st, hρ, S, h⟩ => by
    refine ⟨ι, ρ, st, hρ, S, ?_⟩
    dsimp only at h
    cases e : ma ρ st with
    | nx ρ1 st1 => rw [e] at h; exact fun σ1 H1 ι1 e1 S1 h1 => ⟨ι1, ρ1, st1, h1, S1, SPost.ext h e1⟩
    | brk ρ1 st1 => rw [e] at h; exact h
    | cnt ρ1 st1 => rw [e] at h; exact h
    | ret d st1 => rw [e] at h; exact h
    | exc x ρ1 st1 => rw [e] at h; exact h
    | bad => rw [e] at h; exact h
theorem n_expr (he : PE X e (tD G W me)) (hs : swapsWith e none pos.line X.env = pure false) : PS X (.Expr e pos) (tS G W fun ρ st => .of ρ (me ρ st) fun _ st => .nx ρ st) :=
  PSi (ps_expr he hs) fun D σ H ⟨ι, ρ, st, hρ, S, h⟩ => s_bind hρ S h fun d st1 x H1 ι1 e1 S1 r1 h1 => h1 σ H1 ι1 Ext.refl S1 (hρ.mono e1)
theorem n_ret (he : PE X e (tD G W me)) : PS X (.Return (some e) pos) (tS G W fun ρ st => .of ρ (me ρ st) fun d st => .ret d st) :=
  PSi (ps_ret he) fun D σ H ⟨ι, ρ, st, hρ, S, h⟩ => s_bind hρ S h fun d st1 x H1 ι1 e1 S1 r1 h1 => h1 x H1 ι1 Ext.refl S1 r1
theorem n_retN : PS X (.Return none pos) (tS G W fun ρ st => .ret .non st) := PSi ps_retN fun D σ H ⟨ι, ρ, st, hρ, S, h⟩ => h _ H ι Ext.refl S rfl
theorem n_if {p q : List Stmt} (hc : PT X c (tDT G W mt)) (ha : PSs X p (tS G W ma)) (hb : PSs X q (tS G W mb)) : PS X (.If c p q pos) (tS G W fun ρ st => .of ρ (mt ρ st) fun k st => if k = true then ma ρ st else mb ρ st) :=
  PSi (ps_if hc ha hb) fun D σ H ⟨ι, ρ, st, hρ, S, h⟩ => s_bind (R := RB) hρ S h fun d st1 x H1 ι1 e1 S1 r1 h1 => by
    cases r1
    split
    · rename_i z; rw [if_pos z] at h1; exact ⟨ι1, ρ, st1, hρ.mono e1, S1, h1⟩
    · rename_i z; rw [if_neg z] at h1; exact ⟨ι1, ρ, st1, hρ.mono e1, S1, h1⟩
theorem n_set {i : Nat} {x : Str} {pos' : Pos} (hN : X.N.Nodup) (hi : X.N[i]? = some x) (hx : Loc X.env.scope x) (hf : X.fn x = true ∨ X.env.scope.names.lookup x = some .local) (he : PE X e (tD G W me)) (hs : swapsWith e (some (.Name x pos')) pos.line X.env = pure false) :
    PS X (.Assign [.Name x pos'] e pos) (tS G W fun ρ st => .of ρ (me ρ st) fun d st => .nx (ρ.set i (some d)) st) :=
  PSi (ps_set hN hi hx he hs hf) fun D σ H ⟨ι, ρ, st, hρ, S, h⟩ => s_bind hρ S h fun d st1 x H1 ι1 e1 S1 r1 h1 => h1 _ H1 ι1 Ext.refl S1 ((hρ.mono e1).set r1)
theorem n_asg {t : Expr} {T : List Nat} {f : DL.D → DL.Env → Option DL.Env} (he : PE X e (tD G W me)) (hg : PG X t (tT G T f)) (hs : swapsWithSole [t] e pos.line X.env = pure false) (hw : swappedStores [t] e X.env = pure none) (h1 : (assignEach [t] X.env).map (·.2) = [assign t X.env]) :
    PS X (.Assign [t] e pos) (tS G W fun ρ st => .of ρ (me ρ st) fun d st => match f d ρ with | some ρ => .nx ρ st | none => .bad) :=
  PSi (ps_asg he hg hs hw h1) fun D σ H ⟨ι, ρ, st, hρ, S, h⟩ => s_bind hρ S h fun d st1 x H1 ι1 e1 S1 r1 h1 => by
    split at h1
    · rename_i ρ' eρ
      exact ⟨ι1, ρ, ρ', d, st1, hρ.mono e1, S1, r1, eρ, fun σ' h' o => h1 σ' H1 ι1 Ext.refl S1 h'⟩
    · exact h1.elim
def notSl : Expr → Bool
  | .Slice .. => false
  | _ => true
theorem asg_sub {env : PySem.Env} {tpos : Pos} (h : notSl b = true) : ∀ v, assign (.Subscript a b tpos) env v = (do
      let ov ← holding [v] (eval a env)
      let iv ← holding [v, ov] (eval b env)
      standAt tpos
      holding [v, ov, iv] (setItem ov iv v)
      release [v, ov, iv] []) := by
  intro v
  cases b <;> first | rfl | cases h
theorem n_setX {tpos : Pos} (ha : PE X a (tD G W mi)) (hb : PE X b (tD G W me)) {mv : DL.Env → Store → Res DL.D} (hK : X.K = G.K) (hu : X.A.units + 64 < cLine) (he : PE X e (tD G W mv)) (hs : swapsWithSole [.Subscript a b tpos] e pos.line X.env = pure false) (hn : DS.notSl b = true) :
    PS X (.Assign [.Subscript a b tpos] e pos) (tS G W fun ρ st => .of ρ (mv ρ st) fun d st => .of ρ (mi ρ st) fun x st => .of ρ (me ρ st) fun y st => match DL.setXD G.kt x y d st with | some st => .nx ρ st | none => .bad) :=
  PSi (ps_asg he (pg_sub ha hb (set_D hK hu) (asg_sub hn)) hs) fun D σ H ⟨ι, ρ, st, hρ, S, h⟩ => s_bind hρ S h fun d st1 v H1 ι1 e1 S1 r1 h1 =>
    s_bind (hρ.mono e1) S1 h1 fun d2 st2 x H2 ι2 e2 S2 r2 h2 => s_bind ((hρ.mono e1).mono e2) S2 h2 fun d3 st3 y H3 ι3 e3 S3 r3 h3 => by
      split at h3
      · rename_i st4 e4
        exact ⟨ι3, d2, d3, d, st3, st4, r2.mono e3, r3, (r1.mono e2).mono e3, S3, e4, fun H' ι' e' S' => h3 σ H' ι' e' S' ((((hρ.mono e1).mono e2).mono e3).mono e')⟩
      · exact h3.elim
/-- a, b = x, y with plain local names -/
theorem n_par {i j : Nat} {x y : Str} {px py pt : Pos} {kt k2 pt2} {ms : DL.Env → Store → Res (List DL.D)} (hc : X.calm = true) (hN : X.N.Nodup) (hi : X.N[i]? = some x) (hj : X.N[j]? = some y) (hij : i ≠ j)
    (hx : X.env.scope.names.lookup x = some .local) (hy : X.env.scope.names.lookup y = some .local) (ha : PA X [a, b] (tDA G W ms))
    (hw : swappedStores [.Tuple [.Name x px, .Name y py] kt pt] (.Tuple [a, b] k2 pt2) X.env = pure (some [x, y])) :
    PS X (.Assign [.Tuple [.Name x px, .Name y py] kt pt] (.Tuple [a, b] k2 pt2) pos) (tS G W fun ρ st => .of ρ (ms ρ st) fun xs st => match xs with | [x, y] => .nx ((ρ.set i (some x)).set j (some y)) st | _ => .bad) :=
  PSi (ps_par hc hN hi hj hij hx hy ha hw rfl) fun D σ H ⟨ι, ρ, st, hρ, S, h⟩ => s_bind hρ S h fun ds st1 vs H1 ι1 e1 S1 r1 h1 => by
    split at h1
    · obtain ⟨v, vs, rfl, r1, r2⟩ := r1
      obtain ⟨w, vs, rfl, r2, r3⟩ := r2
      cases r3
      exact ⟨v, w, rfl, h1 _ H1 ι1 Ext.refl S1 (((hρ.mono e1).set r1).set r2)⟩
    · exact h1.elim
theorem n_par3 {i j l : Nat} {x y z : Str} {px py pz pt : Pos} {kt k2 pt2} {ms : DL.Env → Store → Res (List DL.D)} (hc : X.calm = true) (hN : X.N.Nodup) (hi : X.N[i]? = some x) (hj : X.N[j]? = some y) (hl : X.N[l]? = some z) (hij : i ≠ j) (hil : i ≠ l) (hjl : j ≠ l)
    (hx : X.env.scope.names.lookup x = some .local) (hy : X.env.scope.names.lookup y = some .local) (hz : X.env.scope.names.lookup z = some .local) (ha : PA X [a, b, c] (tDA G W ms))
    (hw : swappedStores [.Tuple [.Name x px, .Name y py, .Name z pz] kt pt] (.Tuple [a, b, c] k2 pt2) X.env = pure (some [x, y, z])) :
    PS X (.Assign [.Tuple [.Name x px, .Name y py, .Name z pz] kt pt] (.Tuple [a, b, c] k2 pt2) pos) (tS G W fun ρ st => .of ρ (ms ρ st) fun xs st => match xs with | [x, y, z] => .nx (((ρ.set i (some x)).set j (some y)).set l (some z)) st | _ => .bad) :=
  PSi (ps_par3 hc hN hi hj hl hij hil hjl hx hy hz ha hw rfl) fun D σ H ⟨ι, ρ, st, hρ, S, h⟩ => s_bind hρ S h fun ds st1 vs H1 ι1 e1 S1 r1 h1 => by
    split at h1
    · obtain ⟨v, vs, rfl, r1, r2⟩ := r1
      obtain ⟨w, vs, rfl, r2, r3⟩ := r2
      obtain ⟨u, vs, rfl, r3, r4⟩ := r3
      cases r4
      exact ⟨v, w, u, rfl, h1 _ H1 ι1 Ext.refl S1 ((((hρ.mono e1).set r1).set r2).set r3)⟩
    · exact h1.elim
/-- x += e, ints -/
theorem n_augA {i : Nat} {x : Str} {pos' : Pos} (hN : X.N.Nodup) (hi : X.N[i]? = some x) (hx : Loc X.env.scope x) (hf : X.fn x = true ∨ X.env.scope.names.lookup x = some .local) (he : PE X e (tD G W me)) :
    PS X (.AugAssign (.Name x pos') .Add e pos) (tS G W fun ρ st => match ρ[i]? with
      | some (some x) => .of ρ (me ρ st) fun y st => match x, y with
        | .int _, .int _ => .of ρ (DL.ofV (DL.binD .add x y st)) fun d st => .nx (ρ.set i (some d)) st
        | _, _ => .bad
      | _ => .bad) :=
  PSi (ps_aug hN hi hx he ip_add hf) fun D σ H ⟨ι, ρ, st, hρ, S, h⟩ => by
    dsimp only at h
    split at h
    · rename_i d0 hd0
      obtain ⟨v0, hv0, r0⟩ := hρ.at_ i _ hd0
      refine ⟨v0, hv0, s_bind hρ S h fun d1 st1 y H1 ι1 e1 S1 r1 h1 => ?_⟩
      split at h1
      · rename_i p q
        exact ⟨p, q, r0, r1, h1 _ H1 ι1 Ext.refl S1 ((hρ.mono e1).set rfl)⟩
      · exact h1.elim
    · exact h.elim
end
end DS

set_option Elab.async false
set_option linter.all false
set_option maxRecDepth 100000
set_option maxHeartbeats 4000000
/-! loops by data -/
namespace DS
open PySem PySem.Spec PyProof.Rows L2
open DL (D Cell Store DX Res SRes)

section
variable {G : Gl} {X : Cx} {ι ι' : List Addr} {H H' : Hp} {st : Store} {W : WX} {σ : L2.St} {ρ : DL.Env} {c e : Expr} {pos : Pos} {D D' : Ends}
theorem n_while {body : List Stmt} {mt : DL.Env → Store → Res Bool} {mb : DL.Env → Store → SRes} (hp : PassesOwn (model X.prog X.w) X.A X.env X.xe) (hc : PT X c (tDT G W mt)) (hb : PSs X body (tS G W mb)) :
    PS X (.While c body [] pos) (tS G W fun ρ st => DL.whL mt mb ρ st) :=
  PSi (ps_while hp hc hb) fun D σ H ⟨ι, ρ, st, hρ, S, h⟩ => by
    have ⟨n, hn⟩ : ∃ n, SPost G W ι H D (DL.whN mt mb n ρ st) := by
      replace h : SPost G W ι H D (DL.whL mt mb ρ st) := h
      unfold DL.whL at h
      split at h
      · exact ⟨_, h⟩
      · exact h.elim
    refine ⟨fun m σ H => ∃ ι ρ st, RepEnv G ι H ρ σ ∧ RS G ι st H ∧ SPost G W ι H D (DL.whN mt mb m ρ st), ⟨n, ι, ρ, st, hρ, S, hn⟩, ?_⟩
    rintro m σ1 H1 ⟨ι1, ρ1, st1, hρ1, S1, h1⟩
    cases m with
    | zero => exact h1.elim
    | succ m =>
      refine s_bind (R := RB) hρ1 S1 (by unfold DL.whN at h1; exact h1) fun k st2 b H2 ι2 e2 S2 r2 h2 => ?_
      cases r2
      split
      · rename_i z
        rw [if_pos z] at h2
        refine ⟨fun σ H => ∃ ι ρ st, RepEnv G ι H ρ σ ∧ RS G ι st H ∧ SPost G W ι H D (DL.whN mt mb m ρ st), fun σ' H' q => ⟨m, Nat.lt_succ_self _, q⟩, ι2, ρ1, st2, hρ1.mono e2, S2, ?_⟩
        cases eb : mb ρ1 st2 with
        | nx ρ3 st3 => rw [eb] at h2; exact fun σ3 H3 ι3 e3 S3 h3 => ⟨ι3, ρ3, st3, h3, S3, SPost.ext h2 e3⟩
        | cnt ρ3 st3 => rw [eb] at h2; exact fun σ3 H3 ι3 e3 S3 h3 => ⟨ι3, ρ3, st3, h3, S3, SPost.ext h2 e3⟩
        | brk ρ3 st3 => rw [eb] at h2; exact h2
        | ret d st3 => rw [eb] at h2; exact h2
        | exc x ρ3 st3 => rw [eb] at h2; exact h2
        | bad => rw [eb] at h2; exact h2
      · rename_i z
        rw [if_neg z] at h2
        exact h2 σ1 H2 ι2 Ext.refl S2 (hρ1.mono e2)
theorem n_for {tg iter : Expr} {body : List Stmt} {T : List Nat} {mi : DL.Env → Store → Res (List DL.D × DL.Guard)} {f : DL.D → DL.Env → Option DL.Env} {mb : DL.Env → Store → SRes} (hp : PassesOwn (model X.prog X.w) X.A X.env X.xe) (hc : X.calm = true)
    (hi : PI X tg iter (tI G W mi)) (hg : PG X tg (tT G T f)) (hb : PSs X body (tS G W mb)) (hs : ∀ x, foldedSetIterable iter X.env x = pure x) :
    PS X (.For tg iter body [] pos) (tS G W fun ρ st => .of ρ (mi ρ st) fun p st => DL.forL (fun x ρ st => match f x ρ with | some ρ => mb ρ st | none => .bad) p.2 p.1 ρ st) :=
  PSi (ps_for hp hc hi hg hb hs) fun D σ H ⟨ι, ρ, st, hρ, S, h⟩ => s_bind hρ S h fun p st1 J H1 ι1 e1 S1 hJ h1 => by
    generalize hstep : (fun (x : DL.D) (ρ : DL.Env) (st : Store) => (match f x ρ with | some ρ => mb ρ st | none => SRes.bad)) = step at h1
    let Inv := fun (i : Nat) (σ : L2.St) (H : Hp) => ∃ ι ρ st, Ext ι1 H1 ι H ∧ RepEnv G ι H ρ σ ∧ RS G ι st H ∧ SPost G W ι H D (DL.forL step p.2 (p.1.drop i) ρ st)
    refine ⟨fun i m σ H => m = p.1.length - i ∧ i ≤ p.1.length ∧ Inv i σ H, ⟨p.1.length, by simp, Nat.zero_le _, ι1, ρ, st1, Ext.refl, hρ.mono e1, S1, by simpa using h1⟩, ?_⟩
    rintro i m σ2 H2 ⟨rfl, hle, ι2, ρ2, st2, e2, hρ2, S2, h2⟩
    have hg : DL.GuardOk p.2 st2 := by
      cases hd : p.1.drop i with
      | nil =>
        rw [hd] at h2
        unfold DL.forL at h2
        split at h2
        · assumption
        · exact h2.elim
      | cons x xs =>
        rw [hd] at h2
        unfold DL.forL at h2
        split at h2
        · assumption
        · exact h2.elim
    obtain ⟨j1, j2⟩ := hJ i ι2 st2 H2 e2 S2 hg
    by_cases hlt : i < p.1.length
    · right
      obtain ⟨x, hx⟩ : ∃ x, p.1[i]? = some x := ⟨p.1[i], List.getElem?_eq_getElem hlt⟩
      obtain ⟨g1, g2⟩ := j1 x hx
      refine ⟨g1, Inv (i + 1), fun σ' H' q => ⟨p.1.length - (i + 1), by omega, rfl, hlt, q⟩, fun xv H3 y => ?_⟩
      obtain ⟨e3, S3, r3⟩ := g2 xv H3 y
      have hd : p.1.drop i = x :: p.1.drop (i + 1) := by
        rw [List.drop_eq_getElem_cons hlt]
        congr 1
        rw [List.getElem?_eq_getElem hlt] at hx
        exact Option.some.inj hx
      rw [hd] at h2
      unfold DL.forL at h2
      rw [if_pos hg, ← hstep] at h2
      dsimp only at h2
      cases ef : f x ρ2 with
      | none => rw [ef] at h2; exact h2.elim
      | some ρ3 =>
        rw [ef] at h2
        dsimp only at h2
        refine ⟨ι2, ρ2, ρ3, x, st2, hρ2.mono e3, S3, r3, ef, fun σ3 h3 o3 => ⟨ι2, ρ3, st2, h3, S3, ?_⟩⟩
        rw [hstep] at h2
        replace h2 := SPost.ext h2 e3
        cases eb : mb ρ3 st2 with
        | nx ρ4 st4 => rw [eb] at h2; exact fun σ4 H4 ι4 e4 S4 h4 => ⟨ι4, ρ4, st4, (e2.trans e3).trans e4, h4, S4, SPost.ext h2 e4⟩
        | cnt ρ4 st4 => rw [eb] at h2; exact fun σ4 H4 ι4 e4 S4 h4 => ⟨ι4, ρ4, st4, (e2.trans e3).trans e4, h4, S4, SPost.ext h2 e4⟩
        | brk ρ3 st3 => rw [eb] at h2; exact h2
        | ret d st3 => rw [eb] at h2; exact h2
        | exc x ρ3 st3 => rw [eb] at h2; exact h2
        | bad => rw [eb] at h2; exact h2
    · left
      refine ⟨j2 (Nat.le_of_not_lt hlt), ?_⟩
      rw [List.drop_of_length_le (Nat.le_of_not_lt hlt)] at h2
      unfold DL.forL at h2
      rw [if_pos hg] at h2
      exact h2 σ2 H2 ι2 Ext.refl S2 hρ2
end
end DS

set_option Elab.async false
set_option linter.all false
set_option maxRecDepth 100000
set_option maxHeartbeats 4000000
/-! what is checked of a written expression against its IR -/
namespace DS
open PySem PySem.Spec PyProof.Rows L2
open DL (D Cell Store DX Res SRes E)

structure Tb where
  N : List Str
  fns : List (Str × Nat)
  cst : List (Str × D)
  xs : List Str

def visB (sc : Scope) (x : Str) : Bool := decide (sc.names.lookup x = some .local) || (decide (sc.names.lookup x = some .cell) || decide (sc.names.lookup x = some .free))
def locB (sc : Scope) (x : Str) : Bool := decide (sc.names.lookup x = some .local) || decide (sc.names.lookup x = some .cell)
def glB (sc : Scope) (x : Str) : Bool := decide (sc.names.lookup x = some .globalImplicit)
def nmOk (x : Str) : Bool := !(x == ("__debug__" : Str)) && (!(x == ("__classdict__" : Str)) && decide (x ≠ ("__name__" : Str)))
def ckC : D → Const → Bool
  | .non, .none => true
  | .bl a, .bool b => decide (a = b)
  | .int i, .int j => decide (i = j)
  | .str s, .str t => decide (sS s = t) && (DL.okS s.length && PyData.strOk t)
  | _, _ => false
def opM : DL.Bop → Operator → Bool
  | .add, .Add => true
  | .sub, .Sub => true
  | .mul, .Mult => true
  | .fdiv, .FloorDiv => true
  | .mod, .Mod => true
  | .pow, .Pow => true
  | _, _ => false
def copM : DL.Cop → CmpOp → Bool
  | .eq, .Eq => true
  | .ne, .NotEq => true
  | .lt, .Lt => true
  | .le, .LtE => true
  | .gt, .Gt => true
  | .ge, .GtE => true
  | .isin, .In => true
  | .notin, .NotIn => true
  | .is, .Is => true
  | .isnot, .IsNot => true
  | _, _ => false
/-- its truth is asked plainly -/
def plainT : Expr → Bool
  | .UnaryOp .Not _ _ => false
  | .BoolOp .. => false
  | .IfExp .. => false
  | .Compare .. => false
  | _ => true
def plainB : Expr → Bool
  | .Call (.Name _ _) [] [] _ => false
  | _ => true
def noSet : Expr → Bool
  | .Set .. => false
  | _ => true
def noSl : Expr → Bool
  | .Slice .. => false
  | _ => true
def noSt : Expr → Bool := fun e => !PySem.W.isStarred e
def biN : DL.Bi → Option Str
  | .len => some "len"
  | .int => some "int"
  | .min => some "min"
  | .tuple => some "tuple"
  | .list => some "list"
  | .all => some "all"
  | .any => some "any"
  | _ => none
def meN : DL.Me → Option Str
  | .append => some "append"
  | .join => some "join"
  | _ => none
def bltNames : List Str := ["len", "int", "min", "tuple", "list", "all", "any", "range", "enumerate", "isinstance", "str", "bool", "dict", "sorted", "sum", "set", "abs", "max", "zip"]
def ownS (own : List (String × Nat)) : List (Str × Nat) := own.map fun p => (Str.ofString p.1, p.2)
def blkB (N : List Str) (sc scope : Scope) (own : List (String × Nat)) : Bool :=
  decide (scope.kind = .function) && (scope.names.all (fun y => decide (scope.names.lookup y.1 = some y.2)) &&
  ((ownS own).all (fun p => decide (N[p.2]? = some p.1)) && (scope.names.all (fun y => decide (y.2 = .free → sc.names.lookup y.1 = some .cell ∨ sc.names.lookup y.1 = some .free)) &&
  scope.names.all (fun y => decide ((y.2 = .local ∨ y.2 = .cell) → y.1 ∈ (ownS own).map (·.1) ∨ y.1 ∉ N)))))

mutual
/-- a target of names -/
def ckG (N : List Str) (ss : Scope) : E → Expr → Bool
  | .var i, e => match e with
    | .Name x _ => decide (N[i]? = some x) && locB ss x
    | _ => false
  | .tup ts, e => match e with
    | .Tuple es _ _ => ckGs N ss ts es
    | _ => false
  | _, _ => false
def ckGs (N : List Str) (ss : Scope) : List E → List Expr → Bool
  | [], es => match es with
    | [] => true
    | _ => false
  | t :: ts, es => match es with
    | e :: es => noSt e && (ckG N ss t e && ckGs N ss ts es)
    | _ => false
end
def isTup : Expr → Bool
  | .Tuple .. => true
  | _ => false
/-- a global name -/
def gnm (sc : Scope) (x y : Str) : Bool := decide (x = y) && glB sc x
def tyS (T : DL.Ty) : Str := Str.ofString (tyN T)

mutual
def ck (tb : Tb) : Scope → Bool → E → Expr → Bool
  | sc, t, .var i, e => match e with
    | .Name x _ => decide (tb.N[i]? = some x) && (visB sc x && nmOk x)
    | _ => false
  | sc, t, .cst d, e => match e with
    | .Constant c _ _ => ckC d c
    | .Name x _ => glB sc x && (nmOk x && (match tb.cst.lookup x with | some d' => DL.D.same d' d | none => false))
    | _ => false
  | sc, t, .bin o a b, e => match e with
    | .BinOp x p y _ => opM o p && (ck tb sc false a x && ck tb sc false b y)
    | _ => false
  | sc, t, .cmp o a b, e => match e with
    | .Compare x [p] [y] _ => copM o p && (!behindInMarks p y && (ck tb sc false a x && ck tb sc false b y))
    | _ => false
  | sc, t, .chain o1 o2 a b c, e => match e with
    | .Compare x [p, q] [y, z] _ => copM o1 p && (copM o2 q && (!lastMarks [p, q] [y, z] && (ck tb sc false a x && (ck tb sc false b y && ck tb sc false c z))))
    | _ => false
  | sc, t, .and es, e => match e with
    | .BoolOp .And xs _ => !xs.isEmpty && ckN tb sc t es xs
    | _ => false
  | sc, t, .or es, e => match e with
    | .BoolOp .Or xs _ => !xs.isEmpty && ckN tb sc t es xs
    | _ => false
  | sc, t, .not a, e => match e with
    | .UnaryOp .Not x _ => ck tb sc t a x
    | _ => false
  | sc, t, .neg a, e => match e with
    | .UnaryOp .USub x _ => ck tb sc false a x
    | _ => false
  | sc, t, .ife c a b, e => match e with
    | .IfExp x y z _ => !t && (ck tb sc true c x && (ck tb sc false a y && ck tb sc false b z))
    | _ => false
  | sc, t, .tup es, e => match e with
    | .Tuple xs _ _ => ckEs tb sc es xs
    | _ => false
  | sc, t, .lst es, e => match e with
    | .List xs _ => ckEs tb sc es xs
    | _ => false
  | sc, t, .dic tk, e => match e with
    | .Dict [] [] _ => true
    | _ => false
  | sc, t, .ix a b, e => match e with
    | .Subscript x y _ => noSl y && (ck tb sc false a x && ck tb sc false b y)
    | _ => false
  | sc, t, .sl a lo hi, e => match e with
    | .Subscript x (.Slice l h none _) _ => ck tb sc false a x && ((match lo, l with
        | .nop, none => true
        | .nop, some _ => false
        | _, some e' => ck tb sc false lo e'
        | _, none => false) && (match hi, h with
        | .nop, none => true
        | .nop, some _ => false
        | _, some e' => ck tb sc false hi e'
        | _, none => false))
    | _ => false
  | sc, t, .rev a, e => match e with
    | .Subscript x (.Slice none none (some (.UnaryOp .USub (.Constant (.int 1) _ _) _)) _) _ => ck tb sc false a x
    | _ => false
  | sc, t, .call f es, e => match e with
    | .Call (.Name x _) xs [] _ => glB sc x && (nmOk x && (decide (tb.fns[f]? = some (x, xs.length)) && ckEs tb sc es xs))
    | _ => false
  | sc, t, .bi b es, e => match e with
    | .Call (.Name x _) xs [] _ => glB sc x && (decide (biN b = some x) && (!xs.isEmpty && (decide (b ≠ .min ∨ xs.length ≠ 4) && ckEs tb sc es xs)))
    | _ => false
  | sc, t, .isi a T, e => match e with
    | .Call (.Name x _) [y, .Name z _] [] _ => gnm sc x "isinstance" && (gnm sc z (tyS T) && (noSt y && ck tb sc false a y))
    | _ => false
  | sc, t, .me m a es, e => match e with
    | .Call (.Attribute o x ap) xs [] cp => decide (meN m = some x) && (plainB o && (decide (ap.endLine = cp.line) && (!xs.isEmpty && (decide (xs.length < 30) && (ck tb sc false a o && ckEs tb sc es xs)))))
    | _ => false
  | sc, t, .lc elt tg src ifs own, e => match e with
    | .ListComp x [⟨tg', it, ifs', 0⟩] scope _ => blkB tb.N sc scope own && (ckG tb.N scope tg tg' && ((DL.tgSlots tg).all (fun i => own.any fun p => p.2 == i) && (noSet it && ((match src with
        | .rng es => (match it with
          | .Call (.Name y _) ys [] _ => gnm sc y "range" && (decide (1 ≤ ys.length ∧ ys.length ≤ 3) && ckEs tb sc es ys)
          | _ => false)
        | .enum a => (match it with
          | .Call (.Name y _) [z] [] _ => gnm sc y "enumerate" && (isTup tg' && (noSt z && ck tb sc false a z))
          | _ => false)
        | _ => ck tb sc false src it) && (decide (ifs'.length ≤ 1) && (ckN tb (relS scope sc) true ifs ifs' && ck tb (relS scope sc) false elt x))))))
    | _ => false
  | _, _, _, _ => false
def ckEs (tb : Tb) : Scope → List E → List Expr → Bool
  | sc, [], es => match es with
    | [] => true
    | _ => false
  | sc, t :: ts, es => match es with
    | e :: es => noSt e && (ck tb sc false t e && ckEs tb sc ts es)
    | _ => false
def ckN (tb : Tb) : Scope → Bool → List E → List Expr → Bool
  | sc, t, [], es => match es with
    | [] => true
    | _ => false
  | sc, t, a :: ts, es => match es with
    | e :: es => ck tb sc t a e && ckN tb sc t ts es
    | _ => false
end
end DS

set_option Elab.async false
set_option linter.all false
set_option maxRecDepth 100000
set_option maxHeartbeats 4000000
/-! what is checked is so: expressions -/
namespace DS
open PySem PySem.Spec PyProof.Rows L2
open DL (D Cell Store DX Res SRes E)

theorem nmOk_iff {x : Str} (h : nmOk x = true) : (x == ("__debug__" : Str)) = false ∧ (x == ("__classdict__" : Str)) = false ∧ x ≠ ("__name__" : Str) := by
  unfold nmOk at h
  rw [Bool.and_eq_true, Bool.and_eq_true, Bool.not_eq_true', Bool.not_eq_true'] at h
  exact ⟨h.1, h.2.1, of_decide_eq_true h.2.2⟩
mutual
theorem same_eq : ∀ {a b : D}, DL.D.same a b = true → a = b := by
  intro a b h
  cases a <;> cases b <;> first | (simp [DL.D.same] at h; done) | rfl | skip
  all_goals first | (simp [DL.D.same] at h; subst h; rfl) | skip
  rename_i xs ys
  simp only [DL.D.same] at h
  rw [sames_eq h]
theorem sames_eq : ∀ {a b : List D}, DL.D.sames a b = true → a = b := by
  intro a b h
  cases a with
  | nil => cases b with | nil => rfl | cons _ _ => simp [DL.D.sames] at h
  | cons x xs =>
    cases b with
    | nil => simp [DL.D.sames] at h
    | cons y ys =>
      simp only [DL.D.sames, Bool.and_eq_true] at h
      rw [same_eq h.1, sames_eq h.2]
end

structure FnFact (G : Gl) (X : Cx) (k : Nat) (x : Str) (np : Nat) (f : List D → Store → Res D) : Prop where
  ex : ∃ fa fd ps, FnOk X.prog X.w X.K X.mg X.base (L2.CX X.prog X.w) k fa fd ps (spD G f np) ∧ X.mg x = some (.ref fa) ∧ PySem.W.keepIn X.K (.ref fa) = true ∧ Binds X.K fd ps []
  hl : ∀ ds st, ds.length ≠ np → f ds st = .bad
structure CtxOk (G : Gl) (tb : Tb) (C : DL.Ctx) (k : Nat) (W : WX) (sc ss : Scope) (X : Cx) : Prop where
  K : X.K = G.K
  N : X.N = tb.N
  nd : X.N.Nodup
  calm : X.calm = true
  room : Room k X.A
  sc : X.env.scope = sc
  tk : Takes X W
  fns : ∀ f x np, tb.fns[f]? = some (x, np) → FnFact G X k x np (C.call f)
  bl : ∀ x ∈ bltNames, X.mg x = none
  cst : ∀ x d, tb.cst.lookup x = some d → ∃ u v, X.mg x = some u ∧ RelV v u ∧ ∀ ι H, Rep G ι H d v
  st : ∀ x, locB ss x = true → Loc X.env.scope x ∧ (X.fn x = true ∨ X.env.scope.names.lookup x = some .local)

section
variable {G : Gl} {tb : Tb} {C : DL.Ctx} {k : Nat} {W : WX} {sc ss : Scope} {X : Cx} {e : Expr}
theorem CtxOk.hu (c : CtxOk G tb C k W sc ss X) : X.A.units + 64 < cLine := by have := c.room.un; omega
theorem CtxOk.hu2 (c : CtxOk G tb C k W sc ss X) : X.A.units + 65 < cLine := by have := c.room.un; omega
theorem CtxOk.glb (c : CtxOk G tb C k W sc ss X) {x : Str} (h : glB sc x = true) : L2.Gl X x := by
  have := of_decide_eq_true h
  rw [← c.sc] at this
  exact this
theorem CtxOk.vis (c : CtxOk G tb C k W sc ss X) {x : Str} (h : visB sc x = true) : Vis X.env.scope x := by
  rw [c.sc]
  unfold visB at h
  rw [Bool.or_eq_true, Bool.or_eq_true] at h
  exact h.imp of_decide_eq_true fun h => h.imp of_decide_eq_true of_decide_eq_true
theorem CtxOk.gnm (c : CtxOk G tb C k W sc ss X) {x y : Str} (h : gnm sc x y = true) (hy : y ∈ bltNames) : x = y ∧ L2.Gl X y ∧ X.mg y = none := by
  unfold DS.gnm at h
  rw [Bool.and_eq_true] at h
  obtain rfl := of_decide_eq_true h.1
  exact ⟨rfl, c.glb h.2, c.bl _ hy⟩
theorem pe_eq {m m' : DL.Env → Store → Res D} (h : ∀ ρ st, m ρ st = m' ρ st) (p : PE X e (tD G W m)) : PE X e (tD G W m') := by rw [show m' = m from funext fun ρ => funext fun st => (h ρ st).symm]; exact p
theorem pt_eq {m m' : DL.Env → Store → Res Bool} (h : ∀ ρ st, m ρ st = m' ρ st) (p : PT X e (tDT G W m)) : PT X e (tDT G W m') := by rw [show m' = m from funext fun ρ => funext fun st => (h ρ st).symm]; exact p
theorem pw_eq {m m' : DL.Env → Store → Res Bool} (h : ∀ ρ st, m ρ st = m' ρ st) (p : PW X e (tDT G W m)) : PW X e (tDT G W m') := by rw [show m' = m from funext fun ρ => funext fun st => (h ρ st).symm]; exact p
theorem pa_eq {es : List Expr} {m m' : DL.Env → Store → Res (List D)} (h : ∀ ρ st, m ρ st = m' ρ st) (p : PA X es (tDA G W m)) : PA X es (tDA G W m') := by rw [show m' = m from funext fun ρ => funext fun st => (h ρ st).symm]; exact p
theorem po_eq {es : Option Expr} {m m' : DL.Env → Store → Res (Option Int)} (h : ∀ ρ st, m ρ st = m' ρ st) (p : PO X es (tDO G W m)) : PO X es (tDO G W m') := by rw [show m' = m from funext fun ρ => funext fun st => (h ρ st).symm]; exact p
theorem pi_eq {tg : Expr} {m m' : DL.Env → Store → Res (List D × DL.Guard)} (h : ∀ ρ st, m ρ st = m' ρ st) (p : PI X tg e (tI G W m)) : PI X tg e (tI G W m') := by rw [show m' = m from funext fun ρ => funext fun st => (h ρ st).symm]; exact p
/-- both readings from the value's, where truth is asked plainly -/
theorem leaf {t : Bool} {m : DL.Env → Store → Res D} (hK : X.K = G.K) (p : PE X e (tD G W m)) (he : ∀ whole, isTrue e X.env whole = (do let v ← whole; standAt e.pos; holding [v] (truthy v))) :
    (t = false → PE X e (tD G W m)) ∧ (t = true → PT X e (tDT G W (mT m))) := ⟨fun _ => p, fun _ => d_truth hK p he⟩
theorem opM_ok {o : DL.Bop} {p : Operator} (hK : X.K = G.K) (h : opM o p = true) : OpR X (binaryOp p) (tV2 G (DL.binD o)) := by
  cases o <;> cases p <;> first | (cases h; done) | skip
  · exact op_addD hK
  · exact op_subD
  · exact op_mulD hK
  · exact op_fdivD
  · exact op_modD
  · exact op_powD
theorem copM_ok {o : DL.Cop} {p : CmpOp} (hK : X.K = G.K) (hu : X.A.units + 65 < cLine) (h : copM o p = true) : OpR X (compareOp p) (tC2 G (DL.cmpD o)) := by
  have hu' : X.A.units + 64 < cLine := by omega
  cases o <;> cases p <;> first | (cases h; done) | skip
  · exact op_eqDD hK hu'
  · exact op_neDD hK hu'
  · exact op_ltDD
  · exact op_leDD
  · exact op_gtDD
  · exact op_geDD
  · exact op_inDD hK hu
  · exact op_notinDD hK hu
  · exact op_isDD
  · exact op_isnotDD
theorem cst_pe {d : D} {v : V} (p : PE X e (tC v)) (r : ∀ ι H, Rep G ι H d v) : PE X e (tD G W fun ρ st => .ok d st) :=
  PEi p fun σ H Q ⟨ι, ρ, st, hρ, S, h⟩ => h v H ι Ext.refl S (r ι H)
theorem ckC_ok {d : D} {c : Const} {j : Nat} {pos : Pos} (h : ckC d c = true) : PE X (.Constant c j pos) (tD G W fun ρ st => .ok d st) := by
  cases d <;> cases c <;> first | (cases h; done) | skip
  · exact cst_pe pe_non fun _ _ => rfl
  · obtain rfl := of_decide_eq_true h
    exact cst_pe pe_bl fun _ _ => rfl
  · obtain rfl := of_decide_eq_true h
    exact cst_pe pe_int fun _ _ => rfl
  · unfold ckC at h
    rw [Bool.and_eq_true, Bool.and_eq_true] at h
    obtain ⟨h1, h2, h3⟩ := h
    obtain rfl := of_decide_eq_true h1
    exact cst_pe pe_str fun _ _ => ⟨rfl, lineM (of_decide_eq_true h2), h3⟩
theorem var_pe {i : Nat} {x : Str} {pos : Pos} (hi : X.N[i]? = some x) (hv : Vis X.env.scope x) (h1 : (x == ("__debug__" : Str)) = false) (h2 : (x == ("__classdict__" : Str)) = false) :
    PE X (.Name x pos) (tD G W fun ρ st => match ρ[i]? with | some (some d) => .ok d st | _ => .bad) :=
  PEi (pe_var hi hv h1 h2) fun σ H Q ⟨ι, ρ, st, hρ, S, h⟩ => by
    dsimp only at h
    split at h
    · rename_i d hd
      obtain ⟨v, hv, r⟩ := hρ.at_ i d hd
      exact ⟨v, hv, h v H ι Ext.refl S r⟩
    · exact h.elim
theorem plainIx_of {b : Expr} (h : noSl b = true) : PlainIx b := by
  intro o i
  cases b <;> first | rfl | cases h
theorem base_of {o : Expr} {a : Str} {env : PySem.Env} (h : plainB o = true) : attributeBase o a env (eval o env) = eval o env := by
  cases o <;> first | rfl | skip
  rename_i f as ks pos
  cases f <;> first | rfl | skip
  cases as <;> cases ks <;> first | rfl | cases h
theorem folded_of {it : Expr} {env : PySem.Env} (h : noSet it = true) : ∀ x, foldedSetIterable it env x = pure x := by
  intro x
  cases it <;> first | rfl | cases h
theorem back_of {es : List Expr} {pos : Pos} {env : PySem.Env} (h : es.all noSt = true) : (backTo pos (starEach es env)).any (·.1) = false ∧ (backTo pos (starEach es env)).all (fun x => !x.1) = true := by
  induction es with
  | nil => exact ⟨rfl, rfl⟩
  | cons e es ih =>
    rw [List.all_cons, Bool.and_eq_true] at h
    have hs : PySem.W.isStarred e = false := by have := h.1; unfold noSt at this; rwa [Bool.not_eq_true'] at this
    obtain ⟨i1, i2⟩ := ih h.2
    rw [star1 es env hs]
    unfold backTo at i1 i2 ⊢
    exact ⟨by rw [List.map_cons, List.any_cons, i1]; rfl, by rw [List.map_cons, List.all_cons, i2]; rfl⟩
end
end DS

set_option Elab.async false
set_option linter.all false
set_option maxRecDepth 100000
set_option maxHeartbeats 8000000
/-! what is checked is so: expressions, all together -/
namespace DS
open PySem PySem.Spec PyProof.Rows L2
open DL (D Cell Store DX Res SRes E)

section
variable {G : Gl} {tb : Tb} {C : DL.Ctx} {k : Nat} {W : WX} {sc ss : Scope} {X : Cx} {e : Expr}
theorem lookup_relS' {scope sc : Scope} {x : Str} {j : NameKind} (hj : j ≠ .free) (h : scope.names.lookup x = some j) : (relS scope sc).names.lookup x = some j := lookup_relS_keep hj h
theorem CtxOk.blk {scope : Scope} {own : List (String × Nat)} (c : CtxOk G tb C k W sc ss X) (h : blkB tb.N sc scope own = true) (s : Shared) (H : Hp) (A : Addr) (cl : List (Str × Addr)) (fp : List Addr) :
    CtxOk G tb C k W0 (relS scope sc) scope (X.blk s H scope (compEnvC scope cl A X.env) fp) where
  K := c.K
  N := c.N
  nd := c.nd
  calm := c.calm
  room := c.room
  sc := by rw [← c.sc]; rfl
  tk := fun u s' ⟨a, B, sI, pins, σ, H, cls, d, e, I, nb, up, sky, na, os, ag, w⟩ => w.elim
  fns := fun f x np hf => ⟨(c.fns f x np hf).ex, (c.fns f x np hf).hl⟩
  bl := c.bl
  cst := c.cst
  st := fun x hx => by
    have e : (compEnvC scope cl A X.env).scope = relS scope X.env.scope := rfl
    unfold locB at hx
    rw [Bool.or_eq_true] at hx
    rcases hx with h | h
    · have := lookup_relS' (sc := X.env.scope) (by intro z; cases z) (of_decide_eq_true h)
      exact ⟨.inl this, .inr this⟩
    · have := lookup_relS' (sc := X.env.scope) (by intro z; cases z) (of_decide_eq_true h)
      exact ⟨.inr this, .inl (by show (scope.names.lookup x == some .cell) = true; rw [of_decide_eq_true h]; try rfl)⟩
theorem own_map (own : List (String × Nat)) : (ownS own).map (·.2) = own.map (·.2) := by
  unfold ownS
  rw [List.map_map]
  rfl
theorem blkB_ok {N : List Str} {scope : Scope} {own : List (String × Nat)} (h : blkB N sc scope own = true) : BlkOk N sc scope (ownS own) := by
  unfold blkB at h
  simp only [Bool.and_eq_true, List.all_eq_true, decide_eq_true_eq] at h
  obtain ⟨h1, h2, h3, h4, h5⟩ := h
  exact ⟨h1, h2, h3, h4, h5⟩
mutual
theorem ckG_ok (c : CtxOk G tb C k W sc ss X) : ∀ (t : E) (e : Expr), ckG tb.N ss t e = true → PG X e (tT G (DL.tgSlots t) (DL.putT t))
  | .var i, e, h => by
    cases e <;> first | (cases h; done) | skip
    rename_i x pos
    simp only [ckG, Bool.and_eq_true] at h
    obtain ⟨h1, h2⟩ := c.st x h.2
    have := g_name (G := G) (pos := pos) c.nd (by rw [c.N]; exact of_decide_eq_true h.1) h1 h2
    rw [show DL.tgSlots (.var i) = [i] by rw [DL.tgSlots], show DL.putT (.var i) = (fun d ρ => some (ρ.set i (some d))) from funext fun d => funext fun ρ => by rw [DL.putT]]
    exact this
  | .tup ts, e, h => by
    cases e <;> first | (cases h; done) | skip
    rename_i es n pos
    simp only [ckG] at h
    obtain ⟨h1, h2, h3⟩ := ckGs_ok c ts es h
    have := g_tup (n := n) (pos := pos) c.K c.calm h2 h1 h3
    rw [show DL.tgSlots (.tup ts) = DL.tgSlotss ts by rw [DL.tgSlots], show DL.putT (.tup ts) = (fun d ρ => match d with | .tup ds => DL.putTs ts ds ρ | _ => none) from funext fun d => funext fun ρ => by cases d <;> rw [DL.putT] <;> (intros; simp_all)]
    exact this
  | .nop, e, h | .cst _, e, h | .bin _ _ _, e, h | .cmp _ _ _, e, h | .chain _ _ _ _ _, e, h | .and _, e, h | .or _, e, h | .not _, e, h | .neg _, e, h | .ife _ _ _, e, h | .lst _, e, h | .dic _, e, h | .ix _ _, e, h | .sl _ _ _, e, h | .rev _, e, h | .call _ _, e, h | .bi _ _, e, h | .isi _ _, e, h | .me _ _ _, e, h | .lc _ _ _ _ _, e, h | .rng _, e, h | .enum _, e, h | .zip _ _, e, h => by
    simp [ckG] at h
theorem ckGs_ok (c : CtxOk G tb C k W sc ss X) : ∀ (ts : List E) (es : List Expr), ckGs tb.N ss ts es = true → PGs X es (tTs G (DL.tgSlotss ts) (DL.putTs ts)) ∧ (es.all fun e => !PySem.W.isStarred e) = true ∧ ∀ ds ρ ρ', DL.putTs ts ds ρ = some ρ' → ds.length = es.length
  | [], es, h => by
    cases es with
    | cons _ _ => simp [ckGs] at h
    | nil =>
      refine ⟨?_, rfl, fun ds ρ ρ' h => ?_⟩
      · have := g_nil (G := G) (X := X) (S := [])
        rw [show DL.tgSlotss [] = [] by rw [DL.tgSlotss], show DL.putTs [] = (fun ds ρ => match ds with | [] => some ρ | _ => none) from funext fun ds => funext fun ρ => by cases ds <;> rw [DL.putTs] <;> (intros; simp_all)]
        exact this
      · cases ds with
        | nil => rfl
        | cons _ _ => simp [DL.putTs] at h
  | t :: ts, es, h => by
    cases es with
    | nil => simp [ckGs] at h
    | cons e es =>
      simp only [ckGs, Bool.and_eq_true] at h
      obtain ⟨h0, h1, h2⟩ := h
      have p1 := ckG_ok c t e h1
      obtain ⟨p2, p3, p4⟩ := ckGs_ok c ts es h2
      have hs : PySem.W.isStarred e = false := by unfold noSt at h0; rwa [Bool.not_eq_true'] at h0
      refine ⟨?_, by rw [List.all_cons, p3, hs]; rfl, fun ds ρ ρ' h => ?_⟩
      · have := g_cons hs p1 p2
        rw [show DL.tgSlotss (t :: ts) = DL.tgSlots t ++ DL.tgSlotss ts by rw [DL.tgSlotss], show DL.putTs (t :: ts) = (fun ds ρ => match ds with | d :: ds => (match DL.putT t d ρ with | some ρ => DL.putTs ts ds ρ | none => none) | _ => none) from funext fun ds => funext fun ρ => by
          cases ds with
          | nil => simp [DL.putTs]
          | cons d ds =>
            rw [DL.putTs]
            try rfl]
        exact this
      · cases ds with
        | nil => simp [DL.putTs] at h
        | cons d ds =>
          rw [DL.putTs] at h
          split at h
          · rw [List.length_cons, List.length_cons, p4 _ _ _ h]
          · cases h
end
end
end DS

set_option Elab.async false
set_option linter.all false
set_option maxRecDepth 100000
set_option maxHeartbeats 8000000
namespace DS
open PySem PySem.Spec PyProof.Rows L2
open DL (D Cell Store DX Res SRes E)

section
variable {G : Gl} {tb : Tb} {C : DL.Ctx} {k : Nat} {W : WX} {sc ss : Scope} {X : Cx} {e : Expr}
theorem evEs_len {C : DL.Ctx} {ρ : DL.Env} : ∀ {es : List E} {st : Store} {ds : List D} {st' : Store}, DL.evEs C ρ es st = .ok ds st' → ds.length = es.length
  | [], st, ds, st', h => by rw [DL.evEs] at h; cases h; rfl
  | e :: es, st, ds, st', h => by
    rw [DL.evEs] at h
    cases e1 : DL.evE C ρ e st with
    | bad => rw [e1] at h; cases h
    | exc _ _ => rw [e1] at h; cases h
    | ok x s1 =>
      rw [e1] at h
      dsimp only [DL.Res.bind] at h
      cases e2 : DL.evEs C ρ es s1 with
      | bad => rw [e2] at h; cases h
      | exc _ _ => rw [e2] at h; cases h
      | ok xs s2 =>
        rw [e2] at h
        cases h
        rw [List.length_cons, List.length_cons, evEs_len e2]
/-- what the reading of a value gives a test -/
abbrev Jd (G : Gl) (W : WX) (X : Cx) (t : Bool) (e : Expr) (m : DL.Env → Store → Res D) : Prop := (t = false → PE X e (tD G W m)) ∧ (t = true → PT X e (tDT G W (mT m)))
theorem Jd.eq {t : Bool} {m m' : DL.Env → Store → Res D} (h : ∀ ρ st, m ρ st = m' ρ st) (p : Jd G W X t e m) : Jd G W X t e m' := by rw [show m' = m from funext fun ρ => funext fun st => (h ρ st).symm]; exact p
theorem mT_not {r : Res D} : (r.bind fun x st => DL.ofO (DL.truD x st) st id).bind (fun b st => .ok (!b) st) = (r.bind fun x st => DL.ofO (DL.truD x st) st fun b => D.bl (!b)).bind fun x st => DL.ofO (DL.truD x st) st id := by
  cases r with
  | bad => rfl
  | exc _ _ => rfl
  | ok x st =>
    dsimp only [DL.Res.bind]
    cases e : DL.truD x st with
    | none => rfl
    | some b => rfl
theorem mT_cmp {r : Res D} {f : D → Store → Res D} {o : D → D → Store → Option Bool} : (r.bind fun x st => (f x st).bind fun y st => DL.ofO (o x y st) st id) = ((r.bind fun x st => (f x st).bind fun y st => DL.ofO (o x y st) st .bl).bind fun x st => DL.ofO (DL.truD x st) st id) := by
  cases r with
  | bad => rfl
  | exc _ _ => rfl
  | ok x st =>
    dsimp only [DL.Res.bind]
    cases f x st with
    | bad => rfl
    | exc _ _ => rfl
    | ok y st1 =>
      dsimp only [DL.Res.bind]
      cases o x y st1 with
      | none => rfl
      | some b => rfl
theorem evIfs1 {C : DL.Ctx} {ρ : DL.Env} {a : E} {st : Store} : DL.evIfs C ρ [a] st = (DL.evE C ρ a st).bind fun x st => DL.ofO (DL.truD x st) st id := by
  rw [DL.evIfs]
  cases DL.evE C ρ a st with
  | bad => rfl
  | exc _ _ => rfl
  | ok x s =>
    dsimp only [DL.Res.bind]
    cases DL.truD x s with
    | none => rfl
    | some b =>
      cases b
      · rfl
      · dsimp only
        rw [DL.evIfs]
        rfl
theorem evAnd1 {C : DL.Ctx} {ρ : DL.Env} {a : E} {st : Store} : DL.evAnd C ρ [a] st = (DL.evE C ρ a st).bind fun x st => match x with | .bl true => .ok (.bl true) st | .bl false => .ok (.bl false) st | _ => .bad := by
  rw [DL.evAnd]
  cases DL.evE C ρ a st with
  | bad => rfl
  | exc _ _ => rfl
  | ok x s =>
    dsimp only [DL.Res.bind]
    cases x with
    | bl b =>
      cases b
      · rfl
      · dsimp only; rw [DL.evAnd]
    | _ => rfl
theorem evOr1 {C : DL.Ctx} {ρ : DL.Env} {a : E} {st : Store} : DL.evOr C ρ [a] st = (DL.evE C ρ a st).bind fun x st => match x with | .bl true => .ok (.bl true) st | .bl false => .ok (.bl false) st | _ => .bad := by
  rw [DL.evOr]
  cases DL.evE C ρ a st with
  | bad => rfl
  | exc _ _ => rfl
  | ok x s =>
    dsimp only [DL.Res.bind]
    cases x with
    | bl b =>
      cases b
      · dsimp only; rw [DL.evOr]
      · rfl
    | _ => rfl
theorem evP_ne {C : DL.Ctx} {ρ : DL.Env} {a : E} {st : Store} (h : a ≠ .nop) : DL.evP C ρ a st = (DL.evE C ρ a st).bind fun x st => match x with | .int i => .ok (some i) st | _ => .bad := by
  cases a <;> first | exact absurd rfl h | (rw [DL.evP] <;> first | rfl | (intro z; cases z))
def srcV : E → Bool
  | .rng _ => false
  | .enum _ => false
  | _ => true
theorem evI_ne {C : DL.Ctx} {ρ : DL.Env} {a : E} {st : Store} (h : srcV a = true) : DL.evI C ρ a st = (DL.evE C ρ a st).bind fun x st => match x with
    | .tup xs => .ok (xs, none) st
    | .str s => .ok (s.map (fun c => .str [c]), none) st
    | .ref l => match st[l]? with | some (.lst xs) => .ok (xs, some (l, xs)) st | _ => .bad
    | _ => .bad := by
  cases a <;> first | (cases h; done) | (rw [DL.evI] <;> first | rfl | (intro z; intros; simp_all))
/-- calls of defs -/
theorem call_pe {x : Str} {p pos : Pos} {es : List Expr} {f : Nat} {me : DL.Env → Store → Res (List D)} (c : CtxOk G tb C k W sc ss X) (hg : glB sc x = true) (hn : nmOk x = true) (hf : tb.fns[f]? = some (x, es.length)) (ha : PA X es (tDA G W me)) (hs : es.all noSt = true)
    (h0 : es = [] → ∀ ρ st, me ρ st = .ok [] st) : PE X (.Call (.Name x p) es [] pos) (tD G W fun ρ st => (me ρ st).bind fun xs st => C.call f xs st) := by
  obtain ⟨⟨fa, fd, ps, F, hm, hk, hb⟩, hl⟩ := c.fns f x _ hf
  obtain ⟨n1, n2, n3⟩ := nmOk_iff hn
  cases es with
  | nil => exact pe_eq (fun ρ st => by rw [h0 rfl]) (d_call0 F c.room (c.glb hg) hm hk hb c.tk hl n1)
  | cons e es =>
    rw [List.all_cons, Bool.and_eq_true] at hs
    have hs1 : PySem.W.isStarred e = false := by have := hs.1; unfold noSt at this; rwa [Bool.not_eq_true'] at this
    exact d_call F c.room (c.glb hg) hm hk hb c.tk hl ha hs1 n1 (back_of hs.2).1
theorem bi_pe {x : Str} {p pos : Pos} {es : List Expr} {b : DL.Bi} {me : DL.Env → Store → Res (List D)} (c : CtxOk G tb C k W sc ss X) (hg : glB sc x = true) (hb : biN b = some x) (hne : es.isEmpty = false) (h4 : b ≠ .min ∨ es.length ≠ 4) (hl : ∀ ρ st ds st', me ρ st = .ok ds st' → ds.length = es.length)
    (ha : PA X es (tDA G W me)) (hs : es.all noSt = true) : PE X (.Call (.Name x p) es [] pos) (tD G W fun ρ st => (me ρ st).bind fun xs st => DL.ofV (DL.biD b xs st)) := by
  cases es with
  | nil => cases hne
  | cons e es =>
    rw [List.all_cons, Bool.and_eq_true] at hs
    have hs1 : PySem.W.isStarred e = false := by have := hs.1; unfold noSt at this; rwa [Bool.not_eq_true'] at this
    have hp := (back_of (pos := pos) (env := X.env) hs.2).1
    have hG := c.glb hg
    cases b <;> first | (cases hb; done) | (cases hb)
    · exact d_bi (call_lenD c.K) hG (c.bl _ (by decide)) (by decide +kernel) ha hs1 (by decide) (by decide) hp
    · exact d_biT call_intD hG (c.bl _ (by decide)) (by decide +kernel) ha hs1 (by decide) (by decide) hp
    · refine pe_eq (fun ρ st => ?_) (d_bi (call_minD c.K c.calm) hG (c.bl _ (by decide)) (by decide +kernel) ha hs1 (by decide) (by decide) hp)
      cases q : me ρ st with
      | bad => rfl
      | exc _ _ => rfl
      | ok ds st1 =>
        dsimp only [DL.Res.bind, DL.biD]
        rw [if_neg]
        rw [hl _ _ _ _ q]
        exact h4.resolve_left fun z => z rfl
    · exact d_biT (call_tupleD c.K) hG (c.bl _ (by decide)) (by decide +kernel) ha hs1 (by decide) (by decide) hp
    · exact d_biT (call_listD c.K) hG (c.bl _ (by decide)) (by decide +kernel) ha hs1 (by decide) (by decide) hp
    · exact d_bi (call_allD c.K c.calm) hG (c.bl _ (by decide)) (by decide +kernel) ha hs1 (by decide) (by decide) hp
    · exact d_bi (call_anyD c.K c.calm) hG (c.bl _ (by decide)) (by decide +kernel) ha hs1 (by decide) (by decide) hp
theorem isi_pe {x z : Str} {p p2 pos : Pos} {T : DL.Ty} {m : DL.Env → Store → Res D} (c : CtxOk G tb C k W sc ss X) (h1 : gnm sc x "isinstance" = true) (h2 : gnm sc z (tyS T) = true) (hs : noSt e = true) (he : PE X e (tD G W m)) :
    PE X (.Call (.Name x p) [e, .Name z p2] [] pos) (tD G W fun ρ st => (m ρ st).bind fun d st => DL.ofO (DL.isiD d T st) st .bl) := by
  obtain ⟨rfl, g1, m1⟩ := c.gnm h1 (by decide)
  have ht : tyS T ∈ bltNames := by cases T <;> decide +kernel
  obtain ⟨rfl, g2, m2⟩ := c.gnm h2 ht
  have hs1 : PySem.W.isStarred e = false := by unfold noSt at hs; rwa [Bool.not_eq_true'] at hs
  exact d_isi c.K g1 m1 rfl g2 m2 (by cases T <;> decide +kernel) (by cases T <;> decide +kernel) (by cases T <;> decide +kernel) he hs1
theorem me_pe {o : Expr} {x : Str} {ap cp : Pos} {es : List Expr} {q : DL.Me} {m : DL.Env → Store → Res D} {me : DL.Env → Store → Res (List D)} (c : CtxOk G tb C k W sc ss X) (h1 : meN q = some x) (h2 : plainB o = true) (h3 : ap.endLine = cp.line) (h4 : es.isEmpty = false) (h5 : es.length < 30)
    (ho : PE X o (tD G W m)) (ha : PA X es (tDA G W me)) (hs : es.all noSt = true) :
    PE X (.Call (.Attribute o x ap) es [] cp) (tD G W fun ρ st => (m ρ st).bind fun d st => if DL.recv q d st = true then (me ρ st).bind fun xs st => DL.ofV (DL.meD q d xs st) else .bad) := by
  cases es with
  | nil => cases h4
  | cons e es =>
    have hb := back_of (pos := cp) (env := X.env) hs
    rw [List.all_cons, Bool.and_eq_true] at hs
    have hs1 : PySem.W.isStarred e = false := by have := hs.1; unfold noSt at this; rwa [Bool.not_eq_true'] at this
    have hp := (back_of (pos := cp) (env := X.env) hs.2).1
    have hfew : ((backTo cp (starEach (e :: es) X.env)).all (fun x => !x.1) && (backToKw cp (keywordEach [] X.env)).all (fun x => x.1.isSome) && decide ((e :: es).length + ([] : List Keyword).length + (if ([] : List Keyword).isEmpty then 0 else 1) < 30)) = true := by
      rw [hb.2, decide_eq_true (by simpa using h5)]
      rfl
    have hl : (ap.endLine == cp.line) = true := by rw [h3]; exact beq_self_eq_true _
    cases q <;> first | (cases h1; done) | (cases h1)
    · exact d_me PySem.F.plainAttrs_list PySem.F.slot_list_append PySem.F.type_list_append mt_appendD (recv_list c.K) ho ha hs1 (base_of h2) hfew hl hp
    · exact d_me PySem.F.plainAttrs_str PySem.F.slot_str_join PySem.F.type_str_join (mt_joinD c.K) recv_str ho ha hs1 (base_of h2) hfew hl hp
/-- for's sources -/
theorem rng_pi {tg : Expr} {p pos : Pos} {y : Str} {es : List Expr} {me : DL.Env → Store → Res (List D)} (c : CtxOk G tb C k W sc ss X) (h : gnm sc y "range" = true) (hn : 1 ≤ es.length ∧ es.length ≤ 3) (hl : ∀ ρ st ds st', me ρ st = .ok ds st' → ds.length = es.length) (ha : PA X es (tDA G W me)) (hs : es.all noSt = true) :
    PI X tg (.Call (.Name y p) es [] pos) (tI G W fun ρ st => (me ρ st).bind fun xs st => DL.ofO (DL.rngD xs) st fun r => (r, none)) := by
  obtain ⟨rfl, g, m⟩ := c.gnm h (by decide)
  have st1 : ∀ e ∈ es, PySem.W.isStarred e = false := fun e he => by have := List.all_eq_true.mp hs e he; unfold noSt at this; rwa [Bool.not_eq_true'] at this
  match es, hn, hl, ha, st1 with
  | [a], _, hl, ha, st1 => exact d_rng1 g m ha (st1 _ (by simp)) hl
  | [a, b], _, hl, ha, st1 => exact d_rng2 g m ha (st1 _ (by simp)) (st1 _ (by simp)) hl
  | [a, b, d], _, hl, ha, st1 => exact d_rng3 g m ha (st1 _ (by simp)) (st1 _ (by simp)) (st1 _ (by simp)) hl
  | [], hn, _, _, _ => exact absurd hn.1 (by decide)
  | _ :: _ :: _ :: _ :: _, hn, _, _, _ => exact absurd hn.2 (by simp)
end
end DS

set_option Elab.async false
set_option linter.all false
set_option maxRecDepth 100000
set_option maxHeartbeats 8000000
namespace DS
open PySem PySem.Spec PyProof.Rows L2
open DL (D Cell Store DX Res SRes E)

section
variable {G : Gl} {tb : Tb} {C : DL.Ctx} {k : Nat}
theorem not_star {e : Expr} (h : noSt e = true) : PySem.W.isStarred e = false := by unfold noSt at h; rwa [Bool.not_eq_true'] at h
mutual
theorem ok_ck : ∀ (ir : E) (sc : Scope) (t : Bool) (e : Expr) (ss : Scope) (W : WX) (X : Cx), ck tb sc t ir e = true → CtxOk G tb C k W sc ss X → Jd G W X t e fun ρ st => DL.evE C ρ ir st
  | .var i, sc, t, e, ss, W, X, h, c => by
    cases e <;> first | (simp [ck] at h; done) | skip
    simp only [ck, Bool.and_eq_true] at h
    obtain ⟨h1, h2, h3⟩ := h
    obtain ⟨n1, n2, n3⟩ := nmOk_iff h3
    exact Jd.eq (fun ρ st => by rw [DL.evE]; try rfl) (leaf c.K (var_pe (i := i) (by rw [c.N]; exact of_decide_eq_true h1) (c.vis h2) n1 n2) fun _ => rfl)
  | .cst d, sc, t, e, ss, W, X, h, c => by
    cases e <;> first | (simp [ck] at h; done) | skip
    · simp only [ck] at h
      exact Jd.eq (fun ρ st => by rw [DL.evE]) (leaf c.K (ckC_ok h) fun _ => rfl)
    · simp only [ck, Bool.and_eq_true] at h
      obtain ⟨h1, h2, h3⟩ := h
      obtain ⟨n1, n2, n3⟩ := nmOk_iff h2
      split at h3
      · rename_i d' hd
        obtain rfl := same_eq h3
        obtain ⟨u, v, hm, r, hr⟩ := c.cst _ _ hd
        exact Jd.eq (fun ρ st => by rw [DL.evE]) (leaf c.K (cst_pe (pe_glob (c.glb h1) hm r n1) hr) fun _ => rfl)
      · cases h3
  | .bin o a b, sc, t, e, ss, W, X, h, c => by
    cases e <;> first | (simp [ck] at h; done) | skip
    simp only [ck, Bool.and_eq_true] at h
    obtain ⟨h1, h2, h3⟩ := h
    exact Jd.eq (fun ρ st => by rw [DL.evE]) (leaf c.K (d_op (opM_ok c.K h1) ((ok_ck a sc false _ ss W X h2 c).1 rfl) ((ok_ck b sc false _ ss W X h3 c).1 rfl)) fun _ => rfl)
  | .cmp o a b, sc, t, e, ss, W, X, h, c => by
    cases e <;> first | (simp [ck] at h; done) | skip
    rename_i x ps ys pos
    match ps, ys, h with
    | [p], [y], h =>
      simp only [ck, Bool.and_eq_true, Bool.not_eq_true'] at h
      obtain ⟨h1, h2, h3, h4⟩ := h
      have ha := (ok_ck a sc false _ ss W X h3 c).1 rfl
      have hb := (ok_ck b sc false _ ss W X h4 c).1 rfl
      refine ⟨fun _ => pe_eq (fun ρ st => by rw [DL.evE]) (d_cmp (copM_ok c.K c.hu2 h1) ha hb h2), fun _ => pt_eq (fun ρ st => ?_) (d_cmpT (copM_ok c.K c.hu2 h1) ha hb h2)⟩
      dsimp only [mT]
      rw [DL.evE]
      exact mT_cmp (f := fun x st => DL.evE C ρ b st)
    | [], _, h | _ :: _ :: _, _, h | [_], [], h | [_], _ :: _ :: _, h => simp [ck] at h
  | .chain o1 o2 a b d, sc, t, e, ss, W, X, h, c => by
    cases e <;> first | (simp [ck] at h; done) | skip
    rename_i x ps ys pos
    match ps, ys, h with
    | [p, q], [y, z], h =>
      simp only [ck, Bool.and_eq_true, Bool.not_eq_true'] at h
      obtain ⟨h1, h2, h3, h4, h5, h6⟩ := h
      have ha := (ok_ck a sc false _ ss W X h4 c).1 rfl
      have hb := (ok_ck b sc false _ ss W X h5 c).1 rfl
      have hd := (ok_ck d sc false _ ss W X h6 c).1 rfl
      refine ⟨fun _ => pe_eq (fun ρ st => ?_) (d_chain (copM_ok c.K c.hu2 h1) (copM_ok c.K c.hu2 h2) ha hb hd h3), fun _ => pt_eq (fun ρ st => ?_) (d_chainT (copM_ok c.K c.hu2 h1) (copM_ok c.K c.hu2 h2) ha hb hd h3)⟩
      · rw [DL.evE]
        try rfl
      · dsimp only [mT]
        rw [DL.evE]
        cases DL.evE C ρ a st with
        | bad => rfl
        | exc _ _ => rfl
        | ok x st1 =>
          dsimp only [DL.Res.bind]
          cases DL.evE C ρ b st1 with
          | bad => rfl
          | exc _ _ => rfl
          | ok y st2 =>
            dsimp only [DL.Res.bind]
            cases DL.cmpD o1 x y st2 with
            | none => rfl
            | some k =>
              cases k with
              | false => rfl
              | true =>
                dsimp only
                cases DL.evE C ρ d st2 with
                | bad => rfl
                | exc _ _ => rfl
                | ok z st3 =>
                  dsimp only [DL.Res.bind]
                  cases DL.cmpD o2 y z st3 <;> rfl
    | [], _, h | [_], _, h | _ :: _ :: _ :: _, _, h | [_, _], [], h | [_, _], [_], h | [_, _], _ :: _ :: _ :: _, h => simp [ck] at h
  | .and es, sc, t, e, ss, W, X, h, c => by
    cases e <;> first | (simp [ck] at h; done) | skip
    rename_i op xs pos
    cases op <;> first | (simp [ck] at h; done) | skip
    simp only [ck, Bool.and_eq_true] at h
    obtain ⟨h0, h1⟩ := h
    have := ok_and es sc t xs pos ss W X (by intro z; subst z; cases h0) h1 c
    exact ⟨fun ht => pe_eq (fun ρ st => by rw [DL.evE]) (this.1 ht), fun ht => pt_eq (fun ρ st => by dsimp only [mT]; rw [DL.evE]) (this.2 ht).pt⟩
  | .or es, sc, t, e, ss, W, X, h, c => by
    cases e <;> first | (simp [ck] at h; done) | skip
    rename_i op xs pos
    cases op <;> first | (simp [ck] at h; done) | skip
    simp only [ck, Bool.and_eq_true] at h
    obtain ⟨h0, h1⟩ := h
    have := ok_or es sc t xs pos ss W X (by intro z; subst z; cases h0) h1 c
    exact ⟨fun ht => pe_eq (fun ρ st => by rw [DL.evE]) (this.1 ht), fun ht => pt_eq (fun ρ st => by dsimp only [mT]; rw [DL.evE]) (this.2 ht).pt⟩
  | .not a, sc, t, e, ss, W, X, h, c => by
    cases e <;> first | (simp [ck] at h; done) | skip
    rename_i op x pos
    cases op <;> first | (simp [ck] at h; done) | skip
    simp only [ck] at h
    have := ok_ck a sc t _ ss W X h c
    refine ⟨fun ht => pe_eq (fun ρ st => by rw [DL.evE]) (d_notV c.K (this.1 ht)), fun ht => pt_eq (fun ρ st => ?_) (d_not (this.2 ht))⟩
    dsimp only [mT]
    rw [DL.evE]
    exact mT_not
  | .neg a, sc, t, e, ss, W, X, h, c => by
    cases e <;> first | (simp [ck] at h; done) | skip
    rename_i op x pos
    cases op <;> first | (simp [ck] at h; done) | skip
    simp only [ck] at h
    exact Jd.eq (fun ρ st => by rw [DL.evE]; try rfl) (leaf c.K (d_neg ((ok_ck a sc false _ ss W X h c).1 rfl)) fun _ => rfl)
  | .ife d a b, sc, t, e, ss, W, X, h, c => by
    cases e <;> first | (simp [ck] at h; done) | skip
    simp only [ck, Bool.and_eq_true, Bool.not_eq_true'] at h
    obtain ⟨h0, h1, h2, h3⟩ := h
    refine ⟨fun ht => pe_eq (fun ρ st => ?_) (d_ife ((ok_ck d sc true _ ss W X h1 c).2 rfl) ((ok_ck a sc false _ ss W X h2 c).1 rfl) ((ok_ck b sc false _ ss W X h3 c).1 rfl)), fun ht => by rw [h0] at ht; cases ht⟩
    rw [DL.evE]
    dsimp only [mT]
    cases DL.evE C ρ d st with
    | bad => rfl
    | exc _ _ => rfl
    | ok x st1 =>
      dsimp only [DL.Res.bind]
      cases DL.truD x st1 with
      | none => rfl
      | some k => cases k <;> rfl
  | .tup es, sc, t, e, ss, W, X, h, c => by
    cases e <;> first | (simp [ck] at h; done) | skip
    simp only [ck] at h
    exact Jd.eq (fun ρ st => by rw [DL.evE]) (leaf c.K (d_tup (ok_es es sc _ ss W X h c).1) fun _ => rfl)
  | .lst es, sc, t, e, ss, W, X, h, c => by
    cases e <;> first | (simp [ck] at h; done) | skip
    simp only [ck] at h
    exact Jd.eq (fun ρ st => by rw [DL.evE]) (leaf c.K (d_lst (ok_es es sc _ ss W X h c).1) fun _ => rfl)
  | .dic tk, sc, t, e, ss, W, X, h, c => by
    cases e <;> first | (simp [ck] at h; done) | skip
    rename_i ks vs pos
    cases ks <;> cases vs <;> first | (simp [ck] at h; done) | skip
    exact Jd.eq (fun ρ st => by rw [DL.evE]) (leaf c.K d_dic fun _ => rfl)
  | .ix a b, sc, t, e, ss, W, X, h, c => by
    cases e <;> first | (simp [ck] at h; done) | skip
    simp only [ck, Bool.and_eq_true] at h
    obtain ⟨h1, h2, h3⟩ := h
    exact Jd.eq (fun ρ st => by rw [DL.evE]) (leaf c.K (d_ix c.K c.hu ((ok_ck a sc false _ ss W X h2 c).1 rfl) ((ok_ck b sc false _ ss W X h3 c).1 rfl) (plainIx_of h1)) fun _ => rfl)
  | .sl a lo hi, sc, t, e, ss, W, X, h, c => by
    cases e <;> first | (simp [ck] at h; done) | skip
    rename_i x y pos
    cases y <;> first | (simp [ck] at h; done) | skip
    rename_i l h' s p2
    cases s <;> first | (simp [ck] at h; done) | skip
    have part : ∀ (f : E), (∀ e' ss W X, ck tb sc false f e' = true → CtxOk G tb C k W sc ss X → Jd G W X false e' fun ρ st => DL.evE C ρ f st) → ∀ (o : Option Expr), (match f, o with
        | .nop, none => true
        | .nop, some _ => false
        | _, some e' => ck tb sc false f e'
        | _, none => false) = true → PO X o (tDO G W fun ρ st => DL.evP C ρ f st) := by
      intro f ih o ho
      by_cases hf : f = .nop
      · subst hf
        cases o with
        | none => exact po_eq (fun ρ st => by rw [DL.evP]) d_nopart
        | some _ => cases ho
      · cases o with
        | none => cases f <;> first | exact absurd rfl hf | cases ho
        | some e' =>
          have ho' : ck tb sc false f e' = true := by cases f <;> first | exact absurd rfl hf | exact ho
          exact po_eq (fun ρ st => (evP_ne hf).symm) (d_part ((ih e' ss W X ho' c).1 rfl))
    rw [ck.eq_def] at h
    dsimp only at h
    rw [Bool.and_eq_true, Bool.and_eq_true] at h
    obtain ⟨h1, h2, h3⟩ := h
    exact Jd.eq (fun ρ st => by rw [DL.evE]) (leaf c.K (d_sl c.K ((ok_ck a sc false _ ss W X h1 c).1 rfl) (part lo (fun e' ss W X => ok_ck lo sc false e' ss W X) _ h2) (part hi (fun e' ss W X => ok_ck hi sc false e' ss W X) _ h3)) fun _ => rfl)
  | .call f es, sc, t, e, ss, W, X, h, c => by
    cases e <;> first | (simp [ck] at h; done) | skip
    rename_i fn as ks pos
    cases fn <;> first | (simp [ck] at h; done) | skip
    cases ks <;> first | (simp [ck] at h; done) | skip
    simp only [ck, Bool.and_eq_true] at h
    obtain ⟨h1, h2, h3, h4⟩ := h
    obtain ⟨p1, p2, p3⟩ := ok_es es sc _ ss W X h4 c
    refine Jd.eq (fun ρ st => by rw [DL.evE]) (leaf c.K (call_pe c h1 h2 (of_decide_eq_true h3) p1 p2 fun z ρ st => ?_) fun _ => rfl)
    subst z
    cases es with
    | nil => rw [DL.evEs]
    | cons _ _ => cases p3
  | .bi b es, sc, t, e, ss, W, X, h, c => by
    cases e <;> first | (simp [ck] at h; done) | skip
    rename_i fn as ks pos
    cases fn <;> first | (simp [ck] at h; done) | skip
    cases ks <;> first | (simp [ck] at h; done) | skip
    simp only [ck, Bool.and_eq_true, Bool.not_eq_true'] at h
    obtain ⟨h1, h2, h3, h4, h5⟩ := h
    obtain ⟨p1, p2, p3⟩ := ok_es es sc _ ss W X h5 c
    exact Jd.eq (fun ρ st => by rw [DL.evE]) (leaf c.K (bi_pe c h1 (of_decide_eq_true h2) h3 (of_decide_eq_true h4) (fun ρ st ds st' q => by rw [evEs_len q, p3]) p1 p2) fun _ => rfl)
  | .isi a T, sc, t, e, ss, W, X, h, c => by
    cases e <;> first | (simp [ck] at h; done) | skip
    rename_i fn as ks pos
    cases fn <;> first | (simp [ck] at h; done) | skip
    cases ks <;> first | (simp [ck] at h; done) | skip
    match as, h with
    | [y, .Name z p2], h =>
      simp only [ck, Bool.and_eq_true] at h
      obtain ⟨h1, h2, h3, h4⟩ := h
      exact Jd.eq (fun ρ st => by rw [DL.evE]) (leaf c.K (isi_pe c h1 h2 h3 ((ok_ck a sc false _ ss W X h4 c).1 rfl)) fun _ => rfl)
    | [], h | [_], h | _ :: _ :: _ :: _, h => simp [ck] at h
    | [y, w], h =>
      cases w <;> first | (simp [ck] at h; done) | skip
      simp only [ck, Bool.and_eq_true] at h
      obtain ⟨h1, h2, h3, h4⟩ := h
      exact Jd.eq (fun ρ st => by rw [DL.evE]) (leaf c.K (isi_pe c h1 h2 h3 ((ok_ck a sc false _ ss W X h4 c).1 rfl)) fun _ => rfl)
  | .me m a es, sc, t, e, ss, W, X, h, c => by
    cases e <;> first | (simp [ck] at h; done) | skip
    rename_i fn as ks pos
    cases fn <;> first | (simp [ck] at h; done) | skip
    cases ks <;> first | (simp [ck] at h; done) | skip
    simp only [ck, Bool.and_eq_true, Bool.not_eq_true'] at h
    obtain ⟨h1, h2, h3, h4, h5, h6, h7⟩ := h
    obtain ⟨p1, p2, p3⟩ := ok_es es sc _ ss W X h7 c
    exact Jd.eq (fun ρ st => by rw [DL.evE]) (leaf c.K (me_pe c (of_decide_eq_true h1) h2 (of_decide_eq_true h3) h4 (of_decide_eq_true h5) ((ok_ck a sc false _ ss W X h6 c).1 rfl) p1 p2) fun _ => rfl)
  | .lc elt tg src ifs own, sc, t, e, ss, W, X, h, c => by
    cases e <;> first | (simp [ck] at h; done) | skip
    rename_i x gs scope pos
    match gs, h with
    | [⟨tg', it, ifs', q⟩], h =>
      have hq : q = 0 := by
        by_cases hq : q = 0
        · exact hq
        · simp [ck, hq] at h
      subst hq
      rw [ck.eq_def] at h
      dsimp only at h
      simp only [Bool.and_eq_true] at h
      obtain ⟨hB, hG, hS, hF, hI, hL, hT, hE⟩ := h
      have hi : PI X tg' it (tI G W fun ρ st => DL.evI C ρ src st) := by
        clear hT hE hL hF hS hG hB
        match src, hI with
        | .rng es, hI =>
          cases it <;> first | (cases hI; done) | skip
          rename_i fn as ks pos _
          cases fn <;> first | (cases hI; done) | skip
          cases ks <;> first | (cases hI; done) | skip
          simp only [Bool.and_eq_true] at hI
          obtain ⟨h1, h2, h3⟩ := hI
          obtain ⟨p1, p2, p3⟩ := ok_es es sc _ ss W X h3 c
          exact pi_eq (fun ρ st => by rw [DL.evI]) (rng_pi c h1 (of_decide_eq_true h2) (fun ρ st ds st' q => by rw [evEs_len q, p3]) p1 p2)
        | .enum a, hI =>
          cases it <;> first | (cases hI; done) | skip
          rename_i fn as ks pos _
          cases fn <;> first | (cases hI; done) | skip
          match as, ks, hI with
          | [z], [], hI =>
            simp only [Bool.and_eq_true] at hI
            obtain ⟨h1, h2, h3, h4⟩ := hI
            obtain ⟨rfl, g, m⟩ := c.gnm h1 (by decide)
            cases tg' <;> first | (cases h2; done) | skip
            exact pi_eq (fun ρ st => by rw [DL.evI]; try rfl) (d_enum c.K g m ((ok_ck a sc false _ ss W X h4 c).1 rfl) (not_star h3))
          | [], _, hI | [_], _ :: _, hI | _ :: _ :: _, _, hI => cases hI
        | .nop, hI | .var _, hI | .cst _, hI | .bin _ _ _, hI | .cmp _ _ _, hI | .chain _ _ _ _ _, hI | .and _, hI | .or _, hI | .not _, hI | .neg _, hI | .ife _ _ _, hI | .tup _, hI | .lst _, hI | .dic _, hI | .ix _ _, hI | .sl _ _ _, hI | .rev _, hI | .call _ _, hI | .bi _ _, hI | .isi _ _, hI | .me _ _ _, hI | .lc _ _ _ _ _, hI | .zip _ _, hI =>
          exact pi_eq (fun ρ st => (evI_ne rfl).symm) (d_seq c.K ((ok_ck _ sc false _ ss W X hI c).1 rfl))
      have hg := fun s H A cl fp => ckG_ok (c.blk hB s H A cl fp) tg tg' hG
      have ht := fun s H A cl fp => ok_ifs ifs (relS scope sc) ifs' scope W0 _ hT (of_decide_eq_true hL) (c.blk hB s H A cl fp)
      have he := fun s H A cl fp => (ok_ck elt (relS scope sc) false x scope W0 _ hE (c.blk hB s H A cl fp)).1 rfl
      have p := pe_lc c.calm c.nd hi (by rw [c.N, c.sc]; exact blkB_ok hB) hg ht he (folded_of hF) (pos := pos)
      refine Jd.eq (fun ρ st => ?_) (leaf c.K (PEi p (d_lc (X := X) (elt := x) (tg := tg') (iter := it) (ifs := ifs') (scope := scope) (pos := pos) rfl fun i hi => ?_)) fun _ => rfl)
      · rw [DL.evE, own_map]
        try rfl
      · rw [own_map]
        have := List.all_eq_true.mp hS i hi
        rw [List.any_eq_true] at this
        obtain ⟨q, hq, e⟩ := this
        exact List.mem_map.mpr ⟨q, hq, by simpa using e⟩
    | [], h | _ :: _ :: _, h => simp [ck] at h
  | .rev a, sc, t, e, ss, W, X, h, c => by
    rw [ck.eq_def] at h
    dsimp only at h
    split at h
    · exact Jd.eq (fun ρ st => by rw [DL.evE]) (leaf c.K (d_rev c.K ((ok_ck a sc false _ ss W X h c).1 rfl)) fun _ => rfl)
    · cases h
  | .nop, sc, t, e, ss, W, X, h, c | .rng _, sc, t, e, ss, W, X, h, c | .enum _, sc, t, e, ss, W, X, h, c | .zip _ _, sc, t, e, ss, W, X, h, c => by simp [ck] at h
theorem ok_es : ∀ (irs : List E) (sc : Scope) (es : List Expr) (ss : Scope) (W : WX) (X : Cx), ckEs tb sc irs es = true → CtxOk G tb C k W sc ss X → PA X es (tDA G W fun ρ st => DL.evEs C ρ irs st) ∧ es.all noSt = true ∧ irs.length = es.length
  | [], sc, es, ss, W, X, h, c => by
    cases es with
    | nil => exact ⟨pa_eq (fun ρ st => by rw [DL.evEs]) d_nil, rfl, rfl⟩
    | cons _ _ => simp [ckEs] at h
  | a :: irs, sc, es, ss, W, X, h, c => by
    cases es with
    | nil => simp [ckEs] at h
    | cons e es =>
      simp only [ckEs, Bool.and_eq_true] at h
      obtain ⟨h0, h1, h2⟩ := h
      obtain ⟨p1, p2, p3⟩ := ok_es irs sc es ss W X h2 c
      exact ⟨pa_eq (fun ρ st => by rw [DL.evEs]) (d_cons (not_star h0) ((ok_ck a sc false e ss W X h1 c).1 rfl) p1), by rw [List.all_cons, h0, p2]; rfl, by rw [List.length_cons, List.length_cons, p3]⟩
theorem ok_and : ∀ (irs : List E) (sc : Scope) (t : Bool) (es : List Expr) (pos : Pos) (ss : Scope) (W : WX) (X : Cx), es ≠ [] → ckN tb sc t irs es = true → CtxOk G tb C k W sc ss X →
    (t = false → PE X (.BoolOp .And es pos) (tD G W fun ρ st => DL.evAnd C ρ irs st)) ∧ (t = true → PW X (.BoolOp .And es pos) (tDT G W (mT fun ρ st => DL.evAnd C ρ irs st)))
  | [], sc, t, es, pos, ss, W, X, hne, h, c => by
    cases es with
    | nil => exact absurd rfl hne
    | cons _ _ => simp [ckN] at h
  | a :: irs, sc, t, es, pos, ss, W, X, hne, h, c => by
    cases es with
    | nil => exact absurd rfl hne
    | cons e es =>
      simp only [ckN, Bool.and_eq_true] at h
      obtain ⟨h1, h2⟩ := h
      have ha := ok_ck a sc t e ss W X h1 c
      cases es with
      | nil =>
        cases irs with
        | cons _ _ => simp [ckN] at h2
        | nil => exact ⟨fun ht => pe_eq (fun ρ st => evAnd1.symm) (d_and1 (ha.1 ht)), fun ht => pw_eq (fun ρ st => by dsimp only [mT]; rw [evAnd1]; try rfl) (d_andT1 (ha.2 ht))⟩
      | cons e2 es =>
        have ih := ok_and irs sc t (e2 :: es) pos ss W X (by simp) h2 c
        exact ⟨fun ht => pe_eq (fun ρ st => by rw [DL.evAnd]; try rfl) (d_andC (ha.1 ht) (ih.1 ht)), fun ht => pw_eq (fun ρ st => by dsimp only [mT]; rw [DL.evAnd]; try rfl) (d_andTC (ha.2 ht) (ih.2 ht))⟩
theorem ok_or : ∀ (irs : List E) (sc : Scope) (t : Bool) (es : List Expr) (pos : Pos) (ss : Scope) (W : WX) (X : Cx), es ≠ [] → ckN tb sc t irs es = true → CtxOk G tb C k W sc ss X →
    (t = false → PE X (.BoolOp .Or es pos) (tD G W fun ρ st => DL.evOr C ρ irs st)) ∧ (t = true → PW X (.BoolOp .Or es pos) (tDT G W (mT fun ρ st => DL.evOr C ρ irs st)))
  | [], sc, t, es, pos, ss, W, X, hne, h, c => by
    cases es with
    | nil => exact absurd rfl hne
    | cons _ _ => simp [ckN] at h
  | a :: irs, sc, t, es, pos, ss, W, X, hne, h, c => by
    cases es with
    | nil => exact absurd rfl hne
    | cons e es =>
      simp only [ckN, Bool.and_eq_true] at h
      obtain ⟨h1, h2⟩ := h
      have ha := ok_ck a sc t e ss W X h1 c
      cases es with
      | nil =>
        cases irs with
        | cons _ _ => simp [ckN] at h2
        | nil => exact ⟨fun ht => pe_eq (fun ρ st => evOr1.symm) (d_or1 (ha.1 ht)), fun ht => pw_eq (fun ρ st => by dsimp only [mT]; rw [evOr1]; try rfl) (d_orT1 (ha.2 ht))⟩
      | cons e2 es =>
        have ih := ok_or irs sc t (e2 :: es) pos ss W X (by simp) h2 c
        exact ⟨fun ht => pe_eq (fun ρ st => by rw [DL.evOr]; try rfl) (d_orC (ha.1 ht) (ih.1 ht)), fun ht => pw_eq (fun ρ st => by dsimp only [mT]; rw [DL.evOr]; try rfl) (d_orTC (ha.2 ht) (ih.2 ht))⟩
theorem ok_ifs : ∀ (irs : List E) (sc : Scope) (es : List Expr) (ss : Scope) (W : WX) (X : Cx), ckN tb sc true irs es = true → es.length ≤ 1 → CtxOk G tb C k W sc ss X → PTs X es (tDT G W fun ρ st => DL.evIfs C ρ irs st)
  | [], sc, es, ss, W, X, h, hl, c => by
    cases es with
    | cons _ _ => simp [ckN] at h
    | nil =>
      refine ⟨fun pins s σ H Q I ⟨ι, ρ, st, hρ, S, h⟩ => pts_nil.run pins s σ H Q I ?_⟩
      dsimp only at h
      rw [DL.evIfs] at h
      exact h true H ι Ext.refl S rfl
  | a :: irs, sc, es, ss, W, X, h, hl, c => by
    cases es with
    | nil => simp [ckN] at h
    | cons e es =>
      cases es with
      | cons _ _ => simp at hl
      | nil =>
        simp only [ckN, Bool.and_eq_true] at h
        obtain ⟨h1, h2⟩ := h
        cases irs with
        | cons _ _ => simp [ckN] at h2
        | nil =>
          have := pts_one (pt_eq (fun ρ st => evIfs1.symm) ((ok_ck a sc true e ss W X h1 c).2 rfl))
          exact this
end
/-- a loop's source -/
def ckI (tb : Tb) (sc : Scope) (src : E) (tg' it : Expr) : Bool := match src with
        | .rng es => (match it with
          | .Call (.Name y _) ys [] _ => gnm sc y "range" && (decide (1 ≤ ys.length ∧ ys.length ≤ 3) && ckEs tb sc es ys)
          | _ => false)
        | .enum a => (match it with
          | .Call (.Name y _) [z] [] _ => gnm sc y "enumerate" && (isTup tg' && (noSt z && ck tb sc false a z))
          | _ => false)
        | _ => ck tb sc false src it
theorem ckI_ok {sc ss : Scope} {W : WX} {X : Cx} {src : E} {tg' it : Expr} (c : CtxOk G tb C k W sc ss X) (hI : ckI tb sc src tg' it = true) : PI X tg' it (tI G W fun ρ st => DL.evI C ρ src st) := by
  unfold ckI at hI
  match src, hI with
  | .rng es, hI =>
    cases it <;> first | (cases hI; done) | skip
    rename_i fn as ks pos _
    cases fn <;> first | (cases hI; done) | skip
    cases ks <;> first | (cases hI; done) | skip
    simp only [Bool.and_eq_true] at hI
    obtain ⟨h1, h2, h3⟩ := hI
    obtain ⟨p1, p2, p3⟩ := ok_es es sc _ ss W X h3 c
    exact pi_eq (fun ρ st => by rw [DL.evI]) (rng_pi c h1 (of_decide_eq_true h2) (fun ρ st ds st' q => by rw [evEs_len q, p3]) p1 p2)
  | .enum a, hI =>
    cases it <;> first | (cases hI; done) | skip
    rename_i fn as ks pos _
    cases fn <;> first | (cases hI; done) | skip
    match as, ks, hI with
    | [z], [], hI =>
      simp only [Bool.and_eq_true] at hI
      obtain ⟨h1, h2, h3, h4⟩ := hI
      obtain ⟨rfl, g, m⟩ := c.gnm h1 (by decide)
      cases tg' <;> first | (cases h2; done) | skip
      exact pi_eq (fun ρ st => by rw [DL.evI]; try rfl) (d_enum c.K g m ((ok_ck a sc false _ ss W X h4 c).1 rfl) (not_star h3))
    | [], _, hI | [_], _ :: _, hI | _ :: _ :: _, _, hI => cases hI
  | .nop, hI | .var _, hI | .cst _, hI | .bin _ _ _, hI | .cmp _ _ _, hI | .chain _ _ _ _ _, hI | .and _, hI | .or _, hI | .not _, hI | .neg _, hI | .ife _ _ _, hI | .tup _, hI | .lst _, hI | .dic _, hI | .ix _ _, hI | .sl _ _ _, hI | .rev _, hI | .call _ _, hI | .bi _ _, hI | .isi _ _, hI | .me _ _ _, hI | .lc _ _ _ _ _, hI | .zip _ _, hI =>
    exact pi_eq (fun ρ st => (evI_ne rfl).symm) (d_seq c.K ((ok_ck _ sc false _ ss W X hI c).1 rfl))
end
end DS

set_option Elab.async false
set_option linter.all false
set_option maxRecDepth 100000
set_option maxHeartbeats 8000000
/-! own errors by data: made, raised -/
namespace DS
open PySem PySem.Spec PyProof.Rows L2
open DL (D Cell Store DX Res SRes E)

/-- a class over ValueError whose __init__ is ValueError's, as a place to call it from -/
structure BaseX (K : PySem.W.Frag) (S : Addr) : Prop where
  ty : PySem.W.typeIn K (.ref S) = some (.type "type")
  ga : PySem.W.specialIn K (.ref S) "__getattribute__" = some (some (.builtin "type.__getattribute__"))
  rd : PySem.W.readsIn K S (.type "type") = true
  fi : PySem.W.findCls K (.ref S) (.type "type") "__init__" = some (.val (.builtin "ValueError.__init__"))
section
variable {X : Cx} {e : Expr} {es : List Expr} {ta : TA} {p1 p2 pos : Pos}
theorem pe_owninit {x : Str} {S : Addr} {pl : Sem Bool} (hg : L2.Gl X x) (hm : X.mg x = some (.ref S)) (B : BaseX X.K S) (hd : (x == ("__debug__" : Str)) = false) (ha : PA X (e :: es) ta)
    (hc : eval (.Call (.Attribute (.Name x p1) "__init__" p2) (e :: es) [] pos) X.env = (do
      let ov ← eval (.Name x p1) X.env
      standAt p2.atName
      let (f, first) ← holding [ov] (getMethod ov "__init__" pl)
      callWith pos f first (backTo pos (starEach (e :: es) X.env)) (backToKw pos (keywordEach [] X.env))) := by rfl)
    (he : starEach (e :: es) X.env = (false, eval e X.env) :: starEach es X.env := by rfl) (hpl : (backTo pos (starEach es X.env)).any (·.1) = false := by rfl) :
    PE X (.Call (.Attribute (.Name x p1) "__init__" p2) (e :: es) [] pos) (tVeI X.K ta) := by
  refine ⟨fun pins s σ H Q I h => ?_⟩
  refine PySem.W.methodCall_KW (ld_glob I hg hm ?_ hd) hc
  refine PySem.W.method_cls I.kIn B.ga (PySem.W.cls_value I.kIn B.rd B.fi (by decide +kernel) ?_)
  show wpAny _ _ (callWith pos (Value.builtin "ValueError.__init__") [] (backTo pos (starEach (e :: es) X.env)) []) _ _ _
  refine PyProof.Rows.callWith_method1 (thn (ha.run pos pins _ σ H _ (I.tok _) h) fun us s1 ⟨vs, H1, I1, r1, a, C, ws, ev, hl, T, ea, q⟩ => ?_) he hpl
  subst ev
  cases r1 with
  | @cons _ u0 _ ur ra rw' =>
    obtain rfl : u0 = Value.ref a := ra
    have hlen : ur.length ≤ sizeLine := by
      rw [← Paired.length rw', sizeLine_eq]
      omega
    exact oinit_ok T I1 ea hlen fun s' J => ⟨.non, H1, J, rfl, q⟩
end

/-- what the __init__ of such a class does: the fields stand -/
def spInit (K : PySem.W.Frag) (C : Addr) (fl : List Str) : Sp := fun vs H Q _ => ∃ a ws, vs = .ref a :: ws ∧ ws.length = fl.length ∧ H a = some (exo a C none) ∧
  ∀ dx H2, H dx = none → dx ≠ a → H2 a = some (exo a C (some dx)) → H2 dx = some (exd dx (fl.zip ws).reverse) → (∀ b, b ≠ a → b ≠ dx → H2 b = H b) → Q .non H2
section
variable {P : Program} {w : World} {K : PySem.W.Frag} {mg : Str → Option Value} {base : Heap}
theorem init1 {x qual f1 : Str} {st : Stmt} {f C S : Addr} {fd : FuncData} {k : Nat} (F : Fun K "__init__" qual st f fd) (Sc : FnScope ["self", f1] ["self", f1] (defScope st)) (T : OexC K C) (B : BaseX K S) (hno : PySem.W.findIn K (.ref C) f1 = some none)
    (hg : (defScope st).names.lookup x = some .globalImplicit) (hm : mg x = some (.ref S)) (hd : (x == ("__debug__" : Str)) = false) (hd1 : (f1 == ("__debug__" : Str)) = false) (hd2 : (f1 == ("__classdict__" : Str)) = false)
    {p1 p2 p3 p4 p5 p6 p7 p8 p9 p10 : Pos}
    (hc : ∀ env, ∃ pl, eval (.Call (.Attribute (.Name x p1) "__init__" p2) [.Name "self" p3, .Name f1 p4] [] p5) env = (do
      let ov ← eval (.Name x p1) env
      standAt p2.atName
      let (f, first) ← holding [ov] (getMethod ov "__init__" pl)
      callWith p5 f first (backTo p5 (starEach [.Name "self" p3, .Name f1 p4] env)) (backToKw p5 (keywordEach [] env))))
    (hb : defBody st = [.Expr (.Call (.Attribute (.Name x p1) "__init__" p2) [.Name "self" p3, .Name f1 p4] [] p5) p6, .Assign [.Attribute (.Name "self" p7) f1 p8] (.Name f1 p9) p10]) :
    FnOk P w K mg base (L2.CX P w) (k + 1) f fd ["self", f1] (spInit K C [f1]) := by
  have v1 : Vis (defScope st) "self" := (Sc.par "self" (by simp)).imp id .inl
  have v2 : Vis (defScope st) f1 := (Sc.par f1 (by simp)).imp id .inl
  refine F.okX Sc (fun vs H Q E h => ?_) (fun cdv A outer s H vs Q E hr h => ?_)
  · obtain ⟨a, ws, rfl, hl, _⟩ := h
    simp only [List.length_cons, List.length_nil] at hl ⊢
    omega
  · obtain ⟨a, ws, rfl, hl, ha, q⟩ := h
    obtain ⟨y, rfl⟩ : ∃ y, ws = [y] := by
      cases ws with
      | nil => cases hl
      | cons y r => cases r with | nil => exact ⟨y, rfl⟩ | cons _ _ => simp at hl
    rw [hb]
    obtain ⟨pl, hc⟩ := hc (envOfC qual (defScope st) s.heap.objs.size f cdv)
    refine ⟨_, pss_cons (ps_expr (pe_owninit (S := S) hg hm B hd (pa_cons (pe_var (i := 0) rfl v1) (pa_cons (pe_var (i := 1) rfl v2 hd1 hd2) pa_nil)) hc)) (pss_one (ps_ost (pe_var (i := 0) rfl v1) (pe_var (i := 1) rfl v2 hd1 hd2))), ?_⟩
    · refine ⟨.ref a, rfl, y, rfl, a, C, [y], rfl, by simp, T, ha, y, rfl, .ref a, rfl, a, C, rfl, T, hno, .inl ⟨ha, fun dx n ne => ?_⟩⟩
      exact q dx _ n ne upd_same (by rw [upd_ne ne, upd_same]; rfl) fun b h1 h2 => by rw [upd_ne h1, upd_ne h2]
theorem init2 {x qual f1 f2 : Str} {st : Stmt} {f C S : Addr} {fd : FuncData} {k : Nat} (F : Fun K "__init__" qual st f fd) (Sc : FnScope ["self", f1, f2] ["self", f1, f2] (defScope st)) (T : OexC K C) (B : BaseX K S) (hno : PySem.W.findIn K (.ref C) f1 = some none) (hno2 : PySem.W.findIn K (.ref C) f2 = some none)
    (hg : (defScope st).names.lookup x = some .globalImplicit) (hm : mg x = some (.ref S)) (hd : (x == ("__debug__" : Str)) = false) (hd1 : (f1 == ("__debug__" : Str)) = false) (hd2 : (f1 == ("__classdict__" : Str)) = false) (hd3 : (f2 == ("__debug__" : Str)) = false) (hd4 : (f2 == ("__classdict__" : Str)) = false)
    {p1 p2 p3 p4 p5 p6 p7 p8 p9 p10 p11 p12 p13 p14 p15 : Pos}
    (hc : ∀ env, ∃ pl, eval (.Call (.Attribute (.Name x p1) "__init__" p2) [.Name "self" p3, .Name f1 p4, .Name f2 p11] [] p5) env = (do
      let ov ← eval (.Name x p1) env
      standAt p2.atName
      let (f, first) ← holding [ov] (getMethod ov "__init__" pl)
      callWith p5 f first (backTo p5 (starEach [.Name "self" p3, .Name f1 p4, .Name f2 p11] env)) (backToKw p5 (keywordEach [] env))))
    (hb : defBody st = [.Expr (.Call (.Attribute (.Name x p1) "__init__" p2) [.Name "self" p3, .Name f1 p4, .Name f2 p11] [] p5) p6, .Assign [.Attribute (.Name "self" p7) f1 p8] (.Name f1 p9) p10, .Assign [.Attribute (.Name "self" p12) f2 p13] (.Name f2 p14) p15]) :
    FnOk P w K mg base (L2.CX P w) (k + 1) f fd ["self", f1, f2] (spInit K C [f1, f2]) := by
  have v1 : Vis (defScope st) "self" := (Sc.par "self" (by simp)).imp id .inl
  have v2 : Vis (defScope st) f1 := (Sc.par f1 (by simp)).imp id .inl
  have v3 : Vis (defScope st) f2 := (Sc.par f2 (by simp)).imp id .inl
  refine F.okX Sc (fun vs H Q E h => ?_) (fun cdv A outer s H vs Q E hr h => ?_)
  · obtain ⟨a, ws, rfl, hl, _⟩ := h
    simp only [List.length_cons, List.length_nil] at hl ⊢
    omega
  · obtain ⟨a, ws, rfl, hl, ha, q⟩ := h
    obtain ⟨y, z, rfl⟩ : ∃ y z, ws = [y, z] := by
      match ws, hl with
      | [y, z], _ => exact ⟨y, z, rfl⟩
    rw [hb]
    obtain ⟨pl, hc⟩ := hc (envOfC qual (defScope st) s.heap.objs.size f cdv)
    refine ⟨_, pss_cons (ps_expr (pe_owninit (S := S) hg hm B hd (pa_cons (pe_var (i := 0) rfl v1) (pa_cons (pe_var (i := 1) rfl v2 hd1 hd2) (pa_cons (pe_var (i := 2) rfl v3 hd3 hd4) pa_nil))) hc))
        (pss_cons (ps_ost (pe_var (i := 0) rfl v1) (pe_var (i := 1) rfl v2 hd1 hd2)) (pss_one (ps_ost (pe_var (i := 0) rfl v1) (pe_var (i := 2) rfl v3 hd3 hd4)))), ?_⟩
    · refine ⟨.ref a, rfl, y, rfl, z, rfl, a, C, [y, z], rfl, by simp, T, ha, y, rfl, .ref a, rfl, a, C, rfl, T, hno, .inl ⟨ha, fun dx n ne => ?_⟩⟩
      refine ⟨z, rfl, .ref a, rfl, a, C, rfl, T, hno2, .inr ⟨dx, [(f1, y)], upd_same, by rw [upd_ne ne, upd_same], by simp, ?_⟩⟩
      exact q dx _ n ne (by rw [upd_ne (fun z => ne z.symm), upd_same]) upd_same fun b h1 h2 => by rw [upd_ne h2, upd_ne h1, upd_ne h2]
end

/-- what is known of an own error class: its index in the data, its fields -/
structure XFact (G : Gl) (X : Cx) (k : Nat) (x : Str) (c : Nat) (fl : List String) : Prop where
  ex : ∃ (C fI : Addr) (fd : FuncData), G.xa c = some C ∧ X.mg x = some (.ref C) ∧ OexC X.K C ∧ PySem.W.findIn X.K (.ref C) "__init__" = some (some (.ref fI)) ∧ PySem.W.typeIn X.K (.ref fI) = some (.type "function") ∧
    FnOk X.prog X.w X.K X.mg X.base (L2.CX X.prog X.w) k fI fd ("self" :: fl.map Str.ofString) (spInit X.K C (fl.map Str.ofString)) ∧ Binds X.K fd ("self" :: fl.map Str.ofString) []
  nd : (fl.map Str.ofString).Nodup
  le : fl.length ≤ 1000

theorem ofString_eq {a b : String} (h : a = b) : Str.ofString a = Str.ofString b := by rw [h]
theorem zip_look {G : Gl} {ι : List Addr} {H : Hp} : ∀ {fl : List String} {ds : List D} {vs : List V}, (fl.map Str.ofString).Nodup → RepL G ι H ds vs → ∀ n d, (fl.zip ds).lookup n = some d → ∃ v, ((fl.map Str.ofString).zip vs).reverse.lookup (Str.ofString n) = some v ∧ Rep G ι H d v
  | [], ds, vs, _, _, n, d, h => by cases h
  | f :: fl, [], vs, _, _, n, d, h => by cases h
  | f :: fl, e :: ds, vs, hn, r, n, d, h => by
    obtain ⟨v, vs, rfl, r1, r2⟩ := r
    rw [List.map_cons, List.nodup_cons] at hn
    rw [List.zip_cons_cons, List.lookup_cons] at h
    rw [List.map_cons, List.zip_cons_cons, List.reverse_cons]
    split at h
    · rename_i he
      cases h
      obtain rfl : n = f := by simpa using he
      refine ⟨v, ?_, r1⟩
      have none_ : ((fl.map Str.ofString).zip vs).reverse.lookup (Str.ofString n) = none := by
        rw [List.lookup_eq_none_iff]
        intro p hp
        rw [List.mem_reverse] at hp
        have := (List.of_mem_zip hp).1
        simp only [beq_eq_false_iff_ne, ne_eq, bne_iff_ne]
        intro z
        rw [z] at hn
        exact hn.1 this
      rw [List.lookup_append, none_]
      simp
    · obtain ⟨v', h1, h2⟩ := zip_look hn.2 r2 n d h
      exact ⟨v', by rw [List.lookup_append, h1]; rfl, h2⟩
section
variable {G : Gl} {X : Cx} {W : WX} {p p' : Pos} {e : Expr} {es : List Expr} {me : DL.Env → Store → Res (List D)}
/-- raise C(e, ..) -/
theorem n_rais {x : Str} {c k : Nat} {fl : List String} (F : XFact G X k x c fl) (hc : X.calm = true) (tk : Takes X W) (hr : Room (k + 1) X.A) (hg : L2.Gl X x) (hd : (x == ("__debug__" : Str)) = false) (ha : PA X (e :: es) (tDA G W me))
    (hs : PySem.W.isStarred e = false) (hp : (backTo p (starEach es X.env)).any (·.1) = false) {q : Pos} :
    PS X (.Raise (some (.Call (.Name x q) (e :: es) [] p)) none p') (tS G W fun ρ st => .of ρ (me ρ st) fun ds st => if ds.length = fl.length then .exc ⟨c, fl.zip ds⟩ ρ st else .bad) := by
  obtain ⟨C, fI, fd, hxa, hm, T, iC, tI, F1, hb⟩ := F.ex
  refine PSi (ps_raise hc tk (pmk_oex T iC tI F1 hr hb .nil passL hg hm ha hd (star1 _ _ hs) hp)) fun D σ H ⟨ι, ρ, st, hρ, S, h⟩ => s_bind hρ S h fun ds st1 vs H1 ι1 e1 S1 r1 h1 => ?_
  split at h1
  rotate_left
  · exact h1.elim
  rename_i hl
  have hlv : vs.length = fl.length := by rw [← r1.length, hl]
  refine ⟨?_, fun a ha => ⟨a, vs ++ [], rfl, by simp [hlv], upd_same, fun dx H2 n ne ea ed oth => ⟨rfl, dx, _, ea, ed, ?_, ?_⟩⟩⟩
  · rw [hlv]; exact F.le
  · rwa [upd_ne ne] at n
  · rw [upd_ne ne] at n
    have eH : upd (del H2 a) dx (.xd ((fl.map Str.ofString).zip (vs ++ [])).reverse) = upd H1 dx (.xd ((fl.map Str.ofString).zip vs).reverse) := by
      rw [List.append_nil]
      funext b
      by_cases h1 : b = dx
      · rw [h1, upd_same, upd_same]
      · rw [upd_ne h1, upd_ne h1]
        by_cases h2 : b = a
        · rw [h2, del_same, ha]
        · rw [del_ne h2, oth b h2 h1, upd_ne h2]
    rw [eH]
    refine h1 (.ref C) (some dx) σ _ ι1 (Ext.laid n) (S1.laid n) ((hρ.mono e1).mono (Ext.laid n)) ⟨C, dx, _, hxa, rfl, rfl, upd_same, fun n' d hd => ?_⟩
    exact zip_look F.nd (r1.mono (Ext.laid n)) n' d hd
end
end DS

set_option Elab.async false
set_option linter.all false
set_option maxRecDepth 100000
set_option maxHeartbeats 8000000
/-! own errors by data: caught -/
namespace DS
open PySem PySem.Spec PyProof.Rows L2
open DL (D Cell Store DX Res SRes E XE Hs XCls)

/-- what the written part says of a class that is caught -/
structure HCls (K : PySem.W.Frag) (C : Addr) : Prop where
  xf : XfC K C
  cl : (PySem.W.clsIn K C).isSome = true
  ty : PySem.W.typeIn K (.ref C) = some (.type "type")
  sb : PySem.W.subIn K (.ref C) (.ref C) = some true
  ca : PySem.W.findIn K (.ref C) "__class__" = some (some (.builtin "object.__class__"))
  cn : PySem.W.specialIn K (.builtin "object.__class__") "__get__" = some (some (.builtin "getset_descriptor.__get__"))
  ct : PySem.W.takesIn K (.builtin "object.__class__") = some true
  cm : PySem.W.mroIn K C (.type "object") = some true
structure HFact (G : Gl) (X : Cx) (xc : List XCls) (xs : List Str) (c : Nat) (C : Addr) : Prop where
  xa : G.xa c = some C
  nm : ∃ x, xs[c]? = some x ∧ X.mg x = some (.ref C)
  h : HCls X.K C
  fl : ∀ n k, xc[c]? = some k → n ∈ k.flds → PySem.W.findIn X.K (.ref C) (Str.ofString n) = some none
  up : ∀ j k, xc[c]? = some k → k.up.contains j = true → ∃ y S, xs[j]? = some y ∧ X.mg y = some (.ref S) ∧ PySem.W.kitOne X.K (.ref C) (.ref S) = some true

/-- isinstance(e, c), e the error that the suite holds, with its dict -/
def rIsD (K : PySem.W.Frag) (D a : Addr) (dd : Option Addr) : List V → Hp → VK → Prop := fun xs H Q => ∃ (c : V) (cv : Value) (b : Bool) (d : Addr) (fs : List (Str × V)), xs = [.ref a, c] ∧ (∀ u, RelV c u → u = cv) ∧ PySem.W.kitOne K (.ref D) cv = some b ∧ dd = some d ∧ H d = some (.xd fs) ∧ Q (.bl b) H
theorem call_isD {X : Cx} {a C : Addr} {oe : Obj} {dd : Option Addr} {pn : List (Addr × Obj)} (T : HCls X.K C) (hz : Zc (.ref C) dd oe) (hf : ∃ vs, oe.data = .fields vs) : CallR (X.suite a ((a, oe) :: pn)) (.builtin "isinstance") (rIsD X.K C a dd) := by
  intro pins s σ H xs us Q I r ⟨c, cv, b, d, fs, exs, hcv, e, ed, ea, q⟩
  subst exs
  subst ed
  obtain ⟨u1, u2, rfl, rx, rt⟩ : ∃ u1 u2, us = [u1, u2] ∧ RelV (.ref a) u1 ∧ RelV c u2 := by
    cases r with
    | cons p q =>
      cases q with
      | cons p' q' =>
        cases q'
        exact ⟨_, _, rfl, p, p'⟩
  obtain rfl : u1 = Value.ref a := rx
  obtain rfl := hcv _ rt
  have hget := (I.pin (a, oe) (List.mem_append_left _ List.mem_cons_self)).1
  obtain ⟨mA, hns, hr⟩ : ObjOk X.prog X.w H s.heap d (.xd fs) := I.hok d _ ea
  obtain ⟨od, ho, hl⟩ := lookIn_ns hns
  have J : PySem.W.InstAt s.heap a oe C (some od) := ⟨hget, hz.1, by obtain ⟨vs, hv⟩ := hf; unfold PySem.W.notCls; rw [hv] <;> rfl, by rw [hz.2]; exact ho⟩
  exact PySem.W.kia_one (PySem.W.kitx_exc T.cl T.xf.ga T.xf.gg T.xf.exC T.ca T.cn T.ct T.cm) I.kIn J e (fun z => nomatch z) fun tk => ⟨.bl b, H, I.kept (t' := tk) fun _ _ z => z, rfl, q⟩

/-- an answer out of the caught error -/
def tX (G : Gl) (i a : Nat) (cls : Value) (dd : Option Addr) (m : DX → Option D) (c0 : Nat) : TE := fun σ H Q => ∃ ι x d, σ[i]? = some (some (.ref a)) ∧ XRep G ι H x cls dd ∧ x.cls = c0 ∧ m x = some d ∧ ∀ v, Rep G ι H d v → Q v H
def ckX (xs : List Str) (sc : Scope) (n : Str) (fl : List String) : XE → Expr → Bool
  | .fld f, e => match e with
    | .Attribute (.Name y _) g _ => decide (y = n) && (decide (g = Str.ofString f) && decide (f ∈ fl))
    | _ => false
  | .str s, e => match e with
    | .Constant (.str t) _ _ => decide (sS s = t) && PyData.strOk t
    | _ => false
  | .isf k a b, e => match e with
    | .IfExp (.Call (.Name z _) [.Name y _, .Name w _] [] _) u v _ => gnm sc z "isinstance" && (decide (y = n) && (decide (xs[k]? = some w) && (glB sc w && (nmOk w && (ckX xs sc n fl a u && match v with | .Constant .. => true | _ => false)))))
    | _ => false
section
variable {G : Gl} {X : Cx} {xc : List XCls} {xs : List Str} {c0 : Nat} {C : Addr} {i a : Nat} {n : Str} {oe : Obj} {cls : Value} {dd : Option Addr} {pn : List (Addr × Obj)} {sc : Scope}
theorem XRep.cls_eq {ι : List Addr} {H : Hp} {x : DX} (r : XRep G ι H x cls dd) (h : x.cls = c0) (hxa : G.xa c0 = some C) : cls = .ref C := by
  obtain ⟨C', d, fs, e1, e2, _⟩ := r
  rw [h, hxa] at e1
  cases e1
  exact e2
theorem ckX_ok {kx : XCls} (F : HFact G X xc xs c0 C) (hkx : xc[c0]? = some kx) (hz : Zc cls dd oe) (hf : ∃ vs, oe.data = .fields vs) (hec : cls = .ref C) (hsc : X.env.scope = sc) (hi : X.N[i]? = some n) (hv : Vis X.env.scope n) (hn : nmOk n = true) (hbl : X.mg "isinstance" = none) :
    ∀ (m : XE) (e : Expr), ckX xs sc n kx.flds m e = true → PE (X.suite a ((a, oe) :: pn)) e (tX G i a cls dd (fun x => DL.evXE xc x m) c0)
  | .fld f, e, h => by
    unfold ckX at h
    split at h
    · rename_i y p1 g p2
      rw [Bool.and_eq_true, Bool.and_eq_true] at h
      obtain ⟨h1, h2, h3⟩ := h
      obtain rfl := of_decide_eq_true h1
      obtain rfl := of_decide_eq_true h2
      obtain ⟨n1, n2, n3⟩ := nmOk_iff hn
      refine ⟨fun pins s σ H Q I ⟨ι, x, d, hσ, r, ec, em, q⟩ => ?_⟩
      refine (pe_xf F.h.xf (F.fl f kx hkx (of_decide_eq_true h3)) hz hf (pe_var hi hv n1 n2) (base_of rfl)).run pins s σ H Q I ?_
      obtain ⟨C', d', fs, e1, e2, e3, e4, e5⟩ := r
      obtain ⟨v, l, rv⟩ := e5 f d em
      exact ⟨.ref a, hσ, rfl, hec, d', fs, v, e3, e4, l, q v rv⟩
    · cases h
  | .str s, e, h => by
    unfold ckX at h
    split at h
    · rename_i t j p
      rw [Bool.and_eq_true] at h
      obtain ⟨h1, h2⟩ := h
      obtain rfl := of_decide_eq_true h1
      refine ⟨fun pins s' σ H Q I ⟨ι, x, d, hσ, r, ec, em, q⟩ => pe_str.run pins s' σ H Q I ?_⟩
      dsimp only at em
      rw [DL.evXE] at em
      split at em
      · cases em
        rename_i ho
        exact q _ ⟨rfl, lineM (of_decide_eq_true ho), h2⟩
      · cases em
    · cases h
  | .isf k u v, e, h => by
    unfold ckX at h
    split at h
    · rename_i z p1 y p2 w p3 p4 eu ev p5
      rw [Bool.and_eq_true, Bool.and_eq_true, Bool.and_eq_true, Bool.and_eq_true, Bool.and_eq_true, Bool.and_eq_true] at h
      obtain ⟨h1, h2, h3, h4, h5, h6, h7⟩ := h
      have ih := ckX_ok F hkx hz hf hec hsc hi hv hn hbl u eu h6
      obtain rfl := of_decide_eq_true h2
      unfold gnm at h1
      rw [Bool.and_eq_true] at h1
      obtain rfl := of_decide_eq_true h1.1
      have hG : L2.Gl X "isinstance" := by have := of_decide_eq_true h1.2; rw [← hsc] at this; exact this
      have hW : L2.Gl X w := by have := of_decide_eq_true h4; rw [← hsc] at this; exact this
      obtain ⟨n1, n2, n3⟩ := nmOk_iff hn
      obtain ⟨w1, w2, w3⟩ := nmOk_iff h5
      refine ⟨fun pins s σ H Q I ⟨ι, x, d, hσ, r, ec, em, q⟩ => ?_⟩
      dsimp only at em
      rw [DL.evXE, ec, hkx] at em
      dsimp only at em
      split at em
      rotate_left
      · cases em
      rename_i hup
      obtain ⟨y', S, hy', hm, kit⟩ := F.up k kx hkx hup
      have : y' = w := by have := of_decide_eq_true h3; rw [hy'] at this; exact Option.some.inj this
      subst this
      have pW : PE (X.suite a ((a, oe) :: pn)) (.Name y' p3) (tC (.ref S)) := pe_glob hW hm rfl w1
      have pN : PE (X.suite a ((a, oe) :: pn)) (.Name y p2) (tVar i) := pe_var hi hv n1 n2
      have pI := pe_callB (pos := p4) (p := p1) (call_isD (pn := pn) (a := a) F.h (by rw [← hec]; exact hz) hf) hG hbl (show bootBuiltins "isinstance" = some (.builtin "isinstance") by decide +kernel) (pa_cons pN (pa_cons pW pa_nil) (star1 _ _ rfl)) (by decide) (by decide) (star1 _ _ rfl) (by rfl)
      have pT := pt_truth pI fun _ => rfl
      have pv : PE (X.suite a ((a, oe) :: pn)) ev (fun _ _ _ => False) := ⟨fun _ _ _ _ _ _ h => h.elim⟩
      refine (pe_ifExp pT ih pv).run pins s σ H Q I ?_
      have r' := r
      obtain ⟨C', d', fs, e1, e2, e3, e4, e5⟩ := r'
      exact ⟨.ref a, hσ, .ref S, .ref S, true, d', fs, rfl, fun u hu => hu, kit, e3, e4, true, rfl, by dsimp only; rw [if_pos rfl]; exact ⟨ι, x, d, hσ, r, ec, em, q⟩⟩
    · cases h

/-! ### the suite -/
def ckHs (N : List Str) (xs : List Str) (sc : Scope) (n : Str) (fl : List String) : Hs → List Stmt → Bool
  | .app j m, [.Expr (.Call (.Attribute (.Name y _) z ap) [e] [] cp) _] => decide (N[j]? = some y) && (visB sc y && (nmOk y && (decide (z = "append") && (decide (ap.endLine = cp.line) && (noSt e && ckX xs sc n fl m e)))))
  | .ret m, [.Return (some e) _] => ckX xs sc n fl m e
  | .cnt, [.Continue _] => true
  | _, _ => false
theorem evHs_brk {h : Hs} {x : DX} {ρ : DL.Env} {st : Store} {i : Nat} {ρ' : DL.Env} {st' : Store} : DL.evHs xc h x ρ st i ≠ .brk ρ' st' := by
  intro z
  unfold DL.evHs at z
  repeat' split at z
  all_goals cases z
theorem evHs_exc {h : Hs} {x : DX} {ρ : DL.Env} {st : Store} {i : Nat} {y : DX} {ρ' : DL.Env} {st' : Store} : DL.evHs xc h x ρ st i ≠ .exc y ρ' st' := by
  intro z
  unfold DL.evHs at z
  repeat' split at z
  all_goals cases z
/-- behind the suite -/
def HPost (G : Gl) (i : Nat) (ι : List Addr) (H : Hp) (D : Ends) : SRes → Prop
  | .nx ρ st => ∀ σ H' ι', Ext ι H ι' H' → RS G ι' st H' → RepEnv G ι' H' ρ (σ.set i none) → D.nx σ H'
  | .cnt ρ st => ∀ σ H' ι', Ext ι H ι' H' → RS G ι' st H' → RepEnv G ι' H' ρ (σ.set i none) → D.ct σ H'
  | .ret d st => ∀ v H' ι', Ext ι H ι' H' → RS G ι' st H' → Rep G ι' H' d v → D.rt v H'
  | _ => False
def tH (G : Gl) (xc : List XCls) (c0 i : Nat) (h : Hs) (a : Nat) (cls : Value) (dd : Option Addr) : TS := fun D σ H => ∃ ι ρ st x, σ[i]? = some (some (.ref a)) ∧ RepEnv G ι H (ρ.set i none) σ ∧ RS G ι st H ∧ XRep G ι H x cls dd ∧ x.cls = c0 ∧ HPost G i ι H D (DL.evHs xc h x ρ st i)
theorem hs_ok {kx : XCls} (hK : X.K = G.K) (F : HFact G X xc xs c0 C) (hkx : xc[c0]? = some kx) (hz : Zc cls dd oe) (hf : ∃ vs, oe.data = .fields vs) (hec : cls = .ref C) (hsc : X.env.scope = sc) (hi : X.N[i]? = some n) (hv : Vis X.env.scope n) (hn : nmOk n = true) (hbl : X.mg "isinstance" = none)
    (hvis : ∀ y, visB sc y = true → Vis X.env.scope y) : ∀ (h : Hs) (ss : List Stmt), ckHs X.N xs sc n kx.flds h ss = true → PSs (X.suite a ((a, oe) :: pn)) ss (tH G xc c0 i h a cls dd) := by
  intro h ss hc
  unfold ckHs at hc
  split at hc
  · rename_i j m y p1 z ap e cp p2
    simp only [Bool.and_eq_true] at hc
    obtain ⟨h1, h2, h3, h4, h5, h6, h7⟩ := hc
    obtain rfl := of_decide_eq_true h4
    obtain ⟨n1, n2, n3⟩ := nmOk_iff h3
    have pe := ckX_ok (a := a) (pn := pn) F hkx hz hf hec hsc hi hv hn hbl m e h7
    have pN : PE (X.suite a ((a, oe) :: pn)) (.Name y p1) (tVar j) := pe_var (of_decide_eq_true h1) (hvis _ h2) n1 n2
    have ps := ps_expr (pos := p2) (pe_bm (cpos := cp) (apos := ap) PySem.F.plainAttrs_list PySem.F.slot_list_append PySem.F.type_list_append (mt_appendD (G := G)) pN (pa_cons pe pa_nil (star1 _ _ (not_star h6))) (base_of rfl) (by rw [star1 _ _ (not_star h6)]; rfl) (by rw [of_decide_eq_true h5]; exact beq_self_eq_true _) (star1 _ _ (not_star h6)) rfl) rfl
    refine PSsi (pss_one ps) fun D σ H ⟨ι, ρ, st, x, hσ, hρ, S, hx, ec, q⟩ => ?_
    dsimp only [DL.evHs] at q
    split at q
    · rename_i d l em el
      split at q
      · rename_i ys hl
        split at q
        · rename_i ho
          obtain ⟨ho, hij⟩ := ho
          have ej : (ρ.set i none)[j]? = some (some (.ref l)) := by rw [List.getElem?_set_ne hij, el]
          obtain ⟨v, hv', r⟩ := hρ.at_ j _ ej
          have tl : DL.isL (.ref l) st = true := by unfold DL.isL; dsimp only; rw [hl]
          refine ⟨v, hv', recv_list (X := X) hK ι H st _ v r S tl, ι, x, d, hσ, hx, ec, em, fun w rw' => ⟨ι, .ref l, [d], st, .non, st.set l (.lst (ys ++ [d])), r, ⟨w, [], rfl, rw', rfl⟩, S, ?_, ?_⟩⟩
          · unfold DL.appendD
            dsimp only
            rw [hl]
            dsimp only
            rw [if_pos ho]
          · intro v' H' ι' e' S' r'
            refine q σ H' ι' e' S' ?_
            have := (hρ.mono e').unset (i := i)
            rwa [List.set_set] at this
        · exact q.elim
      · exact q.elim
    · exact q.elim
  · rename_i m e p
    have pe := ckX_ok (a := a) (pn := pn) F hkx hz hf hec hsc hi hv hn hbl m e hc
    refine PSsi (pss_one (ps_ret pe)) fun D σ H ⟨ι, ρ, st, x, hσ, hρ, S, hx, ec, q⟩ => ?_
    dsimp only [DL.evHs] at q
    split at q
    · rename_i d em
      exact ⟨ι, x, d, hσ, hx, ec, em, fun v r => q v H ι Ext.refl S r⟩
    · exact q.elim
  · refine PSsi (pss_one ps_continue) fun D σ H ⟨ι, ρ, st, x, hσ, hρ, S, hx, ec, q⟩ => ?_
    refine q σ H ι Ext.refl S ?_
    have := hρ.unset (i := i)
    rwa [List.set_set] at this
  · cases hc
/-- try: .. except C as n: .. -/
theorem n_try {W : WX} {kx : XCls} {x : Str} {np pos pos' : Pos} {body suite : List Stmt} {b₀ : Stmt} {h : Hs} {mb : DL.Env → Store → SRes} (hK : X.K = G.K) (hs : X.stack = X.env :: X.outer) (hfr : X.env.frame = some X.env.locals) (hN : X.N.Nodup) (hi : X.N[i]? = some n) (hln : X.env.kindOf n = some .local)
    (F : HFact G X xc xs c0 C) (hkx : xc[c0]? = some kx) (hx0 : xs[c0]? = some x) (hg : L2.Gl X x) (hxn : nmOk x = true) (tk : Takes X W) (hsc : X.env.scope = sc) (hn : nmOk n = true) (hbl : X.mg "isinstance" = none) (hvis : ∀ y, visB sc y = true → Vis X.env.scope y)
    (hb : ∀ (W : WX) (pn : List (Addr × Obj)) (xe : Value → Shared → Prop), Takes (X.tr pn xe) W → PassesOwn (model X.prog X.w) X.A X.env xe → PSs (X.tr pn xe) body (tS G W mb))
    (hck : ckHs X.N xs sc n kx.flds h (b₀ :: suite) = true) :
    PS X (.Try body [.ExceptHandler (some (.Name x np)) (some n) (b₀ :: suite) pos'] [] [] pos) (tS G W fun ρ st => match mb ρ st with | .exc y ρ st => if y.cls = c0 ∧ i < ρ.length then DL.evHs xc h y ρ st i else .bad | r => r) := by
  obtain ⟨x', hx', hm⟩ := F.nm
  obtain rfl : x' = x := by rw [hx0] at hx'; exact (Option.some.inj hx').symm
  have hvn : Vis X.env.scope n := .inl hln
  have hc : Names X x' (.ref C) := ⟨hg, (nmOk_iff hxn).1, .inl hm⟩
  have hdct : PySem.W.hasDictIn X.K C = true := F.h.xf.hdC
  refine PSi (ps_try_as (tb := fun W => tS G W mb) (ts := fun a cls dd D σ H => cls = .ref C ∧ tH G xc c0 i h a cls dd D σ H) hs hfr hN hi hln hc tk hb fun a oe cls dd pn hz hf => ?_) fun D σ H ⟨ι, ρ, st, hρ, S, q⟩ => ⟨ι, ρ, st, hρ, S, ?_⟩
  · refine ⟨fun pins s σ H D I ⟨ec, q⟩ => ?_⟩
    exact (hs_ok hK F hkx hz hf ec hsc hi hvn hn hbl hvis h (b₀ :: suite) hck).run pins s σ H D I q
  · dsimp only at q
    cases e : mb ρ st with
    | nx ρ1 st1 => rw [e] at q; exact q
    | brk ρ1 st1 => rw [e] at q; exact q
    | cnt ρ1 st1 => rw [e] at q; exact q
    | ret d st1 => rw [e] at q; exact q
    | bad => rw [e] at q; exact q
    | exc y ρ1 st1 =>
      rw [e] at q
      dsimp only at q
      split at q
      rotate_left
      · exact q.elim
      rename_i ey
      obtain ⟨ey, hlt⟩ := ey
      intro cls dd σ' H' ι' e' S' hρ' rx
      have ec := rx.cls_eq ey F.xa
      refine ⟨true, by rw [ec]; exact PySem.W.exm_ref F.h.xf.exC hdct F.h.ty F.h.sb, fun _ a ha => ⟨ec, ι', ρ1, st1, y, ?_, ?_, S', rx, ey, ?_⟩, fun z => by cases z⟩
      · have hlt : i < σ'.length := by rw [← hρ'.len]; exact hlt
        rw [List.getElem?_set_self hlt]
      · refine ⟨by simpa using hρ'.len, fun j d hj => ?_⟩
        by_cases hij : i = j
        · subst hij
          rw [List.getElem?_set] at hj
          split at hj
          · first | (cases hj; done) | (split at hj <;> cases hj)
          · exact absurd rfl ‹_›
        · rw [List.getElem?_set_ne hij] at hj ⊢
          exact hρ'.at_ j d hj
      · cases eh : DL.evHs xc h y ρ1 st1 i with
        | nx ρ2 st2 => rw [eh] at q; exact fun σ2 H2 ι2 e2 S2 h2 => q _ H2 ι2 (e'.trans e2) S2 h2
        | cnt ρ2 st2 => rw [eh] at q; exact fun σ2 H2 ι2 e2 S2 h2 => q _ H2 ι2 (e'.trans e2) S2 h2
        | ret d st2 => rw [eh] at q; exact fun v2 H2 ι2 e2 S2 h2 => q _ H2 ι2 (e'.trans e2) S2 h2
        | brk _ _ => exact absurd eh evHs_brk
        | bad => rw [eh] at q; exact q.elim
        | exc _ _ _ => exact absurd eh evHs_exc
end
end DS

set_option Elab.async false
set_option linter.all false
set_option maxRecDepth 100000
set_option maxHeartbeats 8000000
/-! statements: what is checked, and that it is so -/
namespace DS
open PySem PySem.Spec PyProof.Rows L2
open DL (D Cell Store DX Res SRes E XE Hs XCls S)

def noComp : Expr → Bool
  | .ListComp .. => false
  | .SetComp .. => false
  | .DictComp .. => false
  | _ => true
/-- what swapsWith says of a list comprehension stored in a name -/
def swB (sc scope : Scope) (y : Str) (py pos : Pos) : Bool := decide (sc.names.lookup y = some .local) && (py.line == pos.line && !(scope.names.any fun p => p.1 == y && (p.2 == .local || p.2 == .cell)))
/-- which stores of a pair of names are swapped: none: the model says nothing -/
def swN (sc : Scope) (ts : List Expr) (v : Expr) : Option (Option (List Str)) :=
  match v with
  | .Tuple vs _ _ =>
    if (!(ts.length == 2 || ts.length == 3) || vs.length != ts.length || sc.kind != .function) = true then some none else
    if (vs.any fun | .Starred .. => true | _ => false) = true then some none else
    let line := (ts.head?.map (·.pos.line)).getD 0
    let names := ts.filterMap fun
      | .Name id pos => if (sc.names.lookup id == some .local && pos.line == line) = true then some id else none
      | _ => none
    if (names.length != ts.length || names.eraseDups.length != names.length) = true then some none else
    if vs.all (foldedForSure 8) = true then some none else
    if vs.all (constantsAlone 8) = true then none else some (some names)
  | _ => some none
section
variable {env : PySem.Env} {sc : Scope}
theorem swE {v : Expr} {t : Option Expr} {l : Nat} (h : noComp v = true) : swapsWith v t l env = pure false := by
  cases v <;> first | rfl | cases h
theorem swSole {v t : Expr} {l : Nat} (h : noComp v = true ∨ ∀ x p, t ≠ .Name x p) : swapsWithSole [t] v l env = pure false := by
  show swapsWith v (some t) l env = pure false
  rcases h with h | h
  · exact swE h
  · cases v <;> first | rfl | (cases t <;> first | exact absurd rfl (h _ _) | rfl)
theorem swLc {elt : Expr} {gs : List Comprehension} {scope : Scope} {pos py : Pos} {y : Str} {l : Nat} (hk : env.scope.kind = .function) : swapsWith (.ListComp elt gs scope pos) (some (.Name y py)) l env = pure (swB env.scope scope y py pos) := by
  have hb : env.blockKind = .function := by unfold Env.blockKind; rw [hk]; rfl
  have e1 : (env.kindOf y == some .local) = decide (env.scope.names.lookup y = some .local) := by
    show (env.scope.names.lookup y == some .local) = _
    by_cases h : env.scope.names.lookup y = some .local
    · rw [h]; rfl
    · rw [decide_eq_false h]; exact beq_false_of_ne h
  unfold swapsWith swB
  simp only [hb, e1, Expr.pos, beq_self_eq_true, Bool.true_and]
  simp only [Bool.and_assoc]
theorem swN_ok {ts : List Expr} {k : Nat} {p : Pos} {v : Expr} {r : Option (List Str)} (hk : env.scope.kind = .function) (h : swN env.scope ts v = some r) : swappedStores [.Tuple ts k p] v env = pure r := by
  have hb : env.blockKind = .function := by unfold Env.blockKind; rw [hk]; rfl
  cases v <;> first | (cases h; rfl) | skip
  rename_i vs k2 p2
  unfold swN at h
  unfold swappedStores
  rw [hb]
  dsimp only at h ⊢
  rw [hk] at h
  split at h
  · rename_i z
    cases h
    rw [if_pos z]
  · rename_i z
    rw [if_neg z]
    split at h
    · rename_i z1
      cases h
      erw [if_pos z1]
    · rename_i z1
      erw [if_neg z1]
      split at h
      · rename_i z2
        cases h
        erw [if_pos z2]
      · rename_i z2
        erw [if_neg z2]
        split at h
        · rename_i z3
          cases h
          erw [if_pos z3]
        · rename_i z3
          erw [if_neg z3]
          split at h
          · cases h
          · rename_i z4
            cases h
            erw [if_neg z4]
            rfl
end

/-! ### the check -/
def isLc : Expr → Option (Scope × Pos)
  | .ListComp _ _ s p => some (s, p)
  | _ => none
def locO (sc : Scope) (x : Str) : Bool := decide (sc.names.lookup x = some .local)
/-- swapped stores of two or three names -/
def parB (N : List Str) (sc : Scope) (tg e : E) (ts : List Expr) (v : Expr) (names : List Str) : Bool :=
  match tg, e, ts, v with
  | .tup [.var i, .var j], .tup [_, _], [.Name x _, .Name y _], .Tuple [_, _] _ _ => decide (names = [x, y]) && (decide (i ≠ j) && (decide (N[i]? = some x) && (decide (N[j]? = some y) && (locO sc x && locO sc y))))
  | .tup [.var i, .var j, .var l], .tup [_, _, _], [.Name x _, .Name y _, .Name z _], .Tuple [_, _, _] _ _ =>
    decide (names = [x, y, z]) && (decide (i ≠ j) && (decide (i ≠ l) && (decide (j ≠ l) && (decide (N[i]? = some x) && (decide (N[j]? = some y) && (decide (N[l]? = some z) && (locO sc x && (locO sc y && locO sc z))))))))
  | _, _, _, _ => false
mutual
def ckS (tb : Tb) (xc : List XCls) (sc : Scope) : S → Stmt → Bool
  | .set i e, s => match s with
    | .Assign [.Name x py] v pos => decide (tb.N[i]? = some x) && (locB sc x && ((match isLc v with
        | some (scope, p) => !swB sc scope x py p || locO sc x
        | none => noComp v) && ck tb sc false e v))
    | _ => false
  | .setT tg e, s => match s with
    | .Assign [.Tuple ts k p] v pos => ckG tb.N sc tg (.Tuple ts k p) && (ck tb sc false e v && (match swN sc ts v with
        | some none => true
        | some (some names) => parB tb.N sc tg e ts v names
        | none => false))
    | _ => false
  | .setX a b e, s => match s with
    | .Assign [.Subscript x y p] v pos => notSl y && (ck tb sc false a x && (ck tb sc false b y && ck tb sc false e v))
    | _ => false
  | .aug i o e, s => match s with
    | .AugAssign (.Name x p) .Add v pos => decide (o = .add) && (decide (tb.N[i]? = some x) && (locB sc x && ck tb sc false e v))
    | _ => false
  | .ex e, s => match s with
    | .Expr v pos => noComp v && ck tb sc false e v
    | _ => false
  | .ret e, s => match s with
    | .Return (some v) _ => ck tb sc false e v
    | _ => false
  | .retN, s => match s with
    | .Return none _ => true
    | _ => false
  | .ifs c a b, s => match s with
    | .If t p q _ => ck tb sc true c t && (ckSs tb xc sc a p && ckSs tb xc sc b q)
    | _ => false
  | .whl c b, s => match s with
    | .While t p [] _ => ck tb sc true c t && ckSs tb xc sc b p
    | _ => false
  | .for tg src b, s => match s with
    | .For t it p [] _ => ckG tb.N sc tg t && (ckI tb sc src t it && (noSet it && ckSs tb xc sc b p))
    | _ => false
  | .brk, s => match s with
    | .Break _ => true
    | _ => false
  | .cnt, s => match s with
    | .Continue _ => true
    | _ => false
  | .pas, s => match s with
    | .Pass _ => true
    | .Expr (.Constant (.str _) _ _) _ => true
    | _ => false
  | .rais c es, s => match s with
    | .Raise (some (.Call (.Name x _) (v :: vs) [] _)) none _ => decide (tb.xs[c]? = some x) && (glB sc x && (nmOk x && ((match xc[c]? with | some kx => !kx.flds.isEmpty | none => false) && ckEs tb sc es (v :: vs))))
    | _ => false
  | .tryA b c i h, s => match s with
    | .Try body [.ExceptHandler (some (.Name x _)) (some n) (b₀ :: suite) _] [] [] _ => decide (tb.xs[c]? = some x) && (glB sc x && (nmOk x && (decide (tb.N[i]? = some n) && (locO sc n && (nmOk n && ((match xc[c]? with
        | some kx => !kx.flds.isEmpty && ckHs tb.N tb.xs sc n kx.flds h (b₀ :: suite)
        | none => false) && ckSs tb xc sc b body))))))
    | _ => false
def ckSs (tb : Tb) (xc : List XCls) (sc : Scope) : List S → List Stmt → Bool
  | [], ss => match ss with
    | [] => true
    | _ => false
  | a :: r, ss => match ss with
    | s :: ss => ckS tb xc sc a s && ckSs tb xc sc r ss
    | _ => false
end

/-! ### it is so -/
structure StOk (G : Gl) (tb : Tb) (C : DL.Ctx) (k : Nat) (W : WX) (sc : Scope) (X : Cx) : Prop where
  c : CtxOk G tb C k W sc sc X
  kind : X.env.scope.kind = .function
  ps : PassesOwn (model X.prog X.w) X.A X.env X.xe
  hs : X.stack = X.env :: X.outer
  hf : X.env.frame = some X.env.locals
  kt : C.kt = G.kt
  xf : ∀ c x kx, tb.xs[c]? = some x → C.xc[c]? = some kx → ∃ j, j + 1 ≤ k ∧ (kx.flds = [] ∨ XFact G X j x c kx.flds)
  hx : ∀ c kx, C.xc[c]? = some kx → kx.flds = [] ∨ ∃ A, HFact G X C.xc tb.xs c A
theorem StOk.tr {G : Gl} {tb : Tb} {C : DL.Ctx} {k : Nat} {W W' : WX} {sc : Scope} {X : Cx} (h : StOk G tb C k W sc X) {pn : List (Addr × Obj)} {xe : Value → Shared → Prop} (tk : Takes (X.tr pn xe) W') (ps : PassesOwn (model X.prog X.w) X.A X.env xe) : StOk G tb C k W' sc (X.tr pn xe) where
  c := { K := h.c.K, N := h.c.N, nd := h.c.nd, calm := h.c.calm, room := h.c.room, sc := h.c.sc, tk := tk, fns := fun f x np hf => ⟨(h.c.fns f x np hf).ex, (h.c.fns f x np hf).hl⟩, bl := h.c.bl, cst := h.c.cst, st := h.c.st }
  kind := h.kind
  ps := ps
  hs := h.hs
  hf := h.hf
  kt := h.kt
  xf := fun c x kx h1 h2 => by
    obtain ⟨j, hj, z⟩ := h.xf c x kx h1 h2
    exact ⟨j, hj, z.imp id fun F => ⟨F.ex, F.nd, F.le⟩⟩
  hx := fun c kx h1 => (h.hx c kx h1).imp id fun ⟨A, F⟩ => ⟨A, F.xa, F.nm, F.h, F.fl, F.up⟩
end DS

set_option Elab.async false
set_option linter.all false
set_option maxRecDepth 100000
set_option maxHeartbeats 8000000
/-! statements: it is so -/
namespace DS
open PySem PySem.Spec PyProof.Rows L2
open DL (D Cell Store DX Res SRes E XE Hs XCls S)

section
variable {G : Gl} {tb : Tb} {C : DL.Ctx} {k : Nat} {sc : Scope}
theorem ps_eq {X : Cx} {W : WX} {s : Stmt} {m m' : DL.Env → Store → SRes} (h : ∀ ρ st, m ρ st = m' ρ st) (p : PS X s (tS G W m)) : PS X s (tS G W m') := by rw [show m' = m from funext fun ρ => funext fun st => (h ρ st).symm]; exact p
theorem pss_eq {X : Cx} {W : WX} {s : List Stmt} {m m' : DL.Env → Store → SRes} (h : ∀ ρ st, m ρ st = m' ρ st) (p : PSs X s (tS G W m)) : PSs X s (tS G W m') := by rw [show m' = m from funext fun ρ => funext fun st => (h ρ st).symm]; exact p
theorem locO_iff {x : Str} (h : locO sc x = true) : sc.names.lookup x = some .local := of_decide_eq_true h
/-- name = [..], the comprehension's list going straight to the name -/
theorem setLc {W : WX} {X : Cx} {i : Nat} {y : Str} {py spos pos : Pos} {elt tg src : E} {ifs : List E} {own : List (String × Nat)} {x : Expr} {gs : List Comprehension} {scope : Scope} (c : CtxOk G tb C k W sc sc X) (hk : X.env.scope.kind = .function) (hi : X.N[i]? = some y) (hl : locO sc y = true)
    (hsw : swB sc scope y py pos = true) (h : ck tb sc false (.lc elt tg src ifs own) (.ListComp x gs scope pos) = true) :
    PS X (.Assign [.Name y py] (.ListComp x gs scope pos) spos) (tS G W fun ρ st => .of ρ (DL.evE C ρ (.lc elt tg src ifs own) st) fun d st => .nx (ρ.set i (some d)) st) := by
  match gs, h with
  | [⟨tg', it, ifs', q⟩], h =>
    have hq : q = 0 := by
      by_cases hq : q = 0
      · exact hq
      · simp [ck, hq] at h
    subst hq
    rw [ck.eq_def] at h
    dsimp only at h
    simp only [Bool.and_eq_true] at h
    obtain ⟨hB, hG, hS, hF, hI, hL, hT, hE⟩ := h
    have hi' : PI X tg' it (tI G W fun ρ st => DL.evI C ρ src st) := ckI_ok c hI
    have hg := fun s H A cl fp => ckG_ok (c.blk hB s H A cl fp) tg tg' hG
    have ht := fun s H A cl fp => ok_ifs ifs (relS scope sc) ifs' scope W0 _ hT (of_decide_eq_true hL) (c.blk hB s H A cl fp)
    have he := fun s H A cl fp => (ok_ck elt (relS scope sc) false x scope W0 _ hE (c.blk hB s H A cl fp)).1 rfl
    have hsw' := swLc (env := X.env) (elt := x) (gs := [⟨tg', it, ifs', 0⟩]) (scope := scope) (pos := pos) (py := py) (y := y) (l := spos.line) hk
    rw [c.sc, hsw] at hsw'
    have hy : X.env.scope.names.lookup y = some .local := by rw [c.sc]; exact locO_iff hl
    have p := ps_setLc (spos := spos) (py := py) c.calm c.nd hi hy hsw' hi' (by rw [c.N, c.sc]; exact blkB_ok hB) hg ht he (folded_of hF)
    refine PSi p fun D σ H ⟨ι, ρ, st, hρ, S0, h⟩ => ?_
    refine d_lc (X := X) (elt := x) (tg := tg') (iter := it) (ifs := ifs') (scope := scope) (pos := pos) rfl (fun i hi => ?_) σ H _ ?_
    · rw [own_map]
      have := List.all_eq_true.mp hS i hi
      rw [List.any_eq_true] at this
      obtain ⟨q, hq, e⟩ := this
      exact List.mem_map.mpr ⟨q, hq, by simpa using e⟩
    · refine s_bind (G := G) (R := RD G) (W := W) (D := D) (f := fun d st => .nx (ρ.set i (some d)) st) hρ S0 ?_ fun d st1 v H1 ι1 e1 S1 r1 h1 => h1 _ H1 ι1 Ext.refl S1 ((hρ.mono e1).set r1)
      dsimp only at h
      rw [DL.evE] at h
      rw [own_map]
      exact h
  | [], h | _ :: _ :: _, h => simp [ck] at h
theorem par_ok {W : WX} {X : Cx} {tg e : E} {ts : List Expr} {kk : Nat} {p pos : Pos} {v : Expr} {names : List Str} (c : CtxOk G tb C k W sc sc X) (hk : X.env.scope.kind = .function) (hv : ck tb sc false e v = true) (hn : swN sc ts v = some (some names)) (hp : parB tb.N sc tg e ts v names = true) :
    PS X (.Assign [.Tuple ts kk p] v pos) (tS G W fun ρ st => DL.evS C (.setT tg e) ρ st) := by
  have hw := swN_ok (env := X.env) (k := kk) (p := p) hk (by rw [c.sc]; exact hn)
  unfold parB at hp
  split at hp
  · rename_i i j ea eb x p1 y p2 a b k2 p3
    simp only [Bool.and_eq_true, decide_eq_true_eq] at hp
    obtain ⟨rfl, h2, h3, h4, h5, h6⟩ := hp
    simp only [ck] at hv
    obtain ⟨q1, q2, q3⟩ := ok_es _ sc _ sc W X hv c
    refine ps_eq (fun ρ st => ?_) (n_par (pos := pos) c.calm c.nd (by rw [c.N]; exact h3) (by rw [c.N]; exact h4) h2 (by rw [c.sc]; exact locO_iff h5) (by rw [c.sc]; exact locO_iff h6) q1 hw)
    rw [DL.evS, DL.evE]
    cases q : DL.evEs C ρ [ea, eb] st with
    | bad => rfl
    | exc _ _ => rfl
    | ok ds st1 =>
      have hl := evEs_len q
      match ds, hl with
      | [d1, d2], _ => simp [DL.okS, DL.putT, DL.putTs]
  · rename_i i j l ea eb ec x p1 y p2 z p3 a b d k2 p4
    simp only [Bool.and_eq_true, decide_eq_true_eq] at hp
    obtain ⟨rfl, h2, h3, h4, h5, h6, h7, h8, h9, h10⟩ := hp
    simp only [ck] at hv
    obtain ⟨q1, q2, q3⟩ := ok_es _ sc _ sc W X hv c
    refine ps_eq (fun ρ st => ?_) (n_par3 (pos := pos) c.calm c.nd (by rw [c.N]; exact h5) (by rw [c.N]; exact h6) (by rw [c.N]; exact h7) h2 h3 h4 (by rw [c.sc]; exact locO_iff h8) (by rw [c.sc]; exact locO_iff h9) (by rw [c.sc]; exact locO_iff h10) q1 hw)
    rw [DL.evS, DL.evE]
    cases q : DL.evEs C ρ [ea, eb, ec] st with
    | bad => rfl
    | exc _ _ => rfl
    | ok ds st1 =>
      have hl := evEs_len q
      match ds, hl with
      | [d1, d2, d3], _ => simp [DL.okS, DL.putT, DL.putTs]
  · cases hp
theorem whl_eq {c : E} {b : List S} {ρ : DL.Env} {st : Store} : DL.evS C (.whl c b) ρ st = DL.whL (mT fun ρ st => DL.evE C ρ c st) (DL.evSs C b) ρ st := by
  rw [DL.evS]
  try rfl
mutual
theorem ok_s : ∀ (ir : S) (W : WX) (X : Cx) (s : Stmt), ckS tb C.xc sc ir s = true → StOk G tb C k W sc X → PS X s (tS G W fun ρ st => DL.evS C ir ρ st)
  | .set i e, W, X, s, h, o => by
    unfold ckS at h
    split at h
    · rename_i x py v pos
      simp only [Bool.and_eq_true] at h
      obtain ⟨h1, h2, h3, h4⟩ := h
      have hi : X.N[i]? = some x := by rw [o.c.N]; exact of_decide_eq_true h1
      obtain ⟨l1, l2⟩ := o.c.st x h2
      have pv := (ok_ck e sc false v sc W X h4 o.c).1 rfl
      by_cases hn : noComp v = true
      · exact ps_eq (fun ρ st => by rw [DL.evS]) (n_set o.c.nd hi l1 l2 pv (swE hn))
      · cases v <;> first | exact absurd rfl hn | skip
        · rename_i x' gs scope p
          dsimp only [isLc] at h3
          by_cases hs : swB sc scope x py p = true
          · have hl : locO sc x = true := by rw [hs] at h3; exact h3
            cases e <;> first | (simp [ck] at h4; done) | skip
            exact ps_eq (fun ρ st => by rw [DL.evS]) (setLc o.c o.kind hi hl hs h4)
          · have hs' : swB sc scope x py p = false := by cases q : swB sc scope x py p with | true => exact absurd q hs | false => rfl
            exact ps_eq (fun ρ st => by rw [DL.evS]) (n_set o.c.nd hi l1 l2 pv (by rw [swLc o.kind, o.c.sc, hs']))
        · cases h3
        · cases h3
    · cases h
  | .setT tg e, W, X, s, h, o => by
    unfold ckS at h
    split at h
    · rename_i ts kk p v pos
      simp only [Bool.and_eq_true] at h
      obtain ⟨h1, h2, h3⟩ := h
      split at h3
      · rename_i hn
        have hw := swN_ok (env := X.env) (k := kk) (p := p) o.kind (by rw [o.c.sc]; exact hn)
        exact ps_eq (fun ρ st => by rw [DL.evS]; try rfl) (n_asg ((ok_ck e sc false v sc W X h2 o.c).1 rfl) (ckG_ok o.c tg _ h1) (swSole (.inr fun x p z => by cases z)) hw rfl)
      · rename_i names hn
        exact par_ok o.c o.kind h2 hn h3
      · cases h3
    · cases h
  | .setX a b e, W, X, s, h, o => by
    unfold ckS at h
    split at h
    · rename_i x y p v pos
      simp only [Bool.and_eq_true] at h
      obtain ⟨h1, h2, h3, h4⟩ := h
      exact ps_eq (fun ρ st => by rw [DL.evS, o.kt]; try rfl) (n_setX ((ok_ck a sc false x sc W X h2 o.c).1 rfl) ((ok_ck b sc false y sc W X h3 o.c).1 rfl) o.c.K o.c.hu ((ok_ck e sc false v sc W X h4 o.c).1 rfl) (swSole (.inr fun x p z => by cases z)) h1)
    · cases h
  | .aug i op e, W, X, s, h, o => by
    unfold ckS at h
    split at h
    · rename_i x p v pos
      simp only [Bool.and_eq_true] at h
      obtain ⟨h0, h1, h2, h3⟩ := h
      obtain rfl := of_decide_eq_true h0
      obtain ⟨l1, l2⟩ := o.c.st x h2
      exact ps_eq (fun ρ st => by rw [DL.evS]; try rfl) (n_augA (i := i) o.c.nd (by rw [o.c.N]; exact of_decide_eq_true h1) l1 l2 ((ok_ck e sc false v sc W X h3 o.c).1 rfl))
    · cases h
  | .ex e, W, X, s, h, o => by
    unfold ckS at h
    split at h
    · rename_i v pos
      simp only [Bool.and_eq_true] at h
      obtain ⟨h1, h2⟩ := h
      exact ps_eq (fun ρ st => by rw [DL.evS]) (n_expr ((ok_ck e sc false v sc W X h2 o.c).1 rfl) (swE h1))
    · cases h
  | .ret e, W, X, s, h, o => by
    unfold ckS at h
    split at h
    · rename_i v pos
      exact ps_eq (fun ρ st => by rw [DL.evS]) (n_ret ((ok_ck e sc false v sc W X h o.c).1 rfl))
    · cases h
  | .retN, W, X, s, h, o => by
    unfold ckS at h
    split at h
    · exact ps_eq (fun ρ st => by rw [DL.evS]) n_retN
    · cases h
  | .ifs c a b, W, X, s, h, o => by
    unfold ckS at h
    split at h
    · rename_i t p q pos
      simp only [Bool.and_eq_true] at h
      obtain ⟨h1, h2, h3⟩ := h
      exact ps_eq (fun ρ st => by rw [DL.evS]; try rfl) (n_if ((ok_ck c sc true t sc W X h1 o.c).2 rfl) (ok_ss a W X p h2 o) (ok_ss b W X q h3 o))
    · cases h
  | .whl c b, W, X, s, h, o => by
    unfold ckS at h
    split at h
    · rename_i t p pos
      simp only [Bool.and_eq_true] at h
      obtain ⟨h1, h2⟩ := h
      exact ps_eq (fun ρ st => whl_eq.symm) (n_while o.ps ((ok_ck c sc true t sc W X h1 o.c).2 rfl) (ok_ss b W X p h2 o))
    · cases h
  | .for tg src b, W, X, s, h, o => by
    unfold ckS at h
    split at h
    · rename_i t it p pos
      simp only [Bool.and_eq_true] at h
      obtain ⟨h1, h2, h3, h4⟩ := h
      exact ps_eq (fun ρ st => by rw [DL.evS]; try rfl) (n_for o.ps o.c.calm (ckI_ok o.c h2) (ckG_ok o.c tg t h1) (ok_ss b W X p h4 o) (folded_of h3))
    · cases h
  | .brk, W, X, s, h, o => by
    unfold ckS at h
    split at h
    · exact ps_eq (fun ρ st => by rw [DL.evS]) n_break
    · cases h
  | .cnt, W, X, s, h, o => by
    unfold ckS at h
    split at h
    · exact ps_eq (fun ρ st => by rw [DL.evS]) n_cont
    · cases h
  | .pas, W, X, s, h, o => by
    unfold ckS at h
    split at h
    · exact ps_eq (fun ρ st => by rw [DL.evS]) n_pass
    · exact ps_eq (fun ρ st => by rw [DL.evS]) n_doc
    · cases h
  | .rais c es, W, X, s, h, o => by
    unfold ckS at h
    split at h
    · rename_i x q v vs p p'
      simp only [Bool.and_eq_true] at h
      obtain ⟨h1, h2, h3, h4, h5⟩ := h
      obtain ⟨q1, q2, q3⟩ := ok_es es sc _ sc W X h5 o.c
      rw [List.all_cons, Bool.and_eq_true] at q2
      split at h4
      · rename_i kx hkx
        obtain ⟨j, hj, F⟩ := o.xf c x kx (of_decide_eq_true h1) hkx
        rcases F with F | F
        · rw [F] at h4; cases h4
        · refine ps_eq (fun ρ st => ?_) (n_rais F o.c.calm o.c.tk (o.c.room.mono hj) (o.c.glb h2) (nmOk_iff h3).1 q1 (not_star q2.1) (back_of q2.2).1)
          rw [DL.evS, hkx]
      · cases h4
    · cases h
  | .tryA b c i hd, W, X, s, h, o => by
    unfold ckS at h
    split at h
    · rename_i body x np n b₀ suite p1 p2
      simp only [Bool.and_eq_true] at h
      obtain ⟨h1, h2, h3, h4, h5, h6, h7, h8⟩ := h
      split at h7
      · rename_i kx hkx
        rw [Bool.and_eq_true] at h7
        rcases o.hx c kx hkx with F | ⟨A, F⟩
        · rw [F] at h7; cases h7.1
        · refine ps_eq (fun ρ st => ?_) (n_try (mb := fun ρ st => DL.evSs C b ρ st) (sc := sc) o.c.K o.hs o.hf o.c.nd (by rw [o.c.N]; exact of_decide_eq_true h4) (by show X.env.scope.names.lookup n = _; rw [o.c.sc]; exact locO_iff h5) F hkx (of_decide_eq_true h1) (o.c.glb h2) h3 o.c.tk o.c.sc h6 (o.c.bl _ (by decide)) (fun y hy => o.c.vis hy)
            (fun W' pn xe tk ps => ok_ss b W' _ body h8 (o.tr tk ps)) (by rw [o.c.N]; exact h7.2))
          rw [DL.evS]
          try rfl
      · cases h7
    · cases h
theorem ok_ss : ∀ (ir : List S) (W : WX) (X : Cx) (ss : List Stmt), ckSs tb C.xc sc ir ss = true → StOk G tb C k W sc X → PSs X ss (tS G W fun ρ st => DL.evSs C ir ρ st)
  | [], W, X, ss, h, o => by
    cases ss with
    | nil => exact pss_eq (fun ρ st => by rw [DL.evSs]) n_nil
    | cons _ _ => simp [ckSs] at h
  | a :: r, W, X, ss, h, o => by
    cases ss with
    | nil => simp [ckSs] at h
    | cons s ss =>
      simp only [ckSs, Bool.and_eq_true] at h
      exact pss_eq (fun ρ st => by rw [DL.evSs]) (n_cons (ok_s a W X s h.1 o) (ok_ss r W X ss h.2 o))
end
end
end DS

set_option Elab.async false
set_option linter.all false
set_option maxRecDepth 100000
set_option maxHeartbeats 8000000
/-! defs: by induction over the depth -/
namespace DS
open PySem PySem.Spec PyProof.Rows L2
open DL (D Cell Store DX Res SRes E XE Hs XCls S)

/-! ### labels that go -/
section
variable {G : Gl} {ι : List Addr} {H H' : Hp} {r : List Addr}
mutual
theorem Rep.wf : ∀ {d : D} {v : V}, Rep G ι H d v → DL.wfD ι.length d = true
  | .ref l, v, ⟨a, _, h⟩ => by
    rw [DL.wfD]
    exact decide_eq_true (List.getElem?_eq_some_iff.mp h).1
  | .tup ds, v, ⟨a, vs, _, _, h⟩ => by rw [DL.wfD]; exact RepL.wf h
  | .non, _, _ | .bl _, _, _ | .int _, _, _ | .str _, _, _ | .fl _, _, _ | .fn _, _, _ => by rw [DL.wfD] <;> (intros; rename_i z; cases z)
theorem RepL.wf : ∀ {ds : List D} {vs : List V}, RepL G ι H ds vs → DL.wfDs ι.length ds = true
  | [], _, _ => by rw [DL.wfDs]
  | d :: ds, vs, ⟨v, r, _, h1, h2⟩ => by rw [DL.wfDs, Rep.wf h1, RepL.wf h2]; rfl
end
mutual
theorem Rep.low : ∀ {d : D} {v : V}, DL.wfD ι.length d = true → Rep G (ι ++ r) H d v → Rep G ι H d v
  | .ref l, v, w, ⟨a, e, h⟩ => by
    rw [DL.wfD] at w
    rw [List.getElem?_append_left (of_decide_eq_true w)] at h
    exact ⟨a, e, h⟩
  | .tup ds, v, w, ⟨a, vs, e, k, h⟩ => by
    rw [DL.wfD] at w
    exact ⟨a, vs, e, k, RepL.low w h⟩
  | .non, _, _, h | .bl _, _, _, h | .int _, _, _, h | .str _, _, _, h | .fl _, _, _, h | .fn _, _, _, h => h
theorem RepL.low : ∀ {ds : List D} {vs : List V}, DL.wfDs ι.length ds = true → RepL G (ι ++ r) H ds vs → RepL G ι H ds vs
  | [], _, _, h => h
  | d :: ds, vs, w, ⟨v, s, e, h1, h2⟩ => by
    rw [DL.wfDs, Bool.and_eq_true] at w
    exact ⟨v, s, e, Rep.low w.1 h1, RepL.low w.2 h2⟩
end
theorem RepK.wf {κ : Type} {f : D → Option κ} (hf : ∀ d k n, f d = some k → DL.wfD n d = true) : ∀ {kvs : List (D × D)} {ks : List (κ × V)}, RepK G f ι H kvs ks → ∀ p ∈ kvs, DL.wfD ι.length p.1 = true ∧ DL.wfD ι.length p.2 = true
  | [], _, _, p, hp => by cases hp
  | q :: kvs, ks, ⟨k, v, s, e, h1, h2, h3⟩, p, hp => by
    rcases List.mem_cons.mp hp with rfl | hp
    · exact ⟨hf _ _ _ h1, Rep.wf h2⟩
    · exact RepK.wf hf h3 p hp
theorem RepK.low {κ : Type} {f : D → Option κ} : ∀ {kvs : List (D × D)} {ks : List (κ × V)}, (∀ p ∈ kvs, DL.wfD ι.length p.1 = true ∧ DL.wfD ι.length p.2 = true) → RepK G f (ι ++ r) H kvs ks → RepK G f ι H kvs ks
  | [], _, _, h => h
  | q :: kvs, ks, w, ⟨k, v, s, e, h1, h2, h3⟩ => ⟨k, v, s, e, h1, Rep.low (w q (by simp)).2 h2, RepK.low (fun p hp => w p (by simp [hp])) h3⟩
theorem keyK_wf (d : D) (k : Key) (n : Nat) (h : keyK d = some k) : DL.wfD n d = true := by cases d <;> first | (cases h; done) | (rw [DL.wfD] <;> (intros; rename_i z; cases z))
theorem keysT_wf : ∀ (ds : List D) (ks : List Key) (n : Nat), keysT ds = some ks → DL.wfDs n ds = true
  | [], _, _, _ => by rw [DL.wfDs]
  | d :: ds, ks, n, h => by
    unfold keysT at h
    split at h
    · rename_i k ks' h1 h2
      rw [DL.wfDs, keyK_wf d k n h1, keysT_wf ds ks' n h2]
      rfl
    · cases h
theorem keyT_wf (d : D) (ks : List Key) (n : Nat) (h : keyT d = some ks) : DL.wfD n d = true := by
  cases d <;> first | (cases h; done) | skip
  rw [DL.wfD]
  exact keysT_wf _ ks n h
theorem CellRep.wf {a : Addr} {c : Cell} (h : CellRep G ι H a c) : DL.wfC ι.length c := by
  cases c with
  | lst ds => obtain ⟨vs, _, h⟩ := h; exact RepL.wf h
  | dic tk kvs =>
    cases tk with
    | false => obtain ⟨ks, _, h⟩ := h; exact RepK.wf keyK_wf h
    | true => obtain ⟨ks, _, h⟩ := h; exact RepK.wf keyT_wf h
theorem CellRep.low {a : Addr} {c : Cell} (w : DL.wfC ι.length c) (h : CellRep G (ι ++ r) H a c) : CellRep G ι H a c := by
  cases c with
  | lst ds => obtain ⟨vs, e, h⟩ := h; exact ⟨vs, e, RepL.low w h⟩
  | dic tk kvs =>
    cases tk with
    | false => obtain ⟨ks, e, h⟩ := h; exact ⟨ks, e, RepK.low w h⟩
    | true => obtain ⟨ks, e, h⟩ := h; exact ⟨ks, e, RepK.low w h⟩
/-- the labels behind a call -/
theorem settle_ok {ι' : List Addr} {st st' : Store} {ds : List D} (S : RS G ι st H) (e : Ext ι H ι' H') (S' : RS G ι' st' H') :
    ∃ ι'', Ext ι H ι'' H' ∧ RS G ι'' (DL.settle st st' ds) H' ∧ ∀ d ∈ ds, ∀ v, Rep G ι' H' d v → Rep G ι'' H' d v := by
  unfold DL.settle
  split
  rotate_left
  · exact ⟨ι', e, S', fun _ _ _ h => h⟩
  rename_i T
  obtain ⟨r, rfl⟩ := e.pre
  obtain ⟨t1, t2, t3⟩ := T
  refine ⟨ι, ⟨⟨[], by simp⟩, fun a h => .inl h, e.keep, e.imm, e.there⟩, ⟨?_, S.nd, fun l c hl => ?_⟩, fun d hd v h => Rep.low (by rw [← S.len]; exact t2 d hd) h⟩
  · rw [List.length_take, Nat.min_eq_left t1, S.len]
  · have hlt : l < st.length := by
      have := (List.getElem?_eq_some_iff.mp hl).1
      rw [List.length_take] at this
      omega
    rw [List.getElem?_take_of_lt hlt] at hl
    obtain ⟨a, ha, hc⟩ := S'.cell l c hl
    rw [List.getElem?_append_left (by rw [← S.len]; exact hlt)] at ha
    refine ⟨a, ha, CellRep.low ?_ hc⟩
    rcases t3 l c hlt hl with h | h
    · obtain ⟨a', _, hc'⟩ := S.cell l c h
      exact hc'.wf
    · rw [← S.len]; exact h
end

/-! ### a program's defs -/
structure Df where
  x : Str
  st : Stmt
  N : List Str
  fn : DL.Fn
structure Pr where
  fs : List Df
  cst : List (Str × D)
  xs : List Str
  xc : List XCls
  kt : List D
abbrev Pr.T (pr : Pr) : List DL.Fn := pr.fs.map (·.fn)
abbrev Pr.tb (pr : Pr) (d : Df) : Tb := ⟨d.N, pr.fs.map fun d => (d.x, d.fn.np), pr.cst, pr.xs⟩
noncomputable abbrev Pr.call (pr : Pr) : Nat → Nat → List D → Store → Res D := DL.callF pr.xc pr.kt pr.T
def fsB (N ps : List Str) (sc : Scope) : Bool := decide (sc.kind = .function) && (!sc.isCoroutine && (!sc.isGenerator && (decide N.Nodup && (decide (N.take ps.length = ps) && (ps.all (fun x => locB sc x) && sc.names.all fun y => decide (y.2 ≠ .free))))))
def okDf (pr : Pr) (d : Df) : Bool := decide (d.fn.ns = d.N.length) && (decide (d.fn.np ≤ d.N.length) && (fsB d.N (d.N.take d.fn.np) (defScope d.st) && ckSs (pr.tb d) pr.xc (defScope d.st) d.fn.body (defBody d.st)))
theorem fsB_ok {N ps : List Str} {sc : Scope} (h : fsB N ps sc = true) : FnScope N ps sc := by
  unfold fsB at h
  simp only [Bool.and_eq_true, Bool.not_eq_true', decide_eq_true_eq, List.all_eq_true] at h
  obtain ⟨h1, h2, h3, h4, h5, h6, h7⟩ := h
  refine ⟨h1, h2, h3, h4, h5, fun x hx => ?_, h7⟩
  have := h6 x hx
  unfold locB at this
  rw [Bool.or_eq_true] at this
  exact this.imp of_decide_eq_true of_decide_eq_true

structure Facts (G : Gl) (pr : Pr) (P : Program) (w : World) (K : PySem.W.Frag) (mg : Str → Option Value) (base : Heap) : Prop where
  eK : K = G.K
  kt : G.kt = pr.kt
  fs : ∀ (f : Nat) (d : Df), pr.fs[f]? = some d → ∃ fa fd, Fun K d.x d.x d.st fa fd ∧ mg d.x = some (.ref fa) ∧ Binds K fd (d.N.take d.fn.np) []
  bl : ∀ x ∈ bltNames, mg x = none
  cst : ∀ x d, pr.cst.lookup x = some d → ∃ u v, mg x = some u ∧ RelV v u ∧ ∀ ι H, Rep G ι H d v
  xf : ∀ c x kx, pr.xs[c]? = some x → pr.xc[c]? = some kx → kx.flds = [] ∨ ((∃ (C fI : Addr) (fd : FuncData), G.xa c = some C ∧ mg x = some (.ref C) ∧ OexC K C ∧ PySem.W.findIn K (.ref C) "__init__" = some (some (.ref fI)) ∧ PySem.W.typeIn K (.ref fI) = some (.type "function") ∧
    FnOk P w K mg base (L2.CX P w) 1 fI fd ("self" :: kx.flds.map Str.ofString) (spInit K C (kx.flds.map Str.ofString)) ∧ Binds K fd ("self" :: kx.flds.map Str.ofString) []) ∧ (kx.flds.map Str.ofString).Nodup ∧ kx.flds.length ≤ 1000)
  hx : ∀ c kx, pr.xc[c]? = some kx → kx.flds = [] ∨ ∃ A, G.xa c = some A ∧ (∃ x, pr.xs[c]? = some x ∧ mg x = some (.ref A)) ∧ HCls K A ∧ (∀ n ∈ kx.flds, PySem.W.findIn K (.ref A) (Str.ofString n) = some none) ∧
    ∀ j, kx.up.contains j = true → ∃ y S, pr.xs[j]? = some y ∧ mg y = some (.ref S) ∧ PySem.W.kitOne K (.ref A) (.ref S) = some true

section
variable {G : Gl} {pr : Pr} {P : Program} {w : World} {K : PySem.W.Frag} {mg : Str → Option Value} {base : Heap}
theorem call_len {k f : Nat} {d : Df} (hf : pr.fs[f]? = some d) (ds : List D) (st : Store) (h : ds.length ≠ d.fn.np) : pr.call k f ds st = .bad := by
  cases k with
  | zero => rfl
  | succ k =>
    show DL.callF pr.xc pr.kt pr.T (k + 1) f ds st = .bad
    unfold DL.callF
    have : pr.T[f]? = some d.fn := by show (pr.fs.map (·.fn))[f]? = _; rw [List.getElem?_map, hf]; rfl
    rw [this]
    dsimp only
    rw [if_neg h]
theorem start_rep {ι : List Addr} {H : Hp} {N : List Str} {ds : List D} {vs : List V} {ns np : Nat} (r : RepL G ι H ds vs) (hn : ns = N.length) (hp : ds.length = np) : RepEnv G ι H (ds.map some ++ List.replicate (ns - np) none) (L2.start N vs) := by
  subst hn hp
  have hl := r.length
  refine ⟨by simp [L2.start, hl], fun i d hd => ?_⟩
  unfold L2.start
  by_cases hi : i < ds.length
  · rw [List.getElem?_append_left (by simpa using hi), List.getElem?_map] at hd
    cases e : ds[i]? with
    | none => rw [e] at hd; cases hd
    | some d' =>
      rw [e] at hd
      obtain rfl : d' = d := by simpa using hd
      obtain ⟨v, hv, rv⟩ := r.get e
      refine ⟨v, ?_, rv⟩
      rw [List.getElem?_append_left (by rw [List.length_map, ← hl]; exact hi), List.getElem?_map, hv]
      rfl
  · rw [List.getElem?_append_right (by simpa using Nat.le_of_not_lt hi)] at hd
    rw [List.getElem?_replicate] at hd
    split at hd <;> cases hd
theorem lookup_mem {n : String} {d : D} : ∀ {l : List (String × D)}, l.lookup n = some d → d ∈ l.map (·.2)
  | [], h => by cases h
  | p :: l, h => by
    rw [List.lookup_cons] at h
    split at h
    · cases h; simp
    · have := lookup_mem h
      rw [List.map_cons]
      exact List.mem_cons_of_mem _ this
theorem all_ok (F : Facts G pr P w K mg base) (hck : ∀ d ∈ pr.fs, okDf pr d = true) : ∀ (n f : Nat) (d : Df) (fa : Addr) (fd : FuncData), pr.fs[f]? = some d → Fun K d.x d.x d.st fa fd →
    FnOk P w K mg base (L2.CX P w) (n + 2) fa fd (d.N.take d.fn.np) (spD G (pr.call n f) d.fn.np)
  | 0, f, d, fa, fd, hf, FF => ⟨fun vs H Q E ⟨ι, ds, st, _, _, _, h⟩ => h.elim, fun A outer s H args us vs Q E hr h0 hb hv ⟨ι, ds, st, _, _, _, h⟩ => h.elim⟩
  | n + 1, f, d, fa, fd, hf, FF => by
    have ih := all_ok F hck n
    have hc := hck d (List.mem_of_getElem? hf)
    unfold okDf at hc
    simp only [Bool.and_eq_true, decide_eq_true_eq] at hc
    obtain ⟨hns, hnp, hfs, hss⟩ := hc
    have Sc := fsB_ok hfs
    have hplen : (d.N.take d.fn.np).length = d.fn.np := by rw [List.length_take, Nat.min_eq_left hnp]
    refine FF.okX Sc (fun vs H Q E ⟨ι, ds, st, r, _, hl, _⟩ => by rw [hplen, ← hl, r.length]) (fun cdv A outer s H vs Q E hr ⟨ι, ds, st, r, S, hl, h⟩ => ?_)
    have o : StOk G (pr.tb d) ⟨pr.xc, pr.kt, pr.call n⟩ (n + 2) (fun cls dd _ H' => E cls dd H') (defScope d.st) (cxOf (L2.CX P w) P w K mg base d.N d.x (defScope d.st) fa cdv A outer s H E) := {
      c := { K := F.eK, N := rfl, nd := Sc.nd, calm := rfl, room := hr, sc := rfl, tk := takes_of rfl rfl rfl rfl
             fns := fun g x np hg => by
               have hg : (pr.fs.map fun d => (d.x, d.fn.np))[g]? = some (x, np) := hg
               rw [List.getElem?_map] at hg
               cases e : pr.fs[g]? with
               | none => rw [e] at hg; cases hg
               | some d' =>
                 rw [e] at hg
                 obtain ⟨rfl, rfl⟩ : d'.x = x ∧ d'.fn.np = np := by simpa using hg
                 obtain ⟨fa', fd', F1, hm, hb⟩ := F.fs g d' e
                 exact ⟨⟨fa', fd', _, ih g d' fa' fd' e F1, hm, F1.kp, hb⟩, fun ds st h => call_len e ds st h⟩
             bl := F.bl, cst := F.cst
             st := fun x hx => ⟨by
               unfold locB at hx
               rw [Bool.or_eq_true] at hx
               exact hx.imp of_decide_eq_true of_decide_eq_true, .inl rfl⟩ }
      kind := Sc.kind, ps := passes_of rfl, hs := rfl, hf := rfl, kt := F.kt.symm
      xf := fun c x kx h1 h2 => ⟨1, by omega, (F.xf c x kx h1 h2).imp id fun ⟨h, nd, le⟩ => ⟨h, nd, le⟩⟩
      hx := fun c kx h1 => (F.hx c kx h1).imp id fun ⟨A, e1, e2, e3, e4, e5⟩ => ⟨A, e1, e2, e3, fun n k hk hn => e4 n (by rw [h1] at hk; cases hk; exact hn), fun j k hk hj => e5 j (by rw [h1] at hk; cases hk; exact hj)⟩ }
    refine ⟨_, ok_ss d.fn.body _ _ _ hss o, ι, ds.map some ++ List.replicate (d.fn.ns - d.fn.np) none, st, start_rep r hns hl, S, ?_⟩
    have hT : pr.T[f]? = some d.fn := by show (pr.fs.map (·.fn))[f]? = _; rw [List.getElem?_map, hf]; rfl
    replace h : RPost G (fun cls dd _ H' => E cls dd H') (RD G) [] ι H (DL.callF pr.xc pr.kt pr.T (n + 1) f ds st) Q := h
    unfold DL.callF at h
    rw [hT] at h
    dsimp only at h
    rw [if_pos hl] at h
    show SPost G _ ι H _ (DL.evSs ⟨pr.xc, pr.kt, DL.callF pr.xc pr.kt pr.T n⟩ d.fn.body (ds.map some ++ List.replicate (d.fn.ns - d.fn.np) none) st)
    cases e : DL.evSs ⟨pr.xc, pr.kt, DL.callF pr.xc pr.kt pr.T n⟩ d.fn.body (ds.map some ++ List.replicate (d.fn.ns - d.fn.np) none) st with
    | bad => rw [e] at h; exact h
    | brk _ _ => rw [e] at h; exact h.elim
    | cnt _ _ => rw [e] at h; exact h.elim
    | nx ρ' st' =>
      rw [e] at h
      intro σ' H' ι' e' S' _
      obtain ⟨ι2, e2, S2, _⟩ := settle_ok (ds := []) S e' S'
      exact h .non H' ι2 e2 S2 rfl
    | ret d' st' =>
      rw [e] at h
      intro v H' ι' e' S' rv
      obtain ⟨ι2, e2, S2, k2⟩ := settle_ok (ds := [d']) S e' S'
      exact h v H' ι2 e2 S2 (k2 d' (by simp) v rv)
    | exc x ρ' st' =>
      rw [e] at h
      intro cls dd σ' H' ι' e' S' _ rx
      obtain ⟨C, a, fs, x1, x2, x3, x4, x5⟩ := rx
      obtain ⟨ι2, e2, S2, k2⟩ := settle_ok (ds := x.flds.map (·.2)) S e' S'
      exact h cls dd H' ι2 e2 S2 ⟨C, a, fs, x1, x2, x3, x4, fun n d hn => by
        obtain ⟨v, hv, rv⟩ := x5 n d hn
        exact ⟨v, hv, k2 d (lookup_mem hn) v rv⟩⟩
end
end DS

set_option Elab.async false
set_option linter.all false
set_option maxRecDepth 100000
set_option maxHeartbeats 8000000
/-! what the written part says, gathered; the law's end -/
namespace DS
open PySem PySem.Spec PyProof.Rows L2
open DL (D Cell Store DX Res SRes E XE Hs XCls S)

section
variable {K : PySem.W.Frag}
def FnK (K : PySem.W.Frag) (x : Str) (st : Stmt) : Prop := ∃ f fd, PySem.W.nsIn K mainGlobals x = some (some (.ref f)) ∧ Fun K x x st f fd
theorem FnK.mk {x : Str} {st : Stmt} {f : Addr} {oc : Value} {od an : Option Addr} {sl : Array (Option Value)} {kV dc pm cd ct : Value} (a : PySem.W.nsIn K mainGlobals x = some (some (.ref f)))
    (l : K.lookup f = some ⟨oc, od, .func (PySem.W.fnOf x x (defArgs st) (defBody st) (defScope st) .none kV dc pm an cd ct), sl⟩) (c : PySem.W.codeIn K cd x = true) (k : PySem.W.keepIn K (.ref f) = true) : FnK K x st := ⟨f, _, a, fun_mk l c k⟩
structure ExcB (K : PySem.W.Frag) (y qual : Str) (fl : List Str) (st : Stmt) (C S fI : Addr) (fd : FuncData) : Prop where
  aS : PySem.W.nsIn K mainGlobals y = some (some (.ref S))
  ox : OexC K C
  hc : HCls K C
  iC : PySem.W.findIn K (.ref C) "__init__" = some (some (.ref fI))
  tI : PySem.W.typeIn K (.ref fI) = some (.type "function")
  fn : Fun K "__init__" qual st fI fd
  no : ∀ n ∈ fl, PySem.W.findIn K (.ref C) n = some none
  kS : PySem.W.kitOne K (.ref C) (.ref S) = some true
  bx : BaseX K S
def ExcK (K : PySem.W.Frag) (x y qual : Str) (fl : List Str) (st : Stmt) : Prop := ∃ C S fI fd, PySem.W.nsIn K mainGlobals x = some (some (.ref C)) ∧ ExcB K y qual fl st C S fI fd
theorem ExcK.mk {x y qual : Str} {fl : List Str} {st : Stmt} {C S fI : Addr} {nm q : Str} {N : Addr} {bs bm : List Value} {sn : List Str} {sub : List Value} {ab : Bool} {col : Option Bool} {dd : Option Addr} {m0 m1 m2 m3 m5 : Option Value} {od an : Option Addr} {sl : Array (Option Value)} {oc kV dc pm cd ct : Value}
    (aC : PySem.W.nsIn K mainGlobals x = some (some (.ref C))) (aS : PySem.W.nsIn K mainGlobals y = some (some (.ref S)))
    (xL : K.lookup C = some (excClassObj nm q C N bs bm true sn sub ab col dd m0 m1 m2 m3 m5 "ValueError.__new__")) (hbm : PySem.HandSPX.refsVE bm = true)
    (sa : PySem.W.findIn K (.ref C) "__setattr__" = some (some (.builtin "object.__setattr__"))) (ga : PySem.W.findIn K (.ref C) "__getattribute__" = some (some (.builtin "BaseException.__getattribute__"))) (gg : PySem.W.findIn K (.ref C) "__getattr__" = some none)
    (no : ∀ n ∈ fl, PySem.W.findIn K (.ref C) n = some none)
    (i1 : PySem.W.findIn K (.ref C) "__init__" = some (some (.ref fI))) (t1 : PySem.W.typeIn K (.ref fI) = some (.type "function"))
    (l1 : K.lookup fI = some ⟨oc, od, .func (PySem.W.fnOf "__init__" qual (defArgs st) (defBody st) (defScope st) .none kV dc pm an cd ct), sl⟩) (c1 : PySem.W.codeIn K cd qual = true) (k1 : PySem.W.keepIn K (.ref fI) = true)
    (kC : PySem.W.keepIn K (.ref C) = true) (eC : PySem.W.subIn K (.ref C) (.type "BaseException") = some true) (tC : PySem.W.typeIn K (.ref C) = some (.type "type")) (hC : PySem.W.hasDictIn K C = true) (cl : (PySem.W.clsIn K C).isSome = true) (sC : PySem.W.subIn K (.ref C) (.ref C) = some true)
    (ca : PySem.W.findIn K (.ref C) "__class__" = some (some (.builtin "object.__class__"))) (cn : PySem.W.specialIn K (.builtin "object.__class__") "__get__" = some (some (.builtin "getset_descriptor.__get__"))) (ct' : PySem.W.takesIn K (.builtin "object.__class__") = some true) (cm : PySem.W.mroIn K C (.type "object") = some true)
    (kS : PySem.W.kitOne K (.ref C) (.ref S) = some true)
    (b1 : PySem.W.typeIn K (.ref S) = some (.type "type")) (b2 : PySem.W.specialIn K (.ref S) "__getattribute__" = some (some (.builtin "type.__getattribute__"))) (b3 : PySem.W.readsIn K S (.type "type") = true) (b4 : PySem.W.findCls K (.ref S) (.type "type") "__init__" = some (.val (.builtin "ValueError.__init__"))) :
    ExcK K x y qual fl st :=
  ⟨C, S, fI, _, aC, aS, ⟨⟨nm, q, N, bs, bm, sn, sub, ab, col, dd, m0, m1, m2, m3, m5, xL, hbm⟩, sa, eC, tC, kC⟩, ⟨⟨ga, gg, eC, hC⟩, cl, tC, sC, ca, cn, ct', cm⟩, i1, t1, fun_mk l1 c1 k1, no, kS, ⟨b1, b2, b3, b4⟩⟩

/-! ### constants -/
def CstK (K : PySem.W.Frag) (kt : List D) (x : Str) (d : D) : Prop := ∃ u v, PySem.W.nsIn K mainGlobals x = some (some u) ∧ RelV v u ∧ ∀ G : Gl, G.K = K → G.kt = kt → ∀ ι H, Rep G ι H d v
def valB : D → Value → Bool
  | .non, .none => true
  | .bl a, .bool b => decide (a = b)
  | .int i, .int j _ => decide (i = j)
  | .str s, .str t _ => decide (sS s = t) && (DL.okS s.length && PyData.strOk t)
  | _, _ => false
def valsB : List D → List Value → Bool
  | [], [] => true
  | d :: ds, u :: us => valB d u && valsB ds us
  | _, _ => false
theorem valB_ok {d : D} {u : Value} (h : valB d u = true) : ∃ v, RelV v u ∧ ∀ (G : Gl) ι H, Rep G ι H d v := by
  cases d <;> cases u <;> first | (cases h; done) | skip
  · exact ⟨.non, rfl, fun _ _ _ => rfl⟩
  · obtain rfl := of_decide_eq_true h
    exact ⟨.bl _, rfl, fun _ _ _ => rfl⟩
  · obtain rfl := of_decide_eq_true h
    exact ⟨.int _, ⟨_, rfl⟩, fun _ _ _ => rfl⟩
  · unfold valB at h
    rw [Bool.and_eq_true, Bool.and_eq_true] at h
    obtain ⟨h1, h2, h3⟩ := h
    obtain rfl := of_decide_eq_true h1
    exact ⟨.str _, ⟨_, rfl⟩, fun _ _ _ => ⟨rfl, lineM (of_decide_eq_true h2), h3⟩⟩
theorem valsB_ok : ∀ {ds : List D} {us : List Value}, valsB ds us = true → ∃ vs, Vals vs us ∧ ∀ (G : Gl) ι H, RepL G ι H ds vs
  | [], [], _ => ⟨[], .nil, fun _ _ _ => rfl⟩
  | d :: ds, u :: us, h => by
    unfold valsB at h
    rw [Bool.and_eq_true] at h
    obtain ⟨v, r, p⟩ := valB_ok h.1
    obtain ⟨vs, rs, ps⟩ := valsB_ok h.2
    exact ⟨v :: vs, .cons r rs, fun G ι H => ⟨v, vs, rfl, p G ι H, ps G ι H⟩⟩
  | [], _ :: _, h | _ :: _, [], h => by cases h
theorem CstK.one {kt : List D} {x : Str} {d : D} {u : Value} (a : PySem.W.nsIn K mainGlobals x = some (some u)) (h : valB d u = true) : CstK K kt x d := by
  obtain ⟨v, r, p⟩ := valB_ok h
  exact ⟨u, v, a, r, fun G _ _ => p G⟩
theorem CstK.tup {kt : List D} {x : Str} {ds : List D} {p : Addr} {od : Option Addr} {its : Array Value} {n : Nat} {sl : Array (Option Value)} (a : PySem.W.nsIn K mainGlobals x = some (some (.ref p))) (l : K.lookup p = some ⟨.type "tuple", od, .seq its n, sl⟩) (h : valsB ds its.toList = true) (hz : its.size ≤ 1000) (hk : (kt.any fun d => DL.D.same d (.tup ds)) = true) : CstK K kt x (.tup ds) := by
  obtain ⟨vs, r, q⟩ := valsB_ok h
  refine ⟨.ref p, .ref p, a, rfl, fun G e1 e2 ι H => ⟨p, vs, rfl, .inr ⟨⟨_, its, n, by rw [e1]; exact l, rfl, rfl, Nat.le_of_lt (small1000 hz), r⟩, ?_⟩, q G ι H⟩⟩
  rw [List.any_eq_true] at hk
  obtain ⟨d, hd, e⟩ := hk
  exact ⟨d, by rw [e2]; exact hd, e⟩
theorem look_all {α β : Type} [BEq α] [LawfulBEq α] {Q : α → β → Prop} : ∀ {l : List (α × β)}, (∀ p ∈ l, Q p.1 p.2) → ∀ x d, l.lookup x = some d → Q x d
  | [], _, x, d, h => by cases h
  | p :: l, q, x, d, h => by
    rw [List.lookup_cons] at h
    split at h
    · rename_i e
      cases h
      have : x = p.1 := by simpa using e
      rw [this]
      exact q p (by simp)
    · exact look_all (fun p hp => q p (by simp [hp])) x d h
end

/-! ### the end -/
def spL (K : PySem.W.Frag) (kt : List D) (m : List D → Store → Res D) : Sp := fun vs H Q E => ∀ G : Gl, G.K = K → G.kt = kt → spD G m 1 vs H Q E
theorem spL_law {K : PySem.W.Frag} {kt : List D} {m : List D → Store → Res D} {n : Nat} (h : ∀ ns : List Int, ns.length ≤ n → ∃ st, m [.fl ns] [] = .ok (.bl true) st) (H : Hp) (a : Addr) (ns : List Int) (hl : ns.length ≤ n) (hO : L2.Only H) (hS : SqL K H a (ns.map V.int)) :
    spL K kt m [.ref a] H (fun v _ => v = .bl true) fun _ _ _ => False := by
  intro G e1 e2
  obtain ⟨st, e⟩ := h ns hl
  refine ⟨[], [.fl ns], [], ⟨.ref a, [], rfl, ⟨a, rfl, ?_⟩, rfl⟩, ⟨rfl, List.nodup_nil, fun l c hc => by cases hc⟩, rfl, ?_⟩
  · rcases hS with (h | ⟨o, h⟩) | h
    · rcases hO a with z | ⟨o, xs, z⟩
      · rw [z] at h; cases h
      · rw [z] at h; cases h
    · exact .inl ⟨o, h⟩
    · exact .inr (by rw [e1]; exact h)
  · rw [e]
    exact fun b H' ι' _ _ r => r
end DS

set_option linter.all false
set_option maxRecDepth 100000
namespace KL
open DL (D E S Fn XE Hs XCls)
abbrev i_is_whole : Nat := 0
abbrev i_is_word : Nat := 1
abbrev i_look_at_word : Nat := 2
abbrev i_rest_rows : Nat := 3
abbrev i_far_table : Nat := 4
abbrev i_far_fault : Nat := 5
abbrev i_most_told : Nat := 6
abbrev i__law_draws : Nat := 7
abbrev i__law_draw : Nat := 8
abbrev i__law_pick : Nat := 9
abbrev i__law_same : Nat := 10
abbrev i__law_far : Nat := 11
abbrev i__law_whole : Nat := 12
abbrev i__law_fault : Nat := 13
abbrev i__law_drawn : Nat := 14
abbrev i_law : Nat := 15
def c_SMALL : D := .str [97, 98, 99, 100, 101, 102, 103, 104, 105, 106, 107, 108, 109, 110, 111, 112, 113, 114, 115, 116, 117, 118, 119, 120, 121, 122]
def c_GREAT : D := .str [65, 66, 67, 68, 69, 70, 71, 72, 73, 74, 75, 76, 77, 78, 79, 80, 81, 82, 83, 84, 85, 86, 87, 88, 89, 90]
def c_DIGITS : D := .str [48, 49, 50, 51, 52, 53, 54, 55, 56, 57]
def c_RUNS : D := .str [97, 98, 99, 100, 101, 102, 103, 104, 105, 106, 107, 108, 109, 110, 111, 112, 113, 114, 115, 116, 117, 118, 119, 120, 121, 122, 65, 66, 67, 68, 69, 70, 71, 72, 73, 74, 75, 76, 77, 78, 79, 80, 81, 82, 83, 84, 85, 86, 87, 88, 89, 90, 48, 49, 50, 51, 52, 53, 54, 55, 56, 57]
def c_MOST_WORD : D := .int (24)
/-- is_whole(value): 0:value -/
def f_is_whole : Fn := ⟨1, 1, [
  .ret (.and [(.isi (.var 0) .int), (.not (.isi (.var 0) .bool))])]⟩
/-- is_word(value): 0:value 1:sign -/
def f_is_word : Fn := ⟨1, 2, [
  .ret (.and [(.isi (.var 0) .str), (.chain .lt .le (.cst (.int (0))) (.bi .len [(.var 0)]) (.cst c_MOST_WORD)), (.bi .all [(.lc (.cmp .isin (.var 1) (.cst c_RUNS)) (.var 1) (.var 0) [] [("sign", 1)])])])]⟩
/-- look_at_word(value): 0:value -/
def f_look_at_word : Fn := ⟨1, 1, [
  .ifs (.not (.call i_is_word [(.var 0)])) [
    .rais 1 [(.cst (.str [119, 111, 114, 100]))]] []]⟩
/-- rest_rows(one, two): 0:one 1:two 2:rows 3:_ 4:at 5:place 6:found -/
def f_rest_rows : Fn := ⟨2, 7, [
  .set 2 (.lc (.bin .mul (.lst [(.cst (.int (0)))]) (.bin .add (.bi .len [(.var 1)]) (.cst (.int (1))))) (.var 3) (.rng [(.bin .add (.bi .len [(.var 0)]) (.cst (.int (1))))]) [] [("_", 3)]),
  .for (.var 4) (.rng [(.bi .len [(.var 0)]), (.neg (.cst (.int (1)))), (.neg (.cst (.int (1))))]) [
    .for (.var 5) (.rng [(.bi .len [(.var 1)]), (.neg (.cst (.int (1)))), (.neg (.cst (.int (1))))]) [
      .set 6 (.ife (.or [(.cmp .lt (.var 4) (.bi .len [(.var 0)])), (.cmp .lt (.var 5) (.bi .len [(.var 1)]))]) (.lst []) (.lst [(.cst (.int (0)))])),
      .ifs (.cmp .lt (.var 4) (.bi .len [(.var 0)])) [
        .ex (.me .append (.var 6) [(.bin .add (.ix (.ix (.var 2) (.bin .add (.var 4) (.cst (.int (1))))) (.var 5)) (.cst (.int (1))))])] [],
      .ifs (.cmp .lt (.var 5) (.bi .len [(.var 1)])) [
        .ex (.me .append (.var 6) [(.bin .add (.ix (.ix (.var 2) (.var 4)) (.bin .add (.var 5) (.cst (.int (1))))) (.cst (.int (1))))])] [],
      .ifs (.and [(.cmp .lt (.var 4) (.bi .len [(.var 0)])), (.cmp .lt (.var 5) (.bi .len [(.var 1)]))]) [
        .ex (.me .append (.var 6) [(.bin .add (.ix (.ix (.var 2) (.bin .add (.var 4) (.cst (.int (1))))) (.bin .add (.var 5) (.cst (.int (1))))) (.bi .int [(.cmp .ne (.ix (.var 0) (.var 4)) (.ix (.var 1) (.var 5)))]))])] [],
      .setX (.ix (.var 2) (.var 4)) (.var 5) (.bi .min [(.var 6)])]],
  .ret (.var 2)]⟩
/-- far_table(one, two): 0:one 1:two 2:rows 3:many 4:other 5:place 6:at -/
def f_far_table : Fn := ⟨2, 7, [
  .ex (.call i_look_at_word [(.var 0)]),
  .ex (.call i_look_at_word [(.var 1)]),
  .set 2 (.call i_rest_rows [(.rev (.var 0)), (.rev (.var 1))]),
  .setT (.tup [.var 3, .var 4]) (.tup [(.bi .len [(.var 0)]), (.bi .len [(.var 1)])]),
  .ret (.bi .tuple [(.lc (.bi .tuple [(.lc (.ix (.ix (.var 2) (.bin .sub (.var 3) (.var 6))) (.bin .sub (.var 4) (.var 5))) (.var 5) (.rng [(.bin .add (.var 4) (.cst (.int (1))))]) [] [("place", 5)])]) (.var 6) (.rng [(.bin .add (.var 3) (.cst (.int (1))))]) [] [("at", 6)])])]⟩
/-- far_fault(one, two, far, value): 0:one 1:two 2:far 3:value 4:row 5:cell 6:at 7:place -/
def f_far_fault : Fn := ⟨4, 8, [
  .ex (.call i_look_at_word [(.var 0)]),
  .ex (.call i_look_at_word [(.var 1)]),
  .ifs (.or [(.not (.isi (.var 3) .tuple)), (.cmp .ne (.bi .len [(.var 3)]) (.bin .add (.bi .len [(.var 0)]) (.cst (.int (1)))))]) [
    .ret (.tup [(.cst (.str [102, 111, 114, 109]))])] [],
  .for (.var 4) (.var 3) [
    .ifs (.or [(.not (.isi (.var 4) .tuple)), (.cmp .ne (.bi .len [(.var 4)]) (.bin .add (.bi .len [(.var 1)]) (.cst (.int (1))))), (.not (.bi .all [(.lc (.call i_is_whole [(.var 5)]) (.var 5) (.var 4) [] [("cell", 5)])]))]) [
      .ret (.tup [(.cst (.str [102, 111, 114, 109]))])] []],
  .for (.tup [.var 6, .var 4]) (.enum (.var 3)) [
    .for (.tup [.var 7, .var 5]) (.enum (.var 4)) [
      .ifs (.cmp .gt (.var 5) (.call i_most_told [(.var 0), (.var 1), (.var 3), (.var 6), (.var 7)])) [
        .ret (.tup [(.cst (.str [114, 111, 119])), (.var 6), (.var 7)])] []]],
  .ret (.ife (.cmp .ge (.ix (.ix (.var 3) (.neg (.cst (.int (1))))) (.neg (.cst (.int (1))))) (.var 2)) (.cst (.non)) (.tup [(.cst (.str [102, 97, 114]))]))]⟩
/-- most_told(one, two, value, at, place): 0:one 1:two 2:value 3:at 4:place 5:found -/
def f_most_told : Fn := ⟨5, 6, [
  .set 5 (.ife (.chain .eq .eq (.var 3) (.var 4) (.cst (.int (0)))) (.lst [(.cst (.int (0)))]) (.lst [])),
  .ifs (.cmp .gt (.var 3) (.cst (.int (0)))) [
    .ex (.me .append (.var 5) [(.bin .add (.ix (.ix (.var 2) (.bin .sub (.var 3) (.cst (.int (1))))) (.var 4)) (.cst (.int (1))))])] [],
  .ifs (.cmp .gt (.var 4) (.cst (.int (0)))) [
    .ex (.me .append (.var 5) [(.bin .add (.ix (.ix (.var 2) (.var 3)) (.bin .sub (.var 4) (.cst (.int (1))))) (.cst (.int (1))))])] [],
  .ifs (.and [(.cmp .gt (.var 3) (.cst (.int (0)))), (.cmp .gt (.var 4) (.cst (.int (0))))]) [
    .ex (.me .append (.var 5) [(.bin .add (.ix (.ix (.var 2) (.bin .sub (.var 3) (.cst (.int (1))))) (.bin .sub (.var 4) (.cst (.int (1))))) (.bi .int [(.cmp .ne (.ix (.var 0) (.bin .sub (.var 3) (.cst (.int (1))))) (.ix (.var 1) (.bin .sub (.var 4) (.cst (.int (1))))))]))])] [],
  .ret (.bi .min [(.var 5)])]⟩
/-- _law_draws(script): 0:script -/
def f__law_draws : Fn := ⟨1, 1, [
  .ret (.lst [(.bi .list [(.var 0)]), (.cst (.int (0))), (.cst (.int (0))), (.cst (.int (1)))])]⟩
/-- _law_draw(draws, limit): 0:draws 1:limit 2:cell 3:value -/
def f__law_draw : Fn := ⟨2, 4, [
  .ifs (.and [(.cmp .eq (.ix (.var 0) (.cst (.int (2)))) (.cst (.int (0)))), (.cmp .lt (.ix (.var 0) (.cst (.int (1)))) (.bi .len [(.ix (.var 0) (.cst (.int (0))))]))]) [
    .set 2 (.ix (.ix (.var 0) (.cst (.int (0)))) (.ix (.var 0) (.cst (.int (1))))),
    .setX (.var 0) (.cst (.int (1))) (.bin .add (.ix (.var 0) (.cst (.int (1)))) (.cst (.int (1)))),
    .ifs (.cmp .ge (.var 2) (.bin .pow (.cst (.int (10))) (.cst (.int (18))))) [
      .setX (.var 0) (.cst (.int (2))) (.var 2)] [],
    .setX (.var 0) (.cst (.int (3))) (.bin .mod (.bi .int [(.bin .add (.bin .add (.bin .mul (.ix (.var 0) (.cst (.int (3)))) (.cst (.int (48271)))) (.var 2)) (.cst (.int (13))))]) (.cst (.int (2147483647))))] [],
  .ifs (.cmp .gt (.ix (.var 0) (.cst (.int (2)))) (.cst (.int (0)))) [
    .set 3 (.bin .mod (.bi .int [(.ix (.var 0) (.cst (.int (2))))]) (.var 1)),
    .setX (.var 0) (.cst (.int (2))) (.bin .fdiv (.ix (.var 0) (.cst (.int (2)))) (.var 1)),
    .ret (.var 3)] [],
  .setX (.var 0) (.cst (.int (3))) (.bin .mod (.bi .int [(.bin .add (.bin .mul (.ix (.var 0) (.cst (.int (3)))) (.cst (.int (69621)))) (.cst (.int (7))))]) (.cst (.int (2147483629)))),
  .ret (.bin .mod (.bi .int [(.bin .fdiv (.ix (.var 0) (.cst (.int (3)))) (.cst (.int (11))))]) (.var 1))]⟩
/-- _law_pick(draws, row): 0:draws 1:row -/
def f__law_pick : Fn := ⟨2, 2, [
  .ret (.ix (.var 1) (.call i__law_draw [(.var 0), (.bi .len [(.var 1)])]))]⟩
/-- _law_same(actual, expected): 0:actual 1:expected 2:k -/
def f__law_same : Fn := ⟨2, 3, [
  .ifs (.or [(.isi (.var 1) .tuple), (.isi (.var 1) .list)]) [
    .ifs (.or [(.cmp .ne (.isi (.var 0) .tuple) (.isi (.var 1) .tuple)), (.cmp .ne (.isi (.var 0) .list) (.isi (.var 1) .list))]) [
      .ret (.cst (.bl false))] [],
    .ifs (.cmp .ne (.bi .len [(.var 0)]) (.bi .len [(.var 1)])) [
      .ret (.cst (.bl false))] [],
    .ret (.cmp .eq (.bi .len [(.lc (.var 2) (.var 2) (.rng [(.bi .len [(.var 1)])]) [(.not (.call i__law_same [(.ix (.var 0) (.var 2)), (.ix (.var 1) (.var 2))]))] [("k", 2)])]) (.cst (.int (0))))] [],
  .ifs (.or [(.isi (.var 1) .bool), (.isi (.var 0) .bool)]) [
    .ret (.and [(.isi (.var 1) .bool), (.isi (.var 0) .bool), (.cmp .eq (.var 0) (.var 1))])] [],
  .ifs (.or [(.cmp .is (.var 1) (.cst (.non))), (.cmp .is (.var 0) (.cst (.non)))]) [
    .ret (.and [(.cmp .is (.var 1) (.cst (.non))), (.cmp .is (.var 0) (.cst (.non)))])] [],
  .ifs (.or [(.isi (.var 1) .str), (.isi (.var 0) .str)]) [
    .ret (.and [(.isi (.var 1) .str), (.isi (.var 0) .str), (.cmp .eq (.var 0) (.var 1))])] [],
  .ret (.and [(.isi (.var 0) .int), (.isi (.var 1) .int), (.cmp .eq (.var 0) (.var 1))])]⟩
/-- _law_far(one, two): 0:one 1:two 2:column 3:k 4:sign 5:above -/
def f__law_far : Fn := ⟨2, 6, [
  .set 2 (.lc (.var 3) (.var 3) (.rng [(.bin .add (.bi .len [(.var 0)]) (.cst (.int (1))))]) [] [("k", 3)]),
  .for (.var 4) (.var 1) [
    .set 5 (.lst [(.bin .add (.ix (.var 2) (.cst (.int (0)))) (.cst (.int (1))))]),
    .for (.var 3) (.rng [(.bi .len [(.var 0)])]) [
      .ex (.me .append (.var 5) [(.bi .min [(.bi .int [(.bin .add (.ix (.var 5) (.var 3)) (.cst (.int (1))))]), (.bi .int [(.bin .add (.ix (.var 2) (.bin .add (.var 3) (.cst (.int (1))))) (.cst (.int (1))))]), (.bi .int [(.bin .add (.ix (.var 2) (.var 3)) (.ife (.cmp .eq (.ix (.var 0) (.var 3)) (.var 4)) (.cst (.int (0))) (.cst (.int (1)))))])])])],
    .set 2 (.var 5)],
  .ret (.ix (.var 2) (.neg (.cst (.int (1)))))]⟩
/-- _law_whole(value): 0:value -/
def f__law_whole : Fn := ⟨1, 1, [
  .ret (.and [(.isi (.var 0) .int), (.not (.isi (.var 0) .bool))])]⟩
/-- _law_fault(one, two, far, value): 0:one 1:two 2:far 3:value 4:row 5:cell 6:at 7:to 8:most -/
def f__law_fault : Fn := ⟨4, 9, [
  .ifs (.or [(.not (.isi (.var 3) .tuple)), (.cmp .ne (.bi .len [(.var 3)]) (.bin .add (.bi .len [(.var 0)]) (.cst (.int (1)))))]) [
    .ret (.tup [(.cst (.str [102, 111, 114, 109]))])] [],
  .for (.var 4) (.var 3) [
    .ifs (.or [(.not (.isi (.var 4) .tuple)), (.cmp .ne (.bi .len [(.var 4)]) (.bin .add (.bi .len [(.var 1)]) (.cst (.int (1))))), (.cmp .ne (.lc (.var 5) (.var 5) (.var 4) [(.not (.call i__law_whole [(.var 5)]))] [("cell", 5)]) (.lst []))]) [
      .ret (.tup [(.cst (.str [102, 111, 114, 109]))])] []],
  .for (.var 6) (.rng [(.bin .add (.bi .len [(.var 0)]) (.cst (.int (1))))]) [
    .for (.var 7) (.rng [(.bin .add (.bi .len [(.var 1)]) (.cst (.int (1))))]) [
      .set 8 (.ife (.and [(.cmp .eq (.var 6) (.cst (.int (0)))), (.cmp .eq (.var 7) (.cst (.int (0))))]) (.lst [(.cst (.int (0)))]) (.lst [])),
      .set 8 (.bin .add (.bin .add (.var 8) (.ife (.cmp .gt (.var 6) (.cst (.int (0)))) (.lst [(.bin .add (.ix (.ix (.var 3) (.bin .sub (.var 6) (.cst (.int (1))))) (.var 7)) (.cst (.int (1))))]) (.lst []))) (.ife (.cmp .gt (.var 7) (.cst (.int (0)))) (.lst [(.bin .add (.ix (.ix (.var 3) (.var 6)) (.bin .sub (.var 7) (.cst (.int (1))))) (.cst (.int (1))))]) (.lst []))),
      .ifs (.and [(.cmp .gt (.var 6) (.cst (.int (0)))), (.cmp .gt (.var 7) (.cst (.int (0))))]) [
        .ex (.me .append (.var 8) [(.bin .add (.ix (.ix (.var 3) (.bin .sub (.var 6) (.cst (.int (1))))) (.bin .sub (.var 7) (.cst (.int (1))))) (.ife (.cmp .eq (.ix (.var 0) (.bin .sub (.var 6) (.cst (.int (1))))) (.ix (.var 1) (.bin .sub (.var 7) (.cst (.int (1)))))) (.cst (.int (0))) (.cst (.int (1)))))])] [],
      .ifs (.cmp .gt (.ix (.ix (.var 3) (.var 6)) (.var 7)) (.bi .min [(.var 8)])) [
        .ret (.tup [(.cst (.str [114, 111, 119])), (.var 6), (.var 7)])] []]],
  .ret (.ife (.cmp .ge (.ix (.ix (.var 3) (.neg (.cst (.int (1))))) (.neg (.cst (.int (1))))) (.var 2)) (.cst (.non)) (.tup [(.cst (.str [102, 97, 114]))]))]⟩
/-- _law_drawn(draws): 0:draws 1:k -/
def f__law_drawn : Fn := ⟨1, 2, [
  .ret (.me .join (.cst (.str [])) [(.lc (.call i__law_pick [(.var 0), (.lst [(.cst (.str [97])), (.cst (.str [98])), (.cst (.str [99])), (.cst (.str [97])), (.cst (.str [90])), (.cst (.str [48]))])]) (.var 1) (.rng [(.bin .add (.cst (.int (1))) (.call i__law_draw [(.var 0), (.cst (.int (7)))]))]) [] [("k", 1)])])]⟩
/-- law(script): 0:script 1:draws 2:turn 3:one 4:two 5:due 6:to 7:at 8:far 9:k 10:cell 11:row 12:value 13:least 14:told 15:low -/
def f_law : Fn := ⟨1, 16, [
  .set 1 (.call i__law_draws [(.var 0)]),
  .for (.var 2) (.rng [(.cst (.int (10)))]) [
    .setT (.tup [.var 3, .var 4]) (.tup [(.call i__law_drawn [(.var 1)]), (.call i__law_drawn [(.var 1)])]),
    .set 5 (.bi .tuple [(.lc (.bi .tuple [(.lc (.call i__law_far [(.sl (.var 3) .nop (.var 7)), (.sl (.var 4) .nop (.var 6))]) (.var 6) (.rng [(.bin .add (.bi .len [(.var 4)]) (.cst (.int (1))))]) [] [("to", 6)])]) (.var 7) (.rng [(.bin .add (.bi .len [(.var 3)]) (.cst (.int (1))))]) [] [("at", 7)])]),
    .set 8 (.call i__law_far [(.var 3), (.var 4)]),
    .ifs (.or [(.not (.call i__law_same [(.call i_far_table [(.var 3), (.var 4)]), (.var 5)])), (.cmp .isnot (.call i_far_fault [(.var 3), (.var 4), (.var 8), (.var 5)]) (.cst (.non))), (.not (.call i__law_same [(.call i_far_fault [(.var 3), (.var 4), (.bin .add (.var 8) (.cst (.int (1)))), (.var 5)]), (.tup [(.cst (.str [102, 97, 114]))])]))]) [
      .ret (.cst (.bl false))] [],
    .for (.var 9) (.rng [(.cst (.int (12)))]) [
      .setT (.tup [.var 7, .var 6]) (.tup [(.call i__law_draw [(.var 1), (.bin .add (.bi .len [(.var 3)]) (.cst (.int (1))))]), (.call i__law_draw [(.var 1), (.bin .add (.bi .len [(.var 4)]) (.cst (.int (1))))])]),
      .set 10 (.call i__law_pick [(.var 1), (.lst [(.bin .sub (.ix (.ix (.var 5) (.var 7)) (.var 6)) (.cst (.int (1)))), (.bin .sub (.ix (.ix (.var 5) (.var 7)) (.var 6)) (.cst (.int (1)))), (.bin .add (.ix (.ix (.var 5) (.var 7)) (.var 6)) (.cst (.int (1)))), (.cst (.int (0))), (.cst (.non)), (.cst (.bl true)), (.bin .sub (.ix (.ix (.var 5) (.var 7)) (.var 6)) (.cst (.int (5))))])]),
      .set 11 (.bin .add (.bin .add (.sl (.ix (.var 5) (.var 7)) .nop (.var 6)) (.tup [(.var 10)])) (.sl (.ix (.var 5) (.var 7)) (.bin .add (.var 6) (.cst (.int (1)))) .nop)),
      .set 12 (.call i__law_pick [(.var 1), (.lst [(.bin .add (.bin .add (.sl (.var 5) .nop (.var 7)) (.tup [(.var 11)])) (.sl (.var 5) (.bin .add (.var 7) (.cst (.int (1)))) .nop)), (.bin .add (.bin .add (.sl (.var 5) .nop (.var 7)) (.tup [(.var 11)])) (.sl (.var 5) (.bin .add (.var 7) (.cst (.int (1)))) .nop)), (.sl (.var 5) .nop (.var 7)), (.bin .add (.bin .add (.sl (.var 5) .nop (.var 7)) (.tup [(.sl (.ix (.var 5) (.var 7)) (.cst (.int (1))) .nop)])) (.sl (.var 5) (.bin .add (.var 7) (.cst (.int (1)))) .nop)), (.bi .list [(.var 5)]), (.cst (.non))])]),
      .set 13 (.call i__law_draw [(.var 1), (.cst (.int (9)))]),
      .set 14 (.call i_far_fault [(.var 3), (.var 4), (.var 13), (.var 12)]),
      .ifs (.or [(.not (.call i__law_same [(.var 14), (.call i__law_fault [(.var 3), (.var 4), (.var 13), (.var 12)])])), (.and [(.cmp .is (.var 14) (.cst (.non))), (.cmp .gt (.var 13) (.var 8))])]) [
        .ret (.cst (.bl false))] []],
    .set 15 (.bi .tuple [(.lc (.bi .tuple [(.lc (.bin .sub (.var 10) (.cst (.int (2)))) (.var 10) (.var 11) [] [("cell", 10)])]) (.var 11) (.var 5) [] [("row", 11)])]),
    .ifs (.not (.call i__law_same [(.call i_far_fault [(.var 3), (.var 4), (.bin .sub (.var 8) (.cst (.int (2)))), (.var 15)]), (.cst (.non))])) [
      .ret (.cst (.bl false))] []],
  .ret (.cst (.bl true))]⟩
def xcs : List XCls := [⟨[], [0]⟩, ⟨["why"], [1, 0]⟩]
def fns : List Fn := [f_is_whole, f_is_word, f_look_at_word, f_rest_rows, f_far_table, f_far_fault, f_most_told, f__law_draws, f__law_draw, f__law_pick, f__law_same, f__law_far, f__law_whole, f__law_fault, f__law_drawn, f_law]
def kts : List D := []
end KL

set_option Elab.async false
set_option linter.all false
set_option maxRecDepth 100000
set_option maxHeartbeats 4000000
namespace KL
open PySem PySem.Spec PyProof.Rows L2
def topS (i : Nat) : Stmt := PySem.Challenge.pw_seekwright_k59_whole_tables_of_how_far.main.body.getD i (.Pass ⟨0, 0, 0, 0⟩)
abbrev s_is_whole : Stmt := topS 9
def d_is_whole : DS.Df := ⟨"is_whole", s_is_whole, ["value"], f_is_whole⟩
abbrev s_is_word : Stmt := topS 10
def d_is_word : DS.Df := ⟨"is_word", s_is_word, ["value", "sign"], f_is_word⟩
abbrev s_look_at_word : Stmt := topS 12
def d_look_at_word : DS.Df := ⟨"look_at_word", s_look_at_word, ["value"], f_look_at_word⟩
abbrev s_rest_rows : Stmt := topS 13
def d_rest_rows : DS.Df := ⟨"rest_rows", s_rest_rows, ["one", "two", "rows", "_", "at", "place", "found"], f_rest_rows⟩
abbrev s_far_table : Stmt := topS 14
def d_far_table : DS.Df := ⟨"far_table", s_far_table, ["one", "two", "rows", "many", "other", "place", "at"], f_far_table⟩
abbrev s_far_fault : Stmt := topS 15
def d_far_fault : DS.Df := ⟨"far_fault", s_far_fault, ["one", "two", "far", "value", "row", "cell", "at", "place"], f_far_fault⟩
abbrev s_most_told : Stmt := topS 16
def d_most_told : DS.Df := ⟨"most_told", s_most_told, ["one", "two", "value", "at", "place", "found"], f_most_told⟩
abbrev s__law_draws : Stmt := topS 18
def d__law_draws : DS.Df := ⟨"_law_draws", s__law_draws, ["script"], f__law_draws⟩
abbrev s__law_draw : Stmt := topS 19
def d__law_draw : DS.Df := ⟨"_law_draw", s__law_draw, ["draws", "limit", "cell", "value"], f__law_draw⟩
abbrev s__law_pick : Stmt := topS 20
def d__law_pick : DS.Df := ⟨"_law_pick", s__law_pick, ["draws", "row"], f__law_pick⟩
abbrev s__law_same : Stmt := topS 21
def d__law_same : DS.Df := ⟨"_law_same", s__law_same, ["actual", "expected", "k"], f__law_same⟩
abbrev s__law_far : Stmt := topS 22
def d__law_far : DS.Df := ⟨"_law_far", s__law_far, ["one", "two", "column", "k", "sign", "above"], f__law_far⟩
abbrev s__law_whole : Stmt := topS 23
def d__law_whole : DS.Df := ⟨"_law_whole", s__law_whole, ["value"], f__law_whole⟩
abbrev s__law_fault : Stmt := topS 24
def d__law_fault : DS.Df := ⟨"_law_fault", s__law_fault, ["one", "two", "far", "value", "row", "cell", "at", "to", "most"], f__law_fault⟩
abbrev s__law_drawn : Stmt := topS 25
def d__law_drawn : DS.Df := ⟨"_law_drawn", s__law_drawn, ["draws", "k"], f__law_drawn⟩
abbrev s_law : Stmt := topS 26
def d_law : DS.Df := ⟨"law", s_law, ["script", "draws", "turn", "one", "two", "due", "to", "at", "far", "k", "cell", "row", "value", "least", "told", "low"], f_law⟩
def pr : DS.Pr := ⟨[d_is_whole, d_is_word, d_look_at_word, d_rest_rows, d_far_table, d_far_fault, d_most_told, d__law_draws, d__law_draw, d__law_pick, d__law_same, d__law_far, d__law_whole, d__law_fault, d__law_drawn, d_law], [("SMALL", c_SMALL), ("GREAT", c_GREAT), ("DIGITS", c_DIGITS), ("RUNS", c_RUNS), ("MOST_WORD", c_MOST_WORD)], ["SeekError", "BadPlan"], xcs, kts⟩
theorem ck_is_whole : DS.okDf pr d_is_whole = true := by decide +kernel
theorem ck_is_word : DS.okDf pr d_is_word = true := by decide +kernel
theorem ck_look_at_word : DS.okDf pr d_look_at_word = true := by decide +kernel
theorem ck_rest_rows : DS.okDf pr d_rest_rows = true := by decide +kernel
theorem ck_far_table : DS.okDf pr d_far_table = true := by decide +kernel
theorem ck_far_fault : DS.okDf pr d_far_fault = true := by decide +kernel
theorem ck_most_told : DS.okDf pr d_most_told = true := by decide +kernel
theorem ck__law_draws : DS.okDf pr d__law_draws = true := by decide +kernel
theorem ck__law_draw : DS.okDf pr d__law_draw = true := by decide +kernel
theorem ck__law_pick : DS.okDf pr d__law_pick = true := by decide +kernel
theorem ck__law_same : DS.okDf pr d__law_same = true := by decide +kernel
theorem ck__law_far : DS.okDf pr d__law_far = true := by decide +kernel
theorem ck__law_whole : DS.okDf pr d__law_whole = true := by decide +kernel
theorem ck__law_fault : DS.okDf pr d__law_fault = true := by decide +kernel
theorem ck__law_drawn : DS.okDf pr d__law_drawn = true := by decide +kernel
theorem ck_law : DS.okDf pr d_law = true := by decide +kernel
theorem ck_all : ∀ d ∈ pr.fs, DS.okDf pr d = true := by
  intro d hd
  simp only [pr, List.mem_cons, List.not_mem_nil, or_false] at hd
  rcases hd with rfl | rfl | rfl | rfl | rfl | rfl | rfl | rfl | rfl | rfl | rfl | rfl | rfl | rfl | rfl | rfl
  · exact ck_is_whole
  · exact ck_is_word
  · exact ck_look_at_word
  · exact ck_rest_rows
  · exact ck_far_table
  · exact ck_far_fault
  · exact ck_most_told
  · exact ck__law_draws
  · exact ck__law_draw
  · exact ck__law_pick
  · exact ck__law_same
  · exact ck__law_far
  · exact ck__law_whole
  · exact ck__law_fault
  · exact ck__law_drawn
  · exact ck_law
theorem facts {K : PySem.W.Frag} {h : Heap} {mg : Str → Option Value} (X : K.In h) (GN : h.Ns mainGlobals mg)
    (h_is_whole : DS.FnK K "is_whole" s_is_whole)
    (h_is_word : DS.FnK K "is_word" s_is_word)
    (h_look_at_word : DS.FnK K "look_at_word" s_look_at_word)
    (h_rest_rows : DS.FnK K "rest_rows" s_rest_rows)
    (h_far_table : DS.FnK K "far_table" s_far_table)
    (h_far_fault : DS.FnK K "far_fault" s_far_fault)
    (h_most_told : DS.FnK K "most_told" s_most_told)
    (h__law_draws : DS.FnK K "_law_draws" s__law_draws)
    (h__law_draw : DS.FnK K "_law_draw" s__law_draw)
    (h__law_pick : DS.FnK K "_law_pick" s__law_pick)
    (h__law_same : DS.FnK K "_law_same" s__law_same)
    (h__law_far : DS.FnK K "_law_far" s__law_far)
    (h__law_whole : DS.FnK K "_law_whole" s__law_whole)
    (h__law_fault : DS.FnK K "_law_fault" s__law_fault)
    (h__law_drawn : DS.FnK K "_law_drawn" s__law_drawn)
    (h_law : DS.FnK K "law" s_law)
    (x_BadPlan : DS.ExcK K "BadPlan" "SeekError" "BadPlan.__init__" ["why"] (inClass (topS 2) 0))
    (c_SMALL : DS.CstK K kts "SMALL" c_SMALL)
    (c_GREAT : DS.CstK K kts "GREAT" c_GREAT)
    (c_DIGITS : DS.CstK K kts "DIGITS" c_DIGITS)
    (c_RUNS : DS.CstK K kts "RUNS" c_RUNS)
    (c_MOST_WORD : DS.CstK K kts "MOST_WORD" c_MOST_WORD)
    (b_len : PySem.W.nsIn K mainGlobals "len" = some none)
    (b_int : PySem.W.nsIn K mainGlobals "int" = some none)
    (b_min : PySem.W.nsIn K mainGlobals "min" = some none)
    (b_tuple : PySem.W.nsIn K mainGlobals "tuple" = some none)
    (b_list : PySem.W.nsIn K mainGlobals "list" = some none)
    (b_all : PySem.W.nsIn K mainGlobals "all" = some none)
    (b_any : PySem.W.nsIn K mainGlobals "any" = some none)
    (b_range : PySem.W.nsIn K mainGlobals "range" = some none)
    (b_enumerate : PySem.W.nsIn K mainGlobals "enumerate" = some none)
    (b_isinstance : PySem.W.nsIn K mainGlobals "isinstance" = some none)
    (b_str : PySem.W.nsIn K mainGlobals "str" = some none)
    (b_bool : PySem.W.nsIn K mainGlobals "bool" = some none)
    (b_dict : PySem.W.nsIn K mainGlobals "dict" = some none)
    (b_sorted : PySem.W.nsIn K mainGlobals "sorted" = some none)
    (b_sum : PySem.W.nsIn K mainGlobals "sum" = some none)
    (b_set : PySem.W.nsIn K mainGlobals "set" = some none)
    (b_abs : PySem.W.nsIn K mainGlobals "abs" = some none)
    (b_max : PySem.W.nsIn K mainGlobals "max" = some none)
    (b_zip : PySem.W.nsIn K mainGlobals "zip" = some none) :
    ∃ G : DS.Gl, G.K = K ∧ G.kt = kts ∧ ∀ (P : Program) (w : World) (base : Heap), DS.Facts G pr P w K mg base := by
  obtain ⟨C_BadPlan, S_BadPlan, I_BadPlan, D_BadPlan, a_BadPlan, e_BadPlan⟩ := x_BadPlan
  refine ⟨⟨K, fun _ => none, fun c => match c with | 1 => some C_BadPlan | _ => none, kts⟩, rfl, rfl, fun P w base => ⟨rfl, rfl, fun f d hf => ?_, fun x hx => ?_, fun x d hx => ?_, fun c x kx hx hk => ?_, fun c kx hk => ?_⟩⟩
  · match f, hf with
    | 0, hf =>
      cases hf
      obtain ⟨fa, fd, a, F⟩ := h_is_whole
      exact ⟨fa, fd, F, PySem.W.mg_of X GN a, F.binds (ps := ["value"]) fun _ _ _ _ _ _ us hl => match us, hl with | [_], _ => rfl⟩
    | 1, hf =>
      cases hf
      obtain ⟨fa, fd, a, F⟩ := h_is_word
      exact ⟨fa, fd, F, PySem.W.mg_of X GN a, F.binds (ps := ["value"]) fun _ _ _ _ _ _ us hl => match us, hl with | [_], _ => rfl⟩
    | 2, hf =>
      cases hf
      obtain ⟨fa, fd, a, F⟩ := h_look_at_word
      exact ⟨fa, fd, F, PySem.W.mg_of X GN a, F.binds (ps := ["value"]) fun _ _ _ _ _ _ us hl => match us, hl with | [_], _ => rfl⟩
    | 3, hf =>
      cases hf
      obtain ⟨fa, fd, a, F⟩ := h_rest_rows
      exact ⟨fa, fd, F, PySem.W.mg_of X GN a, F.binds (ps := ["one", "two"]) fun _ _ _ _ _ _ us hl => match us, hl with | [_, _], _ => rfl⟩
    | 4, hf =>
      cases hf
      obtain ⟨fa, fd, a, F⟩ := h_far_table
      exact ⟨fa, fd, F, PySem.W.mg_of X GN a, F.binds (ps := ["one", "two"]) fun _ _ _ _ _ _ us hl => match us, hl with | [_, _], _ => rfl⟩
    | 5, hf =>
      cases hf
      obtain ⟨fa, fd, a, F⟩ := h_far_fault
      exact ⟨fa, fd, F, PySem.W.mg_of X GN a, F.binds (ps := ["one", "two", "far", "value"]) fun _ _ _ _ _ _ us hl => match us, hl with | [_, _, _, _], _ => rfl⟩
    | 6, hf =>
      cases hf
      obtain ⟨fa, fd, a, F⟩ := h_most_told
      exact ⟨fa, fd, F, PySem.W.mg_of X GN a, F.binds (ps := ["one", "two", "value", "at", "place"]) fun _ _ _ _ _ _ us hl => match us, hl with | [_, _, _, _, _], _ => rfl⟩
    | 7, hf =>
      cases hf
      obtain ⟨fa, fd, a, F⟩ := h__law_draws
      exact ⟨fa, fd, F, PySem.W.mg_of X GN a, F.binds (ps := ["script"]) fun _ _ _ _ _ _ us hl => match us, hl with | [_], _ => rfl⟩
    | 8, hf =>
      cases hf
      obtain ⟨fa, fd, a, F⟩ := h__law_draw
      exact ⟨fa, fd, F, PySem.W.mg_of X GN a, F.binds (ps := ["draws", "limit"]) fun _ _ _ _ _ _ us hl => match us, hl with | [_, _], _ => rfl⟩
    | 9, hf =>
      cases hf
      obtain ⟨fa, fd, a, F⟩ := h__law_pick
      exact ⟨fa, fd, F, PySem.W.mg_of X GN a, F.binds (ps := ["draws", "row"]) fun _ _ _ _ _ _ us hl => match us, hl with | [_, _], _ => rfl⟩
    | 10, hf =>
      cases hf
      obtain ⟨fa, fd, a, F⟩ := h__law_same
      exact ⟨fa, fd, F, PySem.W.mg_of X GN a, F.binds (ps := ["actual", "expected"]) fun _ _ _ _ _ _ us hl => match us, hl with | [_, _], _ => rfl⟩
    | 11, hf =>
      cases hf
      obtain ⟨fa, fd, a, F⟩ := h__law_far
      exact ⟨fa, fd, F, PySem.W.mg_of X GN a, F.binds (ps := ["one", "two"]) fun _ _ _ _ _ _ us hl => match us, hl with | [_, _], _ => rfl⟩
    | 12, hf =>
      cases hf
      obtain ⟨fa, fd, a, F⟩ := h__law_whole
      exact ⟨fa, fd, F, PySem.W.mg_of X GN a, F.binds (ps := ["value"]) fun _ _ _ _ _ _ us hl => match us, hl with | [_], _ => rfl⟩
    | 13, hf =>
      cases hf
      obtain ⟨fa, fd, a, F⟩ := h__law_fault
      exact ⟨fa, fd, F, PySem.W.mg_of X GN a, F.binds (ps := ["one", "two", "far", "value"]) fun _ _ _ _ _ _ us hl => match us, hl with | [_, _, _, _], _ => rfl⟩
    | 14, hf =>
      cases hf
      obtain ⟨fa, fd, a, F⟩ := h__law_drawn
      exact ⟨fa, fd, F, PySem.W.mg_of X GN a, F.binds (ps := ["draws"]) fun _ _ _ _ _ _ us hl => match us, hl with | [_], _ => rfl⟩
    | 15, hf =>
      cases hf
      obtain ⟨fa, fd, a, F⟩ := h_law
      exact ⟨fa, fd, F, PySem.W.mg_of X GN a, F.binds (ps := ["script"]) fun _ _ _ _ _ _ us hl => match us, hl with | [_], _ => rfl⟩
    | n + 16, hf => cases hf
  · simp only [DS.bltNames, List.mem_cons, List.not_mem_nil, or_false] at hx
    rcases hx with rfl | rfl | rfl | rfl | rfl | rfl | rfl | rfl | rfl | rfl | rfl | rfl | rfl | rfl | rfl | rfl | rfl | rfl | rfl
    · exact PySem.W.mg_none_of X GN b_len
    · exact PySem.W.mg_none_of X GN b_int
    · exact PySem.W.mg_none_of X GN b_min
    · exact PySem.W.mg_none_of X GN b_tuple
    · exact PySem.W.mg_none_of X GN b_list
    · exact PySem.W.mg_none_of X GN b_all
    · exact PySem.W.mg_none_of X GN b_any
    · exact PySem.W.mg_none_of X GN b_range
    · exact PySem.W.mg_none_of X GN b_enumerate
    · exact PySem.W.mg_none_of X GN b_isinstance
    · exact PySem.W.mg_none_of X GN b_str
    · exact PySem.W.mg_none_of X GN b_bool
    · exact PySem.W.mg_none_of X GN b_dict
    · exact PySem.W.mg_none_of X GN b_sorted
    · exact PySem.W.mg_none_of X GN b_sum
    · exact PySem.W.mg_none_of X GN b_set
    · exact PySem.W.mg_none_of X GN b_abs
    · exact PySem.W.mg_none_of X GN b_max
    · exact PySem.W.mg_none_of X GN b_zip
  · have all : ∀ p ∈ pr.cst, DS.CstK K kts p.1 p.2 := by
      intro p hp
      simp only [pr, List.mem_cons, List.not_mem_nil, or_false] at hp
      rcases hp with rfl | rfl | rfl | rfl | rfl
      · exact c_SMALL
      · exact c_GREAT
      · exact c_DIGITS
      · exact c_RUNS
      · exact c_MOST_WORD
    obtain ⟨u, v, a, r, p⟩ := DS.look_all (Q := DS.CstK K kts) all x d hx
    exact ⟨u, v, PySem.W.mg_of X GN a, r, p _ rfl rfl⟩
  · match c, hx, hk with
    | 0, hx, hk => cases hk; exact .inl rfl
    | 1, hx, hk =>
      cases hx
      cases hk
      refine .inr ⟨⟨C_BadPlan, I_BadPlan, D_BadPlan, rfl, PySem.W.mg_of X GN a_BadPlan, e_BadPlan.ox, e_BadPlan.iC, e_BadPlan.tI, ?_, e_BadPlan.fn.binds (ps := ["self", "why"]) fun _ _ _ _ _ _ us hl => match us, hl with | [_, _], _ => rfl⟩, by decide, by decide⟩
      exact DS.init1 (k := 0) e_BadPlan.fn (DS.fsB_ok (by decide +kernel)) e_BadPlan.ox e_BadPlan.bx (e_BadPlan.no _ (by simp)) (by decide +kernel) (PySem.W.mg_of X GN e_BadPlan.aS) (by decide +kernel) (by decide +kernel) (by decide +kernel) (fun _ => ⟨_, rfl⟩) rfl
    | n + 2, hx, hk => cases hk
  · match c, hk with
    | 0, hk => cases hk; exact .inl rfl
    | 1, hk =>
      cases hk
      refine .inr ⟨C_BadPlan, rfl, ⟨"BadPlan", rfl, PySem.W.mg_of X GN a_BadPlan⟩, e_BadPlan.hc, fun n hn => e_BadPlan.no _ (List.mem_map_of_mem (f := Str.ofString) hn), fun j hj => ?_⟩
      have hj : j = 1 ∨ j = 0 := by simpa using hj
      rcases hj with rfl | rfl
      · exact ⟨"BadPlan", C_BadPlan, rfl, PySem.W.mg_of X GN a_BadPlan, by unfold PySem.W.kitOne; rw [if_pos (beq_self_eq_true _)]⟩
      · exact ⟨"SeekError", S_BadPlan, rfl, PySem.W.mg_of X GN e_BadPlan.aS, e_BadPlan.kS⟩
    | n + 2, hk => cases hk
theorem all_mk {P : Program} {w : World} {K : PySem.W.Frag} {h : Heap} {mg : Str → Option Value} {fa : Addr} (lv : Nat) (X : K.In h) (GN : h.Ns mainGlobals mg) (hfa : mg "law" = some (.ref fa))
    (h_is_whole : DS.FnK K "is_whole" s_is_whole)
    (h_is_word : DS.FnK K "is_word" s_is_word)
    (h_look_at_word : DS.FnK K "look_at_word" s_look_at_word)
    (h_rest_rows : DS.FnK K "rest_rows" s_rest_rows)
    (h_far_table : DS.FnK K "far_table" s_far_table)
    (h_far_fault : DS.FnK K "far_fault" s_far_fault)
    (h_most_told : DS.FnK K "most_told" s_most_told)
    (h__law_draws : DS.FnK K "_law_draws" s__law_draws)
    (h__law_draw : DS.FnK K "_law_draw" s__law_draw)
    (h__law_pick : DS.FnK K "_law_pick" s__law_pick)
    (h__law_same : DS.FnK K "_law_same" s__law_same)
    (h__law_far : DS.FnK K "_law_far" s__law_far)
    (h__law_whole : DS.FnK K "_law_whole" s__law_whole)
    (h__law_fault : DS.FnK K "_law_fault" s__law_fault)
    (h__law_drawn : DS.FnK K "_law_drawn" s__law_drawn)
    (h_law : DS.FnK K "law" s_law)
    (x_BadPlan : DS.ExcK K "BadPlan" "SeekError" "BadPlan.__init__" ["why"] (inClass (topS 2) 0))
    (c_SMALL : DS.CstK K kts "SMALL" c_SMALL)
    (c_GREAT : DS.CstK K kts "GREAT" c_GREAT)
    (c_DIGITS : DS.CstK K kts "DIGITS" c_DIGITS)
    (c_RUNS : DS.CstK K kts "RUNS" c_RUNS)
    (c_MOST_WORD : DS.CstK K kts "MOST_WORD" c_MOST_WORD)
    (b_len : PySem.W.nsIn K mainGlobals "len" = some none)
    (b_int : PySem.W.nsIn K mainGlobals "int" = some none)
    (b_min : PySem.W.nsIn K mainGlobals "min" = some none)
    (b_tuple : PySem.W.nsIn K mainGlobals "tuple" = some none)
    (b_list : PySem.W.nsIn K mainGlobals "list" = some none)
    (b_all : PySem.W.nsIn K mainGlobals "all" = some none)
    (b_any : PySem.W.nsIn K mainGlobals "any" = some none)
    (b_range : PySem.W.nsIn K mainGlobals "range" = some none)
    (b_enumerate : PySem.W.nsIn K mainGlobals "enumerate" = some none)
    (b_isinstance : PySem.W.nsIn K mainGlobals "isinstance" = some none)
    (b_str : PySem.W.nsIn K mainGlobals "str" = some none)
    (b_bool : PySem.W.nsIn K mainGlobals "bool" = some none)
    (b_dict : PySem.W.nsIn K mainGlobals "dict" = some none)
    (b_sorted : PySem.W.nsIn K mainGlobals "sorted" = some none)
    (b_sum : PySem.W.nsIn K mainGlobals "sum" = some none)
    (b_set : PySem.W.nsIn K mainGlobals "set" = some none)
    (b_abs : PySem.W.nsIn K mainGlobals "abs" = some none)
    (b_max : PySem.W.nsIn K mainGlobals "max" = some none)
    (b_zip : PySem.W.nsIn K mainGlobals "zip" = some none) :
    ∃ fd : FuncData, (∀ (s : Shared) (v : Value), BindsTo s fd ⟨[v], []⟩ [("script", v)]) ∧ ∀ base : Heap, K.In base → base.Ns mainGlobals mg → FnOk P w K mg base (L2.CX P w) (lv + 2) fa fd ["script"] (DS.spL K kts (pr.call lv 15)) := by
  obtain ⟨G, e1, e2, FF⟩ := facts X GN h_is_whole h_is_word h_look_at_word h_rest_rows h_far_table h_far_fault h_most_told h__law_draws h__law_draw h__law_pick h__law_same h__law_far h__law_whole h__law_fault h__law_drawn h_law x_BadPlan c_SMALL c_GREAT c_DIGITS c_RUNS c_MOST_WORD b_len b_int b_min b_tuple b_list b_all b_any b_range b_enumerate b_isinstance b_str b_bool b_dict b_sorted b_sum b_set b_abs b_max b_zip
  obtain ⟨f, fd, a, F⟩ := h_law
  obtain rfl : f = fa := by
    have := (PySem.W.mg_of X GN a).symm.trans hfa
    cases this
    rfl
  have ok := fun base => DS.all_ok (FF P w base) ck_all lv 15 d_law f fd rfl F
  refine ⟨fd, fun s v => ?_, fun base _ _ => (ok base).imp fun vs H Q E q => q G e1 e2⟩
  obtain ⟨oc, od, kV, doc, pm, an, cdv, ct, osl, rfl, _, _⟩ := F.ex
  exact .of_eq rfl
end KL

set_option linter.all false
set_option maxRecDepth 100000
set_option maxHeartbeats 1000000
/-! pure: running the evaluator by rewriting; draws -/
namespace DL

/-! ### rewriting -/
@[simp ↓] theorem Res.bind_match {α β : Type} {r : Res α} {f : α → Store → Res β} : r.bind f = match r with | .ok a st => f a st | .exc x st => .exc x st | .bad => .bad := by cases r <;> rfl
@[simp ↓] theorem SRes.of_match {α : Type} {ρ : Env} {r : Res α} {f : α → Store → SRes} : SRes.of ρ r f = match r with | .ok a st => f a st | .exc x st => .exc x ρ st | .bad => .bad := by cases r <;> rfl
@[simp ↓] theorem SRes.bind_match {r : SRes} {f : Env → Store → SRes} : r.bind f = match r with | .nx ρ st => f ρ st | r => r := by cases r <;> rfl
theorem bind_ok {α β : Type} {a : α} {st : Store} {f : α → Store → Res β} : (Res.ok a st).bind f = f a st := rfl
theorem bind_exc {α β : Type} {a : DX} {st : Store} {f : α → Store → Res β} : (Res.exc a st : Res α).bind f = .exc a st := rfl
theorem of_ok {α : Type} {a : α} {ρ : Env} {st : Store} {f : α → Store → SRes} : SRes.of ρ (Res.ok a st) f = f a st := rfl
theorem of_exc {α : Type} {a : DX} {ρ : Env} {st : Store} {f : α → Store → SRes} : SRes.of ρ (Res.exc a st : Res α) f = .exc a ρ st := rfl
theorem sb_nx {ρ : Env} {st : Store} {f : Env → Store → SRes} : (SRes.nx ρ st).bind f = f ρ st := rfl
theorem sb_ret {d : D} {st : Store} {f : Env → Store → SRes} : (SRes.ret d st).bind f = .ret d st := rfl
theorem sb_exc {x : DX} {ρ : Env} {st : Store} {f : Env → Store → SRes} : (SRes.exc x ρ st).bind f = .exc x ρ st := rfl
theorem sb_brk {ρ : Env} {st : Store} {f : Env → Store → SRes} : (SRes.brk ρ st).bind f = .brk ρ st := rfl
theorem sb_cnt {ρ : Env} {st : Store} {f : Env → Store → SRes} : (SRes.cnt ρ st).bind f = .cnt ρ st := rfl

theorem evSs_nx {C : Ctx} {s : S} {r : List S} {ρ ρ' : Env} {st st' : Store} (h : evS C s ρ st = .nx ρ' st') : evSs C (s :: r) ρ st = evSs C r ρ' st' := by rw [evSs, h]; rfl
theorem evSs_ret {C : Ctx} {s : S} {r : List S} {ρ : Env} {st st' : Store} {d : D} (h : evS C s ρ st = .ret d st') : evSs C (s :: r) ρ st = .ret d st' := by rw [evSs, h]; rfl
theorem evSs_nil {C : Ctx} {ρ : Env} {st : Store} : evSs C [] ρ st = .nx ρ st := by rw [evSs]

theorem settle_same {st st' : Store} {ds : List D} (h : st'.length = st.length) : settle st st' ds = st' := by
  unfold settle
  split
  · rw [← h, List.take_length]
  · rfl
/-- a call by what its body does -/
theorem call_of {XC : List XCls} {KT : List D} {T : List Fn} {k f : Nat} {fn : Fn} {args : List D} {st : Store} (hf : T[f]? = some fn) (ha : args.length = fn.np) :
    callF XC KT T (k + 1) f args st = match evSs ⟨XC, KT, callF XC KT T k⟩ fn.body (args.map some ++ List.replicate (fn.ns - fn.np) none) st with
        | .ret d st' => .ok d (settle st st' [d])
        | .nx _ st' => .ok .non (settle st st' [])
        | .exc x _ st' => .exc x (settle st st' (x.flds.map (·.2)))
        | _ => .bad := by
  rw [callF, hf]
  dsimp only
  rw [if_pos ha]
  try rfl
theorem call_ret {XC : List XCls} {KT : List D} {T : List Fn} {k f : Nat} {fn : Fn} {args : List D} {st st' : Store} {d : D} (hf : T[f]? = some fn) (ha : args.length = fn.np)
    (h : evSs ⟨XC, KT, callF XC KT T k⟩ fn.body (args.map some ++ List.replicate (fn.ns - fn.np) none) st = .ret d st') : callF XC KT T (k + 1) f args st = .ok d (settle st st' [d]) := by
  rw [call_of hf ha, h]

/-! ### the draws -/
def drawFn : Fn := ⟨2, 4, [
  .ifs (.and [(.cmp .eq (.ix (.var 0) (.cst (.int (2)))) (.cst (.int (0)))), (.cmp .lt (.ix (.var 0) (.cst (.int (1)))) (.bi .len [(.ix (.var 0) (.cst (.int (0))))]))]) [
    .set 2 (.ix (.ix (.var 0) (.cst (.int (0)))) (.ix (.var 0) (.cst (.int (1))))),
    .setX (.var 0) (.cst (.int (1))) (.bin .add (.ix (.var 0) (.cst (.int (1)))) (.cst (.int (1)))),
    .ifs (.cmp .ge (.var 2) (.bin .pow (.cst (.int (10))) (.cst (.int (18))))) [
      .setX (.var 0) (.cst (.int (2))) (.var 2)] [],
    .setX (.var 0) (.cst (.int (3))) (.bin .mod (.bi .int [(.bin .add (.bin .add (.bin .mul (.ix (.var 0) (.cst (.int (3)))) (.cst (.int (48271)))) (.var 2)) (.cst (.int (13))))]) (.cst (.int (2147483647))))] [],
  .ifs (.cmp .gt (.ix (.var 0) (.cst (.int (2)))) (.cst (.int (0)))) [
    .set 3 (.bin .mod (.bi .int [(.ix (.var 0) (.cst (.int (2))))]) (.var 1)),
    .setX (.var 0) (.cst (.int (2))) (.bin .fdiv (.ix (.var 0) (.cst (.int (2)))) (.var 1)),
    .ret (.var 3)] [],
  .setX (.var 0) (.cst (.int (3))) (.bin .mod (.bi .int [(.bin .add (.bin .mul (.ix (.var 0) (.cst (.int (3)))) (.cst (.int (69621)))) (.cst (.int (7))))]) (.cst (.int (2147483629)))),
  .ret (.bin .mod (.bi .int [(.bin .fdiv (.ix (.var 0) (.cst (.int (3)))) (.cst (.int (11))))]) (.var 1))]⟩

def dcell (l0 : Nat) (a b c : Int) : Cell := .lst [.ref l0, .int a, .int b, .int c]
theorem ix_cell {st : Store} {l : Nat} {xs : List D} {i : Int} {d : D} (h : st[l]? = some (.lst xs)) (h0 : 0 ≤ i) (hi : xs[i.toNat]? = some d) : ixD (.ref l) (.int i) st = some (d, st) := by
  unfold ixD
  dsimp only
  rw [h]
  dsimp only
  unfold atD
  rw [if_pos h0, hi]
theorem set_cell {KT : List D} {st : Store} {l : Nat} {xs : List D} {i : Int} {d : D} (h : st[l]? = some (.lst xs)) (h0 : 0 ≤ i) (hi : i < xs.length) : setXD KT (.ref l) (.int i) d st = some (st.set l (.lst (xs.set i.toNat d))) := by
  unfold setXD
  dsimp only
  rw [h]
  dsimp only
  rw [if_pos ⟨h0, hi⟩]
theorem set_get {st : Store} {l : Nat} {c c' : Cell} (h : st[l]? = some c) : (st.set l c')[l]? = some c' := by
  rw [List.getElem?_set_self (List.getElem?_eq_some_iff.mp h).1]
theorem set_get_ne {st : Store} {l j : Nat} {c' : Cell} (h : l ≠ j) : (st.set l c')[j]? = st[j]? := List.getElem?_set_ne h

theorem ix_set {st : Store} {l : Nat} {xs : List D} {i : Int} (hl : l < st.length) (h0 : 0 ≤ i) : ixD (.ref l) (.int i) (st.set l (.lst xs)) = match xs[i.toNat]? with | some d => some (d, st.set l (.lst xs)) | none => none := by
  unfold ixD
  dsimp only
  rw [List.getElem?_set_self hl]
  dsimp only
  unfold atD
  rw [if_pos h0]
  all_goals (cases xs[i.toNat]? <;> try rfl)
theorem setX_set {KT : List D} {st : Store} {l : Nat} {xs : List D} {i : Int} {d : D} (hl : l < st.length) : setXD KT (.ref l) (.int i) d (st.set l (.lst xs)) = if 0 ≤ i ∧ i < xs.length then some (st.set l (.lst (xs.set i.toNat d))) else none := by
  unfold setXD
  dsimp only
  rw [List.getElem?_set_self hl]
  dsimp only
  rw [List.set_set]
theorem draw2 {C : Ctx} {st : Store} {l l0 : Nat} {a b c n : Int} {x y : Option D} (h : st[l]? = some (dcell l0 a b c)) (hb : 0 < b) (h1 : 1 ≤ n) (h2 : n < 1073741824) :
    evSs C (drawFn.body.drop 1) [some (.ref l), some (.int n), x, y] st = .ret (.int (b % n)) (st.set l (dcell l0 a (b / n) c)) := by
  unfold drawFn dcell at *
  have e2 := ix_cell (i := 2) (d := .int b) h (by decide) rfl
  have s2 := set_cell (KT := C.kt) (i := 2) (d := .int (b / n)) h (by decide) (by simp)
  simp [evSs, evS, evT, evE, evEs, cmpD, ltD, truD, biD, intD, binD, modD, fdivD, e2, s2, hb, h1, h2, show (0:Int) < n by omega]

/-- only the draws' own cell may have changed -/
def Kp (st st' : Store) : Prop := st.length ≤ st'.length ∧ ∀ j, j ≠ 1 → j < st.length → st'[j]? = st[j]?
theorem Kp.refl (st : Store) : Kp st st := ⟨Nat.le_refl _, fun _ _ _ => rfl⟩
theorem Kp.trans {a b c : Store} (h : Kp a b) (g : Kp b c) : Kp a c := ⟨Nat.le_trans h.1 g.1, fun j h1 h2 => (g.2 j h1 (Nat.lt_of_lt_of_le h2 h.1)).trans (h.2 j h1 h2)⟩
theorem Kp.get {a b : Store} (h : Kp a b) {j : Nat} {c : Cell} (h1 : j ≠ 1) (e : a[j]? = some c) : b[j]? = some c := by rw [h.2 j h1 (List.getElem?_eq_some_iff.mp e).1, e]
theorem Kp.app {st : Store} {cs : List Cell} : Kp st (st ++ cs) := ⟨by simp, fun j _ h => List.getElem?_append_left h⟩
theorem Kp.set1 {st : Store} {c : Cell} : Kp st (st.set 1 c) := ⟨by simp, fun j h1 _ => List.getElem?_set_ne (Ne.symm h1)⟩
/-- a new cell is written -/
theorem Kp.setNew {a b : Store} {l : Nat} {c : Cell} (h : Kp a b) (hl : a.length ≤ l) : Kp a (b.set l c) := ⟨by simpa using h.1, fun j h1 h2 => by rw [List.getElem?_set_ne (by omega)]; exact h.2 j h1 h2⟩
structure Dr (ns : List Int) (st : Store) : Prop where
  at0 : st[0]? = some (.lst (ns.map .int))
  at1 : ∃ a b c, st[1]? = some (dcell 0 a b c) ∧ 0 ≤ a ∧ a ≤ ns.length ∧ 0 ≤ b ∧ 0 ≤ c
  le : ns.length ≤ 63
theorem Dr.two {ns : List Int} {st : Store} (h : Dr ns st) : 2 ≤ st.length := by
  obtain ⟨a, b, c, e, _⟩ := h.at1
  exact (List.getElem?_eq_some_iff.mp e).1
theorem Dr.app {ns : List Int} {st : Store} (h : Dr ns st) {cs : List Cell} : Dr ns (st ++ cs) := by
  have := h.two
  exact ⟨by rw [List.getElem?_append_left (by omega)]; exact h.at0, by rw [List.getElem?_append_left (by omega)]; exact h.at1, h.le⟩
theorem Dr.setNew {ns : List Int} {st : Store} (h : Dr ns st) {l : Nat} {c : Cell} (hl : 2 ≤ l) : Dr ns (st.set l c) := 
  ⟨by rw [List.getElem?_set_ne (by omega)]; exact h.at0, by rw [List.getElem?_set_ne (by omega)]; exact h.at1, h.le⟩
theorem emod_nn {a b : Int} (h : 0 < b) : 0 ≤ a % b := Int.emod_nonneg _ (by omega)
theorem draw1 {C : Ctx} {st : Store} {ns : List Int} {n : Int} (h : Dr ns st) : ∃ (a b c : Int) (y : Option D), evS C (.ifs (.and [(.cmp .eq (.ix (.var 0) (.cst (.int (2)))) (.cst (.int (0)))), (.cmp .lt (.ix (.var 0) (.cst (.int (1)))) (.bi .len [(.ix (.var 0) (.cst (.int (0))))]))]) [
    .set 2 (.ix (.ix (.var 0) (.cst (.int (0)))) (.ix (.var 0) (.cst (.int (1))))),
    .setX (.var 0) (.cst (.int (1))) (.bin .add (.ix (.var 0) (.cst (.int (1)))) (.cst (.int (1)))),
    .ifs (.cmp .ge (.var 2) (.bin .pow (.cst (.int (10))) (.cst (.int (18))))) [
      .setX (.var 0) (.cst (.int (2))) (.var 2)] [],
    .setX (.var 0) (.cst (.int (3))) (.bin .mod (.bi .int [(.bin .add (.bin .add (.bin .mul (.ix (.var 0) (.cst (.int (3)))) (.cst (.int (48271)))) (.var 2)) (.cst (.int (13))))]) (.cst (.int (2147483647))))] []) [some (.ref 1), some (.int n), none, none] st = .nx [some (.ref 1), some (.int n), y, none] (st.set 1 (dcell 0 a b c)) ∧ 0 ≤ a ∧ a ≤ ns.length ∧ 0 ≤ b ∧ 0 ≤ c := by
  obtain ⟨a, b, c, e1, ha, ha2, hb, hc⟩ := h.at1
  have hl1 : 1 < st.length := h.two
  have e1' : st[1]? = some (.lst [.ref 0, .int a, .int b, .int c]) := e1
  have i0 := ix_cell (i := 0) (d := .ref 0) e1' (by decide) rfl
  have i1 := ix_cell (i := 1) (d := .int a) e1' (by decide) rfl
  have i2 := ix_cell (i := 2) (d := .int b) e1' (by decide) rfl
  have i3 := ix_cell (i := 3) (d := .int c) e1' (by decide) rfl
  have s1 := fun v => set_cell (KT := C.kt) (i := 1) (d := v) e1' (by decide) (by simp)
  have lenE : lenD [.ref 0] st = some (.int ns.length, st) := by unfold lenD itemsD; simp [h.at0]
  have idem : st = st.set 1 (dcell 0 a b c) := by
    apply List.ext_getElem?
    intro j
    by_cases hj : 1 = j
    · subst hj; rw [set_get e1, e1]
    · rw [List.getElem?_set_ne hj]
  have eqb : eqD st (.int b) (.int 0) = some (b == 0) := by simp [eqD, rsv1, rsv, PD.eqv]
  by_cases hb0 : b = 0
  · by_cases hlt : a < ns.length
    · obtain ⟨x, hx⟩ : ∃ x, ns[a.toNat]? = some x := ⟨ns[a.toNat]'(by omega), List.getElem?_eq_getElem (by omega)⟩
      have i4 := ix_cell (i := a) (d := .int x) h.at0 ha (by rw [List.getElem?_map, hx]; rfl)
      have m1 : 0 ≤ (c * 48271 + x + 13) % 2147483647 := Int.emod_nonneg _ (by decide)
      by_cases hx18 : (1000000000000000000:Int) ≤ x
      · refine ⟨a + 1, x, (c * 48271 + x + 13) % 2147483647, some (.int x), ?_, by omega, by omega, by omega, m1⟩
        subst hb0
        simp [evSs, evS, evT, evE, evEs, evAnd, ltD, leD, truD, intD, addD, mulD, modD, powD, small64, i0, i1, i2, i3, i4, lenE, eqb, hlt, s1, ix_set hl1, setX_set hl1, dcell, hx18]
      · refine ⟨a + 1, 0, (c * 48271 + x + 13) % 2147483647, some (.int x), ?_, by omega, by omega, by omega, m1⟩
        subst hb0
        simp [evSs, evS, evT, evE, evEs, evAnd, ltD, leD, truD, intD, addD, mulD, modD, powD, small64, i0, i1, i2, i3, i4, lenE, eqb, hlt, s1, ix_set hl1, setX_set hl1, dcell, hx18]
    · refine ⟨a, b, c, none, ?_, ha, ha2, hb, hc⟩
      rw [← idem]
      subst hb0
      simp [evSs, evS, evT, evE, evEs, evAnd, ltD, truD, i0, i1, i2, lenE, eqb, hlt]
  · refine ⟨a, b, c, none, ?_, ha, ha2, hb, hc⟩
    rw [← idem]
    have : (b == 0) = false := by simp [hb0]
    simp [evSs, evS, evT, evE, evEs, evAnd, ltD, truD, i0, i1, i2, lenE, eqb, this]
theorem draw3 {C : Ctx} {st : Store} {a c n : Int} {x y : Option D} (h : st[1]? = some (dcell 0 a 0 c)) (h1 : 1 ≤ n) :
    evSs C (drawFn.body.drop 1) [some (.ref 1), some (.int n), x, y] st = .ret (.int (((c * 69621 + 7) % 2147483629) / 11 % n)) (st.set 1 (dcell 0 a 0 ((c * 69621 + 7) % 2147483629))) := by
  have hl1 : 1 < st.length := (List.getElem?_eq_some_iff.mp h).1
  unfold drawFn dcell at *
  have e2 := ix_cell (i := 2) (d := .int 0) h (by decide) rfl
  have e3 := ix_cell (i := 3) (d := .int c) h (by decide) rfl
  have s3 := fun v => set_cell (KT := C.kt) (i := 3) (d := v) h (by decide) (by simp)
  simp [evSs, evS, evT, evE, evEs, ltD, truD, intD, modD, fdivD, addD, mulD, small64, e2, e3, s3, ix_set hl1, h1, show (0:Int) < n by omega]
theorem draw_spec {XC : List XCls} {KT : List D} {T : List Fn} {k i : Nat} {st : Store} {ns : List Int} {n : Int} (hT : T[i]? = some drawFn) (h : Dr ns st) (h1 : 1 ≤ n) (h2 : n < 1073741824) :
    ∃ (v : Int) (st' : Store), callF XC KT T (k + 1) i [.ref 1, .int n] st = .ok (.int v) st' ∧ 0 ≤ v ∧ v < n ∧ Dr ns st' ∧ st'.length = st.length ∧ Kp st st' := by
  have hl1 : 1 < st.length := h.two
  obtain ⟨a, b, c, y, q, ha, ha2, hb, hc⟩ := draw1 (C := ⟨XC, KT, callF XC KT T k⟩) (n := n) h
  have e1 : st[1]? ≠ none := by rw [List.getElem?_eq_getElem hl1]; simp
  have e1' : (st.set 1 (dcell 0 a b c))[1]? = some (dcell 0 a b c) := List.getElem?_set_self hl1
  have fin : ∀ (b' c' v : Int), evSs ⟨XC, KT, callF XC KT T k⟩ (drawFn.body.drop 1) [some (.ref 1), some (.int n), y, none] (st.set 1 (dcell 0 a b c)) = .ret (.int v) ((st.set 1 (dcell 0 a b c)).set 1 (dcell 0 a b' c')) → 0 ≤ b' → 0 ≤ c' → 0 ≤ v → v < n →
      ∃ (v : Int) (st' : Store), callF XC KT T (k + 1) i [.ref 1, .int n] st = .ok (.int v) st' ∧ 0 ≤ v ∧ v < n ∧ Dr ns st' ∧ st'.length = st.length ∧ Kp st st' := by
    intro b' c' v q' q3 q4 q5 q6
    rw [List.set_set] at q'
    refine ⟨v, st.set 1 (dcell 0 a b' c'), ?_, q5, q6, ⟨?_, ⟨a, b', c', ?_, ha, ha2, q3, q4⟩, h.le⟩, by simp, Kp.set1⟩
    · rw [call_ret hT rfl ((evSs_nx q).trans q'), settle_same (by simp)]
    · rw [List.getElem?_set_ne (by decide)]; exact h.at0
    · exact List.getElem?_set_self hl1
  by_cases hb0 : 0 < b
  · exact fin (b / n) c (b % n) (draw2 e1' hb0 h1 h2) (Int.ediv_nonneg hb (by omega)) hc (Int.emod_nonneg _ (by omega)) (Int.emod_lt_of_pos _ (by omega))
  · obtain rfl : b = 0 := by omega
    exact fin 0 _ _ (draw3 e1' h1) (Int.le_refl _) (Int.emod_nonneg _ (by decide)) (Int.emod_nonneg _ (by omega)) (Int.emod_lt_of_pos _ (by omega))
end DL

set_option linter.all false
set_option maxRecDepth 100000
set_option maxHeartbeats 1000000
/-! pure: the law's own helpers -/
namespace DL

theorem settle_app {st : Store} {cs : List Cell} {ds : List D} (h : ∀ d ∈ ds, wfD st.length d = true) : settle st (st ++ cs) ds = st := by
  unfold settle
  rw [if_pos]
  · exact List.take_left
  · exact ⟨by simp, h, fun l c hl e => .inl (by rwa [List.getElem?_append_left hl] at e)⟩
/-- behind a call that may have drawn and gives plain data -/
theorem settle_kp {ns : List Int} {st st' : Store} {ds : List D} (h2 : 2 ≤ st.length) (k : Kp st st') (d : Dr ns st') (h : ∀ d ∈ ds, wfD st.length d = true) : Kp st (settle st st' ds) ∧ Dr ns (settle st st' ds) ∧ (settle st st' ds).length = st.length := by
  obtain ⟨a, b, c, e1, q⟩ := d.at1
  have : settle st st' ds = st'.take st.length := by
    unfold settle
    rw [if_pos]
    refine ⟨k.1, h, fun l cc hl e => ?_⟩
    by_cases h1 : l = 1
    · subst h1
      rw [e1] at e
      cases e
      right
      unfold wfC dcell
      simp [wfDs, wfD]
      omega
    · rw [k.2 l h1 hl] at e
      exact .inl e
  rw [this]
  have hlen : (st'.take st.length).length = st.length := by rw [List.length_take, Nat.min_eq_left k.1]
  refine ⟨⟨by omega, fun j h1 h3 => by rw [List.getElem?_take_of_lt h3]; exact k.2 j h1 h3⟩, ⟨?_, ⟨a, b, c, ?_, q⟩, d.le⟩, hlen⟩
  · rw [List.getElem?_take_of_lt (by omega)]; exact d.at0
  · rw [List.getElem?_take_of_lt (by omega)]; exact e1
theorem settle_ref {st st' : Store} {l : Nat} (h : st.length ≤ l) : settle st st' [.ref l] = st' := by
  unfold settle
  rw [if_neg]
  rintro ⟨_, z, _⟩
  have := z (.ref l) (by simp)
  simp [wfD] at this
  omega

/-! ### pick -/
def pickFn (d : Nat) : Fn := ⟨2, 2, [.ret (.ix (.var 1) (.call d [(.var 0), (.bi .len [(.var 1)])]))]⟩
theorem pick_spec {XC : List XCls} {KT : List D} {T : List Fn} {k i d : Nat} {st : Store} {ns : List Int} {r : Nat} {xs : List D} (hT : T[i]? = some (pickFn d)) (hd : T[d]? = some drawFn) (h : Dr ns st) (hr : st[r]? = some (.lst xs)) (hr1 : r ≠ 1) (hx : xs ≠ []) (hn : xs.length < 1073741824) (hw : ∀ x ∈ xs, wfD st.length x = true) :
    ∃ (x : D) (st' : Store), callF XC KT T (k + 2) i [.ref 1, .ref r] st = .ok x st' ∧ x ∈ xs ∧ Dr ns st' ∧ st'.length = st.length ∧ Kp st st' := by
  have hpos : 0 < xs.length := List.length_pos_iff.mpr hx
  obtain ⟨v, st1, q, v0, v1, d1, l1, k1⟩ := draw_spec (XC := XC) (KT := KT) (k := k) (n := xs.length) hd h (by omega) (by omega)
  have hlt : v.toNat < xs.length := by omega
  have e := ix_cell (d := xs[v.toNat]) (k1.get hr1 hr) v0 (List.getElem?_eq_getElem hlt)
  have lenE : lenD [.ref r] st = some (.int xs.length, st) := by unfold lenD itemsD; simp [hr]
  refine ⟨xs[v.toNat], st1, ?_, List.getElem_mem hlt, d1, l1, k1⟩
  rw [call_ret (fn := pickFn d) (st' := st1) (d := xs[v.toNat]) hT rfl, settle_same l1]
  simp [pickFn, evSs, evS, evE, evEs, lenE, q, e]

/-! ### the same -/
def sameFn (i : Nat) : Fn := ⟨2, 3, [
  .ifs (.or [(.isi (.var 1) .tuple), (.isi (.var 1) .list)]) [
    .ifs (.or [(.cmp .ne (.isi (.var 0) .tuple) (.isi (.var 1) .tuple)), (.cmp .ne (.isi (.var 0) .list) (.isi (.var 1) .list))]) [
      .ret (.cst (.bl false))] [],
    .ifs (.cmp .ne (.bi .len [(.var 0)]) (.bi .len [(.var 1)])) [
      .ret (.cst (.bl false))] [],
    .ret (.cmp .eq (.bi .len [(.lc (.var 2) (.var 2) (.rng [(.bi .len [(.var 1)])]) [(.not (.call i [(.ix (.var 0) (.var 2)), (.ix (.var 1) (.var 2))]))] [("k", 2)])]) (.cst (.int (0))))] [],
  .ifs (.or [(.isi (.var 1) .bool), (.isi (.var 0) .bool)]) [
    .ret (.and [(.isi (.var 1) .bool), (.isi (.var 0) .bool), (.cmp .eq (.var 0) (.var 1))])] [],
  .ifs (.or [(.cmp .is (.var 1) (.cst (.non))), (.cmp .is (.var 0) (.cst (.non)))]) [
    .ret (.and [(.cmp .is (.var 1) (.cst (.non))), (.cmp .is (.var 0) (.cst (.non)))])] [],
  .ifs (.or [(.isi (.var 1) .str), (.isi (.var 0) .str)]) [
    .ret (.and [(.isi (.var 1) .str), (.isi (.var 0) .str), (.cmp .eq (.var 0) (.var 1))])] [],
  .ret (.and [(.isi (.var 0) .int), (.isi (.var 1) .int), (.cmp .eq (.var 0) (.var 1))])]⟩
/-- plain data of some depth -/
def pdn : Nat → D → Bool
  | _, .non => true
  | _, .bl _ => true
  | _, .int _ => true
  | _, .str _ => true
  | 0, .tup _ => false
  | n + 1, .tup xs => decide (xs.length ≤ 1000000) && xs.all (pdn n)
  | _, _ => false
theorem lcL_none {step : D → Store → Res (Option D)} {st : Store} : ∀ {items : List D}, (∀ x ∈ items, step x st = .ok none st) → lcL step none items st = .ok [] st
  | [], _ => by unfold lcL; rw [if_pos (show GuardOk none st from trivial)]
  | x :: xs, h => by
    unfold lcL
    rw [if_pos (show GuardOk none st from trivial), h x (by simp)]
    dsimp only [Res.bind]
    rw [lcL_none fun y hy => h y (by simp [hy])]
    rfl
theorem mem_rangeL {lo : Int} {n : Nat} {x : D} : x ∈ rangeL lo n ↔ ∃ k : Nat, k < n ∧ x = .int (lo + k) := by
  unfold rangeL
  rw [List.mem_map]
  constructor
  · rintro ⟨k, hk, rfl⟩; exact ⟨k, by simpa using hk, rfl⟩
  · rintro ⟨k, hk, rfl⟩; exact ⟨k, by simpa using hk, rfl⟩
theorem rng1 {n : Nat} (h : small62 (n : Int) = true) : rngD [.int (n : Int)] = some (rangeL 0 n) := by
  show (if small62 (n : Int) = true then some (rangeL 0 (n : Int).toNat) else none) = _
  rw [if_pos h, Int.toNat_natCast]
theorem evI_rng {C : Ctx} {ρ : Env} {es : List E} {st : Store} : evI C ρ (.rng es) st = (evEs C ρ es st).bind fun xs st => ofO (rngD xs) st fun r => (r, none) := by rw [evI]
theorem tyb (a b : Ty) : (a == b) = decide (a = b) := by cases a <;> cases b <;> rfl
theorem same_spec {XC : List XCls} {KT : List D} {T : List Fn} {i : Nat} {st : Store} (hT : T[i]? = some (sameFn i)) : ∀ (n : Nat) (d : D) (k : Nat), pdn n d = true → callF XC KT T (k + n + 1) i [d, d] st = .ok (.bl true) st := by
  intro n
  induction n with
  | zero =>
    intro d k h
    rw [call_ret (fn := sameFn i) (st' := st) (d := .bl true) hT rfl, settle_same rfl]
    cases d <;> first | (cases h; done) | skip
    all_goals simp [sameFn, evSs, evS, evT, evE, evEs, evAnd, evOr, isiD, truD, eqD, rsv1, rsv, PD.eqv, isNon, tyb]
  | succ n ih =>
    intro d k h
    cases d <;> first | (cases h; done) | skip
    case tup xs =>
      simp only [pdn, Bool.and_eq_true, decide_eq_true_eq, List.all_eq_true] at h
      obtain ⟨hl, h⟩ := h
      have hix : ∀ j : Nat, j < xs.length → ixD (.tup xs) (.int (j : Int)) st = some ((xs[j]?.getD .non), st) := by
        intro j hj
        unfold ixD
        dsimp only
        unfold atD
        rw [if_pos (by omega), Int.toNat_natCast, List.getElem?_eq_getElem hj]
        rfl
      have hcall : ∀ j : Nat, j < xs.length → callF XC KT T (k + (n + 1)) i [(xs[j]?.getD .non), (xs[j]?.getD .non)] st = .ok (.bl true) st := by
        intro j hj
        refine ih _ k ?_
        rw [List.getElem?_eq_getElem hj]
        exact h _ (List.getElem_mem hj)
      have h62 : small62 (xs.length : Int) = true := by simp [small62]; omega
      rw [call_ret (fn := sameFn i) (st' := st ++ [.lst []]) (d := .bl true) hT rfl, settle_app (by intro d hd; rw [List.mem_singleton] at hd; subst hd; rw [wfD] <;> simp)]
      have hlc : ∀ ρ : Env, ρ[0]? = some (some (.tup xs)) → ρ[1]? = some (some (.tup xs)) → 2 < ρ.length → evE ⟨XC, KT, callF XC KT T (k + (n + 1))⟩ ρ (.lc (.var 2) (.var 2) (.rng [(.bi .len [(.var 1)])]) [(.not (.call i [(.ix (.var 0) (.var 2)), (.ix (.var 1) (.var 2))]))] [("k", 2)]) st = .ok (.ref st.length) (st ++ [.lst []]) := by
        intro ρ e0 e1 e2
        rw [evE]
        have src : evI ⟨XC, KT, callF XC KT T (k + (n + 1))⟩ ρ (.rng [(.bi .len [(.var 1)])]) st = .ok (rangeL 0 xs.length, none) st := by
          have a1 : evEs ⟨XC, KT, callF XC KT T (k + (n + 1))⟩ ρ [.bi .len [.var 1]] st = .ok [.int xs.length] st := by simp [evEs, evE, e1, lenD, itemsD]
          rw [evI_rng, a1, bind_ok, rng1 h62]
          rfl
        rw [src, bind_ok]
        have hr : okS (rangeL 0 xs.length).length = true := by simp [okS, rangeL, hl]
        rw [if_pos hr, lcL_none]
        · rfl
        · intro x hx
          obtain ⟨j, hj, rfl⟩ := mem_rangeL.mp hx
          have w0 : (ρ.set 2 none)[0]? = some (some (.tup xs)) := by rw [List.getElem?_set_ne (by decide)]; exact e0
          have w1 : (ρ.set 2 none)[1]? = some (some (.tup xs)) := by rw [List.getElem?_set_ne (by decide)]; exact e1
          have z : ((0 : Int) + (j : Int)) = (j : Int) := by omega
          rw [z]
          simp [putT, wipeE, evIfs, evE, evEs, e0, e1, e2, hix j hj, hcall j hj, truD, List.getElem?_set]
      simp [sameFn, evSs, evS, evT, ↓hlc, evE, evEs, evAnd, evOr, isiD, truD, eqD, rsv1, rsv, PD.eqv, isNon, tyb, lenD, itemsD]
    all_goals
      rw [call_ret (fn := sameFn i) (st' := st) (d := .bl true) hT rfl, settle_same rfl]
      simp [sameFn, evSs, evS, evT, evE, evEs, evAnd, evOr, isiD, truD, eqD, rsv1, rsv, PD.eqv, isNon, tyb]
end DL

set_option linter.all false
set_option maxRecDepth 100000
set_option maxHeartbeats 1000000
/-! pure: loops -/
namespace DL

/-- a for: each turn goes on, or leaves with what is wanted -/
theorem forL_inv {body : D → Env → Store → SRes} {g : Guard} {items : List D} (I : Nat → Env → Store → Prop) (Post : SRes → Prop)
    (hg : ∀ i ρ st, I i ρ st → GuardOk g st) (hend : ∀ ρ st, I items.length ρ st → Post (.nx ρ st))
    (step : ∀ i x ρ st, items[i]? = some x → I i ρ st → (∃ ρ' st', (body x ρ st = .nx ρ' st' ∨ body x ρ st = .cnt ρ' st') ∧ I (i + 1) ρ' st') ∨ (∃ ρ' st', body x ρ st = .brk ρ' st' ∧ Post (.nx ρ' st')) ∨
      (∃ d st', body x ρ st = .ret d st' ∧ Post (.ret d st')) ∨ (∃ y ρ' st', body x ρ st = .exc y ρ' st' ∧ Post (.exc y ρ' st'))) :
    ∀ (ρ : Env) (st : Store), I 0 ρ st → Post (forL body g items ρ st) := by
  have main : ∀ (m i : Nat) (ρ : Env) (st : Store), items.length - i = m → i ≤ items.length → I i ρ st → Post (forL body g (items.drop i) ρ st) := by
    intro m
    induction m with
    | zero =>
      intro i ρ st hm hi h
      obtain rfl : i = items.length := by omega
      rw [List.drop_length]
      unfold forL
      rw [if_pos (hg _ _ _ h)]
      exact hend _ _ h
    | succ m ih =>
      intro i ρ st hm hi h
      have hlt : i < items.length := by omega
      rw [List.drop_eq_getElem_cons hlt]
      unfold forL
      rw [if_pos (hg _ _ _ h)]
      rcases step i _ ρ st (List.getElem?_eq_getElem hlt) h with ⟨ρ', st', e | e, h'⟩ | ⟨ρ', st', e, h'⟩ | ⟨d, st', e, h'⟩ | ⟨y, ρ', st', e, h'⟩
      · rw [e]; exact ih (i + 1) ρ' st' (by omega) hlt h'
      · rw [e]; exact ih (i + 1) ρ' st' (by omega) hlt h'
      · rw [e]; exact h'
      · rw [e]; exact h'
      · rw [e]; exact h'
  intro ρ st h
  have := main items.length 0 ρ st (by omega) (by omega) h
  simpa using this
/-- a for without an early end -/
theorem forL_nx {body : D → Env → Store → SRes} {g : Guard} {items : List D} (I : Nat → Env → Store → Prop) (hg : ∀ i ρ st, I i ρ st → GuardOk g st)
    (step : ∀ i x ρ st, items[i]? = some x → I i ρ st → ∃ ρ' st', body x ρ st = .nx ρ' st' ∧ I (i + 1) ρ' st') {ρ : Env} {st : Store} (h : I 0 ρ st) :
    ∃ ρ' st', forL body g items ρ st = .nx ρ' st' ∧ I items.length ρ' st' := by
  refine forL_inv I (fun r => ∃ ρ' st', r = .nx ρ' st' ∧ I items.length ρ' st') hg (fun ρ st h => ⟨ρ, st, rfl, h⟩) (fun i x ρ st hx h => .inl ?_) ρ st h
  obtain ⟨ρ', st', e, h'⟩ := step i x ρ st hx h
  exact ⟨ρ', st', .inl e, h'⟩
/-- a comprehension that changes nothing -/
theorem lcL_pure {step : D → Store → Res (Option D)} {st : Store} {f : D → Option D} : ∀ {items : List D}, (∀ x ∈ items, step x st = .ok (f x) st) → lcL step none items st = .ok (items.filterMap f) st
  | [], _ => by unfold lcL; rw [if_pos (show GuardOk none st from trivial)]; rfl
  | x :: xs, h => by
    unfold lcL
    rw [if_pos (show GuardOk none st from trivial), h x (by simp), bind_ok, lcL_pure fun y hy => h y (by simp [hy]), bind_ok, List.filterMap_cons]
    cases f x <;> rfl
/-- over a list -/
theorem lcL_pureG {step : D → Store → Res (Option D)} {st : Store} {f : D → Option D} {g : Guard} (hg : GuardOk g st) : ∀ {items : List D}, (∀ x ∈ items, step x st = .ok (f x) st) → lcL step g items st = .ok (items.filterMap f) st
  | [], _ => by unfold lcL; rw [if_pos hg]; rfl
  | x :: xs, h => by
    unfold lcL
    rw [if_pos hg, h x (by simp), bind_ok, lcL_pureG hg fun y hy => h y (by simp [hy]), bind_ok, List.filterMap_cons]
    cases f x <;> rfl
/-- with an invariant, every item kept -/
theorem lcL_inv {step : D → Store → Res (Option D)} {g : Guard} {items : List D} (I : Nat → List D → Store → Prop) (hg : ∀ i ys st, I i ys st → GuardOk g st)
    (hs : ∀ i x ys st, items[i]? = some x → I i ys st → ∃ y st', step x st = .ok (some y) st' ∧ I (i + 1) (ys ++ [y]) st') {st : Store} (h : I 0 [] st) :
    ∃ ys st', lcL step g items st = .ok ys st' ∧ I items.length ys st' := by
  have main : ∀ (m i : Nat) (ys : List D) (st : Store), items.length - i = m → i ≤ items.length → I i ys st → ∃ zs st', lcL step g (items.drop i) st = .ok zs st' ∧ I items.length (ys ++ zs) st' := by
    intro m
    induction m with
    | zero =>
      intro i ys st hm hi h
      obtain rfl : i = items.length := by omega
      rw [List.drop_length]
      unfold lcL
      rw [if_pos (hg _ _ _ h)]
      exact ⟨[], st, rfl, by simpa using h⟩
    | succ m ih =>
      intro i ys st hm hi h
      have hlt : i < items.length := by omega
      obtain ⟨y, st1, e, h1⟩ := hs i _ ys st (List.getElem?_eq_getElem hlt) h
      obtain ⟨zs, st2, e2, h2⟩ := ih (i + 1) (ys ++ [y]) st1 (by omega) hlt h1
      refine ⟨y :: zs, st2, ?_, by simpa using h2⟩
      rw [List.drop_eq_getElem_cons hlt]
      unfold lcL
      rw [if_pos (hg _ _ _ h), e, bind_ok, e2]
      rfl
  obtain ⟨zs, st', e, h'⟩ := main items.length 0 [] st (by omega) (by omega) h
  exact ⟨zs, st', by simpa using e, by simpa using h'⟩

/-! ### while -/
theorem whN_more {c : Env → Store → Res Bool} {body : Env → Store → SRes} : ∀ {n : Nat} {ρ : Env} {st : Store}, whN c body n ρ st ≠ .bad → ∀ m, n ≤ m → whN c body m ρ st = whN c body n ρ st
  | 0, ρ, st, h, m, _ => absurd rfl h
  | n + 1, ρ, st, h, m, hm => by
    obtain ⟨m, rfl⟩ : ∃ k, m = k + 1 := ⟨m - 1, by omega⟩
    unfold whN at h ⊢
    cases e : c ρ st with
    | bad => rfl
    | exc _ _ => rfl
    | ok b st1 =>
      rw [e] at h
      rw [of_ok] at h
      rw [of_ok, of_ok]
      cases b with
      | false => rfl
      | true =>
        rw [if_pos rfl] at h
        rw [if_pos rfl, if_pos rfl]
        cases eb : body ρ st1 with
        | nx ρ' st' => rw [eb] at h; exact whN_more h m (by omega)
        | cnt ρ' st' => rw [eb] at h; exact whN_more h m (by omega)
        | brk _ _ => rfl
        | ret _ _ => rfl
        | exc _ _ _ => rfl
        | bad => rfl
theorem whL_of {c : Env → Store → Res Bool} {body : Env → Store → SRes} {n : Nat} {ρ : Env} {st : Store} {r : SRes} (h : whN c body n ρ st = r) (hr : r ≠ .bad) : whL c body ρ st = r := by
  have hx : ∃ n, whN c body n ρ st ≠ .bad := ⟨n, by rw [h]; exact hr⟩
  unfold whL
  rw [dif_pos hx]
  have h1 := Classical.choose_spec hx
  have a1 := whN_more h1 (max n (Classical.choose hx)) (Nat.le_max_right _ _)
  have a2 := whN_more (show whN c body n ρ st ≠ .bad by rw [h]; exact hr) (max n (Classical.choose hx)) (Nat.le_max_left _ _)
  rw [← a1, a2, h]
/-- a while by its measure -/
theorem whL_inv {c : Env → Store → Res Bool} {body : Env → Store → SRes} (I : Nat → Env → Store → Prop) (Post : Env → Store → Prop)
    (step : ∀ m ρ st, I m ρ st → (∃ st', c ρ st = .ok false st' ∧ Post ρ st') ∨ (∃ st1, c ρ st = .ok true st1 ∧ ∃ ρ' st' m', (body ρ st1 = .nx ρ' st' ∨ body ρ st1 = .cnt ρ' st') ∧ m' < m ∧ I m' ρ' st')) :
    ∀ m ρ st, I m ρ st → ∃ ρ' st', whL c body ρ st = .nx ρ' st' ∧ Post ρ' st' := by
  have main : ∀ m ρ st, I m ρ st → ∃ n ρ' st', whN c body n ρ st = .nx ρ' st' ∧ Post ρ' st' := by
    intro m
    induction m using Nat.strongRecOn with
    | _ m ih =>
      intro ρ st h
      rcases step m ρ st h with ⟨st', e, p⟩ | ⟨st1, e, ρ', st', m', eb, hm, h'⟩
      · exact ⟨1, ρ, st', by unfold whN; rw [e, of_ok, if_neg (by decide)], p⟩
      · obtain ⟨n, ρ2, st2, e2, p⟩ := ih m' hm ρ' st' h'
        refine ⟨n + 1, ρ2, st2, ?_, p⟩
        unfold whN
        rw [e, of_ok, if_pos rfl]
        rcases eb with eb | eb <;> (rw [eb]; exact e2)
  intro m ρ st h
  obtain ⟨n, ρ', st', e, p⟩ := main m ρ st h
  exact ⟨ρ', st', whL_of e (by intro z; cases z), p⟩
end DL
namespace DL
/-- one turn of a comprehension -/
noncomputable def lcS (C : Ctx) (ρ : Env) (elt tg : E) (ifs : List E) (own : List (String × Nat)) : D → Store → Res (Option D) := fun x st => match putT tg x (wipeE ρ (own.map (·.2))) with
          | some ρ' => (evIfs C ρ' ifs st).bind fun b st => if b = true then (evE C ρ' elt st).bind fun y st => .ok (some y) st else .ok none st
          | none => .bad
theorem lc_ev {C : Ctx} {ρ : Env} {elt tg src : E} {ifs : List E} {own : List (String × Nat)} {st st1 st2 : Store} {items ys : List D} {g : Guard} (hs : evI C ρ src st = .ok (items, g) st1) (ho : items.length ≤ 1000000) (hl : lcL (lcS C ρ elt tg ifs own) g items st1 = .ok ys st2) :
    evE C ρ (.lc elt tg src ifs own) st = .ok (.ref st2.length) (st2 ++ [.lst ys]) := by
  rw [evE, hs, bind_ok, if_pos (show okS (items, g).1.length = true from decide_eq_true ho)]
  show (lcL (lcS C ρ elt tg ifs own) g items st1).nox.bind _ = _
  rw [hl]
  rfl
/-- sources -/
theorem src_tup {C : Ctx} {ρ : Env} {i : Nat} {st : Store} {xs : List D} (h : ρ[i]? = some (some (.tup xs))) : evI C ρ (.var i) st = .ok (xs, none) st := by
  have : evE C ρ (.var i) st = .ok (.tup xs) st := by rw [evE, h]
  rw [evI, this]
  · rfl
  all_goals (intros; rename_i z; cases z)
theorem src_str {C : Ctx} {ρ : Env} {i : Nat} {st : Store} {s : List Nat} (h : ρ[i]? = some (some (.str s))) : evI C ρ (.var i) st = .ok (s.map (fun c => .str [c]), none) st := by
  have : evE C ρ (.var i) st = .ok (.str s) st := by rw [evE, h]
  rw [evI, this]
  · rfl
  all_goals (intros; rename_i z; cases z)
theorem src_lst {C : Ctx} {ρ : Env} {i l : Nat} {st : Store} {xs : List D} (h : ρ[i]? = some (some (.ref l))) (hl : st[l]? = some (.lst xs)) : evI C ρ (.var i) st = .ok (xs, some (l, xs)) st := by
  have : evE C ρ (.var i) st = .ok (.ref l) st := by rw [evE, h]
  rw [evI, this]
  · rw [bind_ok]; dsimp only; rw [hl]
  all_goals (intros; rename_i z; cases z)
end DL
namespace DL
theorem s62 {n : Nat} (h : n ≤ 1000000) : small62 (n : Int) = true := by simp [small62]; omega
theorem s62m : small62 (-1) = true := by simp [small62]
theorem rngD_eq (i j : Int) : rngD [.int i, .int j, .int (-1)] = if small62 i = true ∧ small62 j = true then some (rangeD i (i - j).toNat) else none := by unfold rngD; rfl
theorem rngD3 {n : Nat} (h : n ≤ 1000000) : rngD [.int (n : Int), .int (-1), .int (-1)] = some (rangeD n (n + 1)) := by
  rw [rngD_eq, if_pos ⟨s62 h, s62m⟩]
  congr 2
end DL
namespace DL
def srcVal : E → Bool
  | .rng _ => false
  | .enum _ => false
  | _ => true
theorem evI_ne' {C : Ctx} {ρ : Env} {a : E} {st : Store} (h : srcVal a = true) : evI C ρ a st = (evE C ρ a st).bind fun x st => match x with
    | .tup xs => .ok (xs, none) st
    | .str s => .ok (s.map (fun c => .str [c]), none) st
    | .ref l => match st[l]? with | some (.lst xs) => .ok (xs, some (l, xs)) st | _ => .bad
    | _ => .bad := by
  cases a <;> first | (cases h; done) | (rw [evI] <;> first | rfl | (intros; rename_i z; cases z))
end DL

set_option linter.all false
set_option maxRecDepth 100000
set_option maxHeartbeats 1000000
/-! pure: dicts -/
namespace DL
mutual
theorem same_eq : ∀ {a b : D}, D.same a b = true → a = b := by
  intro a b h
  cases a <;> cases b <;> first | (simp [D.same] at h; done) | rfl | skip
  all_goals first | (simp [D.same] at h; subst h; rfl) | skip
  rename_i xs ys
  simp only [D.same] at h
  rw [sames_eq h]
theorem sames_eq : ∀ {a b : List D}, D.sames a b = true → a = b := by
  intro a b h
  cases a with
  | nil => cases b with | nil => rfl | cons _ _ => simp [D.sames] at h
  | cons x xs =>
    cases b with
    | nil => simp [D.sames] at h
    | cons y ys =>
      simp only [D.sames, Bool.and_eq_true] at h
      rw [same_eq h.1, sames_eq h.2]
end
mutual
theorem same_refl : ∀ a : D, D.same a a = true
  | .non => rfl
  | .bl _ => by simp [D.same]
  | .int _ => by simp [D.same]
  | .str _ => by simp [D.same]
  | .tup xs => by simp only [D.same]; exact sames_refl xs
  | .ref _ => by simp [D.same]
  | .fl _ => by simp [D.same]
  | .fn _ => by simp [D.same]
theorem sames_refl : ∀ a : List D, D.sames a a = true
  | [] => rfl
  | x :: xs => by simp only [D.sames, Bool.and_eq_true]; exact ⟨same_refl x, sames_refl xs⟩
end
theorem same_iff {a b : D} : D.same a b = true ↔ a = b := ⟨same_eq, fun h => by rw [h]; exact same_refl b⟩
theorem same_ff {a b : D} (h : a ≠ b) : D.same a b = false := by
  cases q : D.same a b with
  | false => rfl
  | true => exact absurd (same_eq q) h
theorem look_app {k k' v : D} : ∀ {kvs : List (D × D)}, (kvs.any fun p => D.same p.1 k') = false → lookD k (kvs ++ [(k', v)]) = if D.same k' k = true then some v else lookD k kvs
  | [], _ => by simp [lookD]
  | p :: r, h => by
    rw [List.any_cons, Bool.or_eq_false_iff] at h
    rw [List.cons_append, lookD, lookD, look_app h.2]
    by_cases e : D.same p.1 k = true
    · rw [if_pos e, if_pos e]
      have := same_eq e
      rw [if_neg]
      intro z
      rw [this, ← same_eq z, same_refl] at h
      cases h.1
    · rw [if_neg e, if_neg e]
theorem look_map {k k' v : D} : ∀ {kvs : List (D × D)}, (kvs.any fun p => D.same p.1 k') = true → lookD k (kvs.map fun p => if D.same p.1 k' = true then (p.1, v) else p) = if D.same k' k = true then some v else lookD k kvs := by
  intro kvs h
  by_cases hk : D.same k' k = true
  · obtain rfl := same_eq hk
    rw [if_pos hk]
    induction kvs with
    | nil => cases h
    | cons p r ih =>
      rw [List.map_cons]
      by_cases e : D.same p.1 k' = true
      · rw [if_pos e, lookD, if_pos e]
      · rw [if_neg e, lookD, if_neg e]
        rw [List.any_cons] at h
        rw [Bool.or_eq_true] at h
        exact ih (h.resolve_left e)
  · rw [if_neg hk]
    clear h
    induction kvs with
    | nil => rfl
    | cons p r ih =>
      rw [List.map_cons, lookD, lookD]
      by_cases e : D.same p.1 k' = true
      · rw [if_pos e]
        have : ¬ D.same p.1 k = true := fun z => hk (by rw [← same_eq e, same_eq z]; exact same_refl k)
        rw [if_neg this, if_neg this, ih]
      · rw [if_neg e, ih]
theorem look_put {k k' v : D} {kvs : List (D × D)} : lookD k (putD k' v kvs) = if D.same k' k = true then some v else lookD k kvs := by
  unfold putD
  split
  · rename_i h; exact look_map h
  · rename_i h; exact look_app (by simpa using h)
theorem put_len {k v : D} {kvs : List (D × D)} : (putD k v kvs).length ≤ kvs.length + 1 := by
  unfold putD
  split <;> simp
theorem dix {st : Store} {l : Nat} {kvs : List (D × D)} {k v : D} (h : st[l]? = some (.dic true kvs)) (hk : keyOkD true k = true) (e : lookD k kvs = some v) : ixD (.ref l) k st = some (v, st) := by
  unfold ixD
  dsimp only
  rw [h]
  dsimp only
  rw [if_pos hk, e]
end DL

set_option linter.all false
set_option maxRecDepth 100000
set_option maxHeartbeats 1000000
/-! values without labels: how they stand in the store -/
namespace DL
inductive V where
  | non | bl (b : Bool) | int (i : Int) | str (s : List Nat) | tup (xs : List V) | lst (xs : List V)
  | dic (tk : Bool) (ks vs : List V) | fl (ns : List Int) | drw
  deriving Inhabited
mutual
def V.imm : V → Bool
  | .tup xs => V.imms xs
  | .lst _ => false
  | .dic _ _ _ => false
  | _ => true
def V.imms : List V → Bool
  | [] => true
  | x :: xs => V.imm x && V.imms xs
end
mutual
def emb : V → D
  | .non => .non
  | .bl b => .bl b
  | .int i => .int i
  | .str s => .str s
  | .tup xs => .tup (embs xs)
  | .lst _ => .non
  | .dic _ _ _ => .non
  | .fl ns => .fl ns
  | .drw => .ref 1
def embs : List V → List D
  | [] => []
  | x :: xs => emb x :: embs xs
end
theorem embs_map : ∀ xs, embs xs = xs.map emb
  | [] => rfl
  | x :: xs => by rw [embs, embs_map xs]; rfl
theorem imms_all : ∀ xs, V.imms xs = xs.all V.imm
  | [] => rfl
  | x :: xs => by rw [V.imms, imms_all xs]; rfl
mutual
def V.same : V → V → Bool
  | .non, .non => true
  | .bl a, .bl b => a == b
  | .int a, .int b => a == b
  | .str a, .str b => a == b
  | .tup a, .tup b => V.sames a b
  | .fl a, .fl b => a == b
  | .drw, .drw => true
  | _, _ => false
def V.sames : List V → List V → Bool
  | [], [] => true
  | x :: xs, y :: ys => V.same x y && V.sames xs ys
  | _, _ => false
end
/-- keys of a dict: all are unlike -/
def V.nd : List V → Bool
  | [] => true
  | k :: ks => !(ks.any fun x => V.same x k) && V.nd ks
mutual
def Rep (st : Store) : V → D → List Nat → Prop
  | .tup xs, d, F => ∃ ds, d = .tup ds ∧ Reps st xs ds F
  | .lst xs, d, F => ∃ l ds F', d = .ref l ∧ st[l]? = some (.lst ds) ∧ Reps st xs ds F' ∧ F = l :: F'
  | .dic tk ks vs, d, F => ∃ l kvs F', d = .ref l ∧ st[l]? = some (.dic tk kvs) ∧ kvs.map (·.1) = embs ks ∧ (V.imms ks = true ∧ V.nd ks = true) ∧ Reps st vs (kvs.map (·.2)) F' ∧ F = l :: F'
  | .non, d, F => d = .non ∧ F = []
  | .bl b, d, F => d = .bl b ∧ F = []
  | .int i, d, F => d = .int i ∧ F = []
  | .str s, d, F => d = .str s ∧ F = []
  | .fl ns, d, F => d = .fl ns ∧ F = []
  | .drw, d, F => d = .ref 1 ∧ F = []
def Reps (st : Store) : List V → List D → List Nat → Prop
  | [], ds, F => ds = [] ∧ F = []
  | v :: vs, ds, F => ∃ d ds' F1 F2, ds = d :: ds' ∧ Rep st v d F1 ∧ Reps st vs ds' F2 ∧ F = F1 ++ F2
end
mutual
theorem Rep.imm {st : Store} : ∀ {v : V} {d : D} {F : List Nat}, v.imm = true → (Rep st v d F ↔ d = emb v ∧ F = [])
  | .non, d, F, _ => by simp only [Rep, emb]
  | .bl b, d, F, _ => by simp only [Rep, emb]
  | .int i, d, F, _ => by simp only [Rep, emb]
  | .str s, d, F, _ => by simp only [Rep, emb]
  | .fl s, d, F, _ => by simp only [Rep, emb]
  | .drw, d, F, _ => by simp only [Rep, emb]
  | .lst _, d, F, h => by simp [V.imm] at h
  | .dic _ _ _, d, F, h => by simp [V.imm] at h
  | .tup xs, d, F, h => by
    rw [V.imm] at h
    rw [Rep, emb]
    constructor
    · rintro ⟨ds, rfl, h2⟩
      obtain ⟨rfl, rfl⟩ := (Reps.imm h).mp h2
      exact ⟨rfl, rfl⟩
    · rintro ⟨rfl, rfl⟩
      exact ⟨_, rfl, (Reps.imm h).mpr ⟨rfl, rfl⟩⟩
theorem Reps.imm {st : Store} : ∀ {vs : List V} {ds : List D} {F : List Nat}, V.imms vs = true → (Reps st vs ds F ↔ ds = embs vs ∧ F = [])
  | [], ds, F, _ => by simp only [Reps, embs]
  | v :: vs, ds, F, h => by
    rw [V.imms, Bool.and_eq_true] at h
    rw [Reps, embs]
    constructor
    · rintro ⟨d, ds', F1, F2, rfl, h1, h2, rfl⟩
      obtain ⟨rfl, rfl⟩ := (Rep.imm h.1).mp h1
      obtain ⟨rfl, rfl⟩ := (Reps.imm h.2).mp h2
      exact ⟨rfl, rfl⟩
    · rintro ⟨rfl, rfl⟩
      exact ⟨_, _, [], [], rfl, (Rep.imm h.1).mpr ⟨rfl, rfl⟩, (Reps.imm h.2).mpr ⟨rfl, rfl⟩, rfl⟩
end
mutual
theorem Rep.frame {st st' : Store} : ∀ {v : V} {d : D} {F : List Nat}, Rep st v d F → (∀ l ∈ F, st'[l]? = st[l]?) → Rep st' v d F
  | .non, d, F, h, _ => h
  | .bl b, d, F, h, _ => h
  | .int i, d, F, h, _ => h
  | .str s, d, F, h, _ => h
  | .fl s, d, F, h, _ => h
  | .drw, d, F, h, _ => h
  | .tup xs, d, F, h, g => by
    rw [Rep] at h ⊢
    obtain ⟨ds, e, h⟩ := h
    exact ⟨ds, e, Reps.frame h g⟩
  | .lst xs, d, F, h, g => by
    rw [Rep] at h ⊢
    obtain ⟨l, ds, F', e, hl, h, rfl⟩ := h
    exact ⟨l, ds, F', e, by rw [g l (by simp), hl], Reps.frame h fun l hl => g l (by simp [hl]), rfl⟩
  | .dic tk ks vs, d, F, h, g => by
    rw [Rep] at h ⊢
    obtain ⟨l, kvs, F', e, hl, hk, hi, h, rfl⟩ := h
    exact ⟨l, kvs, F', e, by rw [g l (by simp), hl], hk, hi, Reps.frame h fun l hl => g l (by simp [hl]), rfl⟩
theorem Reps.frame {st st' : Store} : ∀ {vs : List V} {ds : List D} {F : List Nat}, Reps st vs ds F → (∀ l ∈ F, st'[l]? = st[l]?) → Reps st' vs ds F
  | [], ds, F, h, _ => h
  | v :: vs, ds, F, h, g => by
    rw [Reps] at h ⊢
    obtain ⟨d, ds', F1, F2, rfl, h1, h2, rfl⟩ := h
    exact ⟨d, ds', F1, F2, rfl, Rep.frame h1 fun l hl => g l (by simp [hl]), Reps.frame h2 fun l hl => g l (by simp [hl]), rfl⟩
end
mutual
theorem Rep.lt {st : Store} : ∀ {v : V} {d : D} {F : List Nat}, Rep st v d F → ∀ l ∈ F, l < st.length
  | .non, d, F, h => by rw [Rep] at h; simp [h.2]
  | .bl b, d, F, h => by rw [Rep] at h; simp [h.2]
  | .int i, d, F, h => by rw [Rep] at h; simp [h.2]
  | .str s, d, F, h => by rw [Rep] at h; simp [h.2]
  | .fl s, d, F, h => by rw [Rep] at h; simp [h.2]
  | .drw, d, F, h => by rw [Rep] at h; simp [h.2]
  | .tup xs, d, F, h => by
    rw [Rep] at h
    obtain ⟨ds, e, h⟩ := h
    exact Reps.lt h
  | .lst xs, d, F, h => by
    rw [Rep] at h
    obtain ⟨l, ds, F', e, hl, h, rfl⟩ := h
    intro j hj
    rcases List.mem_cons.mp hj with rfl | hj
    · exact (List.getElem?_eq_some_iff.mp hl).1
    · exact Reps.lt h j hj
  | .dic tk ks vs, d, F, h => by
    rw [Rep] at h
    obtain ⟨l, kvs, F', e, hl, hk, hi, h, rfl⟩ := h
    intro j hj
    rcases List.mem_cons.mp hj with rfl | hj
    · exact (List.getElem?_eq_some_iff.mp hl).1
    · exact Reps.lt h j hj
theorem Reps.lt {st : Store} : ∀ {vs : List V} {ds : List D} {F : List Nat}, Reps st vs ds F → ∀ l ∈ F, l < st.length
  | [], ds, F, h => by rw [Reps] at h; simp [h.2]
  | v :: vs, ds, F, h => by
    rw [Reps] at h
    obtain ⟨d, ds', F1, F2, rfl, h1, h2, rfl⟩ := h
    intro j hj
    rcases List.mem_append.mp hj with hj | hj
    · exact Rep.lt h1 j hj
    · exact Reps.lt h2 j hj
end
theorem Reps.len {st : Store} : ∀ {vs : List V} {ds : List D} {F : List Nat}, Reps st vs ds F → ds.length = vs.length
  | [], ds, F, h => by rw [Reps] at h; simp [h.1]
  | v :: vs, ds, F, h => by
    rw [Reps] at h
    obtain ⟨d, ds', F1, F2, rfl, h1, h2, rfl⟩ := h
    simp [Reps.len h2]
theorem Reps.get {st : Store} : ∀ {vs : List V} {ds : List D} {F : List Nat}, Reps st vs ds F → ∀ {i : Nat} {v : V}, vs[i]? = some v → ∃ d F', ds[i]? = some d ∧ Rep st v d F' ∧ ∀ l ∈ F', l ∈ F
  | [], ds, F, h, i, v, e => by simp at e
  | w :: vs, ds, F, h, i, v, e => by
    rw [Reps] at h
    obtain ⟨d, ds', F1, F2, rfl, h1, h2, rfl⟩ := h
    cases i with
    | zero => cases e; exact ⟨d, F1, rfl, h1, fun l hl => by simp [hl]⟩
    | succ i =>
      obtain ⟨d', F', e', r, s⟩ := Reps.get h2 (i := i) (by simpa using e)
      exact ⟨d', F', by simpa using e', r, fun l hl => by simp [s l hl]⟩
mutual
/-- data without labels below the length -/
theorem Rep.wf {st : Store} {n : Nat} (h2 : 2 ≤ n) : ∀ {v : V} {d : D} {F : List Nat}, Rep st v d F → (∀ l ∈ F, l < n) → wfD n d = true
  | .non, d, F, h, _ => by rw [Rep] at h; rw [h.1, wfD] <;> simp
  | .bl b, d, F, h, _ => by rw [Rep] at h; rw [h.1, wfD] <;> simp
  | .int i, d, F, h, _ => by rw [Rep] at h; rw [h.1, wfD] <;> simp
  | .str s, d, F, h, _ => by rw [Rep] at h; rw [h.1, wfD] <;> simp
  | .fl s, d, F, h, _ => by rw [Rep] at h; rw [h.1, wfD] <;> simp
  | .drw, d, F, h, _ => by rw [Rep] at h; rw [h.1, wfD]; simp; omega
  | .tup xs, d, F, h, g => by
    rw [Rep] at h
    obtain ⟨ds, rfl, h⟩ := h
    rw [wfD]
    exact Reps.wf h2 h g
  | .lst xs, d, F, h, g => by
    rw [Rep] at h
    obtain ⟨l, ds, F', rfl, hl, h, rfl⟩ := h
    rw [wfD]
    simpa using g l (by simp)
  | .dic tk ks vs, d, F, h, g => by
    rw [Rep] at h
    obtain ⟨l, kvs, F', rfl, hl, hk, hi, h, rfl⟩ := h
    rw [wfD]
    simpa using g l (by simp)
theorem Reps.wf {st : Store} {n : Nat} (h2 : 2 ≤ n) : ∀ {vs : List V} {ds : List D} {F : List Nat}, Reps st vs ds F → (∀ l ∈ F, l < n) → wfDs n ds = true
  | [], ds, F, h, _ => by rw [Reps] at h; rw [h.1, wfDs]
  | v :: vs, ds, F, h, g => by
    rw [Reps] at h
    obtain ⟨d, ds', F1, F2, rfl, h1, h3, rfl⟩ := h
    rw [wfDs, Rep.wf h2 h1 fun l hl => g l (by simp [hl]), Reps.wf h2 h3 fun l hl => g l (by simp [hl])]
    rfl
end
mutual
/-- new labels: not below the length -/
theorem Rep.nwf {st : Store} {n : Nat} : ∀ {v : V} {d : D} {F : List Nat}, Rep st v d F → F ≠ [] → (∀ l ∈ F, n ≤ l) → wfD n d = false
  | .non, d, F, h, g, _ => by rw [Rep] at h; exact absurd h.2 g
  | .bl b, d, F, h, g, _ => by rw [Rep] at h; exact absurd h.2 g
  | .int i, d, F, h, g, _ => by rw [Rep] at h; exact absurd h.2 g
  | .str s, d, F, h, g, _ => by rw [Rep] at h; exact absurd h.2 g
  | .fl s, d, F, h, g, _ => by rw [Rep] at h; exact absurd h.2 g
  | .drw, d, F, h, g, _ => by rw [Rep] at h; exact absurd h.2 g
  | .tup xs, d, F, h, g, hn => by
    rw [Rep] at h
    obtain ⟨ds, rfl, h⟩ := h
    rw [wfD]
    exact Reps.nwf h g hn
  | .lst xs, d, F, h, g, hn => by
    rw [Rep] at h
    obtain ⟨l, ds, F', rfl, hl, h, rfl⟩ := h
    rw [wfD]
    simpa using hn l (by simp)
  | .dic tk ks vs, d, F, h, g, hn => by
    rw [Rep] at h
    obtain ⟨l, kvs, F', rfl, hl, hk, hi, h, rfl⟩ := h
    rw [wfD]
    simpa using hn l (by simp)
theorem Reps.nwf {st : Store} {n : Nat} : ∀ {vs : List V} {ds : List D} {F : List Nat}, Reps st vs ds F → F ≠ [] → (∀ l ∈ F, n ≤ l) → wfDs n ds = false
  | [], ds, F, h, g, _ => by rw [Reps] at h; exact absurd h.2 g
  | v :: vs, ds, F, h, g, hn => by
    rw [Reps] at h
    obtain ⟨d, ds', F1, F2, rfl, h1, h3, rfl⟩ := h
    rw [wfDs]
    by_cases e : F1 = []
    · subst e
      rw [Reps.nwf h3 (by simpa using g) fun l hl => hn l (by simp [hl])]
      simp
    · rw [Rep.nwf h1 e fun l hl => hn l (by simp [hl])]
      rfl
end
theorem Reps.app {st : Store} : ∀ {vs ws : List V} {ds es : List D} {F G : List Nat}, Reps st vs ds F → Reps st ws es G → Reps st (vs ++ ws) (ds ++ es) (F ++ G)
  | [], ws, ds, es, F, G, h, g => by rw [Reps] at h; obtain ⟨rfl, rfl⟩ := h; exact g
  | v :: vs, ws, ds, es, F, G, h, g => by
    rw [Reps] at h
    obtain ⟨d, ds', F1, F2, rfl, h1, h3, rfl⟩ := h
    rw [List.cons_append, Reps]
    exact ⟨d, ds' ++ es, F1, F2 ++ G, rfl, h1, Reps.app h3 g, by simp⟩
theorem Reps.one {st : Store} {v : V} {d : D} {F : List Nat} (h : Rep st v d F) : Reps st [v] [d] F := by
  rw [Reps]; exact ⟨d, [], F, [], rfl, h, by rw [Reps]; exact ⟨rfl, rfl⟩, by simp⟩
end DL

set_option linter.all false
set_option maxRecDepth 100000
set_option maxHeartbeats 1000000
/-! the evaluator over values: no store -/
namespace DL
inductive Ow | own | fz | bo | lent
  deriving DecidableEq
abbrev VO := V × Ow
structure Sg where
  ns : List Int
  a : Int
  b : Int
  c : Int
structure VX where
  cls : Nat
  flds : List (String × V)
inductive VR (α : Type) where
  | ok (a : α) (σ : Sg)
  | exc (x : VX) (σ : Sg)
  | bad
@[simp] def VR.bind {α β : Type} (r : VR α) (f : α → Sg → VR β) : VR β :=
  match r with
  | .ok a σ => f a σ
  | .exc x σ => .exc x σ
  | .bad => .bad
@[simp] def VR.nox {α : Type} (r : VR α) : VR α :=
  match r with
  | .ok a σ => .ok a σ
  | _ => .bad
@[simp] def ofVo {α β : Type} (o : Option α) (σ : Sg) (f : α → β) : VR β :=
  match o with
  | some a => .ok (f a) σ
  | none => .bad
@[simp] def nw (o : Option V) (σ : Sg) : VR VO :=
  match o with
  | some v => .ok (v, .own) σ
  | none => .bad
abbrev VEnv := List (Option VO)

mutual
def unemb : D → Option V
  | .non => some .non
  | .bl b => some (.bl b)
  | .int i => some (.int i)
  | .str s => some (.str s)
  | .tup xs => match unembs xs with | some vs => some (.tup vs) | none => none
  | _ => none
def unembs : List D → Option (List V)
  | [] => some []
  | x :: xs => match unemb x, unembs xs with
    | some v, some vs => some (v :: vs)
    | _, _ => none
end

/-! ### operations -/
def addV (x y : V) : Option V :=
  match x, y with
  | .int i, .int j => some (.int (i + j))
  | .str a, .str b => if okS (a.length + b.length) = true then some (.str (a ++ b)) else none
  | .tup a, .tup b => if V.imms a = true ∧ V.imms b = true ∧ okS (a.length + b.length) = true then some (.tup (a ++ b)) else none
  | .lst a, .lst b => if V.imms a = true ∧ V.imms b = true ∧ okS (a.length + b.length) = true then some (.lst (a ++ b)) else none
  | _, _ => none
def subV (x y : V) : Option V :=
  match x, y with
  | .int i, .int j => some (.int (i - j))
  | _, _ => none
def mulV (x y : V) : Option V :=
  match x, y with
  | .int i, .int j => if small64 i = true ∨ small64 j = true then some (.int (i * j)) else none
  | .str a, .int j => if a.length ≤ 1000 ∧ 1 ≤ j ∧ j ≤ 1000 then some (.str (rep a j.toNat)) else none
  | .tup a, .int j => if V.imms a = true ∧ 1 ≤ a.length ∧ a.length ≤ 1000 ∧ 1 ≤ j ∧ j ≤ 1000 then some (.tup (rep a j.toNat)) else none
  | .lst a, .int j => if V.imms a = true ∧ a.length ≤ 1000 ∧ 0 ≤ j ∧ j ≤ 1000 then some (.lst (rep a j.toNat)) else none
  | _, _ => none
def fdivV (x y : V) : Option V :=
  match x, y with
  | .int i, .int j => if 0 < j ∧ j < 1073741824 then some (.int (i / j)) else none
  | _, _ => none
def modV (x y : V) : Option V :=
  match x, y with
  | .int i, .int j => if 0 < j then some (.int (i % j)) else none
  | _, _ => none
def powV (x y : V) : Option V :=
  match x, y with
  | .int i, .int j => if 0 ≤ j ∧ j ≤ 1000 ∧ small64 i = true then some (.int (i ^ j.toNat)) else none
  | _, _ => none
@[simp] def binV (o : Bop) (x y : V) : Option V :=
  match o with
  | .add => addV x y
  | .sub => subV x y
  | .mul => mulV x y
  | .fdiv => fdivV x y
  | .mod => modV x y
  | .pow => powV x y

mutual
/-- data to be compared -/
def pdv (n : Nat) : V → Option PD
  | .non => some .non
  | .bl b => some (.bl b)
  | .int i => some (.int i)
  | .str s => some (.str s)
  | .tup xs => if n = 0 then none else (pdvs (n - 1) xs).map .tup
  | _ => none
def pdvs (n : Nat) : List V → Option (List PD)
  | [] => some []
  | x :: xs => match pdv n x, pdvs n xs with
    | some a, some b => some (a :: b)
    | _, _ => none
end
def pdv1 : V → Option PD
  | .lst xs => (pdvs 40 xs).map .lst
  | v => pdv 40 v
def eqV (a b : V) : Option Bool :=
  match pdv1 a, pdv1 b with
  | some x, some y => some (PD.eqv x y)
  | _, _ => none
def flatV : V → Bool
  | .non => true | .int _ => true | .str _ => true | .bl _ => true
  | _ => false
def isKV : V → Bool
  | .int _ => true
  | .str _ => true
  | _ => false
def keyOkV (tk : Bool) (d : V) : Bool :=
  if tk = true then (match d with | .tup ds => ds.all isKV | _ => false) else isKV d
def inV (x y : V) : Option Bool :=
  match y with
  | .str b => match x with
    | .str [a] => some (decide (a ∈ b))
    | _ => none
  | .tup ys => if flatV x = true ∧ ys.all flatV = true then match pdv 40 x, pdvs 40 ys with
      | some p, some qs => some (qs.any fun q => PD.eqv q p)
      | _, _ => none
    else none
  | .lst ys => match pdv 40 x, pdvs 40 ys with
      | some p, some qs => some (qs.any fun q => PD.eqv q p)
      | _, _ => none
  | .dic tk ks _ => if keyOkV tk x = true then some (ks.any fun p => V.same p x) else none
  | _ => none
def ltV (x y : V) : Option Bool :=
  match x, y with
  | .int i, .int j => some (decide (i < j))
  | .str i, .str j => some (decide (i < j))
  | _, _ => none
def leV (x y : V) : Option Bool :=
  match x, y with
  | .int i, .int j => some (decide (i ≤ j))
  | _, _ => none
def isNonV (x : V) : Bool :=
  match x with
  | .non => true
  | _ => false
@[simp] def cmpV (o : Cop) (x y : V) : Option Bool :=
  match o with
  | .eq => eqV x y
  | .ne => (eqV x y).map (!·)
  | .lt => ltV x y
  | .le => leV x y
  | .gt => ltV y x
  | .ge => leV y x
  | .isin => inV x y
  | .notin => (inV x y).map (!·)
  | .is => if isNonV y = true then some (isNonV x) else none
  | .isnot => if isNonV y = true then some (!isNonV x) else none
def truV (x : V) : Option Bool :=
  match x with
  | .non => some false
  | .bl b => some b
  | .int i => some (i != 0)
  | .str s => some (!s.isEmpty)
  | .tup xs => some (!xs.isEmpty)
  | .lst xs => some (!xs.isEmpty)
  | _ => none
/-- a value read off something of some standing -/
def rdo (o : Ow) (v : V) : Ow := if v.imm = true then .own else match o with | .fz => .fz | _ => .bo
def posK (k : V) : List V → Option Nat
  | [] => none
  | p :: r => if V.same p k = true then some 0 else (posK k r).map (· + 1)
def ixV (x y : V) : Option V :=
  match x, y with
  | .tup xs, .int i => atD xs i
  | .str s, .int i => (atD s i).map fun c => .str [c]
  | .lst xs, .int i => atD xs i
  | .dic tk ks vs, k => if keyOkV tk k = true then match posK k ks with | some n => vs[n]? | none => none else none
  | _, _ => none
def slV (x : V) (lo hi : Option Int) : Option V :=
  match x with
  | .str s => some (.str (cut s lo hi))
  | .tup xs => if V.imms xs = true then some (.tup (cut xs lo hi)) else none
  | .lst xs => if V.imms xs = true then some (.lst (cut xs lo hi)) else none
  | _ => none
def revV (x : V) : Option V :=
  match x with
  | .str s => some (.str s.reverse)
  | .lst xs => if V.imms xs = true then some (.lst xs.reverse) else none
  | _ => none
def intsV : List V → Option (List Int)
  | [] => some []
  | .int i :: r => match intsV r with | some b => some (i :: b) | none => none
  | _ => none
def boolsV : List V → Option (List Bool)
  | [] => some []
  | .bl i :: r => match boolsV r with | some b => some (i :: b) | none => none
  | _ => none
def strsV : List V → Option (List (List Nat))
  | [] => some []
  | .str i :: r => match strsV r with | some b => some (i :: b) | none => none
  | _ => none
def itemsV (x : V) : Option (List V) :=
  match x with
  | .tup xs => some xs
  | .lst xs => some xs
  | _ => none
def lenV (xs : List V) : Option V :=
  match xs with
  | [.str s] => some (.int s.length)
  | [x] => match itemsV x with | some ys => some (.int ys.length) | none => none
  | _ => none
def intV (xs : List V) : Option V :=
  match xs with
  | [.int i] => some (.int i)
  | [.bl k] => some (.int (if k then 1 else 0))
  | _ => none
def minV (xs : List V) : Option V :=
  match xs with
  | [.lst ys] => match intsV ys with | some (m :: r) => some (.int (minI m r)) | _ => none
  | [.int a, .int b] => some (.int (minI a [b]))
  | [.int a, .int b, .int c] => some (.int (minI a [b, c]))
  | [.int a, .int b, .int c, .int d] => some (.int (minI a [b, c, d]))
  | _ => none
def maxV (xs : List V) : Option V :=
  match xs with
  | [.int a, .int b] => some (.int (maxI a [b]))
  | _ => none
def tupleV (xs : List V) : Option V :=
  match xs with
  | [x] => match itemsV x with | some ys => if V.imms ys = true then some (.tup ys) else none | none => none
  | _ => none
def listV (xs : List V) : Option V :=
  match xs with
  | [.fl ns] => some (.lst (ns.map .int))
  | [x] => match itemsV x with | some ys => if V.imms ys = true then some (.lst ys) else none | none => none
  | _ => none
def allV (xs : List V) : Option V :=
  match xs with
  | [.lst ys] => match boolsV ys with | some bs => some (.bl (bs.all id)) | none => none
  | _ => none
def anyV (xs : List V) : Option V :=
  match xs with
  | [.lst ys] => match boolsV ys with | some bs => some (.bl (bs.any id)) | none => none
  | _ => none
@[simp] def biV (b : Bi) (xs : List V) : Option V :=
  match b with
  | .len => lenV xs
  | .int => intV xs
  | .min => minV xs
  | .max => maxV xs
  | .tuple => tupleV xs
  | .list => listV xs
  | .all => allV xs
  | .any => anyV xs
  | _ => none
def isiV (x : V) (t : Ty) : Option Bool :=
  match x with
  | .non => some false
  | .bl _ => some (t == .bool || t == .int)
  | .int _ => some (t == .int)
  | .str _ => some (t == .str)
  | .tup _ => some (t == .tuple)
  | .lst _ => some (t == .list)
  | .dic _ _ _ => some (t == .dict)
  | _ => none
def joinV (x : V) (xs : List V) : Option V :=
  match x, xs with
  | .str s, [y] => match itemsV y with
    | some ys => match strsV ys with
      | some zs => if okS (joinSize s zs) = true then some (.str (join s zs)) else none
      | none => none
    | none => none
  | _, _ => none
@[simp] def meV (m : Me) (x : V) (xs : List V) : Option V :=
  match m with
  | .join => joinV x xs
  | _ => none
def recvV (m : Me) (x : V) : Bool :=
  match m with
  | .join => match x with | .str _ => true | _ => false
  | _ => false
def toI (v : V) (σ : Sg) : VR (Option Int) := match v with | .int i => .ok (some i) σ | _ => .bad
def rngV : List V → Option (List V)
  | [.int j] => if small62 j = true then some ((List.range j.toNat).map fun k => .int ((0 : Int) + (k : Nat))) else none
  | [.int i, .int j] => if small62 i = true ∧ small62 j = true then some ((List.range (j - i).toNat).map fun k => .int (i + (k : Nat))) else none
  | [.int i, .int j, .int (-1)] => if small62 i = true ∧ small62 j = true then some ((List.range (i - j).toNat).map fun k => .int (i - (k : Nat))) else none
  | _ => none
def enumV (i : Nat) : List V → List V
  | [] => []
  | x :: r => .tup [.int (i : Nat), x] :: enumV (i + 1) r
/-- the items of a value that is gone through, with their standing -/
def goV (v : V) (o : Ow) : Option (List VO) :=
  match v with
  | .tup xs => some (xs.map fun x => (x, rdo o x))
  | .lst xs => some (xs.map fun x => (x, rdo o x))
  | .str s => some (s.map fun c => (.str [c], .own))
  | _ => none
def goE (v : V) (o : Ow) : Option (List VO) :=
  match v with
  | .tup xs => some ((enumV 0 xs).map fun x => (x, rdo o x))
  | .lst xs => some ((enumV 0 xs).map fun x => (x, rdo o x))
  | _ => none
mutual
def putV : E → VO → VEnv → Option VEnv
  | .var i, p, ρ => some (ρ.set i (some p))
  | .tup ts, (.tup vs, o), ρ => putVs ts vs o ρ
  | _, _, _ => none
def putVs : List E → List V → Ow → VEnv → Option VEnv
  | [], [], _, ρ => some ρ
  | t :: ts, v :: vs, o, ρ => match putV t (v, o) ρ with
    | some ρ => putVs ts vs o ρ
    | none => none
  | _, _, _, _ => none
end
def wipeV (ρ : VEnv) : List Nat → VEnv
  | [] => ρ
  | v :: vs => (wipeV ρ vs).set v none
def lcV (step : VO → Sg → VR (Option VO)) : List VO → Sg → VR (List VO)
  | [], σ => .ok [] σ
  | x :: xs, σ => (step x σ).bind fun o σ => (lcV step xs σ).bind fun ys σ => .ok (match o with | some y => y :: ys | none => ys) σ
/-- made of parts: new if all are new -/
def mk (xs : List VO) : Option (List V) := if (xs.all fun p => p.2 == .own) = true then some (xs.map (·.1)) else none
structure VCtx where
  xc : List XCls
  kt : List D
  call : Nat → List V → Sg → VR VO
def isNop : E → Bool | .nop => true | _ => false
/-- the standing of what a call gives -/
def cao (xs : List VO) (p : VO) : VO := (p.1, if p.1.imm = true then .own else match p.2 with
  | .own => .own
  | .fz => if (xs.all fun q => q.1.imm || q.2 == .fz) = true then .fz else .bo
  | _ => .bo)
mutual
def cE (C : VCtx) : E → VEnv → Sg → VR VO
  | .var i, ρ, σ => match ρ[i]? with | some (some p) => .ok (p.1, rdo p.2 p.1) σ | _ => .bad
  | .cst d, ρ, σ => nw (unemb d) σ
  | .bin o a b, ρ, σ => (cE C a ρ σ).bind fun x σ => (cE C b ρ σ).bind fun y σ => nw (binV o x.1 y.1) σ
  | .cmp o a b, ρ, σ => (cE C a ρ σ).bind fun x σ => (cE C b ρ σ).bind fun y σ => ofVo (cmpV o x.1 y.1) σ fun b => (.bl b, .own)
  | .chain o1 o2 a b c, ρ, σ => (cE C a ρ σ).bind fun x σ => (cE C b ρ σ).bind fun y σ => match cmpV o1 x.1 y.1 with
    | some true => (cE C c ρ σ).bind fun z σ => ofVo (cmpV o2 y.1 z.1) σ fun b => (.bl b, .own)
    | some false => .ok (.bl false, .own) σ
    | none => .bad
  | .and es, ρ, σ => cAnd C es ρ σ
  | .or es, ρ, σ => cOr C es ρ σ
  | .not a, ρ, σ => (cE C a ρ σ).bind fun x σ => ofVo (truV x.1) σ fun b => (.bl (!b), .own)
  | .neg a, ρ, σ => (cE C a ρ σ).bind fun x σ => match x.1 with | .int i => .ok (.int (-i), .own) σ | _ => .bad
  | .ife c a b, ρ, σ => (cE C c ρ σ).bind fun x σ => match truV x.1 with
    | some true => cE C a ρ σ
    | some false => cE C b ρ σ
    | none => .bad
  | .tup es, ρ, σ => (cEs C es ρ σ).bind fun xs σ => if okS xs.length = true then ofVo (mk xs) σ fun vs => (.tup vs, .own) else .bad
  | .lst es, ρ, σ => (cEs C es ρ σ).bind fun xs σ => if okS xs.length = true then ofVo (mk xs) σ fun vs => (.lst vs, .own) else .bad
  | .dic tk, ρ, σ => .ok (.dic tk [] [], .own) σ
  | .ix a b, ρ, σ => (cE C a ρ σ).bind fun x σ => (cE C b ρ σ).bind fun y σ => ofVo (ixV x.1 y.1) σ fun v => (v, rdo x.2 v)
  | .sl a lo hi, ρ, σ => (cE C a ρ σ).bind fun x σ => (if isNop lo = true then VR.ok none σ else (cE C lo ρ σ).bind fun x σ => toI x.1 σ).bind fun l σ => (if isNop hi = true then VR.ok none σ else (cE C hi ρ σ).bind fun x σ => toI x.1 σ).bind fun h σ => nw (slV x.1 l h) σ
  | .rev a, ρ, σ => (cE C a ρ σ).bind fun x σ => nw (revV x.1) σ
  | .call f es, ρ, σ => (cEs C es ρ σ).bind fun xs σ => (C.call f (xs.map (·.1)) σ).bind fun p σ => .ok (cao xs p) σ
  | .bi b es, ρ, σ => (cEs C es ρ σ).bind fun xs σ => nw (biV b (xs.map (·.1))) σ
  | .isi a t, ρ, σ => (cE C a ρ σ).bind fun x σ => ofVo (isiV x.1 t) σ fun b => (.bl b, .own)
  | .me m a es, ρ, σ => (cE C a ρ σ).bind fun x σ => if recvV m x.1 = true then (cEs C es ρ σ).bind fun xs σ => nw (meV m x.1 (xs.map (·.1))) σ else .bad
  | .lc elt tg src ifs own, ρ, σ =>
    (show VR (List VO) from match src with
      | .rng es => (cEs C es ρ σ).bind fun xs σ => ofVo (rngV (xs.map (·.1))) σ fun r => r.map fun x => (x, Ow.own)
      | .enum a => (cE C a ρ σ).bind fun x σ => ofVo (goE x.1 x.2) σ id
      | s => (cE C s ρ σ).bind fun x σ => ofVo (goV x.1 x.2) σ id).bind fun xs σ =>
    if okS xs.length = true then
      (lcV (fun x σ => match putV tg x (wipeV ρ (own.map (·.2))) with
        | some ρ' => (cIfs C ifs ρ' σ).bind fun b σ => if b = true then (cE C elt ρ' σ).bind fun y σ => .ok (some y) σ else .ok none σ
        | none => .bad) xs σ).nox.bind fun ys σ => ofVo (mk ys) σ fun vs => (.lst vs, .own)
    else .bad
  | _, _, _ => .bad
def cEs (C : VCtx) : List E → VEnv → Sg → VR (List VO)
  | [], ρ, σ => .ok [] σ
  | e :: es, ρ, σ => (cE C e ρ σ).bind fun x σ => (cEs C es ρ σ).bind fun xs σ => .ok (x :: xs) σ
def cAnd (C : VCtx) : List E → VEnv → Sg → VR VO
  | [], ρ, σ => .ok (.bl true, .own) σ
  | e :: es, ρ, σ => (cE C e ρ σ).bind fun x σ => match x.1 with
    | .bl true => cAnd C es ρ σ
    | .bl false => .ok (.bl false, .own) σ
    | _ => .bad
def cIfs (C : VCtx) : List E → VEnv → Sg → VR Bool
  | [], ρ, σ => .ok true σ
  | e :: es, ρ, σ => (cE C e ρ σ).bind fun x σ => match truV x.1 with
    | some true => cIfs C es ρ σ
    | some false => .ok false σ
    | none => .bad
def cOr (C : VCtx) : List E → VEnv → Sg → VR VO
  | [], ρ, σ => .ok (.bl false, .own) σ
  | e :: es, ρ, σ => (cE C e ρ σ).bind fun x σ => match x.1 with
    | .bl true => .ok (.bl true, .own) σ
    | .bl false => cOr C es ρ σ
    | _ => .bad
end
def csrcV (CV : VCtx) (src : E) (ρv : VEnv) (σ : Sg) : VR (List VO) := match src with
      | .rng es => (cEs CV es ρv σ).bind fun xs σ => ofVo (rngV (xs.map (·.1))) σ fun r => r.map fun x => (x, Ow.own)
      | .enum a => (cE CV a ρv σ).bind fun x σ => ofVo (goE x.1 x.2) σ id
      | s => (cE CV s ρv σ).bind fun x σ => ofVo (goV x.1 x.2) σ id
end DL

set_option linter.all false
set_option maxRecDepth 100000
set_option maxHeartbeats 1000000
/-! the operations over values are those over data -/
namespace DL
theorem embs_app (a b : List V) : embs (a ++ b) = embs a ++ embs b := by simp [embs_map]
theorem embs_len (a : List V) : (embs a).length = a.length := by simp [embs_map]
theorem imms_app (a b : List V) : V.imms (a ++ b) = (V.imms a && V.imms b) := by simp [imms_all]
theorem imms_mem {xs : List V} (h : V.imms xs = true) {x : V} (hx : x ∈ xs) : x.imm = true := by
  rw [imms_all, List.all_eq_true] at h; exact h x hx
theorem imms_of {xs : List V} (h : ∀ x ∈ xs, V.imm x = true) : V.imms xs = true := by rw [imms_all, List.all_eq_true]; exact h
mutual
theorem unemb_ok : ∀ {d : D} {v : V}, unemb d = some v → v.imm = true ∧ emb v = d
  | .non, v, h => by cases h; exact ⟨rfl, rfl⟩
  | .bl b, v, h => by cases h; exact ⟨rfl, rfl⟩
  | .int b, v, h => by cases h; exact ⟨rfl, rfl⟩
  | .str b, v, h => by cases h; exact ⟨rfl, rfl⟩
  | .ref b, v, h => by cases h
  | .fl b, v, h => by cases h
  | .fn b, v, h => by cases h
  | .tup xs, v, h => by
    rw [unemb] at h
    cases e : unembs xs with
    | none => rw [e] at h; cases h
    | some vs =>
      rw [e] at h; cases h
      obtain ⟨a, b⟩ := unembs_ok e
      exact ⟨by rw [V.imm]; exact a, by rw [emb, b]⟩
theorem unembs_ok : ∀ {ds : List D} {vs : List V}, unembs ds = some vs → V.imms vs = true ∧ embs vs = ds
  | [], vs, h => by cases h; exact ⟨rfl, rfl⟩
  | d :: ds, vs, h => by
    rw [unembs] at h
    cases e : unemb d with
    | none => rw [e] at h; cases h
    | some v =>
      cases e2 : unembs ds with
      | none => rw [e, e2] at h; cases h
      | some ws =>
        rw [e, e2] at h; cases h
        obtain ⟨a, b⟩ := unemb_ok e
        obtain ⟨a2, b2⟩ := unembs_ok e2
        exact ⟨by rw [V.imms, a, a2]; rfl, by rw [embs, b, b2]⟩
end
/-- new in the store -/
def New (st st' : Store) (v : V) (d : D) : Prop := ∃ cs F, st' = st ++ cs ∧ Rep st' v d F ∧ (∀ l ∈ F, st.length ≤ l) ∧ F.Nodup
theorem New.imm {st : Store} {v : V} (h : v.imm = true) : New st st v (emb v) := ⟨[], [], by simp, (Rep.imm h).mpr ⟨rfl, rfl⟩, by simp, by simp⟩
theorem New.lst {st : Store} {xs : List V} (h : V.imms xs = true) : New st (st ++ [.lst (embs xs)]) (.lst xs) (.ref st.length) := by
  refine ⟨_, [st.length], rfl, ?_, by simp, by simp⟩
  rw [Rep]
  exact ⟨st.length, embs xs, [], rfl, by simp, (Reps.imm h).mpr ⟨rfl, rfl⟩, rfl⟩
def NewO (st : Store) (o : Option V) (o' : Option (D × Store)) : Prop := ∀ v, o = some v → ∃ d st', o' = some (d, st') ∧ New st st' v d
theorem NewO.none {st : Store} {o' : Option (D × Store)} : NewO st none o' := by intro v h; cases h
theorem rep_lst {st : Store} {xs : List V} {d : D} {F : List Nat} (h : Rep st (.lst xs) d F) (hi : V.imms xs = true) : ∃ l, d = .ref l ∧ st[l]? = some (.lst (embs xs)) ∧ F = [l] := by
  rw [Rep] at h
  obtain ⟨l, ds, F', rfl, hl, h, rfl⟩ := h
  obtain ⟨rfl, rfl⟩ := (Reps.imm hi).mp h
  exact ⟨l, rfl, hl, rfl⟩
theorem rep_tup {st : Store} {xs : List V} {d : D} {F : List Nat} (h : Rep st (.tup xs) d F) (hi : V.imms xs = true) : d = .tup (embs xs) ∧ F = [] := by
  rw [Rep] at h
  obtain ⟨ds, rfl, h⟩ := h
  obtain ⟨rfl, rfl⟩ := (Reps.imm hi).mp h
  exact ⟨rfl, rfl⟩
theorem rep_map {α β : Type} (f : α → β) (xs : List α) : ∀ n, rep (xs.map f) n = (rep xs n).map f
  | 0 => rfl
  | n + 1 => by rw [rep, rep, rep_map f xs n, List.map_append]
theorem rep_mem {α : Type} {xs : List α} {x : α} : ∀ {n}, x ∈ rep xs n → x ∈ xs
  | 0, h => by simp [rep] at h
  | n + 1, h => by
    rw [rep, List.mem_append] at h
    exact h.elim id rep_mem
theorem cut_map' {α β : Type} (f : α → β) (xs : List α) (lo hi : Option Int) : cut (xs.map f) lo hi = (cut xs lo hi).map f := by
  unfold cut
  rw [List.length_map, List.map_take, List.map_drop]
theorem cut_mem {α : Type} {xs : List α} {lo hi : Option Int} {x : α} (h : x ∈ cut xs lo hi) : x ∈ xs := List.mem_of_mem_drop (List.mem_of_mem_take h)
theorem add_ok {st : Store} {x y : V} {dx dy : D} {Fx Fy : List Nat} (hx : Rep st x dx Fx) (hy : Rep st y dy Fy) : NewO st (addV x y) (addD dx dy st) := by
  intro v h
  unfold addV at h
  split at h
  · simp only [Rep] at hx hy
    cases h; rw [hx.1, hy.1]; exact ⟨_, _, rfl, New.imm rfl⟩
  · simp only [Rep] at hx hy
    split at h
    · rename_i c
      cases h; rw [hx.1, hy.1]
      exact ⟨_, _, by rw [addD, if_pos c, emb], New.imm rfl⟩
    · cases h
  · split at h
    · rename_i c
      cases h
      obtain ⟨rfl, _⟩ := rep_tup hx c.1
      obtain ⟨rfl, _⟩ := rep_tup hy c.2.1
      refine ⟨_, _, by rw [addD, if_pos (by rw [embs_len, embs_len]; exact c.2.2)], ?_⟩
      rw [← embs_app]
      exact New.imm (by rw [V.imm, imms_app, c.1, c.2.1]; rfl)
    · cases h
  · split at h
    · rename_i c
      cases h
      obtain ⟨l, rfl, hl, _⟩ := rep_lst hx c.1
      obtain ⟨l', rfl, hl', _⟩ := rep_lst hy c.2.1
      refine ⟨_, _, by unfold addD; dsimp only; rw [hl, hl']; dsimp only; rw [if_pos (by rw [embs_len, embs_len]; exact c.2.2)]; rfl, ?_⟩
      rw [← embs_app]
      exact New.lst (by rw [imms_app, c.1, c.2.1]; rfl)
    · cases h
  · cases h
theorem sub_ok {st : Store} {x y : V} {dx dy : D} {Fx Fy : List Nat} (hx : Rep st x dx Fx) (hy : Rep st y dy Fy) : NewO st (subV x y) (subD dx dy st) := by
  intro v h
  unfold subV at h
  split at h
  · simp only [Rep] at hx hy
    cases h; rw [hx.1, hy.1]; exact ⟨_, _, rfl, New.imm rfl⟩
  · cases h
theorem mul_ok {st : Store} {x y : V} {dx dy : D} {Fx Fy : List Nat} (hx : Rep st x dx Fx) (hy : Rep st y dy Fy) : NewO st (mulV x y) (mulD dx dy st) := by
  intro v h
  unfold mulV at h
  split at h
  · simp only [Rep] at hx hy
    split at h
    · rename_i c
      cases h; rw [hx.1, hy.1]
      exact ⟨_, _, by rw [mulD, if_pos c, emb], New.imm rfl⟩
    · cases h
  · simp only [Rep] at hx hy
    split at h
    · rename_i c
      cases h; rw [hx.1, hy.1]
      exact ⟨_, _, by rw [mulD, if_pos c, emb], New.imm rfl⟩
    · cases h
  · split at h
    · rename_i c
      cases h
      obtain ⟨rfl, _⟩ := rep_tup hx c.1
      rw [Rep] at hy
      rw [hy.1]
      refine ⟨_, _, by rw [mulD, if_pos (by rw [embs_len]; exact c.2)], ?_⟩
      rw [embs_map, rep_map, ← embs_map]
      exact New.imm (by rw [V.imm]; exact imms_of fun x hx => imms_mem c.1 (rep_mem hx))
    · cases h
  · split at h
    · rename_i c
      cases h
      obtain ⟨l, rfl, hl, _⟩ := rep_lst hx c.1
      rw [Rep] at hy
      rw [hy.1]
      refine ⟨_, _, by unfold mulD; dsimp only; rw [hl]; dsimp only; rw [if_pos (by rw [embs_len]; exact c.2)]; rfl, ?_⟩
      rw [embs_map, rep_map, ← embs_map]
      exact New.lst (imms_of fun x hx => imms_mem c.1 (rep_mem hx))
    · cases h
  · cases h
theorem fdiv_ok {st : Store} {x y : V} {dx dy : D} {Fx Fy : List Nat} (hx : Rep st x dx Fx) (hy : Rep st y dy Fy) : NewO st (fdivV x y) (fdivD dx dy st) := by
  intro v h
  unfold fdivV at h
  split at h
  · simp only [Rep] at hx hy
    split at h
    · rename_i c
      cases h; rw [hx.1, hy.1]
      exact ⟨_, _, by rw [fdivD, if_pos c, emb], New.imm rfl⟩
    · cases h
  · cases h
theorem mod_ok {st : Store} {x y : V} {dx dy : D} {Fx Fy : List Nat} (hx : Rep st x dx Fx) (hy : Rep st y dy Fy) : NewO st (modV x y) (modD dx dy st) := by
  intro v h
  unfold modV at h
  split at h
  · simp only [Rep] at hx hy
    split at h
    · rename_i c
      cases h; rw [hx.1, hy.1]
      exact ⟨_, _, by rw [modD, if_pos c, emb], New.imm rfl⟩
    · cases h
  · cases h
theorem pow_ok {st : Store} {x y : V} {dx dy : D} {Fx Fy : List Nat} (hx : Rep st x dx Fx) (hy : Rep st y dy Fy) : NewO st (powV x y) (powD dx dy st) := by
  intro v h
  unfold powV at h
  split at h
  · simp only [Rep] at hx hy
    split at h
    · rename_i c
      cases h; rw [hx.1, hy.1]
      exact ⟨_, _, by rw [powD, if_pos c, emb], New.imm rfl⟩
    · cases h
  · cases h
theorem bin_ok {st : Store} {o : Bop} {x y : V} {dx dy : D} {Fx Fy : List Nat} (hx : Rep st x dx Fx) (hy : Rep st y dy Fy) : NewO st (binV o x y) (binD o dx dy st) := by
  cases o
  · exact add_ok hx hy
  · exact sub_ok hx hy
  · exact mul_ok hx hy
  · exact fdiv_ok hx hy
  · exact mod_ok hx hy
  · exact pow_ok hx hy
mutual
theorem pdv_ok {st : Store} : ∀ {v : V} {n : Nat} {d : D} {F : List Nat} {p : PD}, Rep st v d F → pdv n v = some p → rsv n d = some p
  | .non, n, d, F, p, h, e => by rw [Rep] at h; rw [h.1]; cases n <;> exact e
  | .bl b, n, d, F, p, h, e => by rw [Rep] at h; rw [h.1]; cases n <;> exact e
  | .int b, n, d, F, p, h, e => by rw [Rep] at h; rw [h.1]; cases n <;> exact e
  | .str b, n, d, F, p, h, e => by rw [Rep] at h; rw [h.1]; cases n <;> exact e
  | .fl b, n, d, F, p, h, e => by cases e
  | .drw, n, d, F, p, h, e => by cases e
  | .lst _, n, d, F, p, h, e => by cases e
  | .dic _ _ _, n, d, F, p, h, e => by cases e
  | .tup xs, n, d, F, p, h, e => by
    rw [Rep] at h
    obtain ⟨ds, rfl, h⟩ := h
    rw [pdv] at e
    rw [rsv]
    split at e
    · cases e
    · rename_i c
      rw [if_neg c]
      cases q : pdvs (n - 1) xs with
      | none => rw [q] at e; cases e
      | some ps => rw [q] at e; rw [pdvs_ok h q]; exact e
theorem pdvs_ok {st : Store} : ∀ {vs : List V} {n : Nat} {ds : List D} {F : List Nat} {ps : List PD}, Reps st vs ds F → pdvs n vs = some ps → rsvs n ds = some ps
  | [], n, ds, F, ps, h, e => by rw [Reps] at h; rw [h.1]; exact e
  | v :: vs, n, ds, F, ps, h, e => by
    rw [Reps] at h
    obtain ⟨d, ds', F1, F2, rfl, h1, h2, rfl⟩ := h
    rw [pdvs] at e
    rw [rsvs]
    cases q : pdv n v with
    | none => rw [q] at e; cases e
    | some a =>
      cases q2 : pdvs n vs with
      | none => rw [q, q2] at e; cases e
      | some b => rw [q, q2] at e; rw [pdv_ok h1 q, pdvs_ok h2 q2]; exact e
end
theorem pdv1_ok {st : Store} {v : V} {d : D} {F : List Nat} {p : PD} (h : Rep st v d F) (e : pdv1 v = some p) : rsv1 st d = some p := by
  unfold pdv1 at e
  split at e
  · rw [Rep] at h
    obtain ⟨l, ds, F', rfl, hl, h, rfl⟩ := h
    unfold rsv1
    dsimp only
    rw [hl]
    dsimp only
    rename_i xs
    cases q : pdvs 40 xs with
    | none => rw [q] at e; cases e
    | some ps => rw [q] at e; rw [pdvs_ok h q]; exact e
  · have := pdv_ok h e
    unfold rsv1
    cases d <;> first | exact this | (simp [rsv] at this)
theorem eq_ok {st : Store} {x y : V} {dx dy : D} {Fx Fy : List Nat} {b : Bool} (hx : Rep st x dx Fx) (hy : Rep st y dy Fy) (e : eqV x y = some b) : eqD st dx dy = some b := by
  unfold eqV at e
  unfold eqD
  cases q : pdv1 x with
  | none => rw [q] at e; cases e
  | some a =>
    cases q2 : pdv1 y with
    | none => rw [q, q2] at e; cases e
    | some c => rw [q, q2] at e; rw [pdv1_ok hx q, pdv1_ok hy q2]; exact e
mutual
theorem vsame_ok : ∀ {a b : V}, a.imm = true → b.imm = true → V.same a b = D.same (emb a) (emb b) := by
  intro a b ha hb
  cases a <;> cases b <;> first | rfl | (simp [V.imm] at ha; done) | (simp [V.imm] at hb; done) | skip
  rename_i xs ys
  rw [V.imm] at ha hb
  rw [V.same, emb, emb, D.same, vsames_ok ha hb]
theorem vsames_ok : ∀ {a b : List V}, V.imms a = true → V.imms b = true → V.sames a b = D.sames (embs a) (embs b) := by
  intro a b ha hb
  cases a with
  | nil => cases b <;> rfl
  | cons x xs =>
    cases b with
    | nil => rfl
    | cons y ys =>
      rw [V.imms, Bool.and_eq_true] at ha hb
      rw [V.sames, embs, embs, D.sames, vsame_ok ha.1 hb.1, vsames_ok ha.2 hb.2]
end
theorem isKV_ok {v : V} (h : isKV v = true) : v.imm = true ∧ isK (emb v) = true := by
  cases v <;> first | exact ⟨rfl, rfl⟩ | cases h
theorem keyOk_ok {tk : Bool} {v : V} (h : keyOkV tk v = true) : v.imm = true ∧ keyOkD tk (emb v) = true := by
  unfold keyOkV at h
  unfold keyOkD
  cases tk with
  | true =>
    rw [if_pos rfl] at h ⊢
    cases v <;> first | cases h; done | skip
    rename_i xs
    dsimp only at h
    rw [V.imm, emb]
    dsimp only
    induction xs with
    | nil => exact ⟨rfl, rfl⟩
    | cons x xs ih =>
      rw [List.all_cons, Bool.and_eq_true] at h
      obtain ⟨a, b⟩ := isKV_ok h.1
      obtain ⟨a2, b2⟩ := ih h.2
      exact ⟨by rw [V.imms, a, a2]; rfl, by rw [embs, isKs, b, b2]; rfl⟩
  | false =>
    rw [if_neg (by decide)] at h ⊢
    exact isKV_ok h
theorem rep_key {st : Store} {tk : Bool} {v : V} {d : D} {F : List Nat} (h : Rep st v d F) (hk : keyOkV tk v = true) : d = emb v ∧ F = [] := (Rep.imm (keyOk_ok hk).1).mp h
theorem any_keys {v : V} (hv : v.imm = true) : ∀ {kvs : List (D × D)} {ks : List V}, kvs.map (·.1) = embs ks → V.imms ks = true → (kvs.any fun p => D.same p.1 (emb v)) = (ks.any fun p => V.same p v)
  | [], ks, h, hi => by cases ks with | nil => rfl | cons _ _ => cases h
  | p :: r, ks, h, hi => by
    cases ks with
    | nil => cases h
    | cons k ks =>
      rw [List.map_cons, embs] at h
      rw [V.imms, Bool.and_eq_true] at hi
      injection h with h1 h2
      rw [List.any_cons, List.any_cons, h1, vsame_ok hi.1 hv, any_keys (ks := ks) hv h2 hi.2]
theorem look_pos {v : V} (hv : v.imm = true) : ∀ {kvs : List (D × D)} {ks : List V} {n : Nat}, kvs.map (·.1) = embs ks → V.imms ks = true → posK v ks = some n → ∃ p, kvs[n]? = some p ∧ lookD (emb v) kvs = some p.2
  | [], ks, n, h, hi, e => by cases ks with | nil => cases e | cons _ _ => cases h
  | p :: r, ks, n, h, hi, e => by
    cases ks with
    | nil => cases h
    | cons k ks =>
      rw [List.map_cons, embs] at h
      rw [V.imms, Bool.and_eq_true] at hi
      injection h with h1 h2
      rw [posK] at e
      rw [lookD, h1, ← vsame_ok hi.1 hv]
      split at e
      · rename_i c
        cases e
        exact ⟨p, rfl, by rw [if_pos c]⟩
      · rename_i c
        cases q : posK v ks with
        | none => rw [q] at e; cases e
        | some m =>
          rw [q] at e; cases e
          obtain ⟨p', a, b⟩ := look_pos hv h2 hi.2 q
          exact ⟨p', by simpa using a, by rw [if_neg c]; exact b⟩
end DL

set_option linter.all false
set_option maxRecDepth 100000
set_option maxHeartbeats 1000000
namespace DL
theorem flat_ok {st : Store} {v : V} {d : D} {F : List Nat} (h : Rep st v d F) (e : flatV v = true) : flat d = true := by
  cases v <;> first | (cases e; done) | (simp only [Rep] at h; rw [h.1]; rfl)
theorem flats_ok {st : Store} : ∀ {vs : List V} {ds : List D} {F : List Nat}, Reps st vs ds F → vs.all flatV = true → flats ds = true
  | [], ds, F, h, e => by rw [Reps] at h; rw [h.1]; rfl
  | v :: vs, ds, F, h, e => by
    rw [Reps] at h
    obtain ⟨d, ds', F1, F2, rfl, h1, h2, rfl⟩ := h
    rw [List.all_cons, Bool.and_eq_true] at e
    rw [flats, flat_ok h1 e.1, flats_ok h2 e.2]
    rfl
theorem in_ok {st : Store} {x y : V} {dx dy : D} {Fx Fy : List Nat} {b : Bool} (hx : Rep st x dx Fx) (hy : Rep st y dy Fy) (e : inV x y = some b) : inD dx dy st = some b := by
  unfold inV at e
  split at e
  · split at e
    · simp only [Rep] at hx hy
      rw [hx.1, hy.1]; exact e
    · cases e
  · rename_i ys
    split at e
    · rename_i c
      rw [Rep] at hy
      obtain ⟨ds, rfl, h⟩ := hy
      unfold inD
      dsimp only
      rw [if_pos ⟨flat_ok hx c.1, flats_ok h c.2⟩]
      cases q : pdv 40 x with
      | none => rw [q] at e; cases e
      | some p =>
        cases q2 : pdvs 40 ys with
        | none => rw [q, q2] at e; cases e
        | some ps => rw [q, q2] at e; rw [pdv_ok hx q, pdvs_ok h q2]; exact e
    · cases e
  · rename_i ys
    rw [Rep] at hy
    obtain ⟨l, ds, F', rfl, hl, h, rfl⟩ := hy
    unfold inD
    dsimp only
    rw [hl]
    dsimp only
    cases q : pdv 40 x with
    | none => rw [q] at e; cases e
    | some p =>
      cases q2 : pdvs 40 ys with
      | none => rw [q, q2] at e; cases e
      | some ps => rw [q, q2] at e; rw [pdv_ok hx q, pdvs_ok h q2]; exact e
  · split at e
    · rename_i c
      rw [Rep] at hy
      obtain ⟨l, kvs, F', rfl, hl, hk, hi, h, rfl⟩ := hy
      obtain ⟨rfl, _⟩ := rep_key hx c
      unfold inD
      dsimp only
      rw [hl]
      dsimp only
      rw [if_pos (keyOk_ok c).2, any_keys (keyOk_ok c).1 hk hi.1]
      exact e
    · cases e
  · cases e
theorem lt_ok {st : Store} {x y : V} {dx dy : D} {Fx Fy : List Nat} {b : Bool} (hx : Rep st x dx Fx) (hy : Rep st y dy Fy) (e : ltV x y = some b) : ltD dx dy = some b := by
  unfold ltV at e
  split at e <;> first | (cases e; done) | (simp only [Rep] at hx hy; rw [hx.1, hy.1]; exact e)
theorem le_ok {st : Store} {x y : V} {dx dy : D} {Fx Fy : List Nat} {b : Bool} (hx : Rep st x dx Fx) (hy : Rep st y dy Fy) (e : leV x y = some b) : leD dx dy = some b := by
  unfold leV at e
  split at e <;> first | (cases e; done) | (simp only [Rep] at hx hy; rw [hx.1, hy.1]; exact e)
theorem isNon_ok {st : Store} {x : V} {dx : D} {Fx : List Nat} (hx : Rep st x dx Fx) : isNon dx = isNonV x := by
  cases x <;> simp only [Rep] at hx
  all_goals first | (rw [hx.1]; rfl) | skip
  · obtain ⟨ds, rfl, _⟩ := hx; rfl
  · obtain ⟨l, ds, F', rfl, _⟩ := hx; rfl
  · obtain ⟨l, ds, F', rfl, _⟩ := hx; rfl
theorem cmp_ok {st : Store} {o : Cop} {x y : V} {dx dy : D} {Fx Fy : List Nat} {b : Bool} (hx : Rep st x dx Fx) (hy : Rep st y dy Fy) (e : cmpV o x y = some b) : cmpD o dx dy st = some b := by
  cases o
  · exact eq_ok hx hy e
  · simp only [cmpV, cmpD] at e ⊢
    cases q : eqV x y with
    | none => rw [q] at e; cases e
    | some a => rw [q] at e; rw [eq_ok hx hy q]; exact e
  · exact lt_ok hx hy e
  · exact le_ok hx hy e
  · exact lt_ok hy hx e
  · exact le_ok hy hx e
  · exact in_ok hx hy e
  · simp only [cmpV, cmpD] at e ⊢
    cases q : inV x y with
    | none => rw [q] at e; cases e
    | some a => rw [q] at e; rw [in_ok hx hy q]; exact e
  · simp only [cmpV, cmpD] at e ⊢
    rw [isNon_ok hx, isNon_ok hy]; exact e
  · simp only [cmpV, cmpD] at e ⊢
    rw [isNon_ok hx, isNon_ok hy]; exact e
theorem reps_emp {st : Store} {vs : List V} {ds : List D} {F : List Nat} (h : Reps st vs ds F) : ds.isEmpty = vs.isEmpty := by
  have := Reps.len h
  cases vs <;> cases ds <;> first | rfl | cases this
theorem tru_ok {st : Store} {x : V} {dx : D} {Fx : List Nat} {b : Bool} (hx : Rep st x dx Fx) (e : truV x = some b) : truD dx st = some b := by
  unfold truV at e
  split at e <;> first | (cases e; done) | (simp only [Rep] at hx; rw [hx.1]; exact e) | skip
  · rw [Rep] at hx
    obtain ⟨ds, rfl, h⟩ := hx
    unfold truD
    dsimp only
    rw [reps_emp h]; exact e
  · rw [Rep] at hx
    obtain ⟨l, ds, F', rfl, hl, h, rfl⟩ := hx
    unfold truD
    dsimp only
    rw [hl]
    dsimp only
    rw [reps_emp h]; exact e
theorem atD_get {α β : Type} {xs : List α} {ys : List β} (hl : ys.length = xs.length) {i : Int} {x : α} (h : atD xs i = some x) : ∃ n : Nat, xs[n]? = some x ∧ atD ys i = ys[n]? := by
  unfold atD at h ⊢
  rw [hl]
  split at h
  · rename_i c; rw [if_pos c]; exact ⟨_, h, rfl⟩
  · rename_i c
    rw [if_neg c]
    split at h
    · rename_i c2; rw [if_pos c2]; exact ⟨_, h, rfl⟩
    · cases h
/-- a value standing in another -/
def Sub (st : Store) (v : V) (d : D) (F : List Nat) : Prop := ∃ F', Rep st v d F' ∧ ∀ l ∈ F', l ∈ F
theorem ix_ok {st : Store} {x y : V} {dx dy : D} {Fx Fy : List Nat} {v : V} (hx : Rep st x dx Fx) (hy : Rep st y dy Fy) (e : ixV x y = some v) : ∃ d, ixD dx dy st = some (d, st) ∧ Sub st v d Fx := by
  unfold ixV at e
  split at e
  · rw [Rep] at hx
    obtain ⟨ds, rfl, h⟩ := hx
    simp only [Rep] at hy
    rw [hy.1]
    obtain ⟨n, a, b⟩ := atD_get (Reps.len h) e
    obtain ⟨d, F', c, r, s⟩ := Reps.get h a
    refine ⟨d, ?_, F', r, s⟩
    unfold ixD
    dsimp only
    rw [b, c]
  · simp only [Rep] at hx hy
    rw [hx.1, hy.1]
    rename_i s i
    cases q : atD s i with
    | none => rw [q] at e; cases e
    | some c =>
      rw [q] at e; cases e
      refine ⟨.str [c], ?_, [], by simp [Rep], by simp⟩
      unfold ixD
      dsimp only
      rw [q]
  · rw [Rep] at hx
    obtain ⟨l, ds, F', rfl, hl, h, rfl⟩ := hx
    simp only [Rep] at hy
    rw [hy.1]
    obtain ⟨n, a, b⟩ := atD_get (Reps.len h) e
    obtain ⟨d, F2, c, r, s⟩ := Reps.get h a
    refine ⟨d, ?_, F2, r, fun l hl => by simp [s l hl]⟩
    unfold ixD
    dsimp only
    rw [hl]
    dsimp only
    rw [b, c]
  · split at e
    · rename_i c
      rw [Rep] at hx
      obtain ⟨l, kvs, F', rfl, hl, hk, hi, h, rfl⟩ := hx
      obtain ⟨rfl, _⟩ := rep_key hy c
      split at e
      · rename_i n q
        obtain ⟨p, a, b⟩ := look_pos (keyOk_ok c).1 hk hi.1 q
        obtain ⟨d, F2, c2, r, s⟩ := Reps.get h e
        refine ⟨d, ?_, F2, r, fun l hl => by simp [s l hl]⟩
        unfold ixD
        dsimp only
        rw [hl]
        dsimp only
        rw [if_pos (keyOk_ok c).2, b]
        rw [List.getElem?_map, a] at c2
        cases c2
        rfl
      · cases e
    · cases e
  · cases e
theorem sl_ok {st : Store} {x : V} {dx : D} {Fx : List Nat} {lo hi : Option Int} (hx : Rep st x dx Fx) : NewO st (slV x lo hi) (slD dx lo hi st) := by
  intro v h
  unfold slV at h
  split at h
  · simp only [Rep] at hx
    cases h; rw [hx.1]; exact ⟨_, _, rfl, New.imm rfl⟩
  · split at h
    · rename_i c
      cases h
      obtain ⟨rfl, _⟩ := rep_tup hx c
      refine ⟨_, _, rfl, ?_⟩
      rw [embs_map, cut_map', ← embs_map]
      exact New.imm (by rw [V.imm]; exact imms_of fun x hx => imms_mem c (cut_mem hx))
    · cases h
  · split at h
    · rename_i c
      cases h
      obtain ⟨l, rfl, hl, _⟩ := rep_lst hx c
      refine ⟨_, _, by unfold slD; dsimp only; rw [hl]; rfl, ?_⟩
      rw [embs_map, cut_map', ← embs_map]
      exact New.lst (imms_of fun x hx => imms_mem c (cut_mem hx))
    · cases h
  · cases h
theorem rev_ok {st : Store} {x : V} {dx : D} {Fx : List Nat} (hx : Rep st x dx Fx) : NewO st (revV x) (revD dx st) := by
  intro v h
  unfold revV at h
  split at h
  · simp only [Rep] at hx
    cases h; rw [hx.1]; exact ⟨_, _, rfl, New.imm rfl⟩
  · split at h
    · rename_i c
      cases h
      obtain ⟨l, rfl, hl, _⟩ := rep_lst hx c
      refine ⟨_, _, by unfold revD; dsimp only; rw [hl]; rfl, ?_⟩
      rw [embs_map, ← List.map_reverse, ← embs_map]
      exact New.lst (imms_of fun x hx => imms_mem c (by simpa using hx))
    · cases h
  · cases h
theorem items_ok {st : Store} {x : V} {dx : D} {F : List Nat} {xs : List V} (hx : Rep st x dx F) (e : itemsV x = some xs) : ∃ ds F', itemsD dx st = some ds ∧ Reps st xs ds F' ∧ ∀ l ∈ F', l ∈ F := by
  unfold itemsV at e
  split at e
  · cases e
    rw [Rep] at hx
    obtain ⟨ds, rfl, h⟩ := hx
    exact ⟨ds, F, rfl, h, fun _ h => h⟩
  · cases e
    rw [Rep] at hx
    obtain ⟨l, ds, F', rfl, hl, h, rfl⟩ := hx
    exact ⟨ds, F', by unfold itemsD; dsimp only; rw [hl], h, fun l h => by simp [h]⟩
  · cases e
theorem ints_ok {st : Store} : ∀ {vs : List V} {ds : List D} {F : List Nat} {is : List Int}, Reps st vs ds F → intsV vs = some is → ints? ds = some is
  | [], ds, F, is, h, e => by rw [Reps] at h; rw [h.1]; exact e
  | v :: vs, ds, F, is, h, e => by
    rw [Reps] at h
    obtain ⟨d, ds', F1, F2, rfl, h1, h2, rfl⟩ := h
    cases v <;> simp only [intsV] at e <;> first | (cases e; done) | skip
    rw [Rep] at h1
    rw [h1.1, ints?]
    cases q : intsV vs with
    | none => rw [q] at e; cases e
    | some b => rw [q] at e; rw [ints_ok h2 q]; exact e
theorem bools_ok {st : Store} : ∀ {vs : List V} {ds : List D} {F : List Nat} {is : List Bool}, Reps st vs ds F → boolsV vs = some is → bools? ds = some is
  | [], ds, F, is, h, e => by rw [Reps] at h; rw [h.1]; exact e
  | v :: vs, ds, F, is, h, e => by
    rw [Reps] at h
    obtain ⟨d, ds', F1, F2, rfl, h1, h2, rfl⟩ := h
    cases v <;> simp only [boolsV] at e <;> first | (cases e; done) | skip
    rw [Rep] at h1
    rw [h1.1, bools?]
    cases q : boolsV vs with
    | none => rw [q] at e; cases e
    | some b => rw [q] at e; rw [bools_ok h2 q]; exact e
theorem strs_ok {st : Store} : ∀ {vs : List V} {ds : List D} {F : List Nat} {is : List (List Nat)}, Reps st vs ds F → strsV vs = some is → strs? ds = some is
  | [], ds, F, is, h, e => by rw [Reps] at h; rw [h.1]; exact e
  | v :: vs, ds, F, is, h, e => by
    rw [Reps] at h
    obtain ⟨d, ds', F1, F2, rfl, h1, h2, rfl⟩ := h
    cases v <;> simp only [strsV] at e <;> first | (cases e; done) | skip
    rw [Rep] at h1
    rw [h1.1, strs?]
    cases q : strsV vs with
    | none => rw [q] at e; cases e
    | some b => rw [q] at e; rw [strs_ok h2 q]; exact e
theorem reps1 {st : Store} {v : V} {ds : List D} {F : List Nat} (h : Reps st [v] ds F) : ∃ d, ds = [d] ∧ Rep st v d F := by
  rw [Reps] at h
  obtain ⟨d, ds', F1, F2, rfl, h1, h2, rfl⟩ := h
  rw [Reps] at h2
  exact ⟨d, by rw [h2.1], by rw [h2.2, List.append_nil]; exact h1⟩
theorem len_ok {st : Store} {xs : List V} {ds : List D} {F : List Nat} (h : Reps st xs ds F) : NewO st (lenV xs) (lenD ds st) := by
  intro v e
  unfold lenV at e
  split at e
  · obtain ⟨d, rfl, r⟩ := reps1 h
    rw [Rep] at r
    rw [r.1]; cases e; exact ⟨_, _, rfl, New.imm rfl⟩
  · rename_i x hns
    obtain ⟨d, rfl, r⟩ := reps1 h
    split at e
    · rename_i ys q
      cases e
      obtain ⟨es, F', a, b, _⟩ := items_ok r q
      refine ⟨.int es.length, st, ?_, ?_⟩
      · unfold lenD
        cases d <;> first | (rw [a]; done) | (dsimp only; rw [a]; done) | skip
        simp [itemsD] at a
      · rw [Reps.len b]; exact New.imm rfl
    · cases e
  · cases e
theorem int_ok {st : Store} {xs : List V} {ds : List D} {F : List Nat} (h : Reps st xs ds F) : NewO st (intV xs) (intD ds st) := by
  intro v e
  unfold intV at e
  split at e
  · obtain ⟨d, rfl, r⟩ := reps1 h
    rw [Rep] at r
    rw [r.1]; cases e; exact ⟨_, _, rfl, New.imm rfl⟩
  · obtain ⟨d, rfl, r⟩ := reps1 h
    rw [Rep] at r
    rw [r.1]; cases e; exact ⟨_, _, rfl, New.imm rfl⟩
  · cases e
theorem min_ok {st : Store} {xs : List V} {ds : List D} {F : List Nat} (h : Reps st xs ds F) : NewO st (minV xs) (minD ds st) := by
  intro v e
  unfold minV at e
  split at e
  · obtain ⟨d, rfl, r⟩ := reps1 h
    rw [Rep] at r
    obtain ⟨l, es, F', rfl, hl, r, rfl⟩ := r
    split at e
    · rename_i m r' q
      cases e
      refine ⟨_, st, ?_, New.imm rfl⟩
      unfold minD
      dsimp only
      rw [hl]
      dsimp only
      rw [ints_ok r q]
      rfl
    · cases e
  all_goals first | (cases e; done) | skip
  all_goals
    cases e
    obtain ⟨rfl, rfl⟩ := (Reps.imm (by rfl)).mp h
    exact ⟨_, st, rfl, New.imm rfl⟩
theorem max_ok {st : Store} {xs : List V} {ds : List D} {F : List Nat} (h : Reps st xs ds F) : NewO st (maxV xs) (maxD ds st) := by
  intro v e
  unfold maxV at e
  split at e
  all_goals first | (cases e; done) | skip
  all_goals
    cases e
    obtain ⟨rfl, rfl⟩ := (Reps.imm (by rfl)).mp h
    exact ⟨_, st, rfl, New.imm rfl⟩
theorem tuple_ok {st : Store} {xs : List V} {ds : List D} {F : List Nat} (h : Reps st xs ds F) : NewO st (tupleV xs) (tupleD ds st) := by
  intro v e
  unfold tupleV at e
  split at e
  · obtain ⟨d, rfl, r⟩ := reps1 h
    split at e
    · rename_i ys q
      split at e
      · rename_i c
        cases e
        obtain ⟨es, F', a, b, _⟩ := items_ok r q
        obtain ⟨rfl, _⟩ := (Reps.imm c).mp b
        exact ⟨.tup (embs ys), st, by unfold tupleD; dsimp only; rw [a], New.imm (v := .tup ys) (by rw [V.imm]; exact c)⟩
      · cases e
    · cases e
  · cases e
theorem list_ok {st : Store} {xs : List V} {ds : List D} {F : List Nat} (h : Reps st xs ds F) : NewO st (listV xs) (listD ds st) := by
  intro v e
  unfold listV at e
  split at e
  · rename_i ns
    obtain ⟨d, rfl, r⟩ := reps1 h
    rw [Rep] at r
    rw [r.1]; cases e
    have : (ns.map D.int) = embs (ns.map V.int) := by rw [embs_map, List.map_map]; rfl
    refine ⟨_, _, rfl, ?_⟩
    rw [this]
    exact New.lst (imms_of fun x hx => by rw [List.mem_map] at hx; obtain ⟨i, _, rfl⟩ := hx; rfl)
  · obtain ⟨d, rfl, r⟩ := reps1 h
    split at e
    · rename_i ys q
      split at e
      · rename_i c
        cases e
        obtain ⟨es, F', a, b, _⟩ := items_ok r q
        obtain ⟨rfl, _⟩ := (Reps.imm c).mp b
        refine ⟨.ref st.length, _, ?_, New.lst c⟩
        unfold listD
        cases d <;> first | (dsimp only; rw [a]; rfl) | skip
        simp [itemsD] at a
      · cases e
    · cases e
  · cases e
theorem all_ok' {st : Store} {xs : List V} {ds : List D} {F : List Nat} (h : Reps st xs ds F) : NewO st (allV xs) (allD ds st) := by
  intro v e
  unfold allV at e
  split at e
  · obtain ⟨d, rfl, r⟩ := reps1 h
    rw [Rep] at r
    obtain ⟨l, es, F', rfl, hl, r, rfl⟩ := r
    split at e
    · rename_i q
      cases e
      refine ⟨_, st, ?_, New.imm rfl⟩
      unfold allD
      dsimp only
      rw [hl]
      dsimp only
      rw [bools_ok r q]
      rfl
    · cases e
  · cases e
theorem any_ok' {st : Store} {xs : List V} {ds : List D} {F : List Nat} (h : Reps st xs ds F) : NewO st (anyV xs) (anyD ds st) := by
  intro v e
  unfold anyV at e
  split at e
  · obtain ⟨d, rfl, r⟩ := reps1 h
    rw [Rep] at r
    obtain ⟨l, es, F', rfl, hl, r, rfl⟩ := r
    split at e
    · rename_i q
      cases e
      refine ⟨_, st, ?_, New.imm rfl⟩
      unfold anyD
      dsimp only
      rw [hl]
      dsimp only
      rw [bools_ok r q]
      rfl
    · cases e
  · cases e
theorem bi_ok {st : Store} {b : Bi} {xs : List V} {ds : List D} {F : List Nat} (h : Reps st xs ds F) : NewO st (biV b xs) (biD b ds st) := by
  cases b
  · exact len_ok h
  · exact int_ok h
  · exact min_ok h
  · exact max_ok h
  · exact tuple_ok h
  · exact list_ok h
  · exact all_ok' h
  · exact any_ok' h
  all_goals exact NewO.none
theorem isi_ok {st : Store} {x : V} {dx : D} {F : List Nat} {t : Ty} {b : Bool} (hx : Rep st x dx F) (e : isiV x t = some b) : isiD dx t st = some b := by
  unfold isiV at e
  split at e <;> first | (cases e; done) | (simp only [Rep] at hx; rw [hx.1]; exact e) | skip
  · rw [Rep] at hx
    obtain ⟨ds, rfl, h⟩ := hx
    exact e
  · rw [Rep] at hx
    obtain ⟨l, ds, F', rfl, hl, h, rfl⟩ := hx
    unfold isiD
    dsimp only
    rw [hl]
    exact e
  · rw [Rep] at hx
    obtain ⟨l, kvs, F', rfl, hl, hk, hi, h, rfl⟩ := hx
    unfold isiD
    dsimp only
    rw [hl]
    exact e
theorem me_ok {st : Store} {m : Me} {x : V} {dx : D} {Fx : List Nat} {xs : List V} {ds : List D} {F : List Nat} (hx : Rep st x dx Fx) (h : Reps st xs ds F) : NewO st (meV m x xs) (meD m dx ds st) := by
  cases m
  case join =>
    intro v e
    simp only [meV] at e
    simp only [meD]
    unfold joinV at e
    split at e
    · obtain ⟨d, rfl, r⟩ := reps1 h
      rw [Rep] at hx
      rw [hx.1]
      split at e
      · rename_i ys q
        obtain ⟨es, F', a, b, _⟩ := items_ok r q
        split at e
        · rename_i zs q2
          split at e
          · rename_i c
            cases e
            refine ⟨_, st, ?_, New.imm rfl⟩
            unfold joinD
            dsimp only
            rw [a]
            dsimp only
            rw [strs_ok b q2]
            dsimp only
            rw [if_pos c]
            rfl
          · cases e
        · cases e
      · cases e
    · cases e
  all_goals exact NewO.none
theorem me_recv {st : Store} {m : Me} {x : V} {dx : D} {Fx : List Nat} (hx : Rep st x dx Fx) (e : recvV m x = true) : recv m dx st = true := by
  cases m <;> first | (cases e; done) | skip
  cases x <;> first | (cases e; done) | skip
  rw [Rep] at hx; rw [hx.1]; rfl
theorem rngD_eq1 (j : Int) : rngD [.int j] = if small62 j = true then some (rangeL 0 j.toNat) else none := by unfold rngD; rfl
theorem rngD_eq2 (i j : Int) : rngD [.int i, .int j] = if small62 i = true ∧ small62 j = true then some (rangeL i (j - i).toNat) else none := by unfold rngD; rfl
theorem rng_ok {st : Store} {xs : List V} {ds : List D} {F : List Nat} {r : List V} (h : Reps st xs ds F) (e : rngV xs = some r) : rngD ds = some (embs r) ∧ V.imms r = true := by
  unfold rngV at e
  split at e
  · obtain ⟨rfl, rfl⟩ := (Reps.imm (by rfl)).mp h
    split at e
    · rename_i c
      cases e
      refine ⟨?_, imms_of fun x hx => by rw [List.mem_map] at hx; obtain ⟨i, _, rfl⟩ := hx; rfl⟩
      simp only [embs, emb]
      rw [rngD_eq1, if_pos c, embs_map, List.map_map]
      rfl
    · cases e
  · obtain ⟨rfl, rfl⟩ := (Reps.imm (by rfl)).mp h
    split at e
    · rename_i c
      cases e
      refine ⟨?_, imms_of fun x hx => by rw [List.mem_map] at hx; obtain ⟨i, _, rfl⟩ := hx; rfl⟩
      simp only [embs, emb]
      rw [rngD_eq2, if_pos c, embs_map, List.map_map]
      rfl
    · cases e
  · obtain ⟨rfl, rfl⟩ := (Reps.imm (by rfl)).mp h
    split at e
    · rename_i c
      cases e
      refine ⟨?_, imms_of fun x hx => by rw [List.mem_map] at hx; obtain ⟨i, _, rfl⟩ := hx; rfl⟩
      simp only [embs, emb]
      rw [rngD_eq, if_pos c, embs_map, List.map_map]
      rfl
    · cases e
  · cases e
end DL

set_option linter.all false
set_option maxRecDepth 100000
set_option maxHeartbeats 1000000
namespace DL
structure DrS (σ : Sg) (st : Store) : Prop where
  at0 : st[0]? = some (.lst (σ.ns.map .int))
  at1 : st[1]? = some (dcell 0 σ.a σ.b σ.c)
  a0 : 0 ≤ σ.a
  aN : σ.a ≤ σ.ns.length
  b0 : 0 ≤ σ.b
  c0 : 0 ≤ σ.c
  le : σ.ns.length ≤ 63
theorem DrS.two {σ : Sg} {st : Store} (h : DrS σ st) : 2 ≤ st.length := (List.getElem?_eq_some_iff.mp h.at1).1
theorem DrS.app {σ : Sg} {st : Store} (h : DrS σ st) (cs : List Cell) : DrS σ (st ++ cs) := by
  have := h.two
  exact ⟨by rw [List.getElem?_append_left (by omega)]; exact h.at0, by rw [List.getElem?_append_left (by omega)]; exact h.at1, h.a0, h.aN, h.b0, h.c0, h.le⟩
theorem DrS.dr {σ : Sg} {st : Store} (h : DrS σ st) : Dr σ.ns st := ⟨h.at0, ⟨_, _, _, h.at1, h.a0, h.aN, h.b0, h.c0⟩, h.le⟩
def RX (x : VX) (y : DX) : Prop := y.cls = x.cls ∧ y.flds = x.flds.map (fun p => (p.1, emb p.2)) ∧ ∀ p ∈ x.flds, p.2.imm = true
def RRel {α β : Type} (st : Store) (P : α → β → Store → Prop) : VR α → Res β → Prop
  | .ok a σ, r => ∃ b st', r = .ok b st' ∧ P a b st' ∧ Kp st st' ∧ DrS σ st'
  | .exc x σ, r => ∃ y st', r = .exc y st' ∧ RX x y ∧ Kp st st' ∧ DrS σ st'
  | .bad, _ => True
theorem RRel.bind {α β γ δ : Type} {st : Store} {P : α → β → Store → Prop} {Q : γ → δ → Store → Prop} {r : VR α} {r' : Res β} {f : α → Sg → VR γ} {g : β → Store → Res δ} (h : RRel st P r r')
    (k : ∀ a b σ st', P a b st' → Kp st st' → DrS σ st' → RRel st' Q (f a σ) (g b st')) : RRel st Q (r.bind f) (r'.bind g) := by
  cases r with
  | bad => trivial
  | exc x σ =>
    obtain ⟨y, st', rfl, a, b, c⟩ := h
    exact ⟨y, st', rfl, a, b, c⟩
  | ok a σ =>
    obtain ⟨b, st', rfl, p, kp, d⟩ := h
    have := k a b σ st' p kp d
    show RRel st Q (f a σ) (g b st')
    cases e : f a σ with
    | bad => trivial
    | exc x σ2 =>
      rw [e] at this
      obtain ⟨y, st2, q, a2, b2, c2⟩ := this
      exact ⟨y, st2, q, a2, kp.trans b2, c2⟩
    | ok a2 σ2 =>
      rw [e] at this
      obtain ⟨y, st2, q, a2, b2, c2⟩ := this
      exact ⟨y, st2, q, a2, kp.trans b2, c2⟩
theorem RRel.ok {α β : Type} {st : Store} {P : α → β → Store → Prop} {a : α} {b : β} {σ : Sg} (p : P a b st) (d : DrS σ st) : RRel st P (.ok a σ) (.ok b st) := ⟨b, st, rfl, p, Kp.refl st, d⟩
theorem RRel.mono {α β : Type} {st : Store} {P Q : α → β → Store → Prop} {r : VR α} {r' : Res β} (h : RRel st P r r') (k : ∀ a b st', Kp st st' → P a b st' → Q a b st') : RRel st Q r r' := by
  cases r with
  | bad => trivial
  | exc x σ => exact h
  | ok a σ =>
    obtain ⟨b, st', e, p, kp, d⟩ := h
    exact ⟨b, st', e, k _ _ _ kp p, kp, d⟩
theorem Rep.kp {st st' : Store} {v : V} {d : D} {F : List Nat} (h : Rep st v d F) (n1 : 1 ∉ F) (k : Kp st st') : Rep st' v d F :=
  h.frame fun l hl => k.2 l (fun e => n1 (e ▸ hl)) (h.lt l hl)
theorem Reps.kp {st st' : Store} {v : List V} {d : List D} {F : List Nat} (h : Reps st v d F) (n1 : 1 ∉ F) (k : Kp st st') : Reps st' v d F :=
  h.frame fun l hl => k.2 l (fun e => n1 (e ▸ hl)) (h.lt l hl)
/-- a value in the store, by its standing -/
def RepO (Z : Nat → Prop) (n : Nat) (st : Store) (v : V) (o : Ow) (d : D) : Prop := ∃ F, Rep st v d F ∧ 1 ∉ F ∧ (o = .own → (∀ l ∈ F, n ≤ l) ∧ F.Nodup) ∧ (o = .fz → ∀ l ∈ F, Z l)
def RepB (Z : Nat → Prop) (st : Store) (v : V) (o : Ow) (d : D) : Prop := ∃ F, Rep st v d F ∧ 1 ∉ F ∧ (o = .fz → ∀ l ∈ F, Z l)
theorem RepO.b {Z : Nat → Prop} {n : Nat} {st : Store} {v : V} {o : Ow} {d : D} (h : RepO Z n st v o d) : RepB Z st v o d := by
  obtain ⟨F, a, b, c, e⟩ := h; exact ⟨F, a, b, e⟩
theorem RepO.kp {Z : Nat → Prop} {n : Nat} {st st' : Store} {v : V} {o : Ow} {d : D} (h : RepO Z n st v o d) (k : Kp st st') : RepO Z n st' v o d := by
  obtain ⟨F, a, b, c, e⟩ := h; exact ⟨F, a.kp b k, b, c, e⟩
theorem RepB.kp {Z : Nat → Prop} {st st' : Store} {v : V} {o : Ow} {d : D} (h : RepB Z st v o d) (k : Kp st st') : RepB Z st' v o d := by
  obtain ⟨F, a, b, e⟩ := h; exact ⟨F, a.kp b k, b, e⟩
theorem RepO.le {Z : Nat → Prop} {n m : Nat} {st : Store} {v : V} {o : Ow} {d : D} (h : RepO Z n st v o d) (k : m ≤ n) : RepO Z m st v o d := by
  obtain ⟨F, a, b, c, e⟩ := h; exact ⟨F, a, b, fun q => ⟨fun l hl => Nat.le_trans k ((c q).1 l hl), (c q).2⟩, e⟩
theorem RepO.imm {Z : Nat → Prop} {n : Nat} {st : Store} {v : V} {o : Ow} (h : v.imm = true) : RepO Z n st v o (emb v) := ⟨[], (Rep.imm h).mpr ⟨rfl, rfl⟩, by simp, fun _ => ⟨by simp, by simp⟩, by simp⟩
theorem RepO.new {Z : Nat → Prop} {n : Nat} {st st' : Store} {v : V} {d : D} {o : Ow} (h : New st st' v d) (hn : n ≤ st.length) (h2 : 2 ≤ st.length) (ho : o ≠ .fz) : RepO Z n st' v o d := by
  obtain ⟨cs, F, _, r, g, nd⟩ := h
  exact ⟨F, r, fun h1 => by have := g 1 h1; omega, fun _ => ⟨fun l hl => Nat.le_trans hn (g l hl), nd⟩, fun e => absurd e ho⟩
theorem rr_nw {Z : Nat → Prop} {n : Nat} {st : Store} {σ : Sg} {o : Option V} {o' : Option (D × Store)} (h : NewO st o o') (d : DrS σ st) (hn : n ≤ st.length) :
    RRel st (fun (p : VO) d st' => RepO Z n st' p.1 p.2 d) (nw o σ) (ofV o') := by
  cases o with
  | none => trivial
  | some v =>
    obtain ⟨dd, st', e, nw⟩ := h v rfl
    rw [e]
    have nw' := nw
    obtain ⟨cs, F, rfl, _⟩ := nw'
    exact ⟨dd, _, rfl, RepO.new nw hn d.two (by intro z; cases z), Kp.app, d.app cs⟩
structure EnvR (Z : Nat → Prop) (st : Store) (ρ : Env) (ρv : VEnv) : Prop where
  len : ρ.length = ρv.length
  rep : ∀ (i : Nat) (v : V) (o : Ow), ρv[i]? = some (some (v, o)) → ∃ d, ρ[i]? = some (some d) ∧ RepB Z st v o d
theorem EnvR.kp {Z : Nat → Prop} {st st' : Store} {ρ : Env} {ρv : VEnv} (h : EnvR Z st ρ ρv) (k : Kp st st') : EnvR Z st' ρ ρv :=
  ⟨h.len, fun i v o e => by obtain ⟨d, a, b⟩ := h.rep i v o e; exact ⟨d, a, b.kp k⟩⟩
theorem EnvR.set {Z : Nat → Prop} {st : Store} {ρ : Env} {ρv : VEnv} (h : EnvR Z st ρ ρv) {i : Nat} {p : VO} {d : D} (r : RepB Z st p.1 p.2 d) : EnvR Z st (ρ.set i (some d)) (ρv.set i (some p)) := by
  refine ⟨by simpa using h.len, fun j v o e => ?_⟩
  by_cases hj : i = j
  · subst hj
    by_cases hl : i < ρv.length
    · rw [List.getElem?_set_self hl] at e
      cases e
      exact ⟨d, by rw [List.getElem?_set_self (by rw [h.len]; exact hl)], r⟩
    · rw [List.getElem?_eq_none (by simpa using Nat.le_of_not_lt hl)] at e; cases e
  · rw [List.getElem?_set_ne hj] at e
    rw [List.getElem?_set_ne hj]
    exact h.rep j v o e
theorem EnvR.setN {Z : Nat → Prop} {st : Store} {ρ : Env} {ρv : VEnv} (h : EnvR Z st ρ ρv) {i : Nat} {x : Option D} : EnvR Z st (ρ.set i x) (ρv.set i none) := by
  refine ⟨by simpa using h.len, fun j v o e => ?_⟩
  by_cases hj : i = j
  · subst hj
    by_cases hl : i < ρv.length
    · rw [List.getElem?_set_self hl] at e
      cases e
    · rw [List.getElem?_eq_none (by simpa using Nat.le_of_not_lt hl)] at e; cases e
  · rw [List.getElem?_set_ne hj] at e
    rw [List.getElem?_set_ne hj]
    exact h.rep j v o e
theorem EnvR.wipe {Z : Nat → Prop} {st : Store} {ρ : Env} {ρv : VEnv} (h : EnvR Z st ρ ρv) : ∀ is : List Nat, EnvR Z st (wipeE ρ is) (wipeV ρv is)
  | [] => h
  | i :: is => by rw [wipeE, wipeV]; exact (h.wipe is).setN
def RepsB (Z : Nat → Prop) (st : Store) (vs : List V) (o : Ow) (ds : List D) : Prop := ∃ F, Reps st vs ds F ∧ 1 ∉ F ∧ (o = .fz → ∀ l ∈ F, Z l)
mutual
theorem put_ok {Z : Nat → Prop} {st : Store} : ∀ {t : E} {p : VO} {d : D} {ρ : Env} {ρv ρv' : VEnv}, EnvR Z st ρ ρv → RepB Z st p.1 p.2 d → putV t p ρv = some ρv' → ∃ ρ', putT t d ρ = some ρ' ∧ EnvR Z st ρ' ρv' := by
  intro t p d ρ ρv ρv' h r e
  cases t <;> first | (simp [putV] at e; done) | skip
  case var i =>
    simp only [putV] at e
    cases e
    exact ⟨_, by rw [putT], h.set r⟩
  case tup ts =>
    obtain ⟨v, o⟩ := p
    cases v <;> first | (simp [putV] at e; done) | skip
    rename_i vs
    simp only [putV] at e
    obtain ⟨F, a, b, c⟩ := r
    rw [Rep] at a
    obtain ⟨ds, rfl, a⟩ := a
    rw [putT]
    exact puts_ok h ⟨F, a, b, c⟩ e
theorem puts_ok {Z : Nat → Prop} {st : Store} : ∀ {ts : List E} {vs : List V} {o : Ow} {ds : List D} {ρ : Env} {ρv ρv' : VEnv}, EnvR Z st ρ ρv → RepsB Z st vs o ds → putVs ts vs o ρv = some ρv' → ∃ ρ', putTs ts ds ρ = some ρ' ∧ EnvR Z st ρ' ρv' := by
  intro ts vs o ds ρ ρv ρv' h r e
  obtain ⟨F, a, b, c⟩ := r
  cases ts with
  | nil =>
    cases vs with
    | nil =>
      simp only [putVs] at e
      cases e
      rw [Reps] at a
      rw [a.1]
      exact ⟨ρ, by rw [putTs], h⟩
    | cons _ _ => simp [putVs] at e
  | cons t ts =>
    cases vs with
    | nil => simp [putVs] at e
    | cons v vs =>
      rw [putVs] at e
      rw [Reps] at a
      obtain ⟨d, ds', F1, F2, rfl, a1, a2, rfl⟩ := a
      cases q : putV t (v, o) ρv with
      | none => rw [q] at e; cases e
      | some ρ1 =>
        rw [q] at e
        obtain ⟨ρ', q1, h1⟩ := put_ok (p := (v, o)) h ⟨F1, a1, fun z => b (by simp [z]), fun z l hl => c z l (by simp [hl])⟩ q
        obtain ⟨ρ2, q2, h2⟩ := puts_ok h1 ⟨F2, a2, fun z => b (by simp [z]), fun z l hl => c z l (by simp [hl])⟩ e
        exact ⟨ρ2, by rw [putTs, q1]; exact q2, h2⟩
end
/-- several values -/
def EsQ (Z : Nat → Prop) (n : Nat) (st : Store) (ps : List VO) (ds : List D) : Prop :=
  ∃ F, Reps st (ps.map (·.1)) ds F ∧ 1 ∉ F ∧ ((ps.all fun p => p.2 == .own) = true → (∀ l ∈ F, n ≤ l) ∧ F.Nodup) ∧ ((ps.all fun q => q.1.imm || q.2 == .fz) = true → ∀ l ∈ F, Z l)
theorem EsQ.nil {Z : Nat → Prop} {n : Nat} {st : Store} : EsQ Z n st [] [] := ⟨[], by simp [Reps], by simp, by simp, by simp⟩
theorem EsQ.cons {Z : Nat → Prop} {n : Nat} {st st' : Store} {p : VO} {d : D} {ps : List VO} {ds : List D} (h : RepO Z n st p.1 p.2 d) (k : Kp st st') (hn : n ≤ st.length) (g : EsQ Z st.length st' ps ds) : EsQ Z n st' (p :: ps) (d :: ds) := by
  obtain ⟨F, a, b, c, e⟩ := h
  obtain ⟨G, a2, b2, c2, e2⟩ := g
  refine ⟨F ++ G, ?_, by simp [b, b2], fun q => ?_, fun q => ?_⟩
  · rw [List.map_cons, Reps]; exact ⟨d, ds, F, G, rfl, a.kp b k, a2, rfl⟩
  · rw [List.all_cons, Bool.and_eq_true] at q
    have q1 := c (by simpa using q.1)
    have q2 := c2 q.2
    refine ⟨fun l hl => ?_, ?_⟩
    · rcases List.mem_append.mp hl with hl | hl
      · exact q1.1 l hl
      · exact Nat.le_trans hn (q2.1 l hl)
    · rw [List.nodup_append]
      refine ⟨q1.2, q2.2, fun x hx y hy => ?_⟩
      have := a.lt x hx
      have := q2.1 y hy
      omega
  · rw [List.all_cons, Bool.and_eq_true] at q
    intro l hl
    rcases List.mem_append.mp hl with hl | hl
    · rcases Bool.or_eq_true _ _ ▸ q.1 with h | h
      · rw [((Rep.imm h).mp a).2] at hl; simp at hl
      · exact e (by simpa using h) l hl
    · exact e2 q.2 l hl
theorem EsQ.kp {Z : Nat → Prop} {n : Nat} {st st' : Store} {ps : List VO} {ds : List D} (h : EsQ Z n st ps ds) (k : Kp st st') : EsQ Z n st' ps ds := by
  obtain ⟨F, a, b, c, e⟩ := h
  exact ⟨F, a.kp b k, b, c, e⟩
theorem EsQ.le {Z : Nat → Prop} {n m : Nat} {st : Store} {ps : List VO} {ds : List D} (h : EsQ Z n st ps ds) (k : m ≤ n) : EsQ Z m st ps ds := by
  obtain ⟨F, a, b, c, e⟩ := h
  exact ⟨F, a, b, fun q => ⟨fun l hl => Nat.le_trans k ((c q).1 l hl), (c q).2⟩, e⟩
theorem EsQ.len {Z : Nat → Prop} {n : Nat} {st : Store} {ps : List VO} {ds : List D} (h : EsQ Z n st ps ds) : ds.length = ps.length := by
  obtain ⟨F, a, _⟩ := h
  have := a.len
  simpa using this
/-- calls -/
def CallOk (CD : Nat → List D → Store → Res D) (CV : Nat → List V → Sg → VR VO) : Prop :=
  ∀ (f : Nat) (vs : List V) (ds : List D) (F : List Nat) (Z : Nat → Prop) (st : Store) (σ : Sg), Reps st vs ds F → 1 ∉ F → (∀ l ∈ F, Z l) → (∀ l, Z l → l < st.length) → DrS σ st →
    RRel st (fun (p : VO) d st' => RepO Z st.length st' p.1 p.2 d) (CV f vs σ) (CD f ds st)
/-- sources -/
def SrcR (Z : Nat → Prop) (st : Store) (xs : List VO) (q : List D × Guard) : Prop :=
  q.1.length = xs.length ∧ (∀ (i : Nat) (p : VO), xs[i]? = some p → ∃ d, q.1[i]? = some d ∧ RepB Z st p.1 p.2 d) ∧ GuardOk q.2 st ∧ ∀ l ys, q.2 = some (l, ys) → l ≠ 1
theorem GuardOk.kp {g : Guard} {st st' : Store} (h : GuardOk g st) (n1 : ∀ l ys, g = some (l, ys) → l ≠ 1) (k : Kp st st') : GuardOk g st' := by
  cases g with
  | none => trivial
  | some p =>
    obtain ⟨l, xs⟩ := p
    show st'[l]? = _
    exact k.get (n1 l xs rfl) h
theorem SrcR.kp {Z : Nat → Prop} {st st' : Store} {xs : List VO} {q : List D × Guard} (h : SrcR Z st xs q) (k : Kp st st') : SrcR Z st' xs q :=
  ⟨h.1, fun i p e => by obtain ⟨d, a, b⟩ := h.2.1 i p e; exact ⟨d, a, b.kp k⟩, h.2.2.1.kp h.2.2.2 k, h.2.2.2⟩
theorem rdo_b {Z : Nat → Prop} {st : Store} {v : V} {o : Ow} {d : D} {F : List Nat} (r : Rep st v d F) (n1 : 1 ∉ F) (h : o = .fz → ∀ l ∈ F, Z l) : RepB Z st v (rdo o v) d := by
  refine ⟨F, r, n1, fun q => ?_⟩
  unfold rdo at q
  split at q
  · cases q
  · cases o <;> first | exact h rfl | cases q
theorem rdo_o {Z : Nat → Prop} {n : Nat} {st : Store} {v : V} {o : Ow} {d : D} {F : List Nat} (r : Rep st v d F) (n1 : 1 ∉ F) (h : o = .fz → ∀ l ∈ F, Z l) : RepO Z n st v (rdo o v) d := by
  by_cases hi : v.imm = true
  · obtain ⟨rfl, rfl⟩ := (Rep.imm hi).mp r
    exact RepO.imm hi
  · refine ⟨F, r, n1, fun q => ?_, fun q => ?_⟩
    · unfold rdo at q
      rw [if_neg hi] at q
      cases o <;> cases q
    · unfold rdo at q
      rw [if_neg hi] at q
      cases o <;> first | exact h rfl | cases q
/-- one turn after another -/
theorem lc_ok {Z : Nat → Prop} {stepV : VO → Sg → VR (Option VO)} {stepD : D → Store → Res (Option D)} {g : Guard} (n1 : ∀ l ys, g = some (l, ys) → l ≠ 1)
    : ∀ {xs : List VO} {items : List D} {st : Store} {σ : Sg} {n : Nat}, SrcR Z st xs (items, g) → DrS σ st → n ≤ st.length →
    (∀ p d st' σ' m, Kp st st' → RepB Z st' p.1 p.2 d → DrS σ' st' → m ≤ st'.length → RRel st' (fun (o : Option VO) (o' : Option D) st2 => match o, o' with | none, none => True | some p, some d => RepO Z m st2 p.1 p.2 d | _, _ => False) (stepV p σ') (stepD d st')) →
    RRel st (fun ys ds st' => EsQ Z n st' ys ds) (lcV stepV xs σ) (lcL stepD g items st) := by
  intro xs
  induction xs with
  | nil =>
    intro items st σ n h d hn hs
    obtain rfl : items = [] := List.length_eq_zero_iff.mp h.1
    unfold lcL
    rw [if_pos h.2.2.1]
    exact RRel.ok EsQ.nil d
  | cons x xs ih =>
    intro items st σ n h d hn hs
    cases items with
    | nil => cases h.1
    | cons y ys =>
      unfold lcL
      rw [if_pos h.2.2.1, lcV]
      obtain ⟨d0, q0, r0⟩ := h.2.1 0 x rfl
      cases q0
      refine RRel.bind (hs x y st σ n (Kp.refl st) r0 d hn) fun o o' σ1 st1 po k1 d1 => ?_
      have h1 : SrcR Z st1 xs (ys, g) := by
        have := h.kp k1
        refine ⟨by have := this.1; simpa using this, fun i p e => this.2.1 (i + 1) p (by simpa using e), this.2.2⟩
      refine RRel.bind (ih (n := st1.length) h1 d1 (Nat.le_refl _) fun p d st' σ' m k r dd hm => hs p d st' σ' m (k1.trans k) r dd hm) fun zs es σ2 st2 q k2 d2 => ?_
      refine RRel.ok ?_ d2
      cases o with
      | none =>
        cases o' with
        | none => exact q.le (Nat.le_trans hn k1.1)
        | some _ => cases po
      | some p =>
        cases o' with
        | none => cases po
        | some dd => exact EsQ.cons po k2 (Nat.le_trans hn k1.1) q
theorem RRel.nox {α β : Type} {st : Store} {P : α → β → Store → Prop} {r : VR α} {r' : Res β} (h : RRel st P r r') : RRel st P r.nox r'.nox := by
  cases r with
  | bad => trivial
  | exc x σ => trivial
  | ok a σ =>
    obtain ⟨b, st', rfl, p⟩ := h
    exact ⟨b, st', rfl, p⟩
end DL

set_option linter.all false
set_option maxRecDepth 100000
set_option maxHeartbeats 1000000
/-! expressions over values -/
namespace DL
theorem EsQ.mk {Z : Nat → Prop} {n : Nat} {st : Store} {ps : List VO} {ds : List D} {vs : List V} (h : EsQ Z n st ps ds) (e : mk ps = some vs) : ∃ F, Reps st vs ds F ∧ 1 ∉ F ∧ (∀ l ∈ F, n ≤ l) ∧ F.Nodup := by
  obtain ⟨F, a, b, c, _⟩ := h
  unfold DL.mk at e
  split at e
  · rename_i q
    cases e
    exact ⟨F, a, b, c q⟩
  · cases e
theorem mem_some {α : Type} {xs : List α} {i : Nat} {x : α} (h : xs[i]? = some x) : x ∈ xs := List.mem_of_getElem? h
theorem evP_ne {C : Ctx} {ρ : Env} {e : E} {st : Store} (h : isNop e = false) : evP C ρ e st = (evE C ρ e st).bind fun x st => match x with | .int i => .ok (some i) st | _ => .bad := by
  cases e <;> first | (cases h; done) | (rw [evP] <;> first | rfl | (intros; rename_i z; cases z))
theorem isNop_eq {e : E} (h : isNop e = true) : e = .nop := by cases e <;> first | rfl | cases h
theorem enum_len : ∀ (k : Nat) (xs : List V), (enumV k xs).length = xs.length
  | _, [] => rfl
  | k, x :: xs => by rw [enumV, List.length_cons, enum_len, List.length_cons]
theorem enumD_len : ∀ (k : Nat) (xs : List D), (enumL k xs).length = xs.length
  | _, [] => rfl
  | k, x :: xs => by rw [enumL, List.length_cons, enumD_len, List.length_cons]
theorem enum_rep {Z : Nat → Prop} {st : Store} {o : Ow} : ∀ (k : Nat) (xs : List V) (ds : List D) (F : List Nat), Reps st xs ds F → 1 ∉ F → (o = .fz → ∀ l ∈ F, Z l) → ∀ (i : Nat) (v : V), (enumV k xs)[i]? = some v → ∃ d, (enumL k ds)[i]? = some d ∧ RepB Z st v (rdo o v) d
  | k, [], ds, F, h, n1, hz, i, v, e => by simp [enumV] at e
  | k, x :: xs, ds, F, h, n1, hz, i, v, e => by
    rw [Reps] at h
    obtain ⟨d, ds', F1, F2, rfl, h1, h2, rfl⟩ := h
    rw [enumV] at e
    rw [enumL]
    cases i with
    | zero =>
      cases e
      refine ⟨_, rfl, rdo_b (F := F1) ?_ (fun z => n1 (by simp [z])) fun q l hl => hz q l (by simp [hl])⟩
      rw [Rep]
      refine ⟨_, rfl, ?_⟩
      rw [Reps]
      exact ⟨_, _, [], F1, rfl, by rw [Rep]; exact ⟨rfl, rfl⟩, Reps.one h1, rfl⟩
    | succ i => exact enum_rep (k + 1) xs ds' F2 h2 (fun z => n1 (by simp [z])) (fun q l hl => hz q l (by simp [hl])) i v (by simpa using e)
theorem go_rep {Z : Nat → Prop} {st : Store} {o : Ow} {xs : List V} {ds : List D} {F : List Nat} (h : Reps st xs ds F) (n1 : 1 ∉ F) (hz : o = .fz → ∀ l ∈ F, Z l) : ∀ (i : Nat) (p : VO), (xs.map fun x => (x, rdo o x))[i]? = some p → ∃ d, ds[i]? = some d ∧ RepB Z st p.1 p.2 d := by
  intro i p e
  rw [List.getElem?_map] at e
  cases q : xs[i]? with
  | none => rw [q] at e; cases e
  | some v =>
    rw [q] at e; cases e
    obtain ⟨d, F', a, r, s⟩ := h.get q
    exact ⟨d, a, rdo_b r (fun z => n1 (s _ z)) fun q l hl => hz q l (s l hl)⟩
section
variable {C : Ctx} {CV : VCtx}
theorem goV_ok {Z : Nat → Prop} {n : Nat} {st : Store} {p : VO} {d : D} {xs : List VO} (h : RepO Z n st p.1 p.2 d) (e : goV p.1 p.2 = some xs) :
    ∃ q, (match d with
    | .tup xs => (.ok (xs, none) st : Res (List D × Guard))
    | .str s => .ok (s.map (fun c => .str [c]), none) st
    | .ref l => match st[l]? with | some (.lst xs) => .ok (xs, some (l, xs)) st | _ => .bad
    | _ => .bad) = .ok q st ∧ SrcR Z st xs q := by
  obtain ⟨v, o⟩ := p
  obtain ⟨F, a, b, c, z⟩ := h
  cases v <;> simp only [goV] at e <;> first | (cases e; done) | skip
  · cases e
    simp only [Rep] at a
    rw [a.1]
    refine ⟨_, rfl, by simp, fun i p hp => ?_, trivial, by simp⟩
    rw [List.getElem?_map] at hp
    rename_i s
    cases q : s[i]? with
    | none => rw [q] at hp; cases hp
    | some ch =>
      rw [q] at hp; cases hp
      exact ⟨.str [ch], by simp [q], [], by simp [Rep], by simp, by simp⟩
  · cases e
    simp only [Rep] at a
    obtain ⟨ds, rfl, a⟩ := a
    exact ⟨_, rfl, by simp [a.len], go_rep a b z, trivial, by simp⟩
  · cases e
    simp only [Rep] at a
    obtain ⟨l, ds, F', rfl, hl, a, rfl⟩ := a
    refine ⟨(ds, some (l, ds)), by dsimp only; rw [hl], by simp [a.len], go_rep a (fun q => b (by simp [q])) (fun q l hl => z q l (by simp [hl])), hl, fun l' ys e => ?_⟩
    cases e
    exact fun q => b (by simp [q])
theorem goE_ok {Z : Nat → Prop} {n : Nat} {st : Store} {p : VO} {d : D} {xs : List VO} (h : RepO Z n st p.1 p.2 d) (e : goE p.1 p.2 = some xs) :
    ∃ q, (match d with
    | .tup xs => (.ok (enumL 0 xs, none) st : Res (List D × Guard))
    | .ref l => match st[l]? with | some (.lst xs) => .ok (enumL 0 xs, some (l, xs)) st | _ => .bad
    | _ => .bad) = .ok q st ∧ SrcR Z st xs q := by
  obtain ⟨v, o⟩ := p
  obtain ⟨F, a, b, c, z⟩ := h
  have go : ∀ {xs : List V} {ds : List D} {F : List Nat}, Reps st xs ds F → 1 ∉ F → (o = .fz → ∀ l ∈ F, Z l) → ∀ (i : Nat) (p : VO), ((enumV 0 xs).map fun x => (x, rdo o x))[i]? = some p → ∃ d, (enumL 0 ds)[i]? = some d ∧ RepB Z st p.1 p.2 d := by
    intro xs ds F h n1 hz i p e
    rw [List.getElem?_map] at e
    cases q : (enumV 0 xs)[i]? with
    | none => rw [q] at e; cases e
    | some v => rw [q] at e; cases e; exact enum_rep 0 xs ds F h n1 hz i v q
  cases v <;> simp only [goE] at e <;> first | (cases e; done) | skip
  · cases e
    simp only [Rep] at a
    obtain ⟨ds, rfl, a⟩ := a
    exact ⟨_, rfl, by simp [enum_len, enumD_len, a.len], go a b z, trivial, by simp⟩
  · cases e
    simp only [Rep] at a
    obtain ⟨l, ds, F', rfl, hl, a, rfl⟩ := a
    refine ⟨(enumL 0 ds, some (l, ds)), by dsimp only; rw [hl], by simp [enum_len, enumD_len, a.len], go a (fun q => b (by simp [q])) (fun q l hl => z q l (by simp [hl])), hl, fun l' ys e => ?_⟩
    cases e
    exact fun q => b (by simp [q])
/-- what an expression is to do -/
def OkE (C : Ctx) (CV : VCtx) (e : E) : Prop := ∀ {Z : Nat → Prop} {n : Nat} {st : Store} {ρ : Env} {ρv : VEnv} {σ : Sg}, (∀ l, Z l → l < st.length) → EnvR Z st ρ ρv → DrS σ st → n ≤ st.length →
  RRel st (fun (p : VO) d st' => RepO Z n st' p.1 p.2 d) (cE CV e ρv σ) (evE C ρ e st)
def OkEs (C : Ctx) (CV : VCtx) (es : List E) : Prop := ∀ {Z : Nat → Prop} {n : Nat} {st : Store} {ρ : Env} {ρv : VEnv} {σ : Sg}, (∀ l, Z l → l < st.length) → EnvR Z st ρ ρv → DrS σ st → n ≤ st.length →
  RRel st (fun (ps : List VO) ds st' => EsQ Z n st' ps ds) (cEs CV es ρv σ) (evEs C ρ es st)
theorem zl {Z : Nat → Prop} {st st' : Store} (h : ∀ l, Z l → l < st.length) (k : Kp st st') : ∀ l, Z l → l < st'.length := fun l q => Nat.lt_of_lt_of_le (h l q) k.1
theorem src_ok (src : E) (hE : srcVal src = true → OkE C CV src) (hR : ∀ es, src = .rng es → OkEs C CV es) (hN : ∀ a, src = .enum a → OkE C CV a)
    {Z : Nat → Prop} {st : Store} {ρ : Env} {ρv : VEnv} {σ : Sg} (hz : ∀ l, Z l → l < st.length) (h : EnvR Z st ρ ρv) (d : DrS σ st) :
    RRel st (fun xs q st' => SrcR Z st' xs q) (csrcV CV src ρv σ) (evI C ρ src st) := by
  by_cases hv : srcVal src = true
  · have : csrcV CV src ρv σ = (cE CV src ρv σ).bind fun x σ => ofVo (goV x.1 x.2) σ id := by cases src <;> first | rfl | cases hv
    rw [this, evI_ne' hv]
    refine RRel.bind (hE hv hz h d (Nat.le_refl _)) fun p dd σ1 st1 r k1 d1 => ?_
    cases q : goV p.1 p.2 with
    | none => trivial
    | some xs =>
      obtain ⟨q', e, s⟩ := goV_ok r q
      exact ⟨q', st1, e, s, Kp.refl _, d1⟩
  · cases src <;> first | (exact absurd rfl hv) | skip
    · rename_i es
      rw [evI_rng]
      show RRel st _ ((cEs CV es ρv σ).bind fun xs σ => ofVo (rngV (xs.map (·.1))) σ fun r => r.map fun x => (x, Ow.own)) _
      refine RRel.bind (hR es rfl hz h d (Nat.le_refl _)) fun ps ds σ1 st1 r k1 d1 => ?_
      cases q : rngV (ps.map (·.1)) with
      | none => trivial
      | some xs =>
        obtain ⟨F, a, _⟩ := r
        obtain ⟨e, hi⟩ := rng_ok a q
        rw [e]
        refine ⟨_, st1, rfl, ⟨by simp [embs_len], fun i p hp => ?_, trivial, by simp⟩, Kp.refl _, d1⟩
        rw [List.getElem?_map] at hp
        cases q2 : xs[i]? with
        | none => rw [q2] at hp; cases hp
        | some v =>
          rw [q2] at hp; cases hp
          have hv := imms_mem hi (mem_some q2)
          exact ⟨emb v, by rw [embs_map]; simp [q2], [], (Rep.imm hv).mpr ⟨rfl, rfl⟩, by simp, by simp⟩
    · rename_i a
      rw [evI]
      show RRel st _ ((cE CV a ρv σ).bind fun x σ => ofVo (goE x.1 x.2) σ id) _
      refine RRel.bind (hN a rfl hz h d (Nat.le_refl _)) fun p dd σ1 st1 r k1 d1 => ?_
      cases q : goE p.1 p.2 with
      | none => trivial
      | some xs =>
        obtain ⟨q', e, s⟩ := goE_ok r q
        exact ⟨q', st1, e, s, Kp.refl _, d1⟩
theorem RepO.rep {Z : Nat → Prop} {n : Nat} {st : Store} {v : V} {o : Ow} {d : D} (h : RepO Z n st v o d) : ∃ F, Rep st v d F := by
  obtain ⟨F, a, _⟩ := h; exact ⟨F, a⟩
theorem rr_bl {Z : Nat → Prop} {n : Nat} {st : Store} {σ : Sg} {o : Option Bool} {o' : Option Bool} {f : Bool → Bool} (h : ∀ b, o = some b → o' = some b) (d : DrS σ st) :
    RRel st (fun (p : VO) d st' => RepO Z n st' p.1 p.2 d) (ofVo o σ fun b => (.bl (f b), .own)) (ofO o' st fun b => .bl (f b)) := by
  cases o with
  | none => trivial
  | some b => rw [h b rfl]; exact RRel.ok (RepO.imm (v := .bl (f b)) rfl) d
theorem toI_ok {Z : Nat → Prop} {n : Nat} {st : Store} {σ : Sg} {p : VO} {dd : D} : RepO Z n st p.1 p.2 dd → DrS σ st → RRel st (fun (a b : Option Int) _ => a = b) (toI p.1 σ) (match dd with | .int i => .ok (some i) st | _ => .bad) := by
  intro r d
  obtain ⟨F, r⟩ := r.rep
  unfold toI
  split
  · rename_i i q
    rw [q, Rep] at r
    rw [r.1]
    exact RRel.ok rfl d
  · trivial
theorem vE_lc {elt tg src : E} {ifs : List E} {own : List (String × Nat)} {ρ : VEnv} {σ : Sg} : cE CV (.lc elt tg src ifs own) ρ σ = (csrcV CV src ρ σ).bind fun (xs : List VO) σ =>
    if okS xs.length = true then
      (lcV (fun x σ => match putV tg x (wipeV ρ (own.map (·.2))) with
        | some ρ' => (cIfs CV ifs ρ' σ).bind fun b σ => if b = true then (cE CV elt ρ' σ).bind fun y σ => .ok (some y) σ else .ok none σ
        | none => .bad) xs σ).nox.bind fun ys σ => ofVo (mk ys) σ fun vs => (.lst vs, .own)
    else .bad := by
  cases src <;> rfl
mutual
theorem vE_ok (HC : CallOk C.call CV.call) : ∀ e : E, OkE C CV e := by
  intro e Z n st ρ ρv σ hz h d hn
  cases e with
  | nop => simp only [cE]; trivial
  | rng _ => simp only [cE]; trivial
  | enum _ => simp only [cE]; trivial
  | zip _ _ => simp only [cE]; trivial
  | var i =>
    rw [cE, evE]
    cases q : ρv[i]? with
    | none => trivial
    | some x =>
      cases x with
      | none => trivial
      | some p =>
        obtain ⟨v, o⟩ := p
        obtain ⟨dd, e, F, a, b, c⟩ := h.rep i v o q
        rw [e]
        exact RRel.ok (rdo_o a b c) d
  | cst dd =>
    rw [cE, evE]
    cases q : unemb dd with
    | none => trivial
    | some v =>
      obtain ⟨a, b⟩ := unemb_ok q
      exact RRel.ok (by rw [← b]; exact RepO.imm a) d
  | bin o a b =>
    rw [cE, evE]
    refine RRel.bind (vE_ok HC a hz h d (Nat.le_refl _)) fun p d1 σ1 st1 r1 k1 e1 => ?_
    refine RRel.bind (vE_ok HC b (zl hz k1) (h.kp k1) e1 (Nat.le_refl _)) fun p2 d2 σ2 st2 r2 k2 e2 => ?_
    obtain ⟨F1, a1⟩ := (r1.kp k2).rep
    obtain ⟨F2, a2⟩ := r2.rep
    exact rr_nw (bin_ok a1 a2) e2 (Nat.le_trans hn (Nat.le_trans k1.1 k2.1))
  | cmp o a b =>
    rw [cE, evE]
    refine RRel.bind (vE_ok HC a hz h d (Nat.le_refl _)) fun p d1 σ1 st1 r1 k1 e1 => ?_
    refine RRel.bind (vE_ok HC b (zl hz k1) (h.kp k1) e1 (Nat.le_refl _)) fun p2 d2 σ2 st2 r2 k2 e2 => ?_
    obtain ⟨F1, a1⟩ := (r1.kp k2).rep
    obtain ⟨F2, a2⟩ := r2.rep
    exact rr_bl (f := id) (fun b q => cmp_ok a1 a2 q) e2
  | chain o1 o2 a b c =>
    rw [cE, evE]
    refine RRel.bind (vE_ok HC a hz h d (Nat.le_refl _)) fun p d1 σ1 st1 r1 k1 e1 => ?_
    refine RRel.bind (vE_ok HC b (zl hz k1) (h.kp k1) e1 (Nat.le_refl _)) fun p2 d2 σ2 st2 r2 k2 e2 => ?_
    obtain ⟨F1, a1⟩ := (r1.kp k2).rep
    obtain ⟨F2, a2⟩ := r2.rep
    cases q : cmpV o1 p.1 p2.1 with
    | none => trivial
    | some b =>
      rw [cmp_ok a1 a2 q]
      cases b with
      | false => exact RRel.ok (RepO.imm (v := .bl false) rfl) e2
      | true =>
        refine RRel.bind (vE_ok HC c (zl (zl hz k1) k2) ((h.kp k1).kp k2) e2 (Nat.le_refl _)) fun p3 d3 σ3 st3 r3 k3 e3 => ?_
        obtain ⟨F2, a2⟩ := (r2.kp k3).rep
        obtain ⟨F3, a3⟩ := r3.rep
        exact rr_bl (f := id) (fun b q => cmp_ok a2 a3 q) e3
  | and es => rw [cE, evE]; exact vAnd_ok HC es hz h d hn
  | or es => rw [cE, evE]; exact vOr_ok HC es hz h d hn
  | not a =>
    rw [cE, evE]
    refine RRel.bind (vE_ok HC a hz h d (Nat.le_refl _)) fun p d1 σ1 st1 r1 k1 e1 => ?_
    obtain ⟨F1, a1⟩ := r1.rep
    exact rr_bl (f := fun b => !b) (fun b q => tru_ok a1 q) e1
  | neg a =>
    rw [cE, evE]
    refine RRel.bind (vE_ok HC a hz h d (Nat.le_refl _)) fun p d1 σ1 st1 r1 k1 e1 => ?_
    obtain ⟨F1, a1⟩ := r1.rep
    obtain ⟨v, o⟩ := p
    cases v <;> first | trivial | skip
    rw [Rep] at a1
    rw [a1.1]
    exact RRel.ok (RepO.imm (v := .int _) rfl) e1
  | ife c a b =>
    rw [cE, evE]
    refine RRel.bind (vE_ok HC c hz h d (Nat.le_refl _)) fun p d1 σ1 st1 r1 k1 e1 => ?_
    obtain ⟨F1, a1⟩ := r1.rep
    cases q : truV p.1 with
    | none => trivial
    | some b' =>
      rw [tru_ok a1 q]
      cases b' with
      | false => exact vE_ok HC b (zl hz k1) (h.kp k1) e1 (Nat.le_trans hn k1.1)
      | true => exact vE_ok HC a (zl hz k1) (h.kp k1) e1 (Nat.le_trans hn k1.1)
  | tup es =>
    rw [cE, evE]
    refine RRel.bind (vEs_ok HC es hz h d hn) fun ps ds σ1 st1 r1 k1 e1 => ?_
    rw [r1.len]
    split
    · cases q : DL.mk ps with
      | none => trivial
      | some vs =>
        obtain ⟨F, a, b, c⟩ := r1.mk q
        exact RRel.ok ⟨F, by rw [Rep]; exact ⟨ds, rfl, a⟩, b, fun _ => c, fun z => by cases z⟩ e1
    · trivial
  | lst es =>
    rw [cE, evE]
    refine RRel.bind (vEs_ok HC es hz h d hn) fun ps ds σ1 st1 r1 k1 e1 => ?_
    rw [r1.len]
    split
    · cases q : DL.mk ps with
      | none => trivial
      | some vs =>
        obtain ⟨F, a, b, c⟩ := r1.mk q
        refine ⟨.ref st1.length, st1 ++ [.lst ds], rfl, ⟨st1.length :: F, ?_, ?_, fun _ => ⟨fun l hl => ?_, ?_⟩, fun z => by cases z⟩, Kp.app, e1.app _⟩
        · rw [Rep]
          exact ⟨st1.length, ds, F, rfl, by simp, a.kp b Kp.app, rfl⟩
        · have := e1.two
          simp [b]; omega
        · rcases List.mem_cons.mp hl with rfl | hl
          · exact Nat.le_trans hn k1.1
          · exact c.1 l hl
        · rw [List.nodup_cons]
          exact ⟨fun z => Nat.lt_irrefl _ (a.lt _ z), c.2⟩
    · trivial
  | dic tk =>
    rw [cE, evE]
    refine ⟨.ref st.length, st ++ [.dic tk []], rfl, ⟨[st.length], ?_, ?_, fun _ => ⟨by simpa using hn, by simp⟩, fun z => by cases z⟩, Kp.app, d.app _⟩
    · rw [Rep]
      exact ⟨st.length, [], [], rfl, by simp, by simp [embs], ⟨rfl, rfl⟩, by simp [Reps], rfl⟩
    · have := d.two
      simp; omega
  | ix a b =>
    rw [cE, evE]
    refine RRel.bind (vE_ok HC a hz h d (Nat.le_refl _)) fun p d1 σ1 st1 r1 k1 e1 => ?_
    refine RRel.bind (vE_ok HC b (zl hz k1) (h.kp k1) e1 (Nat.le_refl _)) fun p2 d2 σ2 st2 r2 k2 e2 => ?_
    obtain ⟨F1, a1, n1, _, z1⟩ := r1.kp k2
    obtain ⟨F2, a2⟩ := r2.rep
    cases q : ixV p.1 p2.1 with
    | none => trivial
    | some v =>
      obtain ⟨dd, e, F', r, s⟩ := ix_ok a1 a2 q
      rw [e]
      exact RRel.ok (rdo_o r (fun z => n1 (s _ z)) fun q l hl => z1 q l (s l hl)) e2
  | sl a lo hi =>
    rw [cE, evE]
    refine RRel.bind (vE_ok HC a hz h d (Nat.le_refl _)) fun p d1 σ1 st1 r1 k1 e1 => ?_
    refine RRel.bind (P := fun (a b : Option Int) _ => a = b) ?_ fun l l' σ2 st2 r2 k2 e2 => ?_
    · by_cases hl : isNop lo = true
      · rw [if_pos hl, isNop_eq hl, evP]; exact RRel.ok rfl e1
      · rw [if_neg hl, evP_ne (by simpa using hl)]
        exact RRel.bind (vE_ok HC lo (zl hz k1) (h.kp k1) e1 (Nat.le_refl _)) fun p d1 σ1 st1 r1 k1 e1 => toI_ok r1 e1
    · subst r2
      refine RRel.bind (P := fun (a b : Option Int) _ => a = b) ?_ fun l2 l2' σ3 st3 r3 k3 e3 => ?_
      · by_cases hl : isNop hi = true
        · rw [if_pos hl, isNop_eq hl, evP]; exact RRel.ok rfl e2
        · rw [if_neg hl, evP_ne (by simpa using hl)]
          exact RRel.bind (vE_ok HC hi (zl (zl hz k1) k2) ((h.kp k1).kp k2) e2 (Nat.le_refl _)) fun p d1 σ1 st1 r1 k1 e1 => toI_ok r1 e1
      · subst r3
        obtain ⟨F1, a1⟩ := ((r1.kp k2).kp k3).rep
        exact rr_nw (sl_ok a1) e3 (Nat.le_trans hn (Nat.le_trans k1.1 (Nat.le_trans k2.1 k3.1)))
  | rev a =>
    rw [cE, evE]
    refine RRel.bind (vE_ok HC a hz h d (Nat.le_refl _)) fun p d1 σ1 st1 r1 k1 e1 => ?_
    obtain ⟨F1, a1⟩ := r1.rep
    exact rr_nw (rev_ok a1) e1 (Nat.le_trans hn k1.1)
  | call f es =>
    rw [cE, evE]
    refine RRel.bind (vEs_ok HC es hz h d hn) fun ps ds σ1 st1 r1 k1 e1 => ?_
    obtain ⟨F, a, b, c, z⟩ := r1
    by_cases hf : (ps.all fun q => q.1.imm || q.2 == .fz) = true
    · have := HC f (ps.map (·.1)) ds F Z st1 σ1 a b (z hf) (zl hz k1) e1
      cases q : CV.call f (ps.map (·.1)) σ1 with
      | bad => trivial
      | exc x σ2 => rw [q] at this; exact this
      | ok p σ2 =>
        rw [q] at this
        obtain ⟨dd, st2, e, ⟨F2, a2, b2, c2, z2⟩, k2, e2⟩ := this
        refine ⟨dd, st2, e, ?_, k2, e2⟩
        by_cases hi : p.1.imm = true
        · obtain ⟨rfl, rfl⟩ := (Rep.imm hi).mp a2
          exact RepO.imm hi
        · refine ⟨F2, a2, b2, fun w => ?_, fun w => ?_⟩
          · unfold cao at w
            rw [if_neg hi] at w
            have ho : p.2 = .own := by
              cases q2 : p.2 <;> rw [q2] at w <;> first | rfl | (simp [hf] at w)
            exact ⟨fun l hl => Nat.le_trans hn (Nat.le_trans k1.1 ((c2 ho).1 l hl)), (c2 ho).2⟩
          · unfold cao at w
            rw [if_neg hi] at w
            have ho : p.2 = .fz := by
              cases q2 : p.2 <;> rw [q2] at w <;> first | rfl | (simp [hf] at w)
            exact z2 ho
    · have := HC f (ps.map (·.1)) ds F (fun l => l < st1.length) st1 σ1 a b (fun l hl => a.lt l hl) (fun l hl => hl) e1
      cases q : CV.call f (ps.map (·.1)) σ1 with
      | bad => trivial
      | exc x σ2 => rw [q] at this; exact this
      | ok p σ2 =>
        rw [q] at this
        obtain ⟨dd, st2, e, ⟨F2, a2, b2, c2, z2⟩, k2, e2⟩ := this
        refine ⟨dd, st2, e, ?_, k2, e2⟩
        by_cases hi : p.1.imm = true
        · obtain ⟨rfl, rfl⟩ := (Rep.imm hi).mp a2
          exact RepO.imm hi
        · refine ⟨F2, a2, b2, fun w => ?_, fun w => ?_⟩
          · unfold cao at w
            rw [if_neg hi] at w
            have ho : p.2 = .own := by
              cases q2 : p.2 <;> rw [q2] at w <;> first | rfl | (simp [hf] at w)
            exact ⟨fun l hl => Nat.le_trans hn (Nat.le_trans k1.1 ((c2 ho).1 l hl)), (c2 ho).2⟩
          · unfold cao at w
            rw [if_neg hi] at w
            cases q2 : p.2 <;> rw [q2] at w <;> simp [hf] at w
  | bi b es =>
    rw [cE, evE]
    refine RRel.bind (vEs_ok HC es hz h d hn) fun ps ds σ1 st1 r1 k1 e1 => ?_
    obtain ⟨F, a, _⟩ := r1
    exact rr_nw (bi_ok a) e1 (Nat.le_trans hn k1.1)
  | isi a t =>
    rw [cE, evE]
    refine RRel.bind (vE_ok HC a hz h d (Nat.le_refl _)) fun p d1 σ1 st1 r1 k1 e1 => ?_
    obtain ⟨F1, a1⟩ := r1.rep
    exact rr_bl (f := id) (fun b q => isi_ok a1 q) e1
  | me m a es =>
    rw [cE, evE]
    refine RRel.bind (vE_ok HC a hz h d (Nat.le_refl _)) fun p d1 σ1 st1 r1 k1 e1 => ?_
    by_cases hr : recvV m p.1 = true
    · obtain ⟨F1, a1⟩ := r1.rep
      rw [if_pos hr, if_pos (me_recv a1 hr)]
      refine RRel.bind (vEs_ok HC es (zl hz k1) (h.kp k1) e1 (Nat.le_trans hn k1.1)) fun ps ds σ2 st2 r2 k2 e2 => ?_
      obtain ⟨F1, a1⟩ := (r1.kp k2).rep
      obtain ⟨F, a, _⟩ := r2
      exact rr_nw (me_ok a1 a) e2 (Nat.le_trans hn (Nat.le_trans k1.1 k2.1))
    · rw [if_neg hr]; trivial
  | lc elt tg src ifs own =>
    rw [vE_lc, evE]
    have hs : RRel st (fun xs q st' => SrcR Z st' xs q) (csrcV CV src ρv σ) (evI C ρ src st) :=
      src_ok src (fun _ => vE_ok HC src) (fun es e => by subst e; exact vEs_ok HC es) (fun a e => by subst e; exact vE_ok HC a) hz h d
    refine RRel.bind hs fun xs q σ1 st1 r1 k1 e1 => ?_
    obtain ⟨items, g⟩ := q
    rw [r1.1]
    split
    · refine RRel.bind (P := fun ys ds st' => EsQ Z n st' ys ds) ?_ fun ys ds σ2 st2 r2 k2 e2 => ?_
      · refine RRel.nox (lc_ok r1.2.2.2 r1 e1 (Nat.le_trans hn k1.1) fun p dd st' σ' m k rb dr hm => ?_)
        have hw := (((h.kp k1).kp k).wipe (own.map (·.2)))
        cases q : putV tg p (wipeV ρv (own.map (·.2))) with
        | none => trivial
        | some ρ1 =>
          obtain ⟨ρ', e, h'⟩ := put_ok hw rb q
          rw [e]
          dsimp only
          refine RRel.bind (vIfs_ok HC ifs (zl (zl hz k1) k) h' dr) fun b b' σ3 st3 r3 k3 e3 => ?_
          subst r3
          cases b with
          | false => exact RRel.ok trivial e3
          | true =>
            rw [if_pos rfl, if_pos rfl]
            refine RRel.bind (vE_ok HC elt (zl (zl (zl hz k1) k) k3) (h'.kp k3) e3 (Nat.le_trans hm k3.1)) fun p4 d4 σ4 st4 r4 k4 e4 => ?_
            exact RRel.ok r4 e4
      · cases q : DL.mk ys with
        | none => trivial
        | some vs =>
          obtain ⟨F, a, b, c⟩ := r2.mk q
          refine ⟨.ref st2.length, st2 ++ [.lst ds], rfl, ⟨st2.length :: F, ?_, ?_, fun _ => ⟨fun l hl => ?_, ?_⟩, fun z => by cases z⟩, Kp.app, e2.app _⟩
          · rw [Rep]
            exact ⟨st2.length, ds, F, rfl, by simp, a.kp b Kp.app, rfl⟩
          · have := e2.two
            simp [b]; omega
          · rcases List.mem_cons.mp hl with rfl | hl
            · exact Nat.le_trans hn (Nat.le_trans k1.1 k2.1)
            · exact c.1 l hl
          · rw [List.nodup_cons]
            exact ⟨fun z => Nat.lt_irrefl _ (a.lt _ z), c.2⟩
    · trivial
termination_by e => sizeOf e
theorem vEs_ok (HC : CallOk C.call CV.call) : ∀ es : List E, OkEs C CV es := by
  intro es Z n st ρ ρv σ hz h d hn
  cases es with
  | nil => rw [cEs, evEs]; exact RRel.ok EsQ.nil d
  | cons e es =>
    rw [cEs, evEs]
    refine RRel.bind (vE_ok HC e hz h d hn) fun p d1 σ1 st1 r1 k1 e1 => ?_
    refine RRel.bind (vEs_ok HC es (zl hz k1) (h.kp k1) e1 (Nat.le_refl _)) fun ps ds σ2 st2 r2 k2 e2 => ?_
    exact RRel.ok (EsQ.cons r1 k2 (Nat.le_trans hn k1.1) r2) e2
termination_by es => sizeOf es
theorem vAnd_ok (HC : CallOk C.call CV.call) : ∀ (es : List E) {Z : Nat → Prop} {n : Nat} {st : Store} {ρ : Env} {ρv : VEnv} {σ : Sg}, (∀ l, Z l → l < st.length) → EnvR Z st ρ ρv → DrS σ st → n ≤ st.length →
    RRel st (fun (p : VO) d st' => RepO Z n st' p.1 p.2 d) (cAnd CV es ρv σ) (evAnd C ρ es st) := by
  intro es Z n st ρ ρv σ hz h d hn
  cases es with
  | nil => rw [cAnd, evAnd]; exact RRel.ok (RepO.imm (v := .bl true) rfl) d
  | cons e es =>
    rw [cAnd, evAnd]
    refine RRel.bind (vE_ok HC e hz h d (Nat.le_refl _)) fun p d1 σ1 st1 r1 k1 e1 => ?_
    obtain ⟨F1, a1⟩ := r1.rep
    obtain ⟨v, o⟩ := p
    cases v <;> first | trivial | skip
    rename_i b
    rw [Rep] at a1
    rw [a1.1]
    cases b with
    | false => exact RRel.ok (RepO.imm (v := .bl false) rfl) e1
    | true => exact vAnd_ok HC es (zl hz k1) (h.kp k1) e1 (Nat.le_trans hn k1.1)
termination_by es => sizeOf es
theorem vOr_ok (HC : CallOk C.call CV.call) : ∀ (es : List E) {Z : Nat → Prop} {n : Nat} {st : Store} {ρ : Env} {ρv : VEnv} {σ : Sg}, (∀ l, Z l → l < st.length) → EnvR Z st ρ ρv → DrS σ st → n ≤ st.length →
    RRel st (fun (p : VO) d st' => RepO Z n st' p.1 p.2 d) (cOr CV es ρv σ) (evOr C ρ es st) := by
  intro es Z n st ρ ρv σ hz h d hn
  cases es with
  | nil => rw [cOr, evOr]; exact RRel.ok (RepO.imm (v := .bl false) rfl) d
  | cons e es =>
    rw [cOr, evOr]
    refine RRel.bind (vE_ok HC e hz h d (Nat.le_refl _)) fun p d1 σ1 st1 r1 k1 e1 => ?_
    obtain ⟨F1, a1⟩ := r1.rep
    obtain ⟨v, o⟩ := p
    cases v <;> first | trivial | skip
    rename_i b
    rw [Rep] at a1
    rw [a1.1]
    cases b with
    | true => exact RRel.ok (RepO.imm (v := .bl true) rfl) e1
    | false => exact vOr_ok HC es (zl hz k1) (h.kp k1) e1 (Nat.le_trans hn k1.1)
termination_by es => sizeOf es
theorem vIfs_ok (HC : CallOk C.call CV.call) : ∀ (es : List E) {Z : Nat → Prop} {st : Store} {ρ : Env} {ρv : VEnv} {σ : Sg}, (∀ l, Z l → l < st.length) → EnvR Z st ρ ρv → DrS σ st →
    RRel st (fun (a b : Bool) _ => a = b) (cIfs CV es ρv σ) (evIfs C ρ es st) := by
  intro es Z st ρ ρv σ hz h d
  cases es with
  | nil => rw [cIfs, evIfs]; exact RRel.ok rfl d
  | cons e es =>
    rw [cIfs, evIfs]
    refine RRel.bind (vE_ok HC e hz h d (Nat.le_refl _)) fun p d1 σ1 st1 r1 k1 e1 => ?_
    obtain ⟨F1, a1⟩ := r1.rep
    cases q : truV p.1 with
    | none => trivial
    | some b =>
      rw [tru_ok a1 q]
      cases b with
      | false => exact RRel.ok rfl e1
      | true => exact vIfs_ok HC es (zl hz k1) (h.kp k1) e1
termination_by es => sizeOf es
end
end
end DL

set_option linter.all false
set_option maxRecDepth 100000
set_option maxHeartbeats 1000000
/-! statements and calls over values -/
namespace DL
inductive VS where
  | nx (ρ : VEnv) (σ : Sg)
  | brk (ρ : VEnv) (σ : Sg)
  | cnt (ρ : VEnv) (σ : Sg)
  | ret (p : VO) (σ : Sg)
  | exc (x : VX) (ρ : VEnv) (σ : Sg)
  | bad
@[simp] def VS.of {α : Type} (ρ : VEnv) (r : VR α) (f : α → Sg → VS) : VS :=
  match r with
  | .ok a σ => f a σ
  | .exc x σ => .exc x ρ σ
  | .bad => .bad
@[simp] def VS.bind (r : VS) (f : VEnv → Sg → VS) : VS :=
  match r with
  | .nx ρ σ => f ρ σ
  | r => r
def forV (body : VO → VEnv → Sg → VS) : List VO → VEnv → Sg → VS
  | [], ρ, σ => .nx ρ σ
  | x :: xs, ρ, σ => match body x ρ σ with
    | .nx ρ σ => forV body xs ρ σ
    | .cnt ρ σ => forV body xs ρ σ
    | .brk ρ σ => .nx ρ σ
    | r => r
def whV (c : VEnv → Sg → VR Bool) (body : VEnv → Sg → VS) : Nat → VEnv → Sg → VS
  | 0, _, _ => .bad
  | n + 1, ρ, σ => .of ρ (c ρ σ) fun b σ => if b = true then
      match body ρ σ with
      | .nx ρ σ => whV c body n ρ σ
      | .cnt ρ σ => whV c body n ρ σ
      | .brk ρ σ => .nx ρ σ
      | r => r
    else .nx ρ σ
def isVar : E → Option Nat | .var i => some i | _ => none
/-- what was read off is no longer known where something is written -/
def killV (ρ : VEnv) : VEnv := ρ.map fun x => match x with
  | some (v, .bo) => if v.imm = true then x else none
  | x => x
def setV (ρ : VEnv) (i : Nat) (e : E) (p : VO) : VEnv :=
  match isVar e with
  | some j => match ρ[j]? with
    | some (some (v, .own)) => if v.imm = true then ρ.set i (some p) else (ρ.set j (some (v, .bo))).set i (some (v, .own))
    | _ => ρ.set i (some p)
  | none => ρ.set i (some p)
def idxN (n : Nat) (i : Int) : Option Nat := if 0 ≤ i then some i.toNat else if -(n : Int) ≤ i then some (i + n).toNat else none
/-- a part of a value is another -/
def putP : List V → V → V → Option V
  | [], w, _ => some w
  | k :: ks, w, .lst xs => match k with
    | .int i => match idxN xs.length i with
      | some n => match xs[n]? with
        | some x => match putP ks w x with
          | some x' => some (.lst (xs.set n x'))
          | none => none
        | none => none
      | none => none
    | _ => none
  | k :: ks, w, .dic tk K vs => if keyOkV tk k = true then match posK k K with
      | some n => match vs[n]? with
        | some x => match putP ks w x with
          | some x' => some (.dic tk K (vs.set n x'))
          | none => none
        | none => none
      | none => none
    else none
  | _, _, _ => none
def appV (w x : V) : Option V :=
  match w with
  | .lst xs => if okS xs.length = true then some (.lst (xs ++ [x])) else none
  | _ => none
def setXV (kt : List D) (w k x : V) : Option V :=
  match w with
  | .lst xs => match k with
    | .int j => if 0 ≤ j ∧ j < xs.length then some (.lst (xs.set j.toNat x)) else none
    | _ => none
  | .dic tk ks vs => if okS ks.length = true ∧ keyOkV tk k = true ∧ (kt.any fun d => D.same d (emb k)) = false then match posK k ks with
      | some n => some (.dic tk ks (vs.set n x))
      | none => some (.dic tk (ks ++ [k]) (vs ++ [x]))
    else none
  | _ => none
/-- write at a place -/
def wrV (ρ : VEnv) (i : Nat) (ks : List V) (w : Option V) : Option VEnv :=
  match w with
  | some w => match ρ[i]? with
    | some (some (v, .own)) => match putP ks w v with
      | some v' => some ((killV ρ).set i (some (v', .own)))
      | none => none
    | _ => none
  | none => none
/-- a place: its root, its keys, what stands there -/
def cPath (C : VCtx) : E → VEnv → Sg → VR (Nat × List V × V)
  | .var i, ρ, σ => match ρ[i]? with
    | some (some (v, .own)) => .ok (i, [], v) σ
    | _ => .bad
  | .ix a b, ρ, σ => (cPath C a ρ σ).bind fun q σ => (cE C b ρ σ).bind fun k σ => ofVo (if k.1.imm = true then ixV q.2.2 k.1 else none) σ fun w => (q.1, q.2.1 ++ [k.1], w)
  | _, _, _ => .bad
def evXV (xc : List XCls) (x : VX) : XE → Option V
  | .fld n => x.flds.lookup n
  | .str s => if okS s.length = true then some (.str s) else none
  | .isf c a b => match xc[x.cls]? with
    | some k => if k.up.contains c = true then evXV xc x a else none
    | none => none
def vHs (xc : List XCls) (h : Hs) (x : VX) (ρ : VEnv) (σ : Sg) (i : Nat) : VS :=
  match h with
  | .app j y => match evXV xc x y, ρ[j]? with
    | some d, some (some (v, .own)) => match appV v d with
      | some v' => if i ≠ j then .nx ((killV (ρ.set i none)).set j (some (v', .own))) σ else .bad
      | none => .bad
    | _, _ => .bad
  | .ret y => match evXV xc x y with
    | some d => .ret (d, .own) σ
    | none => .bad
  | .cnt => .cnt (ρ.set i none) σ
mutual
def asgS : S → List Nat
  | .set i e => i :: (match isVar e with | some j => [j] | none => [])
  | .setT tg _ => tgSlots tg
  | .aug i _ _ => [i]
  | .ifs _ a b => asgSs a ++ asgSs b
  | .whl _ b => asgSs b
  | .for tg _ b => tgSlots tg ++ asgSs b
  | .tryA b _ i _ => i :: asgSs b
  | _ => []
def asgSs : List S → List Nat
  | [] => []
  | s :: r => asgS s ++ asgSs r
end
def immL (v : V) : Bool := match v with | .lst xs => V.imms xs | _ => false
/-- a list of one's own that is gone through -/
def lend (ρ : VEnv) (src : E) : Option (Nat × V) :=
  match (match src with | .var i => some i | .enum (.var i) => some i | _ => none) with
  | some i => match ρ[i]? with
    | some (some (v, .own)) => if v.imm = true then none else some (i, v)
    | _ => none
  | none => none
/-- behind a loop: what was lent is not known -/
def dropL (ρ : VEnv) : VEnv := ρ.map fun x => match x with
  | some (_, .lent) => none
  | x => x
def VS.env (f : VEnv → VEnv) : VS → VS
  | .nx ρ σ => .nx (f ρ) σ
  | .brk ρ σ => .brk (f ρ) σ
  | .cnt ρ σ => .cnt (f ρ) σ
  | .ret p σ => .ret p σ
  | .exc x ρ σ => .exc x (f ρ) σ
  | .bad => .bad
def safeV (p : VO) : Bool := p.1.imm || p.2 == .fz
def tmpV (p : VO) : Bool := immL p.1 && p.2 == .own
/-- items, and whether they stand in a list just made -/
def csrcS (CV : VCtx) (src : E) (ρv : VEnv) (σ : Sg) : VR (List VO × Bool) := match src with
      | .rng es => (cEs CV es ρv σ).bind fun xs σ => ofVo (rngV (xs.map (·.1))) σ fun r => (r.map fun x => (x, Ow.own), false)
      | .enum a => (cE CV a ρv σ).bind fun x σ => ofVo (if safeV x = true ∨ tmpV x = true then goE x.1 x.2 else none) σ fun r => (r, !safeV x)
      | s => (cE CV s ρv σ).bind fun x σ => ofVo (if safeV x = true ∨ tmpV x = true then goV x.1 x.2 else none) σ fun r => (r, !safeV x)
/-- what goes out -/
def retV (ρ : VEnv) (e : E) (p : VO) : Option VO :=
  match isVar e with
  | some j => match ρ[j]? with
    | some (some (v, .own)) => some (v, .own)
    | _ => if p.1.imm = true then some (p.1, .own) else if p.2 = .own ∨ p.2 = .fz then some p else none
  | none => if p.1.imm = true then some (p.1, .own) else if p.2 = .own ∨ p.2 = .fz then some p else none
def cT (C : VCtx) (e : E) (ρ : VEnv) (σ : Sg) : VR Bool := (cE C e ρ σ).bind fun x σ => ofVo (truV x.1) σ id
def isLV (v : V) : Bool := match v with | .lst _ => true | _ => false
def isApp : E → Option (E × E) | .me .append a [x] => some (a, x) | _ => none
def wFuel : Nat := 1000000
mutual
def cS (C : VCtx) : S → VEnv → Sg → VS
  | .set i e, ρ, σ => .of ρ (cE C e ρ σ) fun p σ => .nx (setV ρ i e p) σ
  | .setT tg e, ρ, σ => .of ρ (cE C e ρ σ) fun p σ => match putV tg p ρ with
    | some ρ => .nx ρ σ
    | none => .bad
  | .setX a b e, ρ, σ => .of ρ (cE C e ρ σ) fun p σ => .of ρ (cPath C a ρ σ) fun q σ => .of ρ (cE C b ρ σ) fun k σ =>
    if k.1.imm = true ∧ p.2 = .own then match wrV ρ q.1 q.2.1 (setXV C.kt q.2.2 k.1 p.1) with
      | some ρ => .nx ρ σ
      | none => .bad
    else .bad
  | .aug i o e, ρ, σ => match ρ[i]? with
    | some (some (.int x, _)) => .of ρ (cE C e ρ σ) fun p σ => match p.1 with
      | .int y => .of ρ (nw (binV o (.int x) (.int y)) σ) fun p σ => .nx (ρ.set i (some p)) σ
      | _ => .bad
    | _ => .bad
  | .ex e, ρ, σ => match isApp e with
    | some (a, x) => .of ρ (cPath C a ρ σ) fun q σ => if isLV q.2.2 = true then .of ρ (cE C x ρ σ) fun p σ =>
      if p.2 = .own then match wrV ρ q.1 q.2.1 (appV q.2.2 p.1) with
        | some ρ => .nx ρ σ
        | none => .bad
      else .bad else .bad
    | none => .of ρ (cE C e ρ σ) fun _ σ => .nx ρ σ
  | .ret e, ρ, σ => .of ρ (cE C e ρ σ) fun p σ => match retV ρ e p with
    | some p => .ret p σ
    | none => .bad
  | .retN, ρ, σ => .ret (.non, .own) σ
  | .ifs c a b, ρ, σ => .of ρ (cT C c ρ σ) fun k σ => if k = true then cSs C a ρ σ else cSs C b ρ σ
  | .whl c b, ρ, σ => whV (fun ρ σ => cT C c ρ σ) (fun ρ σ => cSs C b ρ σ) wFuel ρ σ
  | .for tg src b, ρ, σ => match lend ρ src with
    | some (i, v) => if immL v = true ∧ (tgSlots tg ++ asgSs b).contains i = false then
        .of ρ (csrcV C src ρ σ) fun xs σ => VS.env (fun ρ => (dropL ρ).set i (some (v, .own))) (forV (fun x ρ σ => match putV tg x ρ with
          | some ρ => cSs C b ρ σ
          | none => .bad) xs (ρ.set i (some (v, .lent))) σ)
      else .bad
    | none => .of ρ (csrcS C src ρ σ) fun q σ => if q.2 = true then VS.env dropL (forV (fun x ρ σ => match putV tg x ρ with
          | some ρ => cSs C b ρ σ
          | none => .bad) q.1 ρ σ) else forV (fun x ρ σ => match putV tg x ρ with
          | some ρ => cSs C b ρ σ
          | none => .bad) q.1 ρ σ
  | .brk, ρ, σ => .brk ρ σ
  | .cnt, ρ, σ => .cnt ρ σ
  | .pas, ρ, σ => .nx ρ σ
  | .rais c es, ρ, σ => .of ρ (cEs C es ρ σ) fun ps σ => match C.xc[c]? with
    | some k => if ps.length = k.flds.length ∧ V.imms (ps.map (·.1)) = true then .exc ⟨c, k.flds.zip (ps.map (·.1))⟩ ρ σ else .bad
    | none => .bad
  | .tryA b c i h, ρ, σ => match cSs C b ρ σ with
    | .exc x ρ σ => if x.cls = c ∧ i < ρ.length then vHs C.xc h x ρ σ i else .bad
    | r => r
def cSs (C : VCtx) : List S → VEnv → Sg → VS
  | [], ρ, σ => .nx ρ σ
  | s :: r, ρ, σ => (cS C s ρ σ).bind fun ρ σ => cSs C r ρ σ
end
/-- one draw -/
def dr1 (σ : Sg) : Sg := if σ.b = 0 ∧ σ.a < σ.ns.length then ⟨σ.ns, σ.a + 1, if 1000000000000000000 ≤ σ.ns.getD σ.a.toNat 0 then σ.ns.getD σ.a.toNat 0 else 0, (σ.c * 48271 + σ.ns.getD σ.a.toNat 0 + 13) % 2147483647⟩ else σ
def drawV (σ : Sg) (n : Int) : Int × Sg :=
  if 0 < (dr1 σ).b then ((dr1 σ).b % n, ⟨(dr1 σ).ns, (dr1 σ).a, (dr1 σ).b / n, (dr1 σ).c⟩)
  else (((dr1 σ).c * 69621 + 7) % 2147483629 / 11 % n, ⟨(dr1 σ).ns, (dr1 σ).a, (dr1 σ).b, ((dr1 σ).c * 69621 + 7) % 2147483629⟩)
theorem drawV_nn (σ : Sg) {n : Int} (h : 1 ≤ n) : 0 ≤ (drawV σ n).1 ∧ (drawV σ n).1 < n := by
  unfold drawV
  split <;> exact ⟨Int.emod_nonneg _ (by omega), Int.emod_lt_of_pos _ (by omega)⟩
def drawC (args : List V) (σ : Sg) : VR VO :=
  match args with
  | [.drw, .int n] => if 1 ≤ n ∧ n < 1073741824 then .ok (.int (drawV σ n).1, .own) (drawV σ n).2 else .bad
  | _ => .bad
def ccall (XC : List XCls) (KT : List D) (T : List Fn) (dr : Nat) : Nat → Nat → List V → Sg → VR VO
  | 0, _, _, _ => .bad
  | k + 1, f, args, σ => if f = dr then drawC args σ
    else match T[f]? with
    | none => .bad
    | some fn => if args.length = fn.np then
        match cSs ⟨XC, KT, ccall XC KT T dr k⟩ fn.body (args.map (fun v => some (v, .fz)) ++ List.replicate (fn.ns - fn.np) none) σ with
        | .ret p σ => .ok p σ
        | .nx _ σ => .ok (.non, .own) σ
        | .exc x _ σ => .exc x σ
        | _ => .bad
      else .bad
end DL

set_option linter.all false
set_option maxRecDepth 100000
set_option maxHeartbeats 1000000
/-! writing at a place -/
namespace DL
theorem Reps.upd {st : Store} : ∀ {xs : List V} {ds : List D} {F : List Nat} {n : Nat} {x : V}, Reps st xs ds F → xs[n]? = some x →
    ∃ dx F1 Fx F2, ds[n]? = some dx ∧ Rep st x dx Fx ∧ F = F1 ++ Fx ++ F2 ∧ ∀ st2 x' dx' Fx', (∀ l ∈ F1 ++ F2, st2[l]? = st[l]?) → Rep st2 x' dx' Fx' → Reps st2 (xs.set n x') (ds.set n dx') (F1 ++ Fx' ++ F2)
  | [], ds, F, n, x, h, e => by simp at e
  | y :: xs, ds, F, n, x, h, e => by
    rw [Reps] at h
    obtain ⟨d, ds', G1, G2, rfl, h1, h2, rfl⟩ := h
    cases n with
    | zero =>
      cases e
      refine ⟨d, [], G1, G2, rfl, h1, by simp, fun st2 x' dx' Fx' hf r => ?_⟩
      rw [List.set_cons_zero, List.set_cons_zero, Reps]
      exact ⟨dx', ds', Fx', G2, rfl, r, h2.frame fun l hl => hf l (by simp [hl]), by simp⟩
    | succ n =>
      obtain ⟨dx, F1, Fx, F2, a, b, rfl, c⟩ := Reps.upd h2 (n := n) (by simpa using e)
      refine ⟨dx, G1 ++ F1, Fx, F2, by simpa using a, b, by simp, fun st2 x' dx' Fx' hf r => ?_⟩
      rw [List.set_cons_succ, List.set_cons_succ, Reps]
      exact ⟨d, _, G1, F1 ++ Fx' ++ F2, rfl, h1.frame fun l hl => hf l (by simp [hl]), c st2 x' dx' Fx' (fun l hl => hf l (by simp at hl ⊢; rcases hl with h | h <;> simp [h])) r, by simp⟩
theorem idx_at {α : Type} {xs : List α} {i : Int} : atD xs i = match idxN xs.length i with | some n => xs[n]? | none => none := by
  unfold atD idxN
  split
  · rfl
  · split <;> rfl
theorem posK_lt {k : V} : ∀ {ks : List V} {n : Nat}, posK k ks = some n → n < ks.length
  | [], n, h => by cases h
  | p :: r, n, h => by
    rw [posK] at h
    split at h
    · cases h; simp
    · cases q : posK k r with
      | none => rw [q] at h; cases h
      | some m => rw [q] at h; cases h; have := posK_lt q; simp; omega
def getV : List V → V → Option V
  | [], v => some v
  | k :: ks, v => match ixV v k with
    | some x => getV ks x
    | none => none
theorem getV_snoc {k : V} : ∀ {ks : List V} {v w : V}, getV ks v = some w → getV (ks ++ [k]) v = ixV w k
  | [], v, w, h => by
    cases h
    rw [List.nil_append, getV]
    cases ixV v k <;> rfl
  | j :: ks, v, w, h => by
    rw [getV] at h
    rw [List.cons_append, getV]
    cases q : ixV v j with
    | none => rw [q] at h; cases h
    | some x => rw [q] at h; exact getV_snoc h
theorem putP_snoc {k x' : V} : ∀ {ks : List V} {v w v' : V}, getV ks v = some w → putP (ks ++ [k]) x' v = some v' → ∃ w', putP [k] x' w = some w' ∧ putP ks w' v = some v'
  | [], v, w, v', h, e => by cases h; exact ⟨v', e, rfl⟩
  | j :: ks, v, w, v', h, e => by
    rw [getV] at h
    rw [List.cons_append] at e
    cases v <;> simp only [putP] at e <;> first | (cases e; done) | skip
    · rename_i xs
      cases j <;> simp only at e <;> first | (cases e; done) | skip
      rename_i i
      rw [ixV, idx_at] at h
      cases q : idxN xs.length i with
      | none => rw [q] at e; cases e
      | some n =>
        rw [q] at e h
        dsimp only at e h
        cases q2 : xs[n]? with
        | none => rw [q2] at e; cases e
        | some x =>
          rw [q2] at e h
          dsimp only at e h
          cases q3 : putP (ks ++ [k]) x' x with
          | none => rw [q3] at e; cases e
          | some y =>
            rw [q3] at e; cases e
            obtain ⟨w', a, b⟩ := putP_snoc h q3
            exact ⟨w', a, by simp only [putP, q, q2, b]⟩
    · rename_i tk K vs
      split at e
      · rename_i c
        rw [ixV] at h
        rw [if_pos c] at h
        cases q : posK j K with
        | none => rw [q] at e; cases e
        | some n =>
          rw [q] at e h
          dsimp only at e h
          cases q2 : vs[n]? with
          | none => rw [q2] at e; cases e
          | some x =>
            rw [q2] at e h
            dsimp only at e h
            cases q3 : putP (ks ++ [k]) x' x with
            | none => rw [q3] at e; cases e
            | some y =>
              rw [q3] at e; cases e
              obtain ⟨w', a, b⟩ := putP_snoc h q3
              exact ⟨w', a, by simp only [putP, if_pos c, q, q2, b]⟩
        all_goals (intros; rename_i z; cases z)
      · cases e
/-- what stands at a place, and how the whole is with another there -/
def Zoom (st : Store) (v : V) (d : D) (F : List Nat) (ks : List V) (w : V) (dw : D) : Prop :=
  getV ks v = some w ∧ ∃ Fw, Rep st w dw Fw ∧ (∀ l ∈ Fw, l ∈ F) ∧ (F.Nodup → Fw.Nodup) ∧
    ∀ st2 w' Fw' v', F.Nodup → (∀ l ∈ F, l ∉ Fw → st2[l]? = st[l]?) → Rep st2 w' dw Fw' → (∀ l ∈ Fw', l ∈ Fw ∨ l ∉ F) → Fw'.Nodup → putP ks w' v = some v' → ∃ F', Rep st2 v' d F' ∧ F'.Nodup ∧ ∀ l ∈ F', l ∈ F ∨ l ∈ Fw'
theorem Zoom.nil {st : Store} {v : V} {d : D} {F : List Nat} (h : Rep st v d F) : Zoom st v d F [] v d := by
  refine ⟨rfl, F, h, fun _ h => h, fun h => h, fun st2 w' Fw' v' hn hf r hs hw e => ?_⟩
  cases e
  exact ⟨Fw', r, hw, fun l hl => .inr hl⟩
theorem Zoom.kp {st st' : Store} {v : V} {d : D} {F : List Nat} {ks : List V} {w : V} {dw : D} (h : Zoom st v d F ks w dw) (n1 : 1 ∉ F) (hl : ∀ l ∈ F, l < st.length) (k : Kp st st') : Zoom st' v d F ks w dw := by
  obtain ⟨g, Fw, a, b, c, e⟩ := h
  refine ⟨g, Fw, a.kp (fun z => n1 (b _ z)) k, b, c, fun st2 w' Fw' v' hn hf r hs hw e' => e st2 w' Fw' v' hn (fun l hl' hl2 => ?_) r hs hw e'⟩
  rw [hf l hl' hl2]
  exact k.2 l (fun z => n1 (z ▸ hl')) (hl l hl')
theorem nodup_mid {A B X Y : List Nat} {l : Nat} (h : (l :: (A ++ X ++ B)).Nodup) (hy : Y.Nodup) (hs : ∀ z ∈ Y, z ∈ X ∨ z ∉ (l :: (A ++ X ++ B))) : (l :: (A ++ Y ++ B)).Nodup := by
  simp only [List.nodup_cons, List.nodup_append, List.mem_append, List.mem_cons, not_or, List.append_assoc] at h ⊢
  obtain ⟨⟨a1, a2, a3⟩, b1, ⟨c1, c2, c3⟩, d⟩ := h
  refine ⟨⟨a1, fun hl => ?_, a3⟩, b1, ⟨hy, c2, fun x hx y hb => ?_⟩, fun x hx y hy' => ?_⟩
  · rcases hs l hl with q | q
    · exact a2 q
    · simp at q
  · rcases hs x hx with q | q
    · exact c3 x q y hb
    · intro z; subst z; simp [hb] at q
  · rcases hy' with q | q
    · rcases hs y q with q | q
      · exact d x hx y (.inl q)
      · intro z; subst z; simp [hx] at q
    · exact d x hx y (.inr q)
/-- one step into a value -/
theorem step_in {st : Store} {w k x : V} {dw : D} {Fw : List Nat} (h : Rep st w dw Fw) (hk : k.imm = true) (e : ixV w k = some x) :
    ∃ dx, ixD dw (emb k) st = some (dx, st) ∧ Zoom st w dw Fw [k] x dx := by
  have hkr : Rep st k (emb k) [] := (Rep.imm hk).mpr ⟨rfl, rfl⟩
  have g : getV [k] w = some x := by rw [getV, e]; rfl
  cases w <;> first | (simp [ixV] at e; done) | skip
  case str s =>
    obtain ⟨dx, a, F', r, s'⟩ := ix_ok h hkr e
    refine ⟨dx, a, g, [], ?_, by simp, by simp, fun st2 w' Fw' v' hn hf r hs hw e => ?_⟩
    · rw [Rep] at h
      rw [h.2] at s'
      have : F' = [] := by cases F' with | nil => rfl | cons z _ => have := s' z (by simp); simp at this
      rw [← this]; exact r
    · simp [putP] at e
  case tup xs =>
    obtain ⟨dx, a, F', r, s'⟩ := ix_ok h hkr e
    rw [Rep] at h
    obtain ⟨ds, rfl, h⟩ := h
    cases k <;> first | (simp [ixV] at e; done) | skip
    rename_i i
    rw [ixV, idx_at] at e
    cases q : idxN xs.length i with
    | none => rw [q] at e; cases e
    | some n =>
      rw [q] at e
      dsimp only at e
      obtain ⟨dx', F1, Fx, F2, b1, b2, rfl, b3⟩ := h.upd e
      have : dx' = dx := by
        unfold ixD at a
        simp only [emb] at a
        rw [idx_at, h.len, q] at a
        dsimp only at a
        rw [b1] at a
        cases a; rfl
      subst this
      refine ⟨dx', a, g, Fx, b2, fun l hl => by simp [hl], fun hn => ?_, fun st2 w' Fw' v' hn hf r hs hw e => ?_⟩
      · simp only [List.nodup_append] at hn; exact hn.1.2.1
      · simp [putP] at e
  case lst xs =>
    rw [Rep] at h
    obtain ⟨l, ds, F', rfl, hl, h, rfl⟩ := h
    cases k <;> first | (simp [ixV] at e; done) | skip
    rename_i i
    rw [ixV, idx_at] at e
    cases q : idxN xs.length i with
    | none => rw [q] at e; cases e
    | some n =>
      rw [q] at e
      dsimp only at e
      obtain ⟨dx, F1, Fx, F2, b1, b2, rfl, b3⟩ := h.upd e
      have a : ixD (.ref l) (emb (.int i)) st = some (dx, st) := by
        unfold ixD
        simp only [emb]
        rw [hl]
        dsimp only
        rw [idx_at, h.len, q]
        dsimp only
        rw [b1]
      refine ⟨dx, a, g, Fx, b2, fun z hz => by simp [hz], fun hn => ?_, fun st2 w' Fw' v' hn hf r hs hw e' => ?_⟩
      · simp only [List.nodup_cons, List.nodup_append] at hn; exact hn.2.1.2.1
      · simp only [putP] at e'
        rw [q] at e'
        dsimp only at e'
        rw [e] at e'
        dsimp only at e'
        cases e'
        have hnn := hn
        simp only [List.nodup_cons, List.nodup_append, List.mem_append, not_or] at hnn
        refine ⟨l :: (F1 ++ Fw' ++ F2), ?_, nodup_mid hn hw hs, fun z hz => ?_⟩
        · rw [Rep]
          refine ⟨l, ds, _, rfl, by rw [hf l (by simp) hnn.1.1.2, hl], ?_, rfl⟩
          have := b3 st2 w' dx Fw' (fun z hz => ?_) r
          · rw [show ds.set n dx = ds from by
              apply List.ext_getElem?
              intro j
              by_cases hj : n = j
              · subst hj; rw [List.getElem?_set_self (List.getElem?_eq_some_iff.mp b1).1, b1]
              · rw [List.getElem?_set_ne hj]] at this
            exact this
          · refine hf z (by simp at hz ⊢; rcases hz with h | h <;> simp [h]) fun hz2 => ?_
            rcases List.mem_append.mp hz with hz | hz
            · exact hnn.2.1.2.2 z hz z hz2 rfl
            · exact hnn.2.2.2 z (.inr hz2) z hz rfl
        · simp at hz ⊢
          rcases hz with h | h | h | h <;> simp [h]
  case dic tk K vs =>
    have a0 := ix_ok h hkr e
    rw [Rep] at h
    obtain ⟨l, kvs, F', rfl, hl, hk1, hi, h, rfl⟩ := h
    rw [ixV] at e
    · split at e
      · rename_i c
        cases q : posK k K with
        | none => rw [q] at e; cases e
        | some n =>
          rw [q] at e
          dsimp only at e
          obtain ⟨dx, F1, Fx, F2, b1, b2, rfl, b3⟩ := h.upd e
          obtain ⟨p, p1, p2⟩ := look_pos hk hk1 hi.1 q
          have hp : p.2 = dx := by
            rw [List.getElem?_map, p1] at b1
            cases b1; rfl
          have a : ixD (.ref l) (emb k) st = some (dx, st) := by
            unfold ixD
            dsimp only
            rw [hl]
            dsimp only
            rw [if_pos (keyOk_ok c).2, p2, hp]
          refine ⟨dx, a, g, Fx, b2, fun z hz => by simp [hz], fun hn => ?_, fun st2 w' Fw' v' hn hf r hs hw e' => ?_⟩
          · simp only [List.nodup_cons, List.nodup_append] at hn; exact hn.2.1.2.1
          · simp only [putP] at e'
            rw [if_pos c, q] at e'
            dsimp only at e'
            rw [e] at e'
            dsimp only at e'
            cases e'
            have hnn := hn
            simp only [List.nodup_cons, List.nodup_append, List.mem_append, not_or] at hnn
            refine ⟨l :: (F1 ++ Fw' ++ F2), ?_, nodup_mid hn hw hs, fun z hz => ?_⟩
            · rw [Rep]
              refine ⟨l, kvs, _, rfl, by rw [hf l (by simp) hnn.1.1.2, hl], hk1, hi, ?_, rfl⟩
              have := b3 st2 w' dx Fw' (fun z hz => ?_) r
              · rw [show (kvs.map (·.2)).set n dx = kvs.map (·.2) from by
                  apply List.ext_getElem?
                  intro j
                  by_cases hj : n = j
                  · subst hj; rw [List.getElem?_set_self (List.getElem?_eq_some_iff.mp b1).1, b1]
                  · rw [List.getElem?_set_ne hj]] at this
                exact this
              · refine hf z (by simp at hz ⊢; rcases hz with h | h <;> simp [h]) fun hz2 => ?_
                rcases List.mem_append.mp hz with hz | hz
                · exact hnn.2.1.2.2 z hz z hz2 rfl
                · exact hnn.2.2.2 z (.inr hz2) z hz rfl
            · simp at hz ⊢
              rcases hz with h | h | h | h <;> simp [h]
      · cases e
    all_goals (intros; rename_i z; cases z)
theorem Zoom.snoc {st : Store} {v : V} {d : D} {F : List Nat} {ks : List V} {w : V} {dw : D} {k x : V} (h : Zoom st v d F ks w dw) (hk : k.imm = true) (e : ixV w k = some x) :
    ∃ dx, ixD dw (emb k) st = some (dx, st) ∧ Zoom st v d F (ks ++ [k]) x dx := by
  obtain ⟨g, Fw, a, b, c, z⟩ := h
  obtain ⟨dx, q, g1, Fx, a1, b1, c1, z1⟩ := step_in a hk e
  refine ⟨dx, q, by rw [getV_snoc g, e], Fx, a1, fun l hl => b l (b1 l hl), fun hn => c1 (c hn), fun st2 w' Fw' v' hn hf r hs hw e' => ?_⟩
  obtain ⟨w2, p1, p2⟩ := putP_snoc g e'
  obtain ⟨F2, r2, n2, s2⟩ := z1 st2 w' Fw' w2 (c hn) (fun l hl hl2 => hf l (b l hl) hl2) r (fun l hl => by
    rcases hs l hl with q | q
    · exact .inl q
    · exact .inr fun z => q (b l z)) hw p1
  obtain ⟨F3, r3, n3, s3⟩ := z st2 w2 F2 v' hn (fun l hl hl2 => hf l hl fun z => hl2 (b1 l z)) r2 (fun l hl => by
    rcases s2 l hl with q | q
    · exact .inl q
    · rcases hs l q with q | q
      · exact .inl (b1 l q)
      · exact .inr q) n2 p2
  refine ⟨F3, r3, n3, fun l hl => ?_⟩
  rcases s3 l hl with q | q
  · exact .inl q
  · rcases s2 l q with q | q
    · exact .inl (b l q)
    · exact .inr q
end DL

set_option linter.all false
set_option maxRecDepth 100000
set_option maxHeartbeats 1000000
namespace DL
theorem nodup_app {A B : List Nat} (h : A.Nodup) (g : B.Nodup) (d : ∀ x ∈ B, x ∉ A) : (A ++ B).Nodup := by
  rw [List.nodup_append]
  exact ⟨h, g, fun x hx y hy e => d y hy (e ▸ hx)⟩
theorem get_set_ne {st : Store} {l j : Nat} {c : Cell} (h : j ≠ l) : (st.set l c)[j]? = st[j]? := List.getElem?_set_ne (Ne.symm h)
theorem app_ok {st : Store} {w p w' : V} {dw dp : D} {Fw Fp : List Nat} (hw : Rep st w dw Fw) (nd : Fw.Nodup) (hp : Rep st p dp Fp) (ndp : Fp.Nodup) (disj : ∀ x ∈ Fp, x ∉ Fw) (e : appV w p = some w') :
    ∃ l c, dw = .ref l ∧ l ∈ Fw ∧ appendD dw [dp] st = some (.non, st.set l c) ∧ isL dw st = true ∧ ∃ Fw', Rep (st.set l c) w' dw Fw' ∧ Fw'.Nodup ∧ ∀ x ∈ Fw', x ∈ Fw ∨ x ∈ Fp := by
  unfold appV at e
  split at e
  · split at e
    · rename_i xs c
      cases e
      rw [Rep] at hw
      obtain ⟨l, ds, F', rfl, hl, h, rfl⟩ := hw
      rw [List.nodup_cons] at nd
      refine ⟨l, .lst (ds ++ [dp]), rfl, by simp, ?_, ?_, l :: (F' ++ Fp), ?_, ?_, fun x hx => ?_⟩
      · unfold appendD; dsimp only; rw [hl]; dsimp only; rw [if_pos (by rw [h.len]; exact c)]
      · unfold isL; dsimp only; rw [hl]
      · rw [Rep]
        refine ⟨l, _, _, rfl, by rw [List.getElem?_set_self (List.getElem?_eq_some_iff.mp hl).1], Reps.app (h.frame fun z hz => get_set_ne fun q => nd.1 (q ▸ hz)) (Reps.one (hp.frame fun z hz => get_set_ne fun q => disj z hz (by simp [q]))), rfl⟩
      · rw [List.nodup_cons]
        refine ⟨fun hz => ?_, nodup_app nd.2 ndp fun x hx hx2 => disj x hx (by simp [hx2])⟩
        rcases List.mem_append.mp hz with hz | hz
        · exact nd.1 hz
        · exact disj l hz (by simp)
      · simp at hx ⊢; rcases hx with h | h | h <;> simp [h]
    · cases e
  · cases e
theorem posK_none {k : V} : ∀ {ks : List V}, posK k ks = none → ∀ x ∈ ks, V.same x k = false
  | [], _, x, hx => by simp at hx
  | p :: r, h, x, hx => by
    rw [posK] at h
    split at h
    · cases h
    · rename_i c
      rcases List.mem_cons.mp hx with rfl | hx
      · simpa using c
      · refine posK_none ?_ x hx
        cases q : posK k r with
        | none => rfl
        | some m => rw [q] at h; cases h
theorem vsame_symm {a b : V} (ha : a.imm = true) (hb : b.imm = true) : V.same a b = V.same b a := by
  rw [vsame_ok ha hb, vsame_ok hb ha]
  by_cases h : emb a = emb b
  · rw [h]
  · rw [same_ff h, same_ff (Ne.symm h)]
theorem nd_snoc {k : V} (hk : k.imm = true) : ∀ {ks : List V}, V.imms ks = true → V.nd ks = true → (∀ x ∈ ks, V.same x k = false) → V.nd (ks ++ [k]) = true
  | [], _, _, _ => rfl
  | p :: r, hi, h, g => by
    rw [V.imms, Bool.and_eq_true] at hi
    rw [V.nd, Bool.and_eq_true] at h
    rw [List.cons_append, V.nd, nd_snoc hk hi.2 h.2 fun x hx => g x (by simp [hx]), List.any_append]
    have := g p (by simp)
    rw [vsame_symm hi.1 hk] at this
    simpa [this] using h.1
theorem put_pos {k : V} (hk : k.imm = true) {dp : D} : ∀ {kvs : List (D × D)} {K : List V} {n : Nat}, kvs.map (·.1) = embs K → V.imms K = true → V.nd K = true → posK k K = some n →
    ((kvs.any fun p => D.same p.1 (emb k)) = true) ∧ (kvs.map fun p => if D.same p.1 (emb k) = true then (p.1, dp) else p).map (·.1) = embs K ∧ (kvs.map fun p => if D.same p.1 (emb k) = true then (p.1, dp) else p).map (·.2) = (kvs.map (·.2)).set n dp
  | [], K, n, h, hi, hn, e => by cases K with | nil => cases e | cons _ _ => cases h
  | p :: r, K, n, h, hi, hn, e => by
    cases K with
    | nil => cases h
    | cons a K =>
      rw [List.map_cons, embs] at h
      rw [V.imms, Bool.and_eq_true] at hi
      rw [V.nd, Bool.and_eq_true] at hn
      injection h with h1 h2
      rw [posK] at e
      split at e
      · rename_i c
        cases e
        have hs : D.same p.1 (emb k) = true := by rw [h1, ← vsame_ok hi.1 hk]; exact c
        have hrest : ∀ q ∈ r, D.same q.1 (emb k) = false := by
          intro q hq
          have hm : q.1 ∈ embs K := by rw [← h2]; exact List.mem_map_of_mem hq
          rw [embs_map, List.mem_map] at hm
          obtain ⟨x, hx, e⟩ := hm
          have hx1 := imms_mem hi.2 hx
          rw [← e, ← vsame_ok hx1 hk]
          have ea : emb a = emb k := same_eq (by rw [← vsame_ok hi.1 hk]; exact c)
          have hn1 : V.same x a = false := by
            have := hn.1
            rw [Bool.not_eq_true'] at this
            rw [List.any_eq_false] at this
            simpa using this x hx
          rw [vsame_ok hx1 hi.1, ea] at hn1
          rw [vsame_ok hx1 hk]; exact hn1
        refine ⟨by rw [List.any_cons, hs]; rfl, ?_, ?_⟩
        · rw [List.map_cons, if_pos hs, List.map_cons, embs, h1]
          congr 1
          rw [← h2]
          rw [List.map_map]
          apply List.map_congr_left
          intro q hq
          simp [hrest q hq]
        · rw [List.map_cons, if_pos hs, List.map_cons, List.map_cons, List.set_cons_zero]
          congr 1
          rw [List.map_map]
          apply List.map_congr_left
          intro q hq
          simp [hrest q hq]
      · rename_i c
        cases q : posK k K with
        | none => rw [q] at e; cases e
        | some m =>
          rw [q] at e; cases e
          have hs : ¬ D.same p.1 (emb k) = true := by rw [h1, ← vsame_ok hi.1 hk]; exact c
          obtain ⟨a1, a2, a3⟩ := put_pos hk h2 hi.2 hn.2 q
          refine ⟨by rw [List.any_cons, a1]; simp, ?_, ?_⟩
          · rw [List.map_cons, if_neg hs, List.map_cons, a2, embs, h1]
          · rw [List.map_cons, if_neg hs, List.map_cons, a3, List.map_cons, List.set_cons_succ]
theorem setX_ok {kt : List D} {st : Store} {w k p w' : V} {dw dp : D} {Fw Fp : List Nat} (hk : k.imm = true) (hw : Rep st w dw Fw) (nd : Fw.Nodup) (hp : Rep st p dp Fp) (ndp : Fp.Nodup) (disj : ∀ x ∈ Fp, x ∉ Fw) (e : setXV kt w k p = some w') :
    ∃ l c, dw = .ref l ∧ l ∈ Fw ∧ setXD kt dw (emb k) dp st = some (st.set l c) ∧ ∃ Fw', Rep (st.set l c) w' dw Fw' ∧ Fw'.Nodup ∧ ∀ x ∈ Fw', x ∈ Fw ∨ x ∈ Fp := by
  cases w <;> simp only [setXV] at e <;> first | (cases e; done) | skip
  · rename_i xs
    rw [Rep] at hw
    obtain ⟨l, ds, F', rfl, hl, h, rfl⟩ := hw
    cases k <;> simp only at e <;> first | (cases e; done) | skip
    rename_i j
    split at e
    · rename_i c
      cases e
      obtain ⟨x, hx⟩ : ∃ x, xs[j.toNat]? = some x := ⟨xs[j.toNat]'(by omega), List.getElem?_eq_getElem (by omega)⟩
      obtain ⟨dx, F1, Fx, F2, b1, b2, rfl, b3⟩ := h.upd hx
      have hnn := nd
      simp only [List.nodup_cons, List.nodup_append, List.mem_append, not_or] at hnn
      refine ⟨l, .lst (ds.set j.toNat dp), rfl, by simp, ?_, l :: (F1 ++ Fp ++ F2), ?_, nodup_mid nd ndp (fun z hz => .inr (disj z hz)), fun x hx => ?_⟩
      · unfold setXD; simp only [emb]; rw [hl]; dsimp only; rw [if_pos ⟨c.1, by rw [h.len]; exact c.2⟩]
      · rw [Rep]
        refine ⟨l, _, _, rfl, by rw [List.getElem?_set_self (List.getElem?_eq_some_iff.mp hl).1], b3 _ p dp Fp (fun z hz => get_set_ne fun q => ?_) (hp.frame fun z hz => get_set_ne fun q => disj z hz (by simp [q])), rfl⟩
        subst q
        rcases List.mem_append.mp hz with hz | hz
        · exact hnn.1.1.1 hz
        · exact hnn.1.2 hz
      · simp at hx ⊢; rcases hx with h | h | h | h <;> simp [h]
    · cases e
  · rename_i tk K vs
    rw [Rep] at hw
    obtain ⟨l, kvs, F', rfl, hl, hk1, hi, h, rfl⟩ := hw
    split at e
    · rename_i c
      have hlen : kvs.length = K.length := by have := congrArg List.length hk1; simpa [embs_len] using this
      have hD : setXD kt (.ref l) (emb k) dp st = some (st.set l (.dic tk (putD (emb k) dp kvs))) := by
        unfold setXD; dsimp only; rw [hl]; dsimp only
        rw [if_pos ⟨by rw [hlen]; exact c.1, (keyOk_ok c.2.1).2, c.2.2⟩]
      rw [List.nodup_cons] at nd
      cases q : posK k K with
      | some n =>
        rw [q] at e; dsimp only at e; cases e
        obtain ⟨x, hx⟩ : ∃ x, vs[n]? = some x := by
          have h1 := posK_lt q
          have h2 := h.len
          rw [List.length_map] at h2
          exact ⟨vs[n]'(by omega), List.getElem?_eq_getElem (by omega)⟩
        obtain ⟨dx, F1, Fx, F2, b1, b2, rfl, b3⟩ := h.upd hx
        obtain ⟨a1, a2, a3⟩ := put_pos (dp := dp) hk hk1 hi.1 hi.2 q
        have hnn := nd
        simp only [List.nodup_append, List.mem_append, not_or] at hnn
        refine ⟨l, _, rfl, by simp, hD, l :: (F1 ++ Fp ++ F2), ?_, nodup_mid (List.nodup_cons.mpr nd) ndp (fun z hz => .inr (disj z hz)), fun x hx => ?_⟩
        · rw [Rep]
          unfold putD
          rw [if_pos a1]
          refine ⟨l, _, _, rfl, by rw [List.getElem?_set_self (List.getElem?_eq_some_iff.mp hl).1], a2, hi, ?_, rfl⟩
          rw [a3]
          refine b3 _ p dp Fp (fun z hz => get_set_ne fun q => ?_) (hp.frame fun z hz => get_set_ne fun q => disj z hz (by simp [q]))
          subst q
          rcases List.mem_append.mp hz with hz | hz
          · exact hnn.1.1.1 hz
          · exact hnn.1.2 hz
        · simp at hx ⊢; rcases hx with h | h | h | h <;> simp [h]
      | none =>
        rw [q] at e; dsimp only at e; cases e
        have hno := posK_none q
        have hany : ¬ (kvs.any fun p => D.same p.1 (emb k)) = true := by
          rw [any_keys (ks := K) hk hk1 hi.1]
          simp only [List.any_eq_true, not_exists, not_and]
          intro x hx; rw [hno x hx]; decide
        refine ⟨l, _, rfl, by simp, hD, l :: (F' ++ Fp), ?_, ?_, fun x hx => ?_⟩
        · rw [Rep]
          unfold putD
          rw [if_neg hany]
          refine ⟨l, _, _, rfl, by rw [List.getElem?_set_self (List.getElem?_eq_some_iff.mp hl).1], ?_, ⟨?_, nd_snoc hk hi.1 hi.2 hno⟩, ?_, rfl⟩
          · rw [List.map_append, hk1, embs_app]; rfl
          · rw [imms_app, hi.1]; simp [V.imms, hk]
          · rw [List.map_append]
            exact Reps.app (h.frame fun z hz => get_set_ne fun q => nd.1 (q ▸ hz)) (Reps.one (hp.frame fun z hz => get_set_ne fun q => disj z hz (by simp [q])))
        · rw [List.nodup_cons]
          refine ⟨fun hz => ?_, nodup_app nd.2 ndp fun x hx hx2 => disj x hx (by simp [hx2])⟩
          rcases List.mem_append.mp hz with hz | hz
          · exact nd.1 hz
          · exact disj l hz (by simp)
        · simp at hx ⊢; rcases hx with h | h | h <;> simp [h]
    · cases e
end DL

set_option linter.all false
set_option maxRecDepth 100000
set_option maxHeartbeats 1000000
/-! statements over values: the invariant -/
namespace DL
structure Inv (Z P : Nat → Prop) (st : Store) (ρ : Env) (ρv : VEnv) (Fs : Nat → List Nat) : Prop where
  len : ρ.length = ρv.length
  rep : ∀ (i : Nat) (v : V) (o : Ow), ρv[i]? = some (some (v, o)) → ∃ d, ρ[i]? = some (some d) ∧ Rep st v d (Fs i) ∧ 1 ∉ Fs i
  own : ∀ (i : Nat) (v : V), ρv[i]? = some (some (v, .own)) → (Fs i).Nodup ∧ ∀ l ∈ Fs i, ¬ P l
  dis : ∀ (i j : Nat) (v w : V), i ≠ j → ρv[i]? = some (some (v, .own)) → ρv[j]? = some (some (w, .own)) → ∀ l ∈ Fs i, l ∉ Fs j
  fz : ∀ (i : Nat) (v : V), ρv[i]? = some (some (v, .fz)) → ∀ l ∈ Fs i, Z l
  lent : ∀ (i : Nat) (v : V), ρv[i]? = some (some (v, .lent)) → ∀ l ∈ Fs i, P l
theorem Inv.env {Z P : Nat → Prop} {st : Store} {ρ : Env} {ρv : VEnv} {Fs : Nat → List Nat} (h : Inv Z P st ρ ρv Fs) : EnvR Z st ρ ρv :=
  ⟨h.len, fun i v o e => by
    obtain ⟨d, a, b, c⟩ := h.rep i v o e
    exact ⟨d, a, Fs i, b, c, fun q => h.fz i v (q ▸ e)⟩⟩
theorem Inv.kp {Z P : Nat → Prop} {st st' : Store} {ρ : Env} {ρv : VEnv} {Fs : Nat → List Nat} (h : Inv Z P st ρ ρv Fs) (k : Kp st st') : Inv Z P st' ρ ρv Fs :=
  ⟨h.len, fun i v o e => by
    obtain ⟨d, a, b, c⟩ := h.rep i v o e
    exact ⟨d, a, b.kp c k, c⟩, h.own, h.dis, h.fz, h.lent⟩
/-- less is known -/
theorem Inv.weak {Z P : Nat → Prop} {st : Store} {ρ : Env} {ρv ρv' : VEnv} {Fs : Nat → List Nat} (h : Inv Z P st ρ ρv Fs) (hl : ρv'.length = ρv.length)
    (hw : ∀ (i : Nat) (v : V) (o : Ow), ρv'[i]? = some (some (v, o)) → ρv[i]? = some (some (v, o)) ∨ (o = .bo ∧ ∃ o', ρv[i]? = some (some (v, o')))) : Inv Z P st ρ ρv' Fs := by
  have hn : ∀ (i : Nat) (v : V) (o : Ow), o ≠ .bo → ρv'[i]? = some (some (v, o)) → ρv[i]? = some (some (v, o)) := fun i v o ho e => (hw i v o e).elim id fun q => absurd q.1 ho
  refine ⟨by rw [hl]; exact h.len, fun i v o e => ?_, fun i v e => h.own i v (hn i v _ (by intro z; cases z) e), fun i j v w ij e1 e2 => h.dis i j v w ij (hn i v _ (by intro z; cases z) e1) (hn j w _ (by intro z; cases z) e2),
    fun i v e => h.fz i v (hn i v _ (by intro z; cases z) e), fun i v e => h.lent i v (hn i v _ (by intro z; cases z) e)⟩
  rcases hw i v o e with q | ⟨_, o', q⟩
  · exact h.rep i v o q
  · exact h.rep i v o' q
def upd (Fs : Nat → List Nat) (i : Nat) (F : List Nat) : Nat → List Nat := fun j => if j = i then F else Fs j
theorem get_set {α : Type} {xs : List α} {i j : Nat} {x y : α} (h : (xs.set i x)[j]? = some y) : (i = j ∧ y = x ∧ i < xs.length) ∨ (i ≠ j ∧ xs[j]? = some y) := by
  by_cases hj : i = j
  · subst hj
    by_cases hl : i < xs.length
    · rw [List.getElem?_set_self hl] at h; cases h; exact .inl ⟨rfl, rfl, hl⟩
    · rw [List.getElem?_eq_none (by simpa using Nat.le_of_not_lt hl)] at h; cases h
  · rw [List.getElem?_set_ne hj] at h; exact .inr ⟨hj, h⟩
/-- a slot has another value -/
theorem Inv.set {Z P : Nat → Prop} {st : Store} {ρ : Env} {ρv : VEnv} {Fs : Nat → List Nat} (h : Inv Z P st ρ ρv Fs) {i : Nat} {v : V} {o : Ow} {d : D} {F : List Nat} (r : Rep st v d F) (n1 : 1 ∉ F)
    (ho : o = .own → F.Nodup ∧ (∀ l ∈ F, ¬ P l) ∧ ∀ (j : Nat) (w : V), j ≠ i → ρv[j]? = some (some (w, .own)) → ∀ l ∈ F, l ∉ Fs j) (hz : o = .fz → ∀ l ∈ F, Z l) (hl : o = .lent → ∀ l ∈ F, P l) :
    Inv Z P st (ρ.set i (some d)) (ρv.set i (some (v, o))) (upd Fs i F) := by
  refine ⟨by simpa using h.len, fun j w o' e => ?_, fun j w e => ?_, fun j k w x jk e1 e2 => ?_, fun j w e => ?_, fun j w e => ?_⟩
  · rcases get_set e with ⟨rfl, e, q⟩ | ⟨hj, e⟩
    · cases e
      exact ⟨d, by rw [List.getElem?_set_self (by rw [h.len]; exact q)], by rw [upd, if_pos rfl]; exact r, by rw [upd, if_pos rfl]; exact n1⟩
    · obtain ⟨d', a, b, c⟩ := h.rep j w o' e
      exact ⟨d', by rw [List.getElem?_set_ne hj]; exact a, by rw [upd, if_neg (Ne.symm hj)]; exact b, by rw [upd, if_neg (Ne.symm hj)]; exact c⟩
  · rcases get_set e with ⟨rfl, e, q⟩ | ⟨hj, e⟩
    · cases e
      rw [upd, if_pos rfl]
      exact ⟨(ho rfl).1, (ho rfl).2.1⟩
    · rw [upd, if_neg (Ne.symm hj)]; exact h.own j w e
  · rcases get_set e1 with ⟨i1, g1, q1⟩ | ⟨hj, g1⟩
    · cases g1
      subst i1
      rcases get_set e2 with ⟨i2, g2, q2⟩ | ⟨hk, g2⟩
      · exact absurd i2 jk
      · rw [upd, if_pos rfl, upd, if_neg (Ne.symm hk)]
        exact (ho rfl).2.2 k x (Ne.symm hk) g2
    · rcases get_set e2 with ⟨i2, g2, q2⟩ | ⟨hk, g2⟩
      · cases g2
        subst i2
        rw [upd, if_neg (Ne.symm hj), upd, if_pos rfl]
        intro l hl1 hl2
        exact (ho rfl).2.2 j w (Ne.symm hj) g1 l hl2 hl1
      · rw [upd, if_neg (Ne.symm hj), upd, if_neg (Ne.symm hk)]
        exact h.dis j k w x jk g1 g2
  · rcases get_set e with ⟨rfl, e, q⟩ | ⟨hj, e⟩
    · cases e
      rw [upd, if_pos rfl]; exact hz rfl
    · rw [upd, if_neg (Ne.symm hj)]; exact h.fz j w e
  · rcases get_set e with ⟨rfl, e, q⟩ | ⟨hj, e⟩
    · cases e
      rw [upd, if_pos rfl]; exact hl rfl
    · rw [upd, if_neg (Ne.symm hj)]; exact h.lent j w e
theorem Inv.setN {Z P : Nat → Prop} {st : Store} {ρ : Env} {ρv : VEnv} {Fs : Nat → List Nat} (h : Inv Z P st ρ ρv Fs) {i : Nat} {x : Option D} : Inv Z P st (ρ.set i x) (ρv.set i none) Fs := by
  have hn : ∀ (j : Nat) (v : V) (o : Ow), (ρv.set i none)[j]? = some (some (v, o)) → i ≠ j ∧ ρv[j]? = some (some (v, o)) := by
    intro j v o e
    rcases get_set e with ⟨_, e, _⟩ | q
    · cases e
    · exact q
  refine ⟨by simpa using h.len, fun j w o' e => ?_, fun j w e => h.own j w (hn j w _ e).2, fun j k w x jk e1 e2 => h.dis j k w x jk (hn j w _ e1).2 (hn k x _ e2).2, fun j w e => h.fz j w (hn j w _ e).2, fun j w e => h.lent j w (hn j w _ e).2⟩
  obtain ⟨ij, e⟩ := hn j w o' e
  obtain ⟨d, a, b⟩ := h.rep j w o' e
  exact ⟨d, by rw [List.getElem?_set_ne ij]; exact a, b⟩
theorem kill_get {ρv : VEnv} {i : Nat} {v : V} {o : Ow} (h : (killV ρv)[i]? = some (some (v, o))) : ρv[i]? = some (some (v, o)) ∧ (o = .bo → v.imm = true) := by
  unfold killV at h
  rw [List.getElem?_map] at h
  cases q : ρv[i]? with
  | none => rw [q] at h; cases h
  | some x =>
    rw [q] at h
    cases x with
    | none => cases h
    | some p =>
      obtain ⟨w, o'⟩ := p
      cases o' <;> simp only [Option.map_some] at h <;> first | (cases h; exact ⟨rfl, fun z => by cases z⟩) | skip
      split at h
      · rename_i c; cases h; exact ⟨rfl, fun _ => c⟩
      · cases h
/-- the store kept where it must not be written -/
def Pr (P : Nat → Prop) (st st' : Store) : Prop := st.length ≤ st'.length ∧ ∀ l, P l → l ≠ 1 → st'[l]? = st[l]?
theorem Pr.refl {P : Nat → Prop} {st : Store} : Pr P st st := ⟨Nat.le_refl _, fun _ _ _ => rfl⟩
theorem Pr.trans {P : Nat → Prop} {a b c : Store} (h : Pr P a b) (g : Pr P b c) : Pr P a c := ⟨Nat.le_trans h.1 g.1, fun l p n => (g.2 l p n).trans (h.2 l p n)⟩
theorem Pr.kp {P : Nat → Prop} {a b : Store} (h : Kp a b) (hp : ∀ l, P l → l < a.length) : Pr P a b := ⟨h.1, fun l p n => h.2 l n (hp l p)⟩
/-- one cell of one's own is written -/
theorem Inv.write {Z P : Nat → Prop} {st : Store} {ρ : Env} {ρv : VEnv} {Fs : Nat → List Nat} (h : Inv Z P st ρ ρv Fs) (zp : ∀ l, Z l → P l) {i : Nat} {v v' : V} {d : D} {l : Nat} {c : Cell} {F' Fp : List Nat} (hi : ρv[i]? = some (some (v, .own))) (hd : ρ[i]? = some (some d))
    (hl : l ∈ Fs i) (r : Rep (st.set l c) v' d F') (nd : F'.Nodup) (hs : ∀ x ∈ F', x ∈ Fs i ∨ x ∈ Fp) (n1 : 1 ∉ Fp) (hp : ∀ x ∈ Fp, ¬ P x) (hf : ∀ (j : Nat) (w : V), ρv[j]? = some (some (w, .own)) → ∀ x ∈ Fp, x ∉ Fs j) :
    Inv Z P (st.set l c) ρ ((killV ρv).set i (some (v', .own))) (upd Fs i F') := by
  have hlP : ¬ P l := (h.own i v hi).2 l hl
  have hil : i < ρv.length := (List.getElem?_eq_some_iff.mp hi).1
  have h2 : Inv Z P (st.set l c) ρ ((killV ρv).set i none) Fs := by
    have hn : ∀ (j : Nat) (w : V) (o : Ow), ((killV ρv).set i none)[j]? = some (some (w, o)) → i ≠ j ∧ ρv[j]? = some (some (w, o)) ∧ (o = .bo → w.imm = true) := by
      intro j w o e
      rcases get_set e with ⟨_, e, _⟩ | ⟨q, e⟩
      · cases e
      · exact ⟨q, kill_get e⟩
    refine ⟨by simpa [killV] using h.len, fun j w o e => ?_, fun j w e => h.own j w (hn j w _ e).2.1, fun j k w x jk e1 e2 => h.dis j k w x jk (hn j w _ e1).2.1 (hn k x _ e2).2.1, fun j w e => h.fz j w (hn j w _ e).2.1, fun j w e => h.lent j w (hn j w _ e).2.1⟩
    obtain ⟨ij, e, hb⟩ := hn j w o e
    obtain ⟨d', a, b, c'⟩ := h.rep j w o e
    refine ⟨d', a, ?_, c'⟩
    refine b.frame fun x hx => get_set_ne fun q => ?_
    subst q
    cases o with
    | own => exact h.dis i j v w ij hi e x hl hx
    | fz => exact hlP (zp _ (h.fz j w e x hx))
    | lent => exact hlP (h.lent j w e x hx)
    | bo =>
      have := ((Rep.imm (hb rfl)).mp b).2
      rw [this] at hx
      simp at hx
  have := h2.set (i := i) (v := v') (o := .own) (d := d) (F := F') r (fun z => by
    rcases hs 1 z with q | q
    · exact (h.rep i v _ hi).choose_spec.2.2 q
    · exact n1 q) (fun _ => ⟨nd, fun x hx => by
      rcases hs x hx with q | q
      · exact (h.own i v hi).2 x q
      · exact hp x q, fun j w ji e x hx => by
      rcases get_set e with ⟨_, e, _⟩ | ⟨q, e⟩
      · cases e
      · rcases hs x hx with q' | q'
        · exact h.dis i j v w q hi (kill_get e).1 x q'
        · exact hf j w (kill_get e).1 x q'⟩) (fun z => by cases z) (fun z => by cases z)
  rw [List.set_set] at this
  rwa [show ρ.set i (some d) = ρ from by
    apply List.ext_getElem?
    intro j
    by_cases hj : i = j
    · subst hj; rw [List.getElem?_set_self (by rw [h.len]; exact hil), hd]
    · rw [List.getElem?_set_ne hj]] at this
def Post (Z P : Nat → Prop) (st st' : Store) (ρ' : Env) (ρv' : VEnv) (σ' : Sg) : Prop := (∃ Fs, Inv Z P st' ρ' ρv' Fs) ∧ DrS σ' st' ∧ Pr P st st'
def RetO (Z P : Nat → Prop) (st : Store) (p : VO) (d : D) : Prop := ∃ F, Rep st p.1 d F ∧ 1 ∉ F ∧ (p.2 = .own → (∀ l ∈ F, ¬ P l) ∧ F.Nodup) ∧ (p.2 = .fz → ∀ l ∈ F, Z l) ∧ (p.2 = .own ∨ p.2 = .fz)
def SRel (Z P : Nat → Prop) (st : Store) : VS → SRes → Prop
  | .nx ρv σ, r => ∃ ρ st', r = .nx ρ st' ∧ Post Z P st st' ρ ρv σ
  | .brk ρv σ, r => ∃ ρ st', r = .brk ρ st' ∧ Post Z P st st' ρ ρv σ
  | .cnt ρv σ, r => ∃ ρ st', r = .cnt ρ st' ∧ Post Z P st st' ρ ρv σ
  | .ret p σ, r => ∃ d st', r = .ret d st' ∧ RetO Z P st' p d ∧ DrS σ st' ∧ Pr P st st'
  | .exc x ρv σ, r => ∃ y ρ st', r = .exc y ρ st' ∧ RX x y ∧ Post Z P st st' ρ ρv σ
  | .bad, _ => True
theorem SRel.pr {Z P : Nat → Prop} {a b : Store} {r : VS} {r' : SRes} (k : Pr P a b) (h : SRel Z P b r r') : SRel Z P a r r' := by
  cases r with
  | bad => trivial
  | nx ρ σ => obtain ⟨ρ', st', e, a1, a2, a3⟩ := h; exact ⟨ρ', st', e, a1, a2, k.trans a3⟩
  | brk ρ σ => obtain ⟨ρ', st', e, a1, a2, a3⟩ := h; exact ⟨ρ', st', e, a1, a2, k.trans a3⟩
  | cnt ρ σ => obtain ⟨ρ', st', e, a1, a2, a3⟩ := h; exact ⟨ρ', st', e, a1, a2, k.trans a3⟩
  | ret p σ => obtain ⟨ρ', st', e, a1, a2, a3⟩ := h; exact ⟨ρ', st', e, a1, a2, k.trans a3⟩
  | exc x ρ σ => obtain ⟨y, ρ', st', e, a0, a1, a2, a3⟩ := h; exact ⟨y, ρ', st', e, a0, a1, a2, k.trans a3⟩
theorem SRel.of {α β : Type} {Z P : Nat → Prop} {st : Store} {ρ : Env} {ρv : VEnv} {Fs : Nat → List Nat} {Q : α → β → Store → Prop} {r : VR α} {r' : Res β} {f : α → Sg → VS} {g : β → Store → SRes} (hP : ∀ l, P l → l < st.length) (hI : Inv Z P st ρ ρv Fs) (h : RRel st Q r r')
    (k : ∀ a b σ st', r = .ok a σ → r' = .ok b st' → Q a b st' → Kp st st' → DrS σ st' → SRel Z P st' (f a σ) (g b st')) : SRel Z P st (VS.of ρv r f) (SRes.of ρ r' g) := by
  cases r with
  | bad => trivial
  | exc x σ =>
    obtain ⟨y, st', rfl, a, b, c⟩ := h
    exact ⟨y, ρ, st', rfl, a, ⟨Fs, hI.kp b⟩, c, Pr.kp b hP⟩
  | ok a σ =>
    obtain ⟨b, st', rfl, p, kp, d⟩ := h
    exact SRel.pr (Pr.kp kp hP) (k a b σ st' rfl rfl p kp d)
theorem SRel.bind {Z P : Nat → Prop} {st : Store} {r : VS} {r' : SRes} {f : VEnv → Sg → VS} {g : Env → Store → SRes} (h : SRel Z P st r r')
    (k : ∀ ρv ρ σ st' Fs, Inv Z P st' ρ ρv Fs → DrS σ st' → Pr P st st' → SRel Z P st' (f ρv σ) (g ρ st')) : SRel Z P st (r.bind f) (r'.bind g) := by
  cases r with
  | bad => trivial
  | nx ρ σ => obtain ⟨ρ', st', rfl, ⟨Fs, a1⟩, a2, a3⟩ := h; exact SRel.pr a3 (k ρ ρ' σ st' Fs a1 a2 a3)
  | brk ρ σ => obtain ⟨ρ', st', rfl, h⟩ := h; exact ⟨ρ', st', rfl, h⟩
  | cnt ρ σ => obtain ⟨ρ', st', rfl, h⟩ := h; exact ⟨ρ', st', rfl, h⟩
  | ret p σ => obtain ⟨ρ', st', rfl, h⟩ := h; exact ⟨ρ', st', rfl, h⟩
  | exc x ρ σ => obtain ⟨y, ρ', st', rfl, h⟩ := h; exact ⟨y, ρ', st', rfl, h⟩
/-- a value just made goes into a slot -/
theorem Inv.setO {Z P : Nat → Prop} {st : Store} {ρ : Env} {ρv : VEnv} {Fs : Nat → List Nat} {n : Nat} (h : Inv Z P st ρ ρv Fs) (hP : ∀ l, P l → l < n) (hF : ∀ (j : Nat) (w : V), ρv[j]? = some (some (w, .own)) → ∀ l ∈ Fs j, l < n) {i : Nat} {p : VO} {d : D} (r : RepO Z n st p.1 p.2 d) (hl : p.2 ≠ .lent) :
    ∃ Fs', Inv Z P st (ρ.set i (some d)) (ρv.set i (some p)) Fs' := by
  obtain ⟨F, a, b, c, z⟩ := r
  exact ⟨_, h.set (o := p.2) a b (fun q => ⟨(c q).2, fun l hl' hp => absurd (hP l hp) (Nat.not_lt.mpr ((c q).1 l hl')), fun j w _ e l hl1 hl2 => absurd (hF j w e l hl2) (Nat.not_lt.mpr ((c q).1 l hl1))⟩) z (fun q => absurd q hl)⟩
end DL

set_option linter.all false
set_option maxRecDepth 100000
set_option maxHeartbeats 1000000
/-! statements over values: what is left, what is lent -/
namespace DL
def Keeps (j : Nat) (ρ : Env) : SRes → Prop
  | .nx ρ' _ => ρ'[j]? = ρ[j]?
  | .brk ρ' _ => ρ'[j]? = ρ[j]?
  | .cnt ρ' _ => ρ'[j]? = ρ[j]?
  | .exc _ ρ' _ => ρ'[j]? = ρ[j]?
  | _ => True
theorem Keeps.trans {j : Nat} {ρ ρ' : Env} {r : SRes} (h : ρ'[j]? = ρ[j]?) (k : Keeps j ρ' r) : Keeps j ρ r := by
  cases r <;> first | trivial | exact Eq.trans k h
theorem Keeps.of {α : Type} {j : Nat} {ρ : Env} {r : Res α} {f : α → Store → SRes} (h : ∀ a st, Keeps j ρ (f a st)) : Keeps j ρ (SRes.of ρ r f) := by
  cases r with
  | ok a st => exact h a st
  | exc x st => exact rfl
  | bad => trivial
mutual
theorem putT_keeps {j : Nat} : ∀ {t : E} {d : D} {ρ ρ' : Env}, j ∉ tgSlots t → putT t d ρ = some ρ' → ρ'[j]? = ρ[j]? := by
  intro t d ρ ρ' h e
  cases t <;> first | (simp [putT] at e; done) | skip
  case var i =>
    rw [putT] at e; cases e
    rw [tgSlots] at h
    rw [List.getElem?_set_ne (by simp at h; omega)]
  case tup ts =>
    cases d <;> first | (simp [putT] at e; done) | skip
    rw [putT] at e
    rw [tgSlots] at h
    exact putTs_keeps h e
theorem putTs_keeps {j : Nat} : ∀ {ts : List E} {ds : List D} {ρ ρ' : Env}, j ∉ tgSlotss ts → putTs ts ds ρ = some ρ' → ρ'[j]? = ρ[j]? := by
  intro ts ds ρ ρ' h e
  cases ts with
  | nil => cases ds with
    | nil => rw [putTs] at e; cases e; rfl
    | cons _ _ => simp [putTs] at e
  | cons t ts => cases ds with
    | nil => simp [putTs] at e
    | cons d ds =>
      rw [putTs] at e
      rw [tgSlotss, List.mem_append, not_or] at h
      cases q : putT t d ρ with
      | none => rw [q] at e; cases e
      | some ρ1 => rw [q] at e; exact (putTs_keeps h.2 e).trans (putT_keeps h.1 q)
end
theorem forL_keeps {j : Nat} {body : D → Env → Store → SRes} {g : Guard} (h : ∀ x ρ st, Keeps j ρ (body x ρ st)) : ∀ {items : List D} {ρ : Env} {st : Store}, Keeps j ρ (forL body g items ρ st)
  | [], ρ, st => by unfold forL; split <;> trivial
  | x :: xs, ρ, st => by
    unfold forL
    split
    · have := h x ρ st
      cases q : body x ρ st with
      | nx ρ' st' => rw [q] at this; exact Keeps.trans this (forL_keeps h)
      | cnt ρ' st' => rw [q] at this; exact Keeps.trans this (forL_keeps h)
      | brk ρ' st' => rw [q] at this; exact this
      | ret _ _ => trivial
      | exc _ _ _ => rw [q] at this; exact this
      | bad => trivial
    · trivial
theorem whN_keeps {j : Nat} {c : Env → Store → Res Bool} {body : Env → Store → SRes} (h : ∀ ρ st, Keeps j ρ (body ρ st)) : ∀ {n : Nat} {ρ : Env} {st : Store}, Keeps j ρ (whN c body n ρ st)
  | 0, ρ, st => trivial
  | n + 1, ρ, st => by
    unfold whN
    refine Keeps.of fun b st => ?_
    split
    · have := h ρ st
      cases q : body ρ st with
      | nx ρ' st' => rw [q] at this; exact Keeps.trans this (whN_keeps h)
      | cnt ρ' st' => rw [q] at this; exact Keeps.trans this (whN_keeps h)
      | brk ρ' st' => rw [q] at this; exact this
      | ret _ _ => trivial
      | exc _ _ _ => rw [q] at this; exact this
      | bad => trivial
    · rfl
theorem whL_keeps {j : Nat} {c : Env → Store → Res Bool} {body : Env → Store → SRes} (h : ∀ ρ st, Keeps j ρ (body ρ st)) {ρ : Env} {st : Store} : Keeps j ρ (whL c body ρ st) := by
  unfold whL
  split
  · exact whN_keeps h
  · trivial
mutual
theorem asg_ok {C : Ctx} {j : Nat} : ∀ (s : S), j ∉ asgS s → ∀ (ρ : Env) (st : Store), Keeps j ρ (evS C s ρ st) := by
  intro s h ρ st
  cases s with
  | set i e =>
    rw [evS]
    rw [asgS, List.mem_cons, not_or] at h
    exact Keeps.of fun a st => by show _ = _; rw [List.getElem?_set_ne (Ne.symm h.1)]
  | setT tg e =>
    rw [evS]
    rw [asgS] at h
    refine Keeps.of fun d st => ?_
    cases q : putT tg d ρ with
    | none => trivial
    | some ρ' => exact putT_keeps h q
  | setX a b e =>
    rw [evS]
    refine Keeps.of fun d st => Keeps.of fun x st => Keeps.of fun y st => ?_
    cases q : setXD C.kt x y d st with
    | none => trivial
    | some st' => exact rfl
  | aug i o e =>
    rw [evS]
    rw [asgS] at h
    cases q : ρ[i]? with
    | none => trivial
    | some x =>
      cases x with
      | none => trivial
      | some x =>
        refine Keeps.of fun y st => ?_
        cases x <;> cases y <;> first | trivial | skip
        exact Keeps.of fun a st => by show _ = _; rw [List.getElem?_set_ne (by simp at h; omega)]
  | ex e => rw [evS]; exact Keeps.of fun a st => rfl
  | ret e => rw [evS]; exact Keeps.of fun a st => trivial
  | retN => rw [evS]; trivial
  | ifs c a b =>
    rw [evS]
    rw [asgS, List.mem_append, not_or] at h
    refine Keeps.of fun k st => ?_
    split
    · exact asgs_ok a h.1 ρ st
    · exact asgs_ok b h.2 ρ st
  | whl c b =>
    rw [evS]
    rw [asgS] at h
    exact whL_keeps fun ρ st => asgs_ok b h ρ st
  | «for» tg src b =>
    rw [evS]
    rw [asgS, List.mem_append, not_or] at h
    refine Keeps.of fun p st => forL_keeps fun x ρ st => ?_
    cases q : putT tg x ρ with
    | none => trivial
    | some ρ' => exact Keeps.trans (putT_keeps h.1 q) (asgs_ok b h.2 ρ' st)
  | brk => rw [evS]; exact rfl
  | cnt => rw [evS]; exact rfl
  | pas => rw [evS]; exact rfl
  | rais c es =>
    rw [evS]
    refine Keeps.of fun ds st => ?_
    cases q : C.xc[c]? with
    | none => trivial
    | some k =>
      dsimp only
      split
      · exact rfl
      · trivial
  | tryA b c i hd =>
    rw [evS]
    rw [asgS, List.mem_cons, not_or] at h
    have hb := asgs_ok (C := C) b h.2 ρ st
    cases q : evSs C b ρ st with
    | nx _ _ => rw [q] at hb; exact hb
    | brk _ _ => rw [q] at hb; exact hb
    | cnt _ _ => rw [q] at hb; exact hb
    | ret _ _ => trivial
    | bad => trivial
    | exc x ρ' st' =>
      rw [q] at hb
      dsimp only
      split
      · have hs : (ρ'.set i none)[j]? = ρ[j]? := by rw [List.getElem?_set_ne (Ne.symm h.1)]; exact hb
        cases hd with
        | cnt => exact hs
        | ret y =>
          unfold evHs
          dsimp only
          split <;> trivial
        | app k y =>
          unfold evHs
          dsimp only
          split
          · split
            · split
              · exact hs
              · trivial
            · trivial
          · trivial
      · trivial
theorem asgs_ok {C : Ctx} {j : Nat} : ∀ (s : List S), j ∉ asgSs s → ∀ (ρ : Env) (st : Store), Keeps j ρ (evSs C s ρ st) := by
  intro s h ρ st
  cases s with
  | nil => rw [evSs]; exact rfl
  | cons s r =>
    rw [evSs]
    rw [asgSs, List.mem_append, not_or] at h
    have hb := asg_ok (C := C) s h.1 ρ st
    cases q : evS C s ρ st with
    | nx ρ' st' => rw [q] at hb; exact Keeps.trans hb (asgs_ok r h.2 ρ' st')
    | brk _ _ => rw [q] at hb; exact hb
    | cnt _ _ => rw [q] at hb; exact hb
    | ret _ _ => trivial
    | bad => trivial
    | exc _ _ _ => rw [q] at hb; exact hb
end
/-! no value that is lent comes of an expression -/
theorem vbind {α β : Type} {r : VR α} {f : α → Sg → VR β} {b : β} {σ : Sg} (h : r.bind f = .ok b σ) : ∃ a σ1, r = .ok a σ1 ∧ f a σ1 = .ok b σ := by
  cases r with
  | ok a σ1 => exact ⟨a, σ1, rfl, h⟩
  | exc _ _ => cases h
  | bad => cases h
theorem nw_own {o : Option V} {σ σ' : Sg} {p : VO} (h : nw o σ = .ok p σ') : p.2 = .own := by
  cases o with
  | none => cases h
  | some v => cases h; rfl
theorem ofVo_inv {α β : Type} {o : Option α} {σ σ' : Sg} {f : α → β} {p : β} (h : ofVo o σ f = .ok p σ') : ∃ a, p = f a := by
  cases o with
  | none => cases h
  | some v => cases h; exact ⟨v, rfl⟩
theorem rdo_nl (o : Ow) (v : V) : rdo o v ≠ .lent := by
  unfold rdo
  split
  · intro z; cases z
  · cases o <;> (intro z; cases z)
theorem cao_nl (xs : List VO) (p : VO) : (cao xs p).2 ≠ .lent := by
  unfold cao
  dsimp only
  split
  · intro z; cases z
  · split
    · intro z; cases z
    · split <;> (intro z; cases z)
    · intro z; cases z
mutual
theorem vE_nl {CV : VCtx} : ∀ (e : E) {ρ : VEnv} {σ σ' : Sg} {p : VO}, cE CV e ρ σ = .ok p σ' → p.2 ≠ .lent := by
  intro e ρ σ σ' p h
  cases e with
  | nop => simp [cE] at h
  | rng _ => simp [cE] at h
  | enum _ => simp [cE] at h
  | zip _ _ => simp [cE] at h
  | var i =>
    rw [cE] at h
    split at h
    · cases h; exact rdo_nl _ _
    · cases h
  | cst d => rw [cE] at h; rw [nw_own h]; intro z; cases z
  | bin o a b =>
    rw [cE] at h
    obtain ⟨_, _, _, h⟩ := vbind h
    obtain ⟨_, _, _, h⟩ := vbind h
    rw [nw_own h]; intro z; cases z
  | cmp o a b =>
    rw [cE] at h
    obtain ⟨_, _, _, h⟩ := vbind h
    obtain ⟨_, _, _, h⟩ := vbind h
    obtain ⟨_, rfl⟩ := ofVo_inv h
    intro z; cases z
  | chain o1 o2 a b c =>
    rw [cE] at h
    obtain ⟨_, _, _, h⟩ := vbind h
    obtain ⟨_, _, _, h⟩ := vbind h
    split at h
    · obtain ⟨_, _, _, h⟩ := vbind h
      obtain ⟨_, rfl⟩ := ofVo_inv h
      intro z; cases z
    · cases h; intro z; cases z
    · cases h
  | and es => rw [cE] at h; exact vAnd_nl es h
  | or es => rw [cE] at h; exact vOr_nl es h
  | not a =>
    rw [cE] at h
    obtain ⟨_, _, _, h⟩ := vbind h
    obtain ⟨_, rfl⟩ := ofVo_inv h
    intro z; cases z
  | neg a =>
    rw [cE] at h
    obtain ⟨_, _, _, h⟩ := vbind h
    split at h
    · cases h; intro z; cases z
    · cases h
  | ife c a b =>
    rw [cE] at h
    obtain ⟨_, _, _, h⟩ := vbind h
    split at h
    · exact vE_nl a h
    · exact vE_nl b h
    · cases h
  | tup es =>
    rw [cE] at h
    obtain ⟨_, _, _, h⟩ := vbind h
    split at h
    · obtain ⟨_, rfl⟩ := ofVo_inv h
      intro z; cases z
    · cases h
  | lst es =>
    rw [cE] at h
    obtain ⟨_, _, _, h⟩ := vbind h
    split at h
    · obtain ⟨_, rfl⟩ := ofVo_inv h
      intro z; cases z
    · cases h
  | dic tk => rw [cE] at h; cases h; intro z; cases z
  | ix a b =>
    rw [cE] at h
    obtain ⟨_, _, _, h⟩ := vbind h
    obtain ⟨_, _, _, h⟩ := vbind h
    obtain ⟨_, rfl⟩ := ofVo_inv h
    exact rdo_nl _ _
  | sl a lo hi =>
    rw [cE] at h
    obtain ⟨_, _, _, h⟩ := vbind h
    obtain ⟨_, _, _, h⟩ := vbind h
    obtain ⟨_, _, _, h⟩ := vbind h
    rw [nw_own h]; intro z; cases z
  | rev a =>
    rw [cE] at h
    obtain ⟨_, _, _, h⟩ := vbind h
    rw [nw_own h]; intro z; cases z
  | call f es =>
    rw [cE] at h
    obtain ⟨_, _, _, h⟩ := vbind h
    obtain ⟨_, _, _, h⟩ := vbind h
    cases h
    exact cao_nl _ _
  | bi b es =>
    rw [cE] at h
    obtain ⟨_, _, _, h⟩ := vbind h
    rw [nw_own h]; intro z; cases z
  | isi a t =>
    rw [cE] at h
    obtain ⟨_, _, _, h⟩ := vbind h
    obtain ⟨_, rfl⟩ := ofVo_inv h
    intro z; cases z
  | me m a es =>
    rw [cE] at h
    obtain ⟨_, _, _, h⟩ := vbind h
    split at h
    · obtain ⟨_, _, _, h⟩ := vbind h
      rw [nw_own h]; intro z; cases z
    · cases h
  | lc elt tg src ifs own =>
    rw [vE_lc] at h
    obtain ⟨_, _, _, h⟩ := vbind h
    split at h
    · obtain ⟨_, _, _, h⟩ := vbind h
      obtain ⟨_, rfl⟩ := ofVo_inv h
      intro z; cases z
    · cases h
theorem vAnd_nl {CV : VCtx} : ∀ (es : List E) {ρ : VEnv} {σ σ' : Sg} {p : VO}, cAnd CV es ρ σ = .ok p σ' → p.2 ≠ .lent := by
  intro es ρ σ σ' p h
  cases es with
  | nil => rw [cAnd] at h; cases h; intro z; cases z
  | cons e es =>
    rw [cAnd] at h
    obtain ⟨_, _, _, h⟩ := vbind h
    split at h
    · exact vAnd_nl es h
    · cases h; intro z; cases z
    · cases h
theorem vOr_nl {CV : VCtx} : ∀ (es : List E) {ρ : VEnv} {σ σ' : Sg} {p : VO}, cOr CV es ρ σ = .ok p σ' → p.2 ≠ .lent := by
  intro es ρ σ σ' p h
  cases es with
  | nil => rw [cOr] at h; cases h; intro z; cases z
  | cons e es =>
    rw [cOr] at h
    obtain ⟨_, _, _, h⟩ := vbind h
    split at h
    · cases h; intro z; cases z
    · exact vOr_nl es h
    · cases h
end
end DL

set_option linter.all false
set_option maxRecDepth 100000
set_option maxHeartbeats 1000000
/-! statements over values -/
namespace DL
theorem Inv.drop {Z P P' : Nat → Prop} {st : Store} {ρ : Env} {ρv : VEnv} {Fs : Nat → List Nat} (h : Inv Z P' st ρ ρv Fs) (pp : ∀ l, P l → P' l) : Inv Z P st ρ (dropL ρv) Fs := by
  have hn : ∀ (i : Nat) (v : V) (o : Ow), (dropL ρv)[i]? = some (some (v, o)) → ρv[i]? = some (some (v, o)) ∧ o ≠ .lent := by
    intro i v o e
    unfold dropL at e
    rw [List.getElem?_map] at e
    cases q : ρv[i]? with
    | none => rw [q] at e; cases e
    | some x =>
      rw [q] at e
      cases x with
      | none => cases e
      | some p =>
        obtain ⟨w, o'⟩ := p
        cases o' <;> simp only [Option.map_some] at e <;> cases e <;> exact ⟨rfl, by intro z; cases z⟩
  refine ⟨by simpa [dropL] using h.len, fun i v o e => h.rep i v o (hn i v o e).1, fun i v e => ?_, fun i j v w ij e1 e2 => h.dis i j v w ij (hn i v _ e1).1 (hn j w _ e2).1, fun i v e => h.fz i v (hn i v _ e).1, fun i v e => absurd rfl (hn i v _ e).2⟩
  obtain ⟨a, b⟩ := h.own i v (hn i v _ e).1
  exact ⟨a, fun l hl hp => b l hl (pp l hp)⟩
theorem Pr.weak {P P' : Nat → Prop} {a b : Store} (h : Pr P' a b) (pp : ∀ l, P l → P' l) : Pr P a b := ⟨h.1, fun l p n => h.2 l (pp l p) n⟩
/-- behind a loop that protects more; the environments by f -/
theorem SRel.env {Z P P' : Nat → Prop} {st : Store} {r : VS} {r' : SRes} {f : VEnv → VEnv} (h : SRel Z P' st r r') (pp : ∀ l, P l → P' l)
    (k : ∀ ρv ρ st' Fs, (∃ y : SRes, y = r' ∧ ((∃ s, y = .nx ρ s) ∨ (∃ s, y = .brk ρ s) ∨ (∃ s, y = .cnt ρ s) ∨ (∃ x s, y = .exc x ρ s))) → Inv Z P' st' ρ ρv Fs → Pr P' st st' → ∃ Fs', Inv Z P st' ρ (f ρv) Fs') : SRel Z P st (VS.env f r) r' := by
  cases r with
  | bad => trivial
  | nx ρv σ => obtain ⟨ρ, st', e, ⟨Fs, a1⟩, a2, a3⟩ := h; exact ⟨ρ, st', e, k ρv ρ st' Fs ⟨_, rfl, .inl ⟨_, e⟩⟩ a1 a3, a2, a3.weak pp⟩
  | brk ρv σ => obtain ⟨ρ, st', e, ⟨Fs, a1⟩, a2, a3⟩ := h; exact ⟨ρ, st', e, k ρv ρ st' Fs ⟨_, rfl, .inr (.inl ⟨_, e⟩)⟩ a1 a3, a2, a3.weak pp⟩
  | cnt ρv σ => obtain ⟨ρ, st', e, ⟨Fs, a1⟩, a2, a3⟩ := h; exact ⟨ρ, st', e, k ρv ρ st' Fs ⟨_, rfl, .inr (.inr (.inl ⟨_, e⟩))⟩ a1 a3, a2, a3.weak pp⟩
  | ret p σ =>
    obtain ⟨d, st', e, ⟨F, b1, b2, b3, b4, b5⟩, a2, a3⟩ := h
    exact ⟨d, st', e, ⟨F, b1, b2, fun q => ⟨fun l hl hp => (b3 q).1 l hl (pp l hp), (b3 q).2⟩, b4, b5⟩, a2, a3.weak pp⟩
  | exc x ρv σ => obtain ⟨y, ρ, st', e, b, ⟨Fs, a1⟩, a2, a3⟩ := h; exact ⟨y, ρ, st', e, b, k ρv ρ st' Fs ⟨_, rfl, .inr (.inr (.inr ⟨_, _, e⟩))⟩ a1 a3, a2, a3.weak pp⟩
theorem rep_pr {Z P : Nat → Prop} {st st' : Store} {v : V} {d : D} {F : List Nat} (r : Rep st v d F) (n1 : 1 ∉ F) (hf : ∀ l ∈ F, P l) (k : Pr P st st') : Rep st' v d F :=
  r.frame fun l hl => k.2 l (hf l hl) fun z => n1 (z ▸ hl)
/-- a loop through items -/
theorem for_ok {Z P : Nat → Prop} (zp : ∀ l, Z l → P l) {bodyV : VO → VEnv → Sg → VS} {bodyD : D → Env → Store → SRes} {g : Guard} (hg : ∀ l ys, g = some (l, ys) → P l ∧ l ≠ 1)
    (hb : ∀ (p : VO) (d : D) (st : Store) (ρ : Env) (ρv : VEnv) (Fs : Nat → List Nat) (σ : Sg), (∀ l, P l → l < st.length) → RepB Z st p.1 p.2 d → p.2 ≠ .lent → (p.2 = .own → p.1.imm = true) → Inv Z P st ρ ρv Fs → DrS σ st → SRel Z P st (bodyV p ρv σ) (bodyD d ρ st)) :
    ∀ {xs : List VO} {items : List D} {st : Store} {ρ : Env} {ρv : VEnv} {Fs : Nat → List Nat} {σ : Sg}, (∀ l, P l → l < st.length) → SrcR Z st xs (items, g) → (∀ p ∈ xs, (p.1.imm = true ∨ p.2 = .fz) ∧ p.2 ≠ .lent) → Inv Z P st ρ ρv Fs → DrS σ st → SRel Z P st (forV bodyV xs ρv σ) (forL bodyD g items ρ st) := by
  intro xs
  induction xs with
  | nil =>
    intro items st ρ ρv Fs σ hP h hs hI d
    obtain rfl : items = [] := List.length_eq_zero_iff.mp h.1
    unfold forL
    rw [if_pos h.2.2.1]
    exact ⟨ρ, st, rfl, ⟨Fs, hI⟩, d, Pr.refl⟩
  | cons x xs ih =>
    intro items st ρ ρv Fs σ hP h hs hI d
    cases items with
    | nil => cases h.1
    | cons y ys =>
      unfold forL
      rw [if_pos h.2.2.1, forV]
      obtain ⟨d0, q0, r0⟩ := h.2.1 0 x rfl
      cases q0
      have hx := hs x (by simp)
      have hb0 := hb x y st ρ ρv Fs σ hP r0 hx.2 (fun e => hx.1.elim id fun z => by rw [z] at e; cases e) hI d
      have next : ∀ (ρv' : VEnv) (ρ' : Env) (σ' : Sg) (st' : Store), Post Z P st st' ρ' ρv' σ' → SRel Z P st (forV bodyV xs ρv' σ') (forL bodyD g ys ρ' st') := by
        intro ρv' ρ' σ' st' ⟨⟨Fs', a1⟩, a2, a3⟩
        refine SRel.pr a3 (ih (fun l hl => Nat.lt_of_lt_of_le (hP l hl) a3.1) ⟨by have := h.1; simpa using this, fun i p e => ?_, ?_, h.2.2.2⟩ (fun p hp => hs p (by simp [hp])) a1 a2)
        · obtain ⟨dd, e1, F, r, n1, z⟩ := h.2.1 (i + 1) p (by simpa using e)
          refine ⟨dd, by simpa using e1, F, ?_, n1, z⟩
          rcases (hs p (by simp [mem_some e])).1 with q | q
          · rw [((Rep.imm q).mp r).1, ((Rep.imm q).mp r).2]; exact (Rep.imm q).mpr ⟨rfl, rfl⟩
          · exact r.frame fun l hl => a3.2 l (zp l (z q l hl)) fun w => n1 (w ▸ hl)
        · cases g with
          | none => trivial
          | some q =>
            obtain ⟨l, zs⟩ := q
            obtain ⟨b1, b2⟩ := hg l zs rfl
            show st'[l]? = _
            rw [a3.2 l b1 b2]
            exact h.2.2.1
      cases q : bodyV x ρv σ with
      | bad => trivial
      | nx ρv' σ' => rw [q] at hb0; obtain ⟨ρ', st', e, hp⟩ := hb0; rw [e]; exact next _ _ _ _ hp
      | cnt ρv' σ' => rw [q] at hb0; obtain ⟨ρ', st', e, hp⟩ := hb0; rw [e]; exact next _ _ _ _ hp
      | brk ρv' σ' => rw [q] at hb0; obtain ⟨ρ', st', e, hp⟩ := hb0; rw [e]; exact ⟨ρ', st', rfl, hp⟩
      | ret p σ' => rw [q] at hb0; obtain ⟨ρ', st', e, hp⟩ := hb0; rw [e]; exact ⟨ρ', st', rfl, hp⟩
      | exc z ρv' σ' => rw [q] at hb0; obtain ⟨y', ρ', st', e, hp⟩ := hb0; rw [e]; exact ⟨y', ρ', st', rfl, hp⟩
/-- a while -/
theorem wh_ok {Z P : Nat → Prop} {cV : VEnv → Sg → VR Bool} {bodyV : VEnv → Sg → VS} {cD : Env → Store → Res Bool} {bodyD : Env → Store → SRes}
    (hc : ∀ (st : Store) (ρ : Env) (ρv : VEnv) (Fs : Nat → List Nat) (σ : Sg), (∀ l, P l → l < st.length) → Inv Z P st ρ ρv Fs → DrS σ st → RRel st (fun (a b : Bool) _ => a = b) (cV ρv σ) (cD ρ st))
    (hb : ∀ (st : Store) (ρ : Env) (ρv : VEnv) (Fs : Nat → List Nat) (σ : Sg), (∀ l, P l → l < st.length) → Inv Z P st ρ ρv Fs → DrS σ st → SRel Z P st (bodyV ρv σ) (bodyD ρ st)) :
    ∀ (n : Nat) {st : Store} {ρ : Env} {ρv : VEnv} {Fs : Nat → List Nat} {σ : Sg}, (∀ l, P l → l < st.length) → Inv Z P st ρ ρv Fs → DrS σ st → SRel Z P st (whV cV bodyV n ρv σ) (whN cD bodyD n ρ st)
  | 0, st, ρ, ρv, Fs, σ, hP, hI, d => trivial
  | n + 1, st, ρ, ρv, Fs, σ, hP, hI, d => by
    unfold whV whN
    refine SRel.of hP hI (hc st ρ ρv Fs σ hP hI d) fun a b σ1 st1 _ _ e k d1 => ?_
    subst e
    cases a with
    | false => exact ⟨ρ, st1, rfl, ⟨Fs, hI.kp k⟩, d1, Pr.refl⟩
    | true =>
      rw [if_pos rfl, if_pos rfl]
      have hP1 : ∀ l, P l → l < st1.length := fun l hl => Nat.lt_of_lt_of_le (hP l hl) k.1
      have hb0 := hb st1 ρ ρv Fs σ1 hP1 (hI.kp k) d1
      have next : ∀ (ρv' : VEnv) (ρ' : Env) (σ' : Sg) (st' : Store), Post Z P st1 st' ρ' ρv' σ' → SRel Z P st1 (whV cV bodyV n ρv' σ') (whN cD bodyD n ρ' st') := by
        intro ρv' ρ' σ' st' ⟨⟨Fs', a1⟩, a2, a3⟩
        exact SRel.pr a3 (wh_ok hc hb n (fun l hl => Nat.lt_of_lt_of_le (hP1 l hl) a3.1) a1 a2)
      cases q : bodyV ρv σ1 with
      | bad => trivial
      | nx ρv' σ' => rw [q] at hb0; obtain ⟨ρ', st', e, hp⟩ := hb0; rw [e]; exact next _ _ _ _ hp
      | cnt ρv' σ' => rw [q] at hb0; obtain ⟨ρ', st', e, hp⟩ := hb0; rw [e]; exact next _ _ _ _ hp
      | brk ρv' σ' => rw [q] at hb0; obtain ⟨ρ', st', e, hp⟩ := hb0; rw [e]; exact ⟨ρ', st', rfl, hp⟩
      | ret p σ' => rw [q] at hb0; obtain ⟨ρ', st', e, hp⟩ := hb0; rw [e]; exact ⟨ρ', st', rfl, hp⟩
      | exc z ρv' σ' => rw [q] at hb0; obtain ⟨y', ρ', st', e, hp⟩ := hb0; rw [e]; exact ⟨y', ρ', st', rfl, hp⟩
theorem SRel.nb {Z P : Nat → Prop} {st : Store} {r : VS} {r' : SRes} (h : SRel Z P st r r') (hr : r ≠ .bad) : r' ≠ .bad := by
  cases r with
  | bad => exact absurd rfl hr
  | nx _ _ => obtain ⟨_, _, e, _⟩ := h; rw [e]; intro z; cases z
  | brk _ _ => obtain ⟨_, _, e, _⟩ := h; rw [e]; intro z; cases z
  | cnt _ _ => obtain ⟨_, _, e, _⟩ := h; rw [e]; intro z; cases z
  | ret _ _ => obtain ⟨_, _, e, _⟩ := h; rw [e]; intro z; cases z
  | exc _ _ _ => obtain ⟨_, _, _, e, _⟩ := h; rw [e]; intro z; cases z
/-- values into targets -/
def Pend (Z P : Nat → Prop) (st : Store) (ρv : VEnv) (Fs : Nat → List Nat) (o : Ow) (F : List Nat) : Prop :=
  1 ∉ F ∧ (o = .own → F.Nodup ∧ (∀ l ∈ F, ¬ P l) ∧ ∀ (j : Nat) (w : V), ρv[j]? = some (some (w, .own)) → ∀ l ∈ F, l ∉ Fs j) ∧ (o = .fz → ∀ l ∈ F, Z l) ∧ o ≠ .lent
mutual
theorem put_inv {Z P : Nat → Prop} {st : Store} : ∀ {t : E} {p : VO} {d : D} {ρ : Env} {ρv ρv' : VEnv} {Fs : Nat → List Nat} {F : List Nat}, Inv Z P st ρ ρv Fs → Rep st p.1 d F → Pend Z P st ρv Fs p.2 F → putV t p ρv = some ρv' →
    ∃ ρ' Fs', putT t d ρ = some ρ' ∧ Inv Z P st ρ' ρv' Fs' ∧ ∀ (j : Nat) (w : V), ρv'[j]? = some (some (w, .own)) → ∀ l ∈ Fs' j, l ∈ F ∨ ∃ (k : Nat) (x : V), ρv[k]? = some (some (x, .own)) ∧ l ∈ Fs k := by
  intro t p d ρ ρv ρv' Fs F hI r hp e
  cases t <;> first | (simp [putV] at e; done) | skip
  case var i =>
    simp only [putV] at e
    cases e
    refine ⟨_, upd Fs i F, by rw [putT], hI.set (o := p.2) r hp.1 (fun q => ⟨(hp.2.1 q).1, (hp.2.1 q).2.1, fun j w _ e => (hp.2.1 q).2.2 j w e⟩) hp.2.2.1 (fun q => absurd q hp.2.2.2), fun j w e l hl => ?_⟩
    rcases get_set e with ⟨rfl, _, _⟩ | ⟨q, e⟩
    · rw [upd, if_pos rfl] at hl; exact .inl hl
    · rw [upd, if_neg (Ne.symm q)] at hl; exact .inr ⟨j, w, e, hl⟩
  case tup ts =>
    obtain ⟨v, o⟩ := p
    cases v <;> first | (simp [putV] at e; done) | skip
    rename_i vs
    simp only [putV] at e
    rw [Rep] at r
    obtain ⟨ds, rfl, r⟩ := r
    rw [putT]
    exact puts_inv hI r hp e
theorem puts_inv {Z P : Nat → Prop} {st : Store} : ∀ {ts : List E} {vs : List V} {o : Ow} {ds : List D} {ρ : Env} {ρv ρv' : VEnv} {Fs : Nat → List Nat} {F : List Nat}, Inv Z P st ρ ρv Fs → Reps st vs ds F → Pend Z P st ρv Fs o F → putVs ts vs o ρv = some ρv' →
    ∃ ρ' Fs', putTs ts ds ρ = some ρ' ∧ Inv Z P st ρ' ρv' Fs' ∧ ∀ (j : Nat) (w : V), ρv'[j]? = some (some (w, .own)) → ∀ l ∈ Fs' j, l ∈ F ∨ ∃ (k : Nat) (x : V), ρv[k]? = some (some (x, .own)) ∧ l ∈ Fs k := by
  intro ts vs o ds ρ ρv ρv' Fs F hI r hp e
  cases ts with
  | nil =>
    cases vs with
    | nil =>
      simp only [putVs] at e
      cases e
      rw [Reps] at r
      rw [r.1]
      exact ⟨ρ, Fs, by rw [putTs], hI, fun j w e l hl => .inr ⟨j, w, e, hl⟩⟩
    | cons _ _ => simp [putVs] at e
  | cons t ts =>
    cases vs with
    | nil => simp [putVs] at e
    | cons v vs =>
      rw [putVs] at e
      rw [Reps] at r
      obtain ⟨d, ds', F1, F2, rfl, a1, a2, rfl⟩ := r
      obtain ⟨p1, p2, p3, p4⟩ := hp
      cases q : putV t (v, o) ρv with
      | none => rw [q] at e; cases e
      | some ρ1 =>
        rw [q] at e
        obtain ⟨ρ', Fs1, q1, h1, s1⟩ := put_inv (p := (v, o)) hI a1 ⟨fun z => p1 (by simp [z]), fun z => ⟨(List.nodup_append.mp (p2 z).1).1, fun l hl => (p2 z).2.1 l (by simp [hl]), fun j w e l hl => (p2 z).2.2 j w e l (by simp [hl])⟩, fun z l hl => p3 z l (by simp [hl]), p4⟩ q
        obtain ⟨ρ2, Fs2, q2, h2, s2⟩ := puts_inv h1 a2 ⟨fun z => p1 (by simp [z]), fun z => ⟨(List.nodup_append.mp (p2 z).1).2.1, fun l hl => (p2 z).2.1 l (by simp [hl]), fun j w e l hl hl2 => by
          rcases s1 j w e l hl2 with c | ⟨k, x, c1, c2⟩
          · exact (List.nodup_append.mp (p2 z).1).2.2 l c l hl rfl
          · exact (p2 z).2.2 k x c1 l (by simp [hl]) c2⟩, fun z l hl => p3 z l (by simp [hl]), p4⟩ e
        refine ⟨ρ2, Fs2, by rw [putTs, q1]; exact q2, h2, fun j w e l hl => ?_⟩
        rcases s2 j w e l hl with c | ⟨k, x, c1, c2⟩
        · exact .inl (by simp [c])
        · rcases s1 k x c1 l c2 with c | c
          · exact .inl (by simp [c])
          · exact .inr c
end
section
variable {C : Ctx} {CV : VCtx}
theorem path_ok (HC : CallOk C.call CV.call) : ∀ (a : E) {Z P : Nat → Prop} {st : Store} {ρ : Env} {ρv : VEnv} {Fs : Nat → List Nat} {σ : Sg}, (∀ l, Z l → P l) → (∀ l, P l → l < st.length) → Inv Z P st ρ ρv Fs → DrS σ st →
    RRel st (fun (q : Nat × List V × V) dw st' => ∃ v d, ρv[q.1]? = some (some (v, .own)) ∧ ρ[q.1]? = some (some d) ∧ Zoom st' v d (Fs q.1) q.2.1 q.2.2 dw) (cPath CV a ρv σ) (evE C ρ a st) := by
  intro a Z P st ρ ρv Fs σ zp hP hI d
  cases a with
  | var i =>
    rw [cPath, evE]
    cases q : ρv[i]? with
    | none => trivial
    | some x =>
      cases x with
      | none => trivial
      | some p =>
        obtain ⟨v, o⟩ := p
        obtain ⟨dd, e, r, n1⟩ := hI.rep i v o q
        cases o <;> first | trivial | skip
        rw [e]
        exact RRel.ok ⟨v, dd, q, e, Zoom.nil r⟩ d
  | ix a b =>
    rw [cPath, evE]
    refine RRel.bind (path_ok HC a zp hP hI d) fun q dw σ1 st1 ⟨v, dd, e1, e2, z⟩ k1 d1 => ?_
    have hI1 := hI.kp k1
    refine RRel.bind (vE_ok HC b (fun l hl => Nat.lt_of_lt_of_le (hP l (zp l hl)) k1.1) hI1.env d1 (Nat.le_refl _)) fun k dk σ2 st2 r k2 d2 => ?_
    by_cases hk : k.1.imm = true
    · rw [if_pos hk]
      cases e : ixV q.2.2 k.1 with
      | none => trivial
      | some w =>
        obtain ⟨F, r⟩ := r.rep
        obtain ⟨rfl, rfl⟩ := (Rep.imm hk).mp r
        obtain ⟨d', e1', r', n1'⟩ := hI1.rep q.1 v _ e1
        have : d' = dd := by rw [e2] at e1'; cases e1'; rfl
        subst this
        obtain ⟨dx, e3, z3⟩ := (z.kp n1' r'.lt k2).snoc hk e
        rw [e3]
        exact RRel.ok ⟨v, d', e1, e2, z3⟩ d2
    · rw [if_neg hk]; trivial
  | _ => simp only [cPath]; trivial
termination_by a => sizeOf a
end
end DL

set_option linter.all false
set_option maxRecDepth 100000
set_option maxHeartbeats 1000000
namespace DL
section
variable {C : Ctx} {CV : VCtx}
theorem isVar_eq {e : E} {j : Nat} (h : isVar e = some j) : e = .var j := by
  cases e <;> first | (cases h; done) | (cases h; rfl)
theorem own_lt {Z P : Nat → Prop} {st : Store} {ρ : Env} {ρv : VEnv} {Fs : Nat → List Nat} (h : Inv Z P st ρ ρv Fs) {n : Nat} (hn : st.length ≤ n) : ∀ (j : Nat) (w : V), ρv[j]? = some (some (w, .own)) → ∀ l ∈ Fs j, l < n := by
  intro j w e l hl
  obtain ⟨d, _, r, _⟩ := h.rep j w _ e
  exact Nat.lt_of_lt_of_le (r.lt l hl) hn
theorem setV_ok {Z P : Nat → Prop} {st st1 : Store} {ρ : Env} {ρv : VEnv} {Fs : Nat → List Nat} {i : Nat} {e : E} {p : VO} {d : D} {σ σ1 : Sg} (zp : ∀ l, Z l → P l) (hP : ∀ l, P l → l < st.length) (hI : Inv Z P st ρ ρv Fs) (k : Kp st st1) (hv : cE CV e ρv σ = .ok p σ1) (hd : evE C ρ e st = .ok d st1) (r : RepO Z st.length st1 p.1 p.2 d) :
    ∃ Fs', Inv Z P st1 (ρ.set i (some d)) (setV ρv i e p) Fs' := by
  have plain : ∃ Fs', Inv Z P st1 (ρ.set i (some d)) (ρv.set i (some p)) Fs' := (hI.kp k).setO (n := st.length) hP (own_lt hI (Nat.le_refl _)) r (vE_nl e hv)
  unfold setV
  cases q : isVar e with
  | none => exact plain
  | some j =>
    dsimp only
    split
    · rename_i v hj
      split
      · exact plain
      · rename_i hi
        have := isVar_eq q
        subst this
        obtain ⟨dd, e1, r1, n1⟩ := (hI.kp k).rep j v _ hj
        have hdd : dd = d := by
          rw [evE, e1] at hd
          cases hd; rfl
        subst hdd
        obtain ⟨o1, o2⟩ := (hI.kp k).own j v hj
        have hw : Inv Z P st1 ρ (ρv.set j (some (v, .bo))) Fs := (hI.kp k).weak (by simp) fun i' v' o' e' => by
          rcases get_set e' with ⟨rfl, e', _⟩ | ⟨_, e'⟩
          · cases e'; exact .inr ⟨rfl, _, hj⟩
          · exact .inl e'
        refine ⟨_, hw.set (i := i) (v := v) (o := .own) (F := Fs j) r1 n1 (fun _ => ⟨o1, o2, fun m w hm e' l hl => ?_⟩) (fun z => by cases z) (fun z => by cases z)⟩
        rcases get_set e' with ⟨_, e', _⟩ | ⟨jm, e'⟩
        · cases e'
        · exact (hI.kp k).dis j m v w jm hj e' l hl
    · exact plain
theorem ret_ok {Z P : Nat → Prop} {st st1 : Store} {ρ : Env} {ρv : VEnv} {Fs : Nat → List Nat} {e : E} {p p' : VO} {d : D} (hP : ∀ l, P l → l < st.length) (hI : Inv Z P st ρ ρv Fs) (k : Kp st st1) (hd : evE C ρ e st = .ok d st1) (r : RepO Z st.length st1 p.1 p.2 d) (hr : retV ρv e p = some p') : RetO Z P st1 p' d := by
  have plain : (if p.1.imm = true then some (p.1, Ow.own) else if p.2 = .own ∨ p.2 = .fz then some p else none) = some p' → RetO Z P st1 p' d := by
    intro h
    obtain ⟨F, a, b, c, z⟩ := r
    split at h
    · rename_i hi
      cases h
      obtain ⟨rfl, rfl⟩ := (Rep.imm hi).mp a
      exact ⟨[], a, by simp, fun _ => ⟨by simp, by simp⟩, by simp, .inl rfl⟩
    · split at h
      · rename_i ho
        cases h
        exact ⟨F, a, b, fun q => ⟨fun l hl hp => absurd (hP l hp) (Nat.not_lt.mpr ((c q).1 l hl)), (c q).2⟩, z, ho⟩
      · cases h
  unfold retV at hr
  cases q : isVar e with
  | none => rw [q] at hr; exact plain hr
  | some j =>
    rw [q] at hr
    dsimp only at hr
    split at hr
    · rename_i v hj
      cases hr
      have := isVar_eq q
      subst this
      obtain ⟨dd, e1, r1, n1⟩ := (hI.kp k).rep j v _ hj
      have hdd : dd = d := by
        rw [evE, e1] at hd
        cases hd; rfl
      subst hdd
      obtain ⟨o1, o2⟩ := (hI.kp k).own j v hj
      exact ⟨Fs j, r1, n1, fun _ => ⟨o2, o1⟩, (fun z => by cases z), .inl rfl⟩
    · exact plain hr
theorem wr_inv {ρv ρv' : VEnv} {i : Nat} {ks : List V} {w : Option V} (h : wrV ρv i ks w = some ρv') : ∃ w0 v v', w = some w0 ∧ ρv[i]? = some (some (v, .own)) ∧ putP ks w0 v = some v' ∧ ρv' = (killV ρv).set i (some (v', .own)) := by
  unfold wrV at h
  cases w with
  | none => cases h
  | some w0 =>
    dsimp only at h
    split at h
    · rename_i v hv
      cases q : putP ks w0 v with
      | none => rw [q] at h; cases h
      | some v' => rw [q] at h; cases h; exact ⟨w0, v, v', rfl, hv, q, rfl⟩
    · cases h
/-- it stands in another slot's way nowhere -/
theorem wr_fin {Z P : Nat → Prop} {st : Store} {ρ : Env} {ρv ρv' : VEnv} {Fs : Nat → List Nat} {i n : Nat} {ks : List V} {w0 : V} {v0 : V} {d0 dw : D} {Fp : List Nat} {l : Nat} {c : Cell} {Fw Fw' : List Nat} (zp : ∀ l, Z l → P l) (hPn : ∀ l, P l → l < n) (hF : ∀ (j : Nat) (w : V), ρv[j]? = some (some (w, .own)) → ∀ l ∈ Fs j, l < n)
    (hI : Inv Z P st ρ ρv Fs) (hv : ρv[i]? = some (some (v0, .own))) (hd : ρ[i]? = some (some d0)) (n1 : 1 ∉ Fp) (hp : ∀ l ∈ Fp, n ≤ l)
    (hsub : ∀ x ∈ Fw, x ∈ Fs i) (hl : l ∈ Fw) (r : Rep (st.set l c) w0 dw Fw') (nw : Fw'.Nodup) (hs : ∀ x ∈ Fw', x ∈ Fw ∨ x ∈ Fp)
    (z : ∀ st2 w' Fw' v', (Fs i).Nodup → (∀ l ∈ Fs i, l ∉ Fw → st2[l]? = st[l]?) → Rep st2 w' dw Fw' → (∀ l ∈ Fw', l ∈ Fw ∨ l ∉ Fs i) → Fw'.Nodup → putP ks w' v0 = some v' → ∃ F', Rep st2 v' d0 F' ∧ F'.Nodup ∧ ∀ l ∈ F', l ∈ Fs i ∨ l ∈ Fw')
    (e : wrV ρv i ks (some w0) = some ρv') : ∃ Fs', Inv Z P (st.set l c) ρ ρv' Fs' := by
  obtain ⟨w1, v, v', e1, e2, e3, rfl⟩ := wr_inv e
  cases e1
  have : v = v0 := by rw [hv] at e2; cases e2; rfl
  subst this
  have hfp : ∀ x ∈ Fp, x ∉ Fs i := fun x hx h => absurd (hF i v hv x h) (Nat.not_lt.mpr (hp x hx))
  obtain ⟨F', r', nd', hs'⟩ := z (st.set l c) w0 Fw' v' (hI.own i v hv).1 (fun x hx hx2 => get_set_ne fun q => hx2 (q ▸ hl)) r (fun x hx => by
    rcases hs x hx with q | q
    · exact .inl q
    · exact .inr (hfp x q)) nw e3
  refine ⟨_, hI.write zp hv hd (hsub l hl) (F' := F') (Fp := Fp) r' nd' (fun x hx => ?_) n1 (fun x hx hq => absurd (hPn x hq) (Nat.not_lt.mpr (hp x hx))) fun j w e x hx h => absurd (hF j w e x h) (Nat.not_lt.mpr (hp x hx))⟩
  rcases hs' x hx with q | q
  · exact .inl q
  · rcases hs x q with q | q
    · exact .inl (hsub x q)
    · exact .inr q
theorem lookup_map {x : VX} {n : String} {d : V} : ∀ {fs : List (String × V)}, fs.lookup n = some d → (fs.map fun p => (p.1, emb p.2)).lookup n = some (emb d)
  | [], h => by simp at h
  | p :: r, h => by
    rw [List.lookup_cons] at h
    rw [List.map_cons, List.lookup_cons]
    cases q : n == p.1 with
    | true => rw [q] at h; cases h; rfl
    | false => rw [q] at h; exact lookup_map (x := x) h
theorem lookup_mem {n : String} {d : V} : ∀ {fs : List (String × V)}, fs.lookup n = some d → ∃ p ∈ fs, p.2 = d
  | [], h => by simp at h
  | p :: r, h => by
    rw [List.lookup_cons] at h
    cases q : n == p.1 with
    | true => rw [q] at h; cases h; exact ⟨p, by simp, rfl⟩
    | false => rw [q] at h; obtain ⟨z, a, b⟩ := lookup_mem h; exact ⟨z, by simp [a], b⟩
theorem xe_ok {xc : List XCls} {x : VX} {y : DX} (h : RX x y) : ∀ (e : XE) {d : V}, evXV xc x e = some d → evXE xc y e = some (emb d) ∧ d.imm = true
  | .fld n, d, e => by
    unfold evXV at e
    unfold evXE
    rw [h.2.1]
    obtain ⟨p, a, b⟩ := lookup_mem e
    exact ⟨lookup_map (x := x) e, b ▸ h.2.2 p a⟩
  | .str s, d, e => by
    unfold evXV at e
    unfold evXE
    split at e
    · rename_i c; cases e; rw [if_pos c]; exact ⟨rfl, rfl⟩
    · cases e
  | .isf c a b, d, e => by
    rw [evXV] at e
    rw [evXE, h.1]
    cases q : xc[x.cls]? with
    | none => rw [q] at e; cases e
    | some k =>
      rw [q] at e
      dsimp only at e ⊢
      split at e
      · rename_i g; rw [if_pos g]; exact xe_ok h a e
      · cases e
theorem vT_ok (HC : CallOk C.call CV.call) (e : E) {Z : Nat → Prop} {st : Store} {ρ : Env} {ρv : VEnv} {σ : Sg} (hz : ∀ l, Z l → l < st.length) (h : EnvR Z st ρ ρv) (d : DrS σ st) : RRel st (fun (a b : Bool) _ => a = b) (cT CV e ρv σ) (evT C ρ e st) := by
  unfold cT evT
  refine RRel.bind (vE_ok HC e hz h d (Nat.le_refl _)) fun p d1 σ1 st1 r1 k1 e1 => ?_
  obtain ⟨F1, a1⟩ := r1.rep
  cases q : truV p.1 with
  | none => trivial
  | some b => rw [tru_ok a1 q]; exact RRel.ok rfl e1
theorem isApp_eq {e a x : E} (h : isApp e = some (a, x)) : e = .me .append a [x] := by
  unfold isApp at h
  split at h
  · cases h; rfl
  · cases h
theorem go_st {v : V} {o : Ow} {xs : List VO} (h : goV v o = some xs) (hs : v.imm = true ∨ o = .fz ∨ immL v = true) : ∀ p ∈ xs, (p.1.imm = true ∨ p.2 = .fz) ∧ p.2 ≠ .lent := by
  intro p hp
  cases v <;> simp only [goV] at h <;> first | (cases h; done) | skip
  · cases h
    rw [List.mem_map] at hp
    obtain ⟨c, _, rfl⟩ := hp
    exact ⟨.inl rfl, by intro z; cases z⟩
  all_goals
    cases h
    rw [List.mem_map] at hp
    obtain ⟨x, hx, rfl⟩ := hp
    refine ⟨?_, rdo_nl _ _⟩
    rcases hs with h | h | h
    · first | (rw [V.imm] at h; exact .inl (imms_mem h hx)) | (simp [V.imm] at h)
    · by_cases hi : x.imm = true
      · exact .inl hi
      · right; unfold rdo; rw [if_neg hi, h]
    · first | exact .inl (imms_mem h hx) | cases h
theorem enum_imm {x : V} : ∀ {k : Nat} {xs : List V}, x ∈ enumV k xs → ∃ i y, y ∈ xs ∧ x = .tup [.int i, y]
  | k, [], h => by simp [enumV] at h
  | k, y :: ys, h => by
    rw [enumV, List.mem_cons] at h
    rcases h with rfl | h
    · exact ⟨_, y, by simp, rfl⟩
    · obtain ⟨i, z, a, b⟩ := enum_imm h; exact ⟨i, z, by simp [a], b⟩
theorem goE_st {v : V} {o : Ow} {xs : List VO} (h : goE v o = some xs) (hs : v.imm = true ∨ o = .fz ∨ immL v = true) : ∀ p ∈ xs, (p.1.imm = true ∨ p.2 = .fz) ∧ p.2 ≠ .lent := by
  intro p hp
  cases v <;> simp only [goE] at h <;> first | (cases h; done) | skip
  all_goals
    cases h
    rw [List.mem_map] at hp
    obtain ⟨x, hx, rfl⟩ := hp
    refine ⟨?_, rdo_nl _ _⟩
    obtain ⟨i, y, hy, rfl⟩ := enum_imm hx
    rcases hs with h | h | h
    · first | (rw [V.imm] at h; left; simp [V.imm, V.imms, imms_mem h hy]) | (simp [V.imm] at h)
    · by_cases hi : (V.tup [.int i, y]).imm = true
      · exact .inl hi
      · right; unfold rdo; rw [if_neg hi, h]
    · first | (left; simp [V.imm, V.imms, imms_mem h hy]) | cases h
end
end DL

set_option linter.all false
set_option maxRecDepth 100000
set_option maxHeartbeats 1000000
namespace DL
section
variable {C : Ctx} {CV : VCtx}
def OkS (C : Ctx) (CV : VCtx) (s : S) : Prop := ∀ {Z P : Nat → Prop} {st : Store} {ρ : Env} {ρv : VEnv} {Fs : Nat → List Nat} {σ : Sg}, (∀ l, Z l → P l) → P 0 → (∀ l, P l → l < st.length) → Inv Z P st ρ ρv Fs → DrS σ st →
  SRel Z P st (cS CV s ρv σ) (evS C s ρ st)
def OkSs (C : Ctx) (CV : VCtx) (s : List S) : Prop := ∀ {Z P : Nat → Prop} {st : Store} {ρ : Env} {ρv : VEnv} {Fs : Nat → List Nat} {σ : Sg}, (∀ l, Z l → P l) → P 0 → (∀ l, P l → l < st.length) → Inv Z P st ρ ρv Fs → DrS σ st →
  SRel Z P st (cSs CV s ρv σ) (evSs C s ρ st)
theorem pl {P : Nat → Prop} {st st' : Store} (h : ∀ l, P l → l < st.length) (k : Kp st st') : ∀ l, P l → l < st'.length := fun l q => Nat.lt_of_lt_of_le (h l q) k.1
theorem body_ok {b : List S} (hb : OkSs C CV b) {tg : E} {Z P : Nat → Prop} (zp : ∀ l, Z l → P l) (p0 : P 0) (p : VO) (d : D) (st : Store) (ρ : Env) (ρv : VEnv) (Fs : Nat → List Nat) (σ : Sg) (hP : ∀ l, P l → l < st.length) (r : RepB Z st p.1 p.2 d) (nl : p.2 ≠ .lent) (hi : p.2 = .own → p.1.imm = true) (hI : Inv Z P st ρ ρv Fs) (hd : DrS σ st) :
    SRel Z P st (match putV tg p ρv with | some ρ => cSs CV b ρ σ | none => .bad) (match putT tg d ρ with | some ρ => evSs C b ρ st | none => .bad) := by
  cases q : putV tg p ρv with
  | none => trivial
  | some ρ1 =>
    obtain ⟨F, a, n1, z⟩ := r
    obtain ⟨ρ', Fs', e, hI', _⟩ := put_inv hI a ⟨n1, fun ho => by
      obtain ⟨rfl, rfl⟩ := (Rep.imm (hi ho)).mp a
      exact ⟨by simp, by simp, by simp⟩, z, nl⟩ q
    rw [e]
    exact hb zp p0 hP hI' hd
/-- a source that may be gone through in a statement -/
def SrcQ (Z P : Nat → Prop) (st : Store) (q : List VO × Bool) (i : List D × Guard) : Prop :=
  SrcR Z st q.1 i ∧ (∀ p ∈ q.1, (p.1.imm = true ∨ p.2 = .fz) ∧ p.2 ≠ .lent) ∧ ∀ l ys, i.2 = some (l, ys) → l ≠ 1 ∧ l < st.length ∧ (q.2 = false → P l)
theorem mem_map_own {xs : List V} (h : V.imms xs = true) : ∀ p ∈ xs.map (fun x => (x, Ow.own)), (p.1.imm = true ∨ p.2 = .fz) ∧ p.2 ≠ .lent := by
  intro p hp
  rw [List.mem_map] at hp
  obtain ⟨x, hx, rfl⟩ := hp
  exact ⟨.inl (imms_mem h hx), by intro z; cases z⟩
/-- what the guard's label is -/
theorem lab_of {Z : Nat → Prop} {n : Nat} {st : Store} {v : V} {o : Ow} {d : D} {l : Nat} {ys : List D} (r : RepO Z n st v o d) (e : d = .ref l) (hl : st[l]? = some (.lst ys)) (hv : ∃ xs, v = .lst xs) (hz : o = .fz) : Z l := by
  obtain ⟨F, a, b, c, z⟩ := r
  obtain ⟨xs, rfl⟩ := hv
  rw [Rep] at a
  obtain ⟨l', ds, F', e', _, _, rfl⟩ := a
  rw [e] at e'
  cases e'
  exact z hz l (by simp)
theorem srcS_ok (HC : CallOk C.call CV.call) (src : E) {Z P : Nat → Prop} {st : Store} {ρ : Env} {ρv : VEnv} {σ : Sg} (zp : ∀ l, Z l → P l) (hP : ∀ l, P l → l < st.length) (h : EnvR Z st ρ ρv) (d : DrS σ st) :
    RRel st (fun (q : List VO × Bool) i st' => SrcQ Z P st' q i ∧ (q.2 = true → ∀ l ys, i.2 = some (l, ys) → st.length ≤ l)) (csrcS CV src ρv σ) (evI C ρ src st) := by
  have hz : ∀ l, Z l → l < st.length := fun l hl => hP l (zp l hl)
  have val : ∀ (a : E) (go : V → Ow → Option (List VO)) (goD : D → Store → Res (List D × Guard)),
      (∀ {n : Nat} {st : Store} {p : VO} {d : D} {xs : List VO}, RepO Z n st p.1 p.2 d → go p.1 p.2 = some xs → ∃ q, goD d st = .ok q st ∧ SrcR Z st xs q ∧ ∀ l ys, q.2 = some (l, ys) → d = .ref l ∧ st[l]? = some (.lst ys)) →
      (∀ {v : V} {o : Ow} {xs : List VO}, go v o = some xs → (v.imm = true ∨ o = .fz ∨ immL v = true) → ∀ p ∈ xs, (p.1.imm = true ∨ p.2 = .fz) ∧ p.2 ≠ .lent) →
      RRel st (fun (q : List VO × Bool) i st' => SrcQ Z P st' q i ∧ (q.2 = true → ∀ l ys, i.2 = some (l, ys) → st.length ≤ l)) ((cE CV a ρv σ).bind fun x σ => ofVo (if safeV x = true ∨ tmpV x = true then go x.1 x.2 else none) σ fun r => (r, !safeV x)) ((evE C ρ a st).bind goD) := by
    intro a go goD h1 h2
    refine RRel.bind (vE_ok HC a hz h d (Nat.le_refl _)) fun p dd σ1 st1 r k1 e1 => ?_
    by_cases hs : safeV p = true ∨ tmpV p = true
    · rw [if_pos hs]
      cases q : go p.1 p.2 with
      | none => trivial
      | some xs =>
        obtain ⟨i, e, s, hl⟩ := h1 r q
        rw [e]
        have hst : p.1.imm = true ∨ p.2 = .fz ∨ immL p.1 = true := by
          rcases hs with h | h
          · unfold safeV at h
            rcases Bool.or_eq_true _ _ ▸ h with h | h
            · exact .inl h
            · exact .inr (.inl (by simpa using h))
          · unfold tmpV at h
            rw [Bool.and_eq_true] at h
            exact .inr (.inr h.1)
        refine RRel.ok ⟨⟨s, h2 q hst, fun l ys e' => ⟨s.2.2.2 l ys e', (List.getElem?_eq_some_iff.mp (hl l ys e').2).1, fun hf => ?_⟩⟩, fun ht l ys e' => ?_⟩ e1
        · obtain ⟨q1, q2⟩ := hl l ys e'
          have hsf : safeV p = true := by
            have : (!safeV p) = false := hf
            simpa using this
          unfold safeV at hsf
          obtain ⟨F, a1, b1, c1, z1⟩ := r
          rcases Bool.or_eq_true _ _ ▸ hsf with h | h
          · have := ((Rep.imm h).mp a1).1
            have h0 := this
            rw [q1] at this
            obtain ⟨v, o⟩ := p
            cases v <;> simp only [emb, V.imm] at this h <;> first | cases this; done | cases h; done | skip
            cases this
            exact absurd rfl (s.2.2.2 _ _ e')
          · have ho : p.2 = .fz := by simpa using h
            rw [q1] at a1
            obtain ⟨v, o⟩ := p
            cases v <;> simp only [Rep] at a1
            all_goals first | (cases a1.1; done) | skip
            · obtain ⟨_, e0, _⟩ := a1; cases e0
            · obtain ⟨l', ds, F', e0, _, _, rfl⟩ := a1
              cases e0
              exact zp _ (z1 ho _ (by simp))
            · obtain ⟨l', ds, F', e0, _, _, _, _, rfl⟩ := a1
              cases e0
              exact zp _ (z1 ho _ (by simp))
            · cases a1.1
              exact absurd rfl (s.2.2.2 _ _ e')
        · obtain ⟨q1, q2⟩ := hl l ys e'
          have hns : ¬ safeV p = true := by
            have : (!safeV p) = true := ht
            simpa using this
          have ht := hs.resolve_left hns
          unfold tmpV at ht
          rw [Bool.and_eq_true] at ht
          obtain ⟨F, a1, b1, c1, z1⟩ := r
          obtain ⟨v, o⟩ := p
          cases v <;> first | (cases ht.1; done) | skip
          rw [Rep] at a1
          obtain ⟨l', ds, F', e0, _, _, rfl⟩ := a1
          rw [q1] at e0
          cases e0
          exact (c1 (by simpa using ht.2)).1 _ (by simp)
    · rw [if_neg hs]; trivial
  by_cases hv : srcVal src = true
  · have : csrcS CV src ρv σ = (cE CV src ρv σ).bind fun x σ => ofVo (if safeV x = true ∨ tmpV x = true then goV x.1 x.2 else none) σ fun r => (r, !safeV x) := by cases src <;> first | rfl | cases hv
    rw [this, evI_ne' hv]
    refine val src goV _ (fun {n st p d xs} r e => ?_) fun e hs => go_st e hs
    obtain ⟨q, e1, s⟩ := goV_ok r e
    refine ⟨q, e1, s, fun l ys e2 => ?_⟩
    cases d <;> simp only at e1 <;> first | (cases e1; done) | skip
    · cases e1; cases e2
    · cases e1; cases e2
    · split at e1
      · rename_i hl; cases e1; cases e2; exact ⟨rfl, hl⟩
      · cases e1
  · cases src <;> first | (exact absurd rfl hv) | skip
    · rename_i es
      rw [evI_rng]
      show RRel st _ ((cEs CV es ρv σ).bind fun xs σ => ofVo (rngV (xs.map (·.1))) σ fun r => (r.map fun x => (x, Ow.own), false)) _
      refine RRel.bind (vEs_ok HC es hz h d (Nat.le_refl _)) fun ps ds σ1 st1 r k1 e1 => ?_
      cases q : rngV (ps.map (·.1)) with
      | none => trivial
      | some xs =>
        obtain ⟨F, a, _⟩ := r
        obtain ⟨e, hi⟩ := rng_ok a q
        rw [e]
        refine RRel.ok ⟨⟨⟨by simp [embs_len], fun i p hp => ?_, trivial, by simp⟩, mem_map_own hi, by simp⟩, by simp⟩ e1
        rw [List.getElem?_map] at hp
        cases q2 : xs[i]? with
        | none => rw [q2] at hp; cases hp
        | some v =>
          rw [q2] at hp; cases hp
          have hv := imms_mem hi (mem_some q2)
          exact ⟨emb v, by rw [embs_map]; simp [q2], [], (Rep.imm hv).mpr ⟨rfl, rfl⟩, by simp, by simp⟩
    · rename_i a
      rw [evI]
      refine val a goE _ (fun {n st p d xs} r e => ?_) fun e hs => goE_st e hs
      obtain ⟨q, e1, s⟩ := goE_ok r e
      refine ⟨q, e1, s, fun l ys e2 => ?_⟩
      cases d <;> simp only at e1 <;> first | (cases e1; done) | skip
      · cases e1; cases e2
      · split at e1
        · rename_i hl; cases e1; cases e2; exact ⟨rfl, hl⟩
        · cases e1
theorem lend_inv {ρv : VEnv} {src : E} {i : Nat} {v : V} (h : lend ρv src = some (i, v)) : (src = .var i ∨ src = .enum (.var i)) ∧ ρv[i]? = some (some (v, .own)) ∧ ¬ v.imm = true := by
  unfold lend at h
  split at h
  · rename_i j hj
    split at h
    · rename_i w hw
      split at h
      · cases h
      · rename_i hn
        cases h
        refine ⟨?_, hw, hn⟩
        split at hj <;> first | (cases hj; exact .inl rfl) | (cases hj; exact .inr rfl) | cases hj
    · cases h
  · cases h
end
end DL

set_option linter.all false
set_option maxRecDepth 100000
set_option maxHeartbeats 2000000
namespace DL
section
variable {C : Ctx} {CV : VCtx}
theorem DrS.write {σ : Sg} {st : Store} (d : DrS σ st) {l : Nat} {c : Cell} (l0 : l ≠ 0) (l1 : l ≠ 1) : DrS σ (st.set l c) :=
  ⟨by rw [get_set_ne (Ne.symm l0)]; exact d.at0, by rw [get_set_ne (Ne.symm l1)]; exact d.at1, d.a0, d.aN, d.b0, d.c0, d.le⟩
theorem hs_ok {Z P : Nat → Prop} {st : Store} {ρ : Env} {ρv : VEnv} {Fs : Nat → List Nat} {σ : Sg} {x : VX} {y : DX} (h : Hs) (i : Nat) (zp : ∀ l, Z l → P l) (p0 : P 0) (hP : ∀ l, P l → l < st.length) (hI : Inv Z P st ρ ρv Fs) (d : DrS σ st) (hx : RX x y) {xc : List XCls} :
    SRel Z P st (vHs xc h x ρv σ i) (evHs xc h y ρ st i) := by
  cases h with
  | cnt => exact ⟨_, st, rfl, ⟨Fs, hI.setN⟩, d, Pr.refl⟩
  | ret e =>
    unfold vHs evHs
    dsimp only
    cases q : evXV xc x e with
    | none => trivial
    | some v =>
      obtain ⟨a, b⟩ := xe_ok hx e q
      rw [a]
      exact ⟨_, st, rfl, ⟨[], (Rep.imm b).mpr ⟨rfl, rfl⟩, by simp, fun _ => ⟨by simp, by simp⟩, by simp, .inl rfl⟩, d, Pr.refl⟩
  | app j e =>
    unfold vHs evHs
    dsimp only
    cases q : evXV xc x e with
    | none => trivial
    | some v =>
      obtain ⟨a, b⟩ := xe_ok hx e q
      rw [a]
      split
      · rename_i d0 w hd0 hj
        cases hd0
        cases q2 : appV w v with
        | none => trivial
        | some w' =>
          dsimp only
          by_cases hij : i ≠ j
          · rw [if_pos hij]
            obtain ⟨dw, e1, r, n1⟩ := hI.rep j w _ hj
            obtain ⟨o1, o2⟩ := hI.own j w hj
            obtain ⟨l, c, rfl, hl, ha, _, Fw', r', nd', hs'⟩ := app_ok (Fp := []) r o1 ((Rep.imm b).mpr ⟨rfl, rfl⟩) (by simp) (by simp) q2
            rw [e1]
            dsimp only
            unfold appendD at ha
            dsimp only at ha
            cases hl' : st[l]? with
            | none => rw [hl'] at ha; cases ha
            | some cc =>
              cases cc with
              | dic _ _ => rw [hl'] at ha; cases ha
              | lst ys =>
                rw [hl'] at ha
                dsimp only at ha ⊢
                split at ha
                · rename_i hy
                  rw [if_pos ⟨hy, hij⟩]
                  have hst : st.set l (.lst (ys ++ [emb v])) = st.set l c := by
                    injection ha with ha; injection ha
                  rw [hst]
                  have hIN : Inv Z P st (ρ.set i none) (ρv.set i none) Fs := hI.setN
                  have hjN : (ρv.set i none)[j]? = some (some (w, .own)) := by rw [List.getElem?_set_ne hij]; exact hj
                  have hdN : (ρ.set i none)[j]? = some (some (.ref l)) := by rw [List.getElem?_set_ne hij]; exact e1
                  refine ⟨_, _, rfl, ⟨_, hIN.write zp hjN hdN hl (F' := Fw') (Fp := []) r' nd' hs' (by simp) (by simp) (by simp)⟩, d.write (fun z => o2 l hl (z ▸ p0)) fun z => n1 (z ▸ hl), by simp, fun m hm n1' => ?_⟩
                  exact get_set_ne fun z => o2 l hl (z ▸ hm)
                · cases ha
          · rw [if_neg hij]; trivial
      · trivial
mutual
theorem vS_ok (HC : CallOk C.call CV.call) (hx : CV.xc = C.xc) (hk : CV.kt = C.kt) : ∀ s : S, OkS C CV s := by
  intro s Z P st ρ ρv Fs σ zp p0 hP hI d
  have hz : ∀ l, Z l → l < st.length := fun l hl => hP l (zp l hl)
  cases s with
  | set i e =>
    rw [cS, evS]
    exact SRel.of hP hI (vE_ok HC e hz hI.env d (Nat.le_refl _)) fun p dd σ1 st1 q1 q2 r k d1 =>
      ⟨_, st1, rfl, setV_ok zp hP hI k q1 q2 r, d1, Pr.refl⟩
  | setT tg e =>
    rw [cS, evS]
    refine SRel.of hP hI (vE_ok HC e hz hI.env d (Nat.le_refl _)) fun p dd σ1 st1 q1 q2 r k d1 => ?_
    cases q : putV tg p ρv with
    | none => trivial
    | some ρ1 =>
      obtain ⟨F, a, n1, c, z⟩ := r
      obtain ⟨ρ', Fs', e1, hI', _⟩ := put_inv (hI.kp k) a ⟨n1, fun ho => ⟨(c ho).2, fun l hl hp => absurd (hP l hp) (Nat.not_lt.mpr ((c ho).1 l hl)), fun j w e l hl h2 => absurd (own_lt hI (Nat.le_refl _) j w e l h2) (Nat.not_lt.mpr ((c ho).1 l hl))⟩, z, vE_nl e q1⟩ q
      rw [e1]
      exact ⟨ρ', st1, rfl, ⟨Fs', hI'⟩, d1, Pr.refl⟩
  | setX a b e =>
    rw [cS, evS]
    refine SRel.of hP hI (vE_ok HC e hz hI.env d (Nat.le_refl _)) fun p dp σ1 st1 _ _ r k d1 => ?_
    have hI1 := hI.kp k
    have hP1 := pl hP k
    refine SRel.of hP1 hI1 (path_ok HC a zp hP1 hI1 d1) fun q dw σ2 st2 _ _ ⟨v0, d0, hv, hd, z⟩ k2 d2 => ?_
    have hI2 := hI1.kp k2
    have hP2 := pl hP1 k2
    refine SRel.of hP2 hI2 (vE_ok HC b (fun l hl => hP2 l (zp l hl)) hI2.env d2 (Nat.le_refl _)) fun kk dk σ3 st3 _ _ rk k3 d3 => ?_
    have hI3 := hI2.kp k3
    by_cases hc : kk.1.imm = true ∧ p.2 = .own
    · rw [if_pos hc, hk]
      cases q3 : wrV ρv q.1 q.2.1 (setXV C.kt q.2.2 kk.1 p.1) with
      | none => trivial
      | some ρ' =>
        obtain ⟨w0, v, v', e1, e2, e3, _⟩ := wr_inv q3
        rw [e1] at q3
        obtain ⟨Fp, rp, n1p, cp, _⟩ := (r.kp k2).kp k3
        obtain ⟨Fk, rk⟩ := rk.rep
        obtain ⟨rfl, rfl⟩ := (Rep.imm hc.1).mp rk
        obtain ⟨_, _, ri, n1i⟩ := hI2.rep _ _ _ hv
        obtain ⟨_, Fw, a1, a2, a3, a4⟩ := z.kp n1i ri.lt k3
        have ow := own_lt hI (Nat.le_refl st.length)
        have hdis : ∀ x ∈ Fp, x ∉ Fw := fun x hx h => absurd (ow _ _ hv x (a2 x h)) (Nat.not_lt.mpr ((cp hc.2).1 x hx))
        obtain ⟨l, c, rfl, hl, hset, Fw', r', nd', hs'⟩ := setX_ok (kt := C.kt) hc.1 a1 (a3 (hI3.own _ _ hv).1) rp (cp hc.2).2 hdis e1
        rw [hset]
        obtain ⟨_, o2⟩ := hI3.own _ _ hv
        exact ⟨ρ, _, rfl, wr_fin zp hP ow hI3 hv hd n1p (cp hc.2).1 a2 hl r' nd' hs' a4 q3, d3.write (fun z => o2 l (a2 l hl) (z ▸ p0)) fun z => n1i (z ▸ a2 l hl), by simp, fun m hm n1' => get_set_ne fun z => o2 l (a2 l hl) (z ▸ hm)⟩
    · rw [if_neg hc]; trivial
  | aug i o e =>
    rw [cS, evS]
    split
    · rename_i x o' hv
      obtain ⟨dd, e1, r, n1⟩ := hI.rep i _ _ hv
      rw [Rep] at r
      obtain ⟨rfl, _⟩ := r
      rw [e1]
      dsimp only
      refine SRel.of hP hI (vE_ok HC e hz hI.env d (Nat.le_refl _)) fun p dp σ1 st1 _ _ r k d1 => ?_
      obtain ⟨v, o2⟩ := p
      obtain ⟨F, r5⟩ := r.rep
      clear r
      cases v with
      | int y =>
        rw [Rep] at r5
        obtain ⟨rfl, _⟩ := r5
        have hI1 := hI.kp k
        have hP1 := pl hP k
        refine SRel.of hP1 hI1 (rr_nw (Z := Z) (n := st1.length) (bin_ok (st := st1) (x := .int x) (y := .int y) (Fx := []) (Fy := []) (by rw [Rep]; exact ⟨rfl, rfl⟩) (by rw [Rep]; exact ⟨rfl, rfl⟩)) d1 (Nat.le_refl _)) fun p dp σ2 st2 q1 q2 r k2 d2 => ?_
        exact ⟨_, st2, rfl, (hI1.kp k2).setO (n := st1.length) hP1 (own_lt hI1 (Nat.le_refl _)) r (by rw [nw_own q1]; intro z; cases z), d2, Pr.refl⟩
      | _ => trivial
    · trivial
  | ex e =>
    rw [cS, evS]
    cases q : isApp e with
    | none => exact SRel.of hP hI (vE_ok HC e hz hI.env d (Nat.le_refl _)) fun p dd σ1 st1 q1 q2 r k d1 => ⟨ρ, st1, rfl, ⟨Fs, hI.kp k⟩, d1, Pr.refl⟩
    | some ax =>
      obtain ⟨a, x⟩ := ax
      have := isApp_eq q
      subst this
      rw [evE]
      have h1 := path_ok HC a zp hP hI d
      dsimp only
      cases q1 : cPath CV a ρv σ with
      | bad => trivial
      | exc y σ1 =>
        rw [q1] at h1
        obtain ⟨y', st1, e1, a1, a2, a3⟩ := h1
        rw [e1]
        exact ⟨y', ρ, st1, rfl, a1, ⟨Fs, hI.kp a2⟩, a3, Pr.kp a2 hP⟩
      | ok qq σ1 =>
        rw [q1] at h1
        obtain ⟨dw, st1, e1, ⟨v0, d0, hv, hd, z⟩, k1, d1⟩ := h1
        rw [e1]
        refine SRel.pr (Pr.kp k1 hP) ?_
        have hI1 := hI.kp k1
        have hP1 := pl hP k1
        have h2 := vE_ok HC x (fun l hl => hP1 l (zp l hl)) hI1.env d1 (Nat.le_refl _)
        obtain ⟨dwr, _, ri, n1i⟩ := hI1.rep _ _ _ hv
        -- the receiver is a list
        dsimp only [VS.of]
        by_cases hil : isLV qq.2.2 = true
        · rw [if_pos hil]
          obtain ⟨_, Fw0, a10, _⟩ := id z
          obtain ⟨l0, rfl, hr⟩ : ∃ l, dw = .ref l ∧ recv .append dw st1 = true := by
            unfold isLV at hil
            split at hil
            · rename_i xs hw
              rw [hw, Rep] at a10
              obtain ⟨l', ds, F', rfl, hl', _, _⟩ := a10
              refine ⟨l', rfl, ?_⟩
              show isL (.ref l') st1 = true
              unfold isL; dsimp only; rw [hl']
            · cases hil
          rw [bind_ok, if_pos hr]
          cases q2 : cE CV x ρv σ1 with
          | bad => trivial
          | exc y σ2 =>
            rw [q2] at h2
            obtain ⟨y', st2, e2, a1, a2, a3⟩ := h2
            have hes : evEs C ρ [x] st1 = .exc y' st2 := by rw [evEs, e2]; rfl
            rw [hes]
            exact ⟨y', ρ, st2, rfl, a1, ⟨Fs, hI1.kp a2⟩, a3, Pr.kp a2 hP1⟩
          | ok p σ2 =>
            rw [q2] at h2
            obtain ⟨dp, st2, e2, r, k2, d2⟩ := h2
            dsimp only
            by_cases ho : p.2 = .own
            · rw [if_pos ho]
              cases q3 : wrV ρv qq.1 qq.2.1 (appV qq.2.2 p.1) with
              | none => trivial
              | some ρ' =>
                obtain ⟨w0, v, v', g1, g2, g3, _⟩ := wr_inv q3
                rw [g1] at q3
                obtain ⟨Fp, rp, n1p, cp, _⟩ := r
                have hI2 := hI1.kp k2
                obtain ⟨_, Fw, a1, a2, a3, a4⟩ := z.kp n1i ri.lt k2
                have ow := own_lt hI1 (Nat.le_refl st1.length)
                have hdis : ∀ x ∈ Fp, x ∉ Fw := fun x hx h => absurd (ow _ _ hv x (a2 x h)) (Nat.not_lt.mpr ((cp ho).1 x hx))
                obtain ⟨l, c, el, hl, hset, hisL, Fw', r', nd', hs'⟩ := app_ok a1 (a3 (hI2.own _ _ hv).1) rp (cp ho).2 hdis g1
                cases el
                obtain ⟨_, o2⟩ := hI2.own _ _ hv
                have hes : evEs C ρ [x] st1 = .ok [dp] st2 := by rw [evEs, e2, bind_ok, evEs]; rfl
                rw [hes, bind_ok]
                have : meD .append (.ref l0) [dp] st2 = some (.non, st2.set l0 c) := hset
                rw [this]
                exact ⟨ρ, _, rfl, wr_fin zp hP1 ow hI2 hv hd n1p (cp ho).1 a2 hl r' nd' hs' a4 q3, d2.write (fun z => o2 l0 (a2 l0 hl) (by rw [z]; exact p0)) (fun z => n1i (by rw [← z]; exact a2 l0 hl)), by simpa using k2.1, fun m hm n1' => by
                  rw [get_set_ne fun z => o2 l0 (a2 l0 hl) (by rw [← z]; exact hm)]
                  exact k2.2 m n1' (hP1 m hm)⟩
            · rw [if_neg ho]; trivial
        · rw [if_neg hil]; trivial
  | ret e =>
    rw [cS, evS]
    refine SRel.of hP hI (vE_ok HC e hz hI.env d (Nat.le_refl _)) fun p dd σ1 st1 q1 q2 r k d1 => ?_
    cases q : retV ρv e p with
    | none => trivial
    | some p' => exact ⟨dd, st1, rfl, ret_ok hP hI k q2 r q, d1, Pr.refl⟩
  | retN =>
    rw [cS, evS]
    exact ⟨.non, st, rfl, ⟨[], by simp [Rep], by simp, fun _ => ⟨by simp, by simp⟩, by simp, .inl rfl⟩, d, Pr.refl⟩
  | ifs c a b =>
    rw [cS, evS]
    refine SRel.of hP hI (vT_ok HC c hz hI.env d) fun k k' σ1 st1 _ _ e kp d1 => ?_
    subst e
    cases k with
    | true => exact vSs_ok HC hx hk a zp p0 (pl hP kp) (hI.kp kp) d1
    | false => exact vSs_ok HC hx hk b zp p0 (pl hP kp) (hI.kp kp) d1
  | whl c b =>
    rw [cS, evS]
    have := wh_ok (Z := Z) (P := P) (cV := fun ρ σ => cT CV c ρ σ) (bodyV := fun ρ σ => cSs CV b ρ σ) (cD := fun ρ st => evT C ρ c st) (bodyD := evSs C b) (fun st ρ ρv Fs σ hP hI d => vT_ok HC c (fun l hl => hP l (zp l hl)) hI.env d) (fun st ρ ρv Fs σ hP hI d => vSs_ok HC hx hk b zp p0 hP hI d) wFuel hP hI d
    by_cases hb : whV (fun ρ σ => cT CV c ρ σ) (fun ρ σ => cSs CV b ρ σ) wFuel ρv σ = .bad
    · rw [hb]; trivial
    · have h2 := this.nb hb
      rw [whL_of rfl h2]
      exact this
  | «for» tg src b =>
    rw [cS, evS]
    cases q : lend ρv src with
    | some iv =>
      obtain ⟨i, v⟩ := iv
      dsimp only
      obtain ⟨hs, hv, hni⟩ := lend_inv q
      by_cases hc : immL v = true ∧ (tgSlots tg ++ asgSs b).contains i = false
      · rw [if_pos hc]
        have hsrc : RRel st (fun xs q st' => SrcR Z st' xs q) (csrcV CV src ρv σ) (evI C ρ src st) := by
          rcases hs with rfl | rfl
          · exact src_ok _ (fun _ => vE_ok HC _) (fun es e => by cases e) (fun a e => by cases e) hz hI.env d
          · exact src_ok _ (fun _ => vE_ok HC _) (fun es e => by cases e) (fun a e => by cases e; exact vE_ok HC _) hz hI.env d
        refine SRel.of hP hI hsrc fun xs it σ1 st1 q1 q2 r k d1 => ?_
        obtain ⟨items, g⟩ := it
        have hI1 := hI.kp k
        have hP1 := pl hP k
        obtain ⟨dd, e1, r1, n1⟩ := hI1.rep i v _ hv
        obtain ⟨o1, o2⟩ := hI1.own i v hv
        let P' : Nat → Prop := fun l => P l ∨ l ∈ Fs i
        have pp : ∀ l, P l → P' l := fun l hl => .inl hl
        have hP1' : ∀ l, P' l → l < st1.length := fun l hl => hl.elim (hP1 l) (r1.lt l)
        -- the slot is lent
        have hIl : Inv Z P' st1 ρ (ρv.set i (some (v, .lent))) Fs := by
          have hn : ∀ (j : Nat) (w : V) (o : Ow), (ρv.set i (some (v, .lent)))[j]? = some (some (w, o)) → (i = j ∧ w = v ∧ o = .lent) ∨ (i ≠ j ∧ ρv[j]? = some (some (w, o))) := by
            intro j w o e
            rcases get_set e with ⟨a, b, _⟩ | b
            · cases b; exact .inl ⟨a, rfl, rfl⟩
            · exact .inr b
          refine ⟨by simpa using hI1.len, fun j w o e => ?_, fun j w e => ?_, fun j m w x jm e2 e3 => ?_, fun j w e => ?_, fun j w e => ?_⟩
          · rcases hn j w o e with ⟨rfl, rfl, rfl⟩ | ⟨_, e⟩
            · exact ⟨dd, e1, r1, n1⟩
            · exact hI1.rep j w o e
          · rcases hn j w _ e with ⟨_, _, z⟩ | ⟨ij, e⟩
            · cases z
            · obtain ⟨u1, u2⟩ := hI1.own j w e
              exact ⟨u1, fun l hl hp => hp.elim (u2 l hl) (hI1.dis j i w v (Ne.symm ij) e hv l hl)⟩
          · rcases hn j w _ e2 with ⟨_, _, z⟩ | ⟨ij, e2⟩
            · cases z
            · rcases hn m x _ e3 with ⟨_, _, z⟩ | ⟨im, e3⟩
              · cases z
              · exact hI1.dis j m w x jm e2 e3
          · rcases hn j w _ e with ⟨_, _, z⟩ | ⟨ij, e⟩
            · cases z
            · exact hI1.fz j w e
          · rcases hn j w _ e with ⟨rfl, _, _⟩ | ⟨ij, e⟩
            · exact fun l hl => .inr hl
            · exact fun l hl => .inl (hI1.lent j w e l hl)
        have hst : ∀ p ∈ xs, (p.1.imm = true ∨ p.2 = .fz) ∧ p.2 ≠ .lent := by
          have hev : cE CV (.var i) ρv σ = .ok (v, rdo .own v) σ := by rw [cE, hv]
          rcases hs with rfl | rfl
          · have : csrcV CV (.var i) ρv σ = ofVo (goV v (rdo .own v)) σ id := by
              show (cE CV (.var i) ρv σ).bind _ = _
              rw [hev]; rfl
            rw [this] at q1
            cases q3 : goV v (rdo .own v) with
            | none => rw [q3] at q1; cases q1
            | some ys => rw [q3] at q1; cases q1; exact go_st q3 (.inr (.inr hc.1))
          · have : csrcV CV (.enum (.var i)) ρv σ = ofVo (goE v (rdo .own v)) σ id := by
              show (cE CV (.var i) ρv σ).bind _ = _
              rw [hev]; rfl
            rw [this] at q1
            cases q3 : goE v (rdo .own v) with
            | none => rw [q3] at q1; cases q1
            | some ys => rw [q3] at q1; cases q1; exact goE_st q3 (.inr (.inr hc.1))
        have hg : ∀ l ys, g = some (l, ys) → P' l ∧ l ≠ 1 := by
          intro l ys e
          refine ⟨.inr ?_, r.2.2.2 l ys e⟩
          subst e
          obtain ⟨xs', rfl⟩ : ∃ xs', v = .lst xs' := by
            cases v <;> first | (cases hc.1; done) | exact ⟨_, rfl⟩
          rw [Rep] at r1
          obtain ⟨l', ds, F', rfl, hl', _, hF⟩ := r1
          rw [hF]
          have hev : evE C ρ (.var i) st = .ok (.ref l') st := by rw [evE, e1]
          have hl0 : st[l']? = some (.lst ds) := by
            obtain ⟨_, e1', r0, n0⟩ := hI.rep i _ _ hv
            rw [e1] at e1'; cases e1'
            rw [Rep] at r0
            obtain ⟨l2, ds2, F2, e2, hl2, _, hF2⟩ := r0
            cases e2
            have hk : st1[l']? = st[l']? := k.2 l' (fun z => n0 (by rw [hF2]; simp [z])) (List.getElem?_eq_some_iff.mp hl2).1
            rw [← hk]; exact hl'
          rcases hs with rfl | rfl
          · rw [evI_ne' rfl, hev, bind_ok] at q2
            dsimp only at q2
            rw [hl0] at q2
            cases q2
            simp
          · rw [evI, hev, bind_ok] at q2
            dsimp only at q2
            rw [hl0] at q2
            cases q2
            simp
        have hloop := for_ok (Z := Z) (P := P') (fun l hl => pp l (zp l hl)) (bodyV := fun x ρ σ => match putV tg x ρ with
          | some ρ => cSs CV b ρ σ
          | none => .bad) (bodyD := fun x ρ st => match putT tg x ρ with
          | some ρ => evSs C b ρ st
          | none => .bad) hg (fun p d st ρ ρv Fs σ hP r nl hi hI hd => body_ok (fun zp p0 hP hI hd => vSs_ok HC hx hk b zp p0 hP hI hd) (fun l hl => pp l (zp l hl)) (pp 0 p0) p d st ρ ρv Fs σ hP r nl hi hI hd) hP1' r hst hIl d1
        have hkeep : Keeps i ρ (forL (fun x ρ st => match putT tg x ρ with
          | some ρ => evSs C b ρ st
          | none => .bad) g items ρ st1) := by
          have hni : i ∉ tgSlots tg ++ asgSs b := by
            have := hc.2
            simpa using this
          rw [List.mem_append, not_or] at hni
          refine forL_keeps fun x ρ st => ?_
          cases q4 : putT tg x ρ with
          | none => trivial
          | some ρ' => exact Keeps.trans (putT_keeps hni.1 q4) (asgs_ok b hni.2 ρ' st)
        refine hloop.env pp fun ρv2 ρ2 st2 Fs2 hy hI2 hpr => ?_
        have hρ : ρ2[i]? = ρ[i]? := by
          obtain ⟨y, rfl, hy⟩ := hy
          rcases hy with ⟨s, e⟩ | ⟨s, e⟩ | ⟨s, e⟩ | ⟨x, s, e⟩ <;> (rw [e] at hkeep; exact hkeep)
        have hr2 : Rep st2 v dd (Fs i) := rep_pr (Z := Z) r1 n1 (fun l hl => .inr hl) hpr
        have hd2 := hI2.drop pp
        have := hd2.set (i := i) (v := v) (o := .own) (d := dd) (F := Fs i) hr2 n1 (fun _ => ⟨o1, o2, fun j w ji e l hl hl2 => by
          unfold dropL at e
          rw [List.getElem?_map] at e
          cases q5 : ρv2[j]? with
          | none => rw [q5] at e; cases e
          | some x =>
            rw [q5] at e
            cases x with
            | none => cases e
            | some p =>
              obtain ⟨w', o'⟩ := p
              cases o' <;> simp only [Option.map_some] at e <;> cases e
              exact (hI2.own j _ q5).2 l hl2 (.inr hl)⟩) (fun z => by cases z) (fun z => by cases z)
        rw [show ρ2.set i (some dd) = ρ2 from by
          apply List.ext_getElem?
          intro j
          by_cases hj : i = j
          · subst hj
            rw [hρ, e1]
            rw [List.getElem?_set_self]
            have : ρ2[i]? = some (some dd) := by rw [hρ, e1]
            exact (List.getElem?_eq_some_iff.mp this).1
          · rw [List.getElem?_set_ne hj]] at this
        exact ⟨_, this⟩
      · rw [if_neg hc]; trivial
    | none =>
      dsimp only
      refine SRel.of hP hI (srcS_ok HC src zp hP hI.env d) fun xs it σ1 st1 q1 q2 r k d1 => ?_
      obtain ⟨items, g⟩ := it
      obtain ⟨⟨r1, r2, r3⟩, r4⟩ := r
      have hI1 := hI.kp k
      have hP1 := pl hP k
      by_cases hf : xs.2 = true
      · rw [if_pos hf]
        let P' : Nat → Prop := fun l => P l ∨ ∃ ys, g = some (l, ys)
        have pp : ∀ l, P l → P' l := fun l hl => .inl hl
        have hP1' : ∀ l, P' l → l < st1.length := fun l hl => hl.elim (hP1 l) fun ⟨ys, e⟩ => (r3 l ys e).2.1
        have hIl : Inv Z P' st1 ρ ρv Fs := ⟨hI1.len, hI1.rep, fun j w e => by
          obtain ⟨u1, u2⟩ := hI1.own j w e
          refine ⟨u1, fun l hl hp => hp.elim (u2 l hl) fun ⟨ys, e2⟩ => ?_⟩
          have h1 := r4 hf l ys e2
          have h2 := own_lt hI (Nat.le_refl _) j w e l hl
          omega, hI1.dis, hI1.fz, fun j w e l hl => .inl (hI1.lent j w e l hl)⟩
        have hloop := for_ok (Z := Z) (P := P') (fun l hl => pp l (zp l hl)) (bodyV := fun x ρ σ => match putV tg x ρ with
          | some ρ => cSs CV b ρ σ
          | none => .bad) (bodyD := fun x ρ st => match putT tg x ρ with
          | some ρ => evSs C b ρ st
          | none => .bad) (g := g) (fun l ys e => ⟨.inr ⟨ys, e⟩, (r3 l ys e).1⟩) (fun p d st ρ ρv Fs σ hP r nl hi hI hd => body_ok (fun zp p0 hP hI hd => vSs_ok HC hx hk b zp p0 hP hI hd) (fun l hl => pp l (zp l hl)) (pp 0 p0) p d st ρ ρv Fs σ hP r nl hi hI hd) hP1' r1 r2 hIl d1
        exact hloop.env pp fun ρv2 ρ2 st2 Fs2 hy hI2 hpr => ⟨_, hI2.drop pp⟩
      · rw [if_neg hf]
        exact for_ok zp (g := g) (fun l ys e => ⟨(r3 l ys e).2.2 (by simpa using hf), (r3 l ys e).1⟩) (fun p d st ρ ρv Fs σ hP r nl hi hI hd => body_ok (fun zp p0 hP hI hd => vSs_ok HC hx hk b zp p0 hP hI hd) zp p0 p d st ρ ρv Fs σ hP r nl hi hI hd) hP1 r1 r2 hI1 d1
  | brk => rw [cS, evS]; exact ⟨ρ, st, rfl, ⟨Fs, hI⟩, d, Pr.refl⟩
  | cnt => rw [cS, evS]; exact ⟨ρ, st, rfl, ⟨Fs, hI⟩, d, Pr.refl⟩
  | pas => rw [cS, evS]; exact ⟨ρ, st, rfl, ⟨Fs, hI⟩, d, Pr.refl⟩
  | rais c es =>
    rw [cS, evS]
    refine SRel.of hP hI (vEs_ok HC es hz hI.env d (Nat.le_refl _)) fun ps ds σ1 st1 q1 q2 r k d1 => ?_
    rw [hx]
    cases q : C.xc[c]? with
    | none => trivial
    | some kk =>
      dsimp only
      by_cases hc : ps.length = kk.flds.length ∧ V.imms (ps.map (·.1)) = true
      · rw [if_pos hc]
        obtain ⟨F, a, _⟩ := r
        obtain ⟨rfl, rfl⟩ := (Reps.imm hc.2).mp a
        rw [if_pos (by rw [embs_len, List.length_map]; exact hc.1)]
        refine ⟨_, ρ, st1, rfl, ⟨rfl, ?_, ?_⟩, ⟨Fs, hI.kp k⟩, d1, Pr.refl⟩
        · show kk.flds.zip (embs (ps.map (·.1))) = (kk.flds.zip (ps.map (·.1))).map fun p => (p.1, emb p.2)
          rw [embs_map]
          generalize ps.map (·.1) = vs
          generalize kk.flds = fs
          induction fs generalizing vs with
          | nil => rfl
          | cons f fs ih => cases vs with
            | nil => rfl
            | cons v vs => simp [ih]
        · intro p hp
          exact imms_mem hc.2 (List.of_mem_zip (a := p.1) (b := p.2) hp).2
      · rw [if_neg hc]; trivial
  | tryA b c i h =>
    rw [cS, evS]
    have hb := vSs_ok HC hx hk b zp p0 hP hI d
    cases q : cSs CV b ρv σ with
    | bad => trivial
    | nx _ _ => rw [q] at hb; obtain ⟨ρ', st', e, hp⟩ := hb; rw [e]; exact ⟨ρ', st', rfl, hp⟩
    | brk _ _ => rw [q] at hb; obtain ⟨ρ', st', e, hp⟩ := hb; rw [e]; exact ⟨ρ', st', rfl, hp⟩
    | cnt _ _ => rw [q] at hb; obtain ⟨ρ', st', e, hp⟩ := hb; rw [e]; exact ⟨ρ', st', rfl, hp⟩
    | ret _ _ => rw [q] at hb; obtain ⟨ρ', st', e, hp⟩ := hb; rw [e]; exact ⟨ρ', st', rfl, hp⟩
    | exc x ρv1 σ1 =>
      rw [q] at hb
      obtain ⟨y, ρ1, st1, e, hxy, ⟨⟨Fs1, a1⟩, a2, a3⟩⟩ := hb
      rw [e]
      dsimp only
      rw [hxy.1, a1.len]
      by_cases hc : x.cls = c ∧ i < ρv1.length
      · rw [if_pos hc, if_pos hc, hx]
        exact SRel.pr a3 (hs_ok h i zp p0 (fun l hl => Nat.lt_of_lt_of_le (hP l hl) a3.1) a1 a2 hxy)
      · rw [if_neg hc]; trivial
termination_by s => sizeOf s
theorem vSs_ok (HC : CallOk C.call CV.call) (hx : CV.xc = C.xc) (hk : CV.kt = C.kt) : ∀ s : List S, OkSs C CV s := by
  intro s Z P st ρ ρv Fs σ zp p0 hP hI d
  cases s with
  | nil => rw [cSs, evSs]; exact ⟨ρ, st, rfl, ⟨Fs, hI⟩, d, Pr.refl⟩
  | cons s r =>
    rw [cSs, evSs]
    refine SRel.bind (vS_ok HC hx hk s zp p0 hP hI d) fun ρv1 ρ1 σ1 st1 Fs1 hI1 d1 k => ?_
    exact vSs_ok HC hx hk r zp p0 (fun l hl => Nat.lt_of_lt_of_le (hP l hl) k.1) hI1 d1
termination_by s => sizeOf s
end
end
end DL

set_option linter.all false
set_option maxRecDepth 100000
set_option maxHeartbeats 2000000
/-! calls over values -/
namespace DL
theorem draw1x {C : Ctx} {st : Store} {σ : Sg} {n : Int} (h : DrS σ st) : ∃ (y : Option D), evS C (.ifs (.and [(.cmp .eq (.ix (.var 0) (.cst (.int (2)))) (.cst (.int (0)))), (.cmp .lt (.ix (.var 0) (.cst (.int (1)))) (.bi .len [(.ix (.var 0) (.cst (.int (0))))]))]) [
    .set 2 (.ix (.ix (.var 0) (.cst (.int (0)))) (.ix (.var 0) (.cst (.int (1))))),
    .setX (.var 0) (.cst (.int (1))) (.bin .add (.ix (.var 0) (.cst (.int (1)))) (.cst (.int (1)))),
    .ifs (.cmp .ge (.var 2) (.bin .pow (.cst (.int (10))) (.cst (.int (18))))) [
      .setX (.var 0) (.cst (.int (2))) (.var 2)] [],
    .setX (.var 0) (.cst (.int (3))) (.bin .mod (.bi .int [(.bin .add (.bin .add (.bin .mul (.ix (.var 0) (.cst (.int (3)))) (.cst (.int (48271)))) (.var 2)) (.cst (.int (13))))]) (.cst (.int (2147483647))))] []) [some (.ref 1), some (.int n), none, none] st = .nx [some (.ref 1), some (.int n), y, none] (st.set 1 (dcell 0 (dr1 σ).a (dr1 σ).b (dr1 σ).c)) ∧ (dr1 σ).ns = σ.ns ∧ 0 ≤ (dr1 σ).a ∧ (dr1 σ).a ≤ σ.ns.length ∧ 0 ≤ (dr1 σ).b ∧ 0 ≤ (dr1 σ).c := by
  obtain ⟨h0, e1, ha, ha2, hb, hc, hle⟩ := h
  obtain ⟨ns, a, b, c⟩ := σ
  dsimp only at *
  have hl1 : 1 < st.length := (List.getElem?_eq_some_iff.mp e1).1
  have e1' : st[1]? = some (.lst [.ref 0, .int a, .int b, .int c]) := e1
  have i0 := ix_cell (i := 0) (d := .ref 0) e1' (by decide) rfl
  have i1 := ix_cell (i := 1) (d := .int a) e1' (by decide) rfl
  have i2 := ix_cell (i := 2) (d := .int b) e1' (by decide) rfl
  have i3 := ix_cell (i := 3) (d := .int c) e1' (by decide) rfl
  have s1 := fun v => set_cell (KT := C.kt) (i := 1) (d := v) e1' (by decide) (by simp)
  have lenE : lenD [.ref 0] st = some (.int ns.length, st) := by unfold lenD itemsD; simp [h0]
  have idem : st = st.set 1 (dcell 0 a b c) := by
    apply List.ext_getElem?
    intro j
    by_cases hj : 1 = j
    · subst hj; rw [set_get e1, e1]
    · rw [List.getElem?_set_ne hj]
  have eqb : eqD st (.int b) (.int 0) = some (b == 0) := by simp [eqD, rsv1, rsv, PD.eqv]
  by_cases hb0 : b = 0
  · by_cases hlt : a < ns.length
    · obtain ⟨x, hx⟩ : ∃ x, ns[a.toNat]? = some x := ⟨ns[a.toNat]'(by omega), List.getElem?_eq_getElem (by omega)⟩
      have i4 := ix_cell (i := a) (d := .int x) h0 ha (by rw [List.getElem?_map, hx]; rfl)
      have m1 : 0 ≤ (c * 48271 + x + 13) % 2147483647 := Int.emod_nonneg _ (by decide)
      have hgd : ns.getD a.toNat 0 = x := by rw [List.getD_eq_getElem?_getD, hx]; rfl
      have hdr : dr1 ⟨ns, a, b, c⟩ = ⟨ns, a + 1, if (1000000000000000000:Int) ≤ x then x else 0, (c * 48271 + x + 13) % 2147483647⟩ := by
        unfold dr1
        rw [if_pos ⟨hb0, hlt⟩]
        dsimp only
        rw [hgd]
      rw [hdr]
      by_cases hx18 : (1000000000000000000:Int) ≤ x
      · rw [if_pos hx18]
        refine ⟨some (.int x), ?_, rfl, by dsimp only; omega, by dsimp only; omega, by dsimp only; omega, m1⟩
        subst hb0
        simp [evSs, evS, evT, evE, evEs, evAnd, ltD, leD, truD, intD, addD, mulD, modD, powD, small64, i0, i1, i2, i3, i4, lenE, eqb, hlt, s1, ix_set hl1, setX_set hl1, dcell, hx18]
      · rw [if_neg hx18]
        refine ⟨some (.int x), ?_, rfl, by dsimp only; omega, by dsimp only; omega, by dsimp only; omega, m1⟩
        subst hb0
        simp [evSs, evS, evT, evE, evEs, evAnd, ltD, leD, truD, intD, addD, mulD, modD, powD, small64, i0, i1, i2, i3, i4, lenE, eqb, hlt, s1, ix_set hl1, setX_set hl1, dcell, hx18]
    · have hdr : dr1 ⟨ns, a, b, c⟩ = ⟨ns, a, b, c⟩ := by unfold dr1; rw [if_neg (fun z => hlt z.2)]
      rw [hdr]
      refine ⟨none, ?_, rfl, ha, ha2, hb, hc⟩
      dsimp only
      rw [← idem]
      subst hb0
      simp [evSs, evS, evT, evE, evEs, evAnd, ltD, truD, i0, i1, i2, lenE, eqb, hlt]
  · have hdr : dr1 ⟨ns, a, b, c⟩ = ⟨ns, a, b, c⟩ := by unfold dr1; rw [if_neg (fun z => hb0 z.1)]
    rw [hdr]
    refine ⟨none, ?_, rfl, ha, ha2, hb, hc⟩
    dsimp only
    rw [← idem]
    have : (b == 0) = false := by simp [hb0]
    simp [evSs, evS, evT, evE, evEs, evAnd, ltD, truD, i0, i1, i2, lenE, eqb, this]
theorem draw_x {XC : List XCls} {KT : List D} {T : List Fn} {k i : Nat} {st : Store} {σ : Sg} {n : Int} (hT : T[i]? = some drawFn) (h : DrS σ st) (h1 : 1 ≤ n) (h2 : n < 1073741824) :
    ∃ st', callF XC KT T (k + 1) i [.ref 1, .int n] st = .ok (.int (drawV σ n).1) st' ∧ Kp st st' ∧ DrS (drawV σ n).2 st' := by
  have hl1 : 1 < st.length := h.two
  obtain ⟨y, q, hns, ha, ha2, hb, hc⟩ := draw1x (C := ⟨XC, KT, callF XC KT T k⟩) (n := n) h
  have e1' : (st.set 1 (dcell 0 (dr1 σ).a (dr1 σ).b (dr1 σ).c))[1]? = some (dcell 0 (dr1 σ).a (dr1 σ).b (dr1 σ).c) := List.getElem?_set_self hl1
  have fin : ∀ (b' c' v : Int), evSs ⟨XC, KT, callF XC KT T k⟩ (drawFn.body.drop 1) [some (.ref 1), some (.int n), y, none] (st.set 1 (dcell 0 (dr1 σ).a (dr1 σ).b (dr1 σ).c)) = .ret (.int v) ((st.set 1 (dcell 0 (dr1 σ).a (dr1 σ).b (dr1 σ).c)).set 1 (dcell 0 (dr1 σ).a b' c')) → 0 ≤ b' → 0 ≤ c' →
      ∃ st', callF XC KT T (k + 1) i [.ref 1, .int n] st = .ok (.int v) st' ∧ Kp st st' ∧ DrS ⟨(dr1 σ).ns, (dr1 σ).a, b', c'⟩ st' := by
    intro b' c' v q' q3 q4
    rw [List.set_set] at q'
    refine ⟨st.set 1 (dcell 0 (dr1 σ).a b' c'), ?_, Kp.set1, ⟨?_, List.getElem?_set_self hl1, ha, by dsimp only; rw [hns]; exact ha2, q3, q4, by dsimp only; rw [hns]; exact h.le⟩⟩
    · rw [call_ret hT rfl ((evSs_nx q).trans q'), settle_same (by simp)]
    · rw [List.getElem?_set_ne (by decide)]; dsimp only; rw [hns]; exact h.at0
  unfold drawV
  by_cases hb0 : 0 < (dr1 σ).b
  · rw [if_pos hb0]
    exact fin ((dr1 σ).b / n) (dr1 σ).c ((dr1 σ).b % n) (draw2 e1' hb0 h1 h2) (Int.ediv_nonneg hb (by omega)) hc
  · rw [if_neg hb0]
    have hz : (dr1 σ).b = 0 := by omega
    rw [hz] at e1'
    have := fin 0 _ _ (by rw [hz]; exact draw3 e1' h1) (Int.le_refl _) (Int.emod_nonneg _ (by decide))
    rw [hz]
    exact this
theorem settle_get {st st' : Store} {ds : List D} (h : st.length ≤ st'.length) : st.length ≤ (settle st st' ds).length ∧ ∀ l, l < st.length → (settle st st' ds)[l]? = st'[l]? := by
  unfold settle
  split
  · exact ⟨by rw [List.length_take]; omega, fun l hl => List.getElem?_take_of_lt hl⟩
  · exact ⟨h, fun _ _ => rfl⟩
theorem settle_Kp {st st' : Store} {ds : List D} (k : Kp st st') : Kp st (settle st st' ds) :=
  ⟨(settle_get k.1).1, fun j h1 h2 => by rw [(settle_get k.1).2 j h2]; exact k.2 j h1 h2⟩
theorem settle_Dr {st st' : Store} {ds : List D} {σ : Sg} (h2 : 2 ≤ st.length) (k : Kp st st') (d : DrS σ st') : DrS σ (settle st st' ds) :=
  ⟨by rw [(settle_get k.1).2 0 (by omega)]; exact d.at0, by rw [(settle_get k.1).2 1 (by omega)]; exact d.at1, d.a0, d.aN, d.b0, d.c0, d.le⟩
theorem Reps.split {st : Store} : ∀ {vs : List V} {ds : List D} {F : List Nat}, Reps st vs ds F → ∃ Fs : Nat → List Nat, ∀ (i : Nat) (v : V), vs[i]? = some v → ∃ d, ds[i]? = some d ∧ Rep st v d (Fs i) ∧ ∀ l ∈ Fs i, l ∈ F
  | [], ds, F, h => ⟨fun _ => [], fun i v e => by simp at e⟩
  | v :: vs, ds, F, h => by
    rw [Reps] at h
    obtain ⟨d, ds', F1, F2, rfl, h1, h2, rfl⟩ := h
    obtain ⟨Fs, hF⟩ := Reps.split h2
    refine ⟨fun i => match i with | 0 => F1 | i + 1 => Fs i, fun i w e => ?_⟩
    cases i with
    | zero => cases e; exact ⟨d, rfl, h1, fun l hl => by simp [show l ∈ F1 from hl]⟩
    | succ i =>
      obtain ⟨d', a, b, c⟩ := hF i w (by simpa using e)
      exact ⟨d', by simpa using a, b, fun l hl => by simp [c l hl]⟩
theorem inv_start {Z P : Nat → Prop} {st : Store} {vs : List V} {ds : List D} {F : List Nat} (h : Reps st vs ds F) (n1 : 1 ∉ F) (hz : ∀ l ∈ F, Z l) (n : Nat) :
    ∃ Fs, Inv Z P st (ds.map some ++ List.replicate n none) (vs.map (fun v => some (v, Ow.fz)) ++ List.replicate n none) Fs := by
  obtain ⟨Fs, hF⟩ := h.split
  have key : ∀ (i : Nat) (v : V) (o : Ow), (vs.map (fun v => some (v, Ow.fz)) ++ List.replicate n none)[i]? = some (some (v, o)) → o = .fz ∧ ∃ d, (ds.map some ++ List.replicate n none)[i]? = some (some d) ∧ Rep st v d (Fs i) ∧ ∀ l ∈ Fs i, l ∈ F := by
    intro i v o e
    by_cases hi : i < vs.length
    · rw [List.getElem?_append_left (by simpa using hi), List.getElem?_map, List.getElem?_eq_getElem hi] at e
      cases e
      obtain ⟨d, a, b, c⟩ := hF i _ (List.getElem?_eq_getElem hi)
      exact ⟨rfl, d, by rw [List.getElem?_append_left (by rw [List.length_map, h.len]; exact hi), List.getElem?_map, a]; rfl, b, c⟩
    · rw [List.getElem?_append_right (by simpa using Nat.le_of_not_lt hi)] at e
      rw [List.getElem?_replicate] at e
      split at e <;> cases e
  refine ⟨Fs, by simp [h.len], fun i v o e => ?_, fun i v e => ?_, fun i j v w ij e => ?_, fun i v e => ?_, fun i v e => ?_⟩
  · obtain ⟨_, d, a, b, c⟩ := key i v o e
    exact ⟨d, a, b, fun z => n1 (c 1 z)⟩
  · cases (key i v _ e).1
  · cases (key i v _ e).1
  · obtain ⟨_, d, a, b, c⟩ := key i v _ e
    exact fun l hl => hz l (c l hl)
  · cases (key i v _ e).1
/-- calls over values are those over data -/
theorem call_ok {XC : List XCls} {KT : List D} {T : List Fn} {dr : Nat} (hT : T[dr]? = some drawFn) : ∀ k, CallOk (callF XC KT T k) (ccall XC KT T dr k)
  | 0 => fun f vs ds F Z st σ _ _ _ _ _ => trivial
  | k + 1 => by
    intro f vs ds F Z st σ h n1 hz hZ d
    rw [ccall]
    by_cases hf : f = dr
    · rw [if_pos hf]
      subst hf
      unfold drawC
      split
      · rename_i n
        split
        · rename_i hn
          obtain ⟨rfl, rfl⟩ := (Reps.imm (by rfl)).mp h
          obtain ⟨st', e, kp, d'⟩ := draw_x (XC := XC) (KT := KT) (k := k) hT d hn.1 hn.2
          exact ⟨_, st', e, RepO.imm (v := .int _) rfl, kp, d'⟩
        · trivial
      · trivial
    · rw [if_neg hf]
      cases q : T[f]? with
      | none => trivial
      | some fn =>
        dsimp only
        by_cases ha : vs.length = fn.np
        · rw [if_pos ha, call_of q (by rw [h.len]; exact ha)]
          obtain ⟨Fs, hI⟩ := inv_start (Z := Z) (P := fun l => l < st.length) h n1 hz (fn.ns - fn.np)
          have := vSs_ok (C := ⟨XC, KT, callF XC KT T k⟩) (CV := ⟨XC, KT, ccall XC KT T dr k⟩) (call_ok hT k) rfl rfl fn.body hZ (by have := d.two; show 0 < st.length; omega) (fun l hl => hl) hI d
          have hkp : ∀ st', Pr (fun l => l < st.length) st st' → Kp st st' := fun st' p => ⟨p.1, fun j h1 h2 => p.2 j h2 h1⟩
          cases q2 : cSs ⟨XC, KT, ccall XC KT T dr k⟩ fn.body (vs.map (fun v => some (v, Ow.fz)) ++ List.replicate (fn.ns - fn.np) none) σ with
          | bad => trivial
          | brk _ _ => trivial
          | cnt _ _ => trivial
          | ret p σ1 =>
            rw [q2] at this
            obtain ⟨dd, st1, e, ⟨G, r, n1', ho, hf', hor⟩, d1, pr⟩ := this
            rw [e]
            have kp := hkp _ pr
            refine ⟨dd, _, rfl, ⟨G, ?_, n1', fun q => ⟨fun l hl => Nat.le_of_not_lt ((ho q).1 l hl), (ho q).2⟩, hf'⟩, settle_Kp kp, settle_Dr d.two kp d1⟩
            rcases hor with q3 | q3
            · by_cases hG : G = []
              · exact r.frame (by rw [hG]; simp)
              · have hw := r.nwf (n := st.length) hG fun l hl => Nat.le_of_not_lt ((ho q3).1 l hl)
                have : settle st st1 [dd] = st1 := by
                  unfold settle
                  rw [if_neg]
                  rintro ⟨_, z, _⟩
                  have := z dd (by simp)
                  rw [hw] at this
                  cases this
                rw [this]; exact r
            · exact r.frame fun l hl => (settle_get kp.1).2 l (hZ l (hf' q3 l hl))
          | nx _ σ1 =>
            rw [q2] at this
            obtain ⟨_, st1, e, _, d1, pr⟩ := this
            rw [e]
            have kp := hkp _ pr
            exact ⟨.non, _, rfl, RepO.imm (v := .non) rfl, settle_Kp kp, settle_Dr d.two kp d1⟩
          | exc x _ σ1 =>
            rw [q2] at this
            obtain ⟨y, _, st1, e, hxy, _, d1, pr⟩ := this
            rw [e]
            have kp := hkp _ pr
            exact ⟨y, _, rfl, hxy, settle_Kp kp, settle_Dr d.two kp d1⟩
        · rw [if_neg ha]; trivial
/-- the law: its draws are made first, the rest goes over values -/
theorem law_of {XC : List XCls} {KT : List D} {T : List Fn} {dr mkd f k : Nat} {rest : List S} {nsl : Nat} (hT : T[dr]? = some drawFn)
    (hm : T[mkd]? = some ⟨1, 1, [.ret (.lst [(.bi .list [(.var 0)]), (.cst (.int (0))), (.cst (.int (0))), (.cst (.int (1)))])]⟩)
    (hf : T[f]? = some ⟨1, nsl + 2, .set 1 (.call mkd [(.var 0)]) :: rest⟩) {ns : List Int} (hn : ns.length ≤ 63)
    (h : ∃ σ', cSs ⟨XC, KT, ccall XC KT T dr (k + 1)⟩ rest (none :: some (.drw, .own) :: List.replicate nsl none) ⟨ns, 0, 0, 1⟩ = .ret (.bl true, .own) σ') :
    ∃ st, callF XC KT T (k + 2) f [.fl ns] [] = .ok (.bl true) st := by
  have q1 : callF XC KT T (k + 1) mkd [.fl ns] [] = .ok (.ref 1) [.lst (ns.map .int), dcell 0 0 0 1] := by
    rw [call_ret (d := .ref 1) (st' := [.lst (ns.map .int), dcell 0 0 0 1]) hm rfl, settle_ref (by simp)]
    simp [evSs, evS, evE, evEs, listD, newL, okS, dcell]
  obtain ⟨σ', h⟩ := h
  have d : DrS ⟨ns, 0, 0, 1⟩ [.lst (ns.map .int), dcell 0 0 0 1] := ⟨rfl, rfl, Int.le_refl 0, by dsimp only; omega, Int.le_refl 0, by dsimp only; omega, hn⟩
  have hI : Inv (fun l => l < 2) (fun l => l < 2) [.lst (ns.map .int), dcell 0 0 0 1] (some (.fl ns) :: some (.ref 1) :: List.replicate nsl none) (none :: some (.drw, .own) :: List.replicate nsl none) (fun _ => []) := by
    have key : ∀ (i : Nat) (v : V) (o : Ow), (none :: some (V.drw, Ow.own) :: List.replicate nsl none : VEnv)[i]? = some (some (v, o)) → i = 1 ∧ v = .drw ∧ o = .own := by
      intro i v o e
      match i, e with
      | 0, e => cases e
      | 1, e => cases e; exact ⟨rfl, rfl, rfl⟩
      | i + 2, e =>
        rw [List.getElem?_cons_succ, List.getElem?_cons_succ, List.getElem?_replicate] at e
        split at e <;> cases e
    refine ⟨by simp, fun i v o e => ?_, fun i v e => by simp, fun i j v w ij e1 e2 => ?_, fun i v e => by simp, fun i v e => by simp⟩
    · obtain ⟨rfl, rfl, rfl⟩ := key i v o e
      exact ⟨.ref 1, rfl, by simp [Rep], by simp⟩
    · simp
  have := vSs_ok (C := ⟨XC, KT, callF XC KT T (k + 1)⟩) (CV := ⟨XC, KT, ccall XC KT T dr (k + 1)⟩) (call_ok hT (k + 1)) rfl rfl rest (Z := fun l => l < 2) (P := fun l => l < 2) (st := [.lst (ns.map .int), dcell 0 0 0 1]) (fun l hl => hl) (by decide) (fun l hl => hl) hI d
  rw [h] at this
  obtain ⟨dd, st', e, ⟨F, r, _⟩, _⟩ := this
  simp only [Rep] at r
  rw [r.1] at e
  refine ⟨_, call_ret (d := .bl true) (st' := st') hf rfl ?_⟩
  show evSs _ (_ :: rest) (some (.fl ns) :: List.replicate (nsl + 1) none) [] = _
  rw [evSs_nx (ρ' := some (.fl ns) :: some (.ref 1) :: List.replicate nsl none) (st' := [.lst (ns.map .int), dcell 0 0 0 1])]
  · exact e
  · simp [evS, evE, evEs, q1, List.replicate_succ]
end DL

set_option linter.all false
set_option maxRecDepth 100000
set_option maxHeartbeats 1000000
/-! the evaluator behind a gate that the kernel does not open; its rules -/
namespace DL
noncomputable def gate : Bool := Classical.choose (⟨true, rfl⟩ : ∃ b : Bool, b = true)
theorem gate_eq : gate = true := Classical.choose_spec (⟨true, rfl⟩ : ∃ b : Bool, b = true)
noncomputable def gR {α : Type} (r : VR α) : VR α := match gate with | true => r | false => .bad
theorem gR_eq {α : Type} (r : VR α) : gR r = r := by unfold gR; rw [gate_eq]
noncomputable def gV (r : VS) : VS := match gate with | true => r | false => .bad
theorem gV_eq (r : VS) : gV r = r := by unfold gV; rw [gate_eq]
noncomputable def vE (C : VCtx) (e : E) (ρ : VEnv) (σ : Sg) : VR VO := gR (cE C e ρ σ)
noncomputable def vEs (C : VCtx) (e : List E) (ρ : VEnv) (σ : Sg) : VR (List VO) := gR (cEs C e ρ σ)
noncomputable def vAnd (C : VCtx) (e : List E) (ρ : VEnv) (σ : Sg) : VR VO := gR (cAnd C e ρ σ)
noncomputable def vOr (C : VCtx) (e : List E) (ρ : VEnv) (σ : Sg) : VR VO := gR (cOr C e ρ σ)
noncomputable def vIfs (C : VCtx) (e : List E) (ρ : VEnv) (σ : Sg) : VR Bool := gR (cIfs C e ρ σ)
noncomputable def vT (C : VCtx) (e : E) (ρ : VEnv) (σ : Sg) : VR Bool := gR (cT C e ρ σ)
noncomputable def vPath (C : VCtx) (e : E) (ρ : VEnv) (σ : Sg) : VR (Nat × List V × V) := gR (cPath C e ρ σ)
noncomputable def srcV (C : VCtx) (e : E) (ρ : VEnv) (σ : Sg) : VR (List VO) := gR (csrcV C e ρ σ)
noncomputable def srcS (C : VCtx) (e : E) (ρ : VEnv) (σ : Sg) : VR (List VO × Bool) := gR (csrcS C e ρ σ)
noncomputable def vS (C : VCtx) (e : S) (ρ : VEnv) (σ : Sg) : VS := gV (cS C e ρ σ)
noncomputable def vSs (C : VCtx) (e : List S) (ρ : VEnv) (σ : Sg) : VS := gV (cSs C e ρ σ)
noncomputable def callV (XC : List XCls) (KT : List D) (T : List Fn) (dr k f : Nat) (args : List V) (σ : Sg) : VR VO := gR (ccall XC KT T dr k f args σ)
theorem vE_eq : vE = cE := by funext C e ρ σ; exact gR_eq _
theorem vEs_eq : vEs = cEs := by funext C e ρ σ; exact gR_eq _
theorem vAnd_eq : vAnd = cAnd := by funext C e ρ σ; exact gR_eq _
theorem vOr_eq : vOr = cOr := by funext C e ρ σ; exact gR_eq _
theorem vIfs_eq : vIfs = cIfs := by funext C e ρ σ; exact gR_eq _
theorem vT_eq : vT = cT := by funext C e ρ σ; exact gR_eq _
theorem vPath_eq : vPath = cPath := by funext C e ρ σ; exact gR_eq _
theorem srcV_eq : srcV = csrcV := by funext C e ρ σ; exact gR_eq _
theorem srcS_eq : srcS = csrcS := by funext C e ρ σ; exact gR_eq _
theorem vS_eq : vS = cS := by funext C e ρ σ; exact gV_eq _
theorem vSs_eq : vSs = cSs := by funext C e ρ σ; exact gV_eq _
theorem callV_eq : callV = ccall := by funext XC KT T dr k f args σ; exact gR_eq _
def srcVal' : E → Bool
  | .rng _ => false
  | .enum _ => false
  | _ => true
section
variable {C : VCtx} {ρ : VEnv} {σ : Sg}
theorem vE_var' : vE C (.var i) ρ σ = (match ρ[i]? with | some (some p) => .ok (p.1, rdo p.2 p.1) σ | _ => .bad) := by
  simp only [vE_eq, vEs_eq, vAnd_eq, vOr_eq, vIfs_eq, vT_eq, vPath_eq, srcV_eq, srcS_eq, vS_eq, vSs_eq]
  (rw [cE]) <;> rfl
theorem vE_cst' : vE C (.cst d) ρ σ = (nw (unemb d) σ) := by
  simp only [vE_eq, vEs_eq, vAnd_eq, vOr_eq, vIfs_eq, vT_eq, vPath_eq, srcV_eq, srcS_eq, vS_eq, vSs_eq]
  (rw [cE]) <;> rfl
theorem vE_bin' : vE C (.bin o a b) ρ σ = ((vE C a ρ σ).bind fun x σ => (vE C b ρ σ).bind fun y σ => nw (binV o x.1 y.1) σ) := by
  simp only [vE_eq, vEs_eq, vAnd_eq, vOr_eq, vIfs_eq, vT_eq, vPath_eq, srcV_eq, srcS_eq, vS_eq, vSs_eq]
  (rw [cE]) <;> rfl
theorem vE_cmp' : vE C (.cmp o a b) ρ σ = ((vE C a ρ σ).bind fun x σ => (vE C b ρ σ).bind fun y σ => ofVo (cmpV o x.1 y.1) σ fun b => (.bl b, .own)) := by
  simp only [vE_eq, vEs_eq, vAnd_eq, vOr_eq, vIfs_eq, vT_eq, vPath_eq, srcV_eq, srcS_eq, vS_eq, vSs_eq]
  (rw [cE]) <;> rfl
theorem vE_chain' : vE C (.chain o1 o2 a b c) ρ σ = ((vE C a ρ σ).bind fun x σ => (vE C b ρ σ).bind fun y σ => match cmpV o1 x.1 y.1 with
    | some true => (vE C c ρ σ).bind fun z σ => ofVo (cmpV o2 y.1 z.1) σ fun b => (.bl b, .own)
    | some false => .ok (.bl false, .own) σ
    | none => .bad) := by
  simp only [vE_eq, vEs_eq, vAnd_eq, vOr_eq, vIfs_eq, vT_eq, vPath_eq, srcV_eq, srcS_eq, vS_eq, vSs_eq]
  (rw [cE]) <;> rfl
theorem vE_and' : vE C (.and es) ρ σ = (vAnd C es ρ σ) := by
  simp only [vE_eq, vEs_eq, vAnd_eq, vOr_eq, vIfs_eq, vT_eq, vPath_eq, srcV_eq, srcS_eq, vS_eq, vSs_eq]
  (rw [cE]) <;> rfl
theorem vE_or' : vE C (.or es) ρ σ = (vOr C es ρ σ) := by
  simp only [vE_eq, vEs_eq, vAnd_eq, vOr_eq, vIfs_eq, vT_eq, vPath_eq, srcV_eq, srcS_eq, vS_eq, vSs_eq]
  (rw [cE]) <;> rfl
theorem vE_not' : vE C (.not a) ρ σ = ((vE C a ρ σ).bind fun x σ => ofVo (truV x.1) σ fun b => (.bl (!b), .own)) := by
  simp only [vE_eq, vEs_eq, vAnd_eq, vOr_eq, vIfs_eq, vT_eq, vPath_eq, srcV_eq, srcS_eq, vS_eq, vSs_eq]
  (rw [cE]) <;> rfl
theorem vE_neg' : vE C (.neg a) ρ σ = ((vE C a ρ σ).bind fun x σ => match x.1 with | .int i => .ok (.int (-i), .own) σ | _ => .bad) := by
  simp only [vE_eq, vEs_eq, vAnd_eq, vOr_eq, vIfs_eq, vT_eq, vPath_eq, srcV_eq, srcS_eq, vS_eq, vSs_eq]
  (rw [cE]) <;> rfl
theorem vE_ife' : vE C (.ife c a b) ρ σ = ((vE C c ρ σ).bind fun x σ => match truV x.1 with
    | some true => vE C a ρ σ
    | some false => vE C b ρ σ
    | none => .bad) := by
  simp only [vE_eq, vEs_eq, vAnd_eq, vOr_eq, vIfs_eq, vT_eq, vPath_eq, srcV_eq, srcS_eq, vS_eq, vSs_eq]
  (rw [cE]) <;> rfl
theorem vE_tup' : vE C (.tup es) ρ σ = ((vEs C es ρ σ).bind fun xs σ => if okS xs.length = true then ofVo (mk xs) σ fun vs => (.tup vs, .own) else .bad) := by
  simp only [vE_eq, vEs_eq, vAnd_eq, vOr_eq, vIfs_eq, vT_eq, vPath_eq, srcV_eq, srcS_eq, vS_eq, vSs_eq]
  (rw [cE]) <;> rfl
theorem vE_lst' : vE C (.lst es) ρ σ = ((vEs C es ρ σ).bind fun xs σ => if okS xs.length = true then ofVo (mk xs) σ fun vs => (.lst vs, .own) else .bad) := by
  simp only [vE_eq, vEs_eq, vAnd_eq, vOr_eq, vIfs_eq, vT_eq, vPath_eq, srcV_eq, srcS_eq, vS_eq, vSs_eq]
  (rw [cE]) <;> rfl
theorem vE_dic' : vE C (.dic tk) ρ σ = (.ok (.dic tk [] [], .own) σ) := by
  simp only [vE_eq, vEs_eq, vAnd_eq, vOr_eq, vIfs_eq, vT_eq, vPath_eq, srcV_eq, srcS_eq, vS_eq, vSs_eq]
  (rw [cE]) <;> rfl
theorem vE_ix' : vE C (.ix a b) ρ σ = ((vE C a ρ σ).bind fun x σ => (vE C b ρ σ).bind fun y σ => ofVo (ixV x.1 y.1) σ fun v => (v, rdo x.2 v)) := by
  simp only [vE_eq, vEs_eq, vAnd_eq, vOr_eq, vIfs_eq, vT_eq, vPath_eq, srcV_eq, srcS_eq, vS_eq, vSs_eq]
  (rw [cE]) <;> rfl
theorem vE_sl' : vE C (.sl a lo hi) ρ σ = ((vE C a ρ σ).bind fun x σ => (if isNop lo = true then VR.ok none σ else (vE C lo ρ σ).bind fun x σ => toI x.1 σ).bind fun l σ => (if isNop hi = true then VR.ok none σ else (vE C hi ρ σ).bind fun x σ => toI x.1 σ).bind fun h σ => nw (slV x.1 l h) σ) := by
  simp only [vE_eq, vEs_eq, vAnd_eq, vOr_eq, vIfs_eq, vT_eq, vPath_eq, srcV_eq, srcS_eq, vS_eq, vSs_eq]
  (rw [cE]) <;> rfl
theorem vE_rev' : vE C (.rev a) ρ σ = ((vE C a ρ σ).bind fun x σ => nw (revV x.1) σ) := by
  simp only [vE_eq, vEs_eq, vAnd_eq, vOr_eq, vIfs_eq, vT_eq, vPath_eq, srcV_eq, srcS_eq, vS_eq, vSs_eq]
  (rw [cE]) <;> rfl
theorem vE_call' : vE C (.call f es) ρ σ = ((vEs C es ρ σ).bind fun xs σ => (C.call f (xs.map (·.1)) σ).bind fun p σ => .ok (cao xs p) σ) := by
  simp only [vE_eq, vEs_eq, vAnd_eq, vOr_eq, vIfs_eq, vT_eq, vPath_eq, srcV_eq, srcS_eq, vS_eq, vSs_eq]
  (rw [cE]) <;> rfl
theorem vE_bi' : vE C (.bi b es) ρ σ = ((vEs C es ρ σ).bind fun xs σ => nw (biV b (xs.map (·.1))) σ) := by
  simp only [vE_eq, vEs_eq, vAnd_eq, vOr_eq, vIfs_eq, vT_eq, vPath_eq, srcV_eq, srcS_eq, vS_eq, vSs_eq]
  (rw [cE]) <;> rfl
theorem vE_isi' : vE C (.isi a t) ρ σ = ((vE C a ρ σ).bind fun x σ => ofVo (isiV x.1 t) σ fun b => (.bl b, .own)) := by
  simp only [vE_eq, vEs_eq, vAnd_eq, vOr_eq, vIfs_eq, vT_eq, vPath_eq, srcV_eq, srcS_eq, vS_eq, vSs_eq]
  (rw [cE]) <;> rfl
theorem vE_me' : vE C (.me m a es) ρ σ = ((vE C a ρ σ).bind fun x σ => if recvV m x.1 = true then (vEs C es ρ σ).bind fun xs σ => nw (meV m x.1 (xs.map (·.1))) σ else .bad) := by
  simp only [vE_eq, vEs_eq, vAnd_eq, vOr_eq, vIfs_eq, vT_eq, vPath_eq, srcV_eq, srcS_eq, vS_eq, vSs_eq]
  (rw [cE]) <;> rfl
theorem vEs_nil' : vEs C [] ρ σ = (.ok [] σ) := by
  simp only [vE_eq, vEs_eq, vAnd_eq, vOr_eq, vIfs_eq, vT_eq, vPath_eq, srcV_eq, srcS_eq, vS_eq, vSs_eq]
  (rw [cEs]) <;> rfl
theorem vEs_cons' : vEs C (e :: es) ρ σ = ((vE C e ρ σ).bind fun x σ => (vEs C es ρ σ).bind fun xs σ => .ok (x :: xs) σ) := by
  simp only [vE_eq, vEs_eq, vAnd_eq, vOr_eq, vIfs_eq, vT_eq, vPath_eq, srcV_eq, srcS_eq, vS_eq, vSs_eq]
  (rw [cEs]) <;> rfl
theorem vAnd_nil' : vAnd C [] ρ σ = (.ok (.bl true, .own) σ) := by
  simp only [vE_eq, vEs_eq, vAnd_eq, vOr_eq, vIfs_eq, vT_eq, vPath_eq, srcV_eq, srcS_eq, vS_eq, vSs_eq]
  (rw [cAnd]) <;> rfl
theorem vAnd_cons' : vAnd C (e :: es) ρ σ = ((vE C e ρ σ).bind fun x σ => match x.1 with
    | .bl true => vAnd C es ρ σ
    | .bl false => .ok (.bl false, .own) σ
    | _ => .bad) := by
  simp only [vE_eq, vEs_eq, vAnd_eq, vOr_eq, vIfs_eq, vT_eq, vPath_eq, srcV_eq, srcS_eq, vS_eq, vSs_eq]
  (rw [cAnd]) <;> rfl
theorem vIfs_nil' : vIfs C [] ρ σ = (.ok true σ) := by
  simp only [vE_eq, vEs_eq, vAnd_eq, vOr_eq, vIfs_eq, vT_eq, vPath_eq, srcV_eq, srcS_eq, vS_eq, vSs_eq]
  (rw [cIfs]) <;> rfl
theorem vIfs_cons' : vIfs C (e :: es) ρ σ = ((vE C e ρ σ).bind fun x σ => match truV x.1 with
    | some true => vIfs C es ρ σ
    | some false => .ok false σ
    | none => .bad) := by
  simp only [vE_eq, vEs_eq, vAnd_eq, vOr_eq, vIfs_eq, vT_eq, vPath_eq, srcV_eq, srcS_eq, vS_eq, vSs_eq]
  (rw [cIfs]) <;> rfl
theorem vOr_nil' : vOr C [] ρ σ = (.ok (.bl false, .own) σ) := by
  simp only [vE_eq, vEs_eq, vAnd_eq, vOr_eq, vIfs_eq, vT_eq, vPath_eq, srcV_eq, srcS_eq, vS_eq, vSs_eq]
  (rw [cOr]) <;> rfl
theorem vOr_cons' : vOr C (e :: es) ρ σ = ((vE C e ρ σ).bind fun x σ => match x.1 with
    | .bl true => .ok (.bl true, .own) σ
    | .bl false => vOr C es ρ σ
    | _ => .bad) := by
  simp only [vE_eq, vEs_eq, vAnd_eq, vOr_eq, vIfs_eq, vT_eq, vPath_eq, srcV_eq, srcS_eq, vS_eq, vSs_eq]
  (rw [cOr]) <;> rfl
theorem vPath_var' : vPath C (.var i) ρ σ = (match ρ[i]? with
    | some (some (v, .own)) => .ok (i, [], v) σ
    | _ => .bad) := by
  simp only [vE_eq, vEs_eq, vAnd_eq, vOr_eq, vIfs_eq, vT_eq, vPath_eq, srcV_eq, srcS_eq, vS_eq, vSs_eq]
  (rw [cPath]) <;> rfl
theorem vPath_ix' : vPath C (.ix a b) ρ σ = ((vPath C a ρ σ).bind fun q σ => (vE C b ρ σ).bind fun k σ => ofVo (if k.1.imm = true then ixV q.2.2 k.1 else none) σ fun w => (q.1, q.2.1 ++ [k.1], w)) := by
  simp only [vE_eq, vEs_eq, vAnd_eq, vOr_eq, vIfs_eq, vT_eq, vPath_eq, srcV_eq, srcS_eq, vS_eq, vSs_eq]
  (rw [cPath]) <;> rfl
theorem vS_set' : vS C (.set i e) ρ σ = (.of ρ (vE C e ρ σ) fun p σ => .nx (setV ρ i e p) σ) := by
  simp only [vE_eq, vEs_eq, vAnd_eq, vOr_eq, vIfs_eq, vT_eq, vPath_eq, srcV_eq, srcS_eq, vS_eq, vSs_eq]
  (rw [cS]) <;> rfl
theorem vS_setT' : vS C (.setT tg e) ρ σ = (.of ρ (vE C e ρ σ) fun p σ => match putV tg p ρ with
    | some ρ => .nx ρ σ
    | none => .bad) := by
  simp only [vE_eq, vEs_eq, vAnd_eq, vOr_eq, vIfs_eq, vT_eq, vPath_eq, srcV_eq, srcS_eq, vS_eq, vSs_eq]
  (rw [cS]) <;> rfl
theorem vS_setX' : vS C (.setX a b e) ρ σ = (.of ρ (vE C e ρ σ) fun p σ => .of ρ (vPath C a ρ σ) fun q σ => .of ρ (vE C b ρ σ) fun k σ =>
    if k.1.imm = true ∧ p.2 = .own then match wrV ρ q.1 q.2.1 (setXV C.kt q.2.2 k.1 p.1) with
      | some ρ => .nx ρ σ
      | none => .bad
    else .bad) := by
  simp only [vE_eq, vEs_eq, vAnd_eq, vOr_eq, vIfs_eq, vT_eq, vPath_eq, srcV_eq, srcS_eq, vS_eq, vSs_eq]
  (rw [cS]) <;> rfl
theorem vS_aug' : vS C (.aug i o e) ρ σ = (match ρ[i]? with
    | some (some (.int x, _)) => .of ρ (vE C e ρ σ) fun p σ => match p.1 with
      | .int y => .of ρ (nw (binV o (.int x) (.int y)) σ) fun p σ => .nx (ρ.set i (some p)) σ
      | _ => .bad
    | _ => .bad) := by
  simp only [vE_eq, vEs_eq, vAnd_eq, vOr_eq, vIfs_eq, vT_eq, vPath_eq, srcV_eq, srcS_eq, vS_eq, vSs_eq]
  (rw [cS]) <;> rfl
theorem vS_ex' : vS C (.ex e) ρ σ = (match isApp e with
    | some (a, x) => .of ρ (vPath C a ρ σ) fun q σ => if isLV q.2.2 = true then .of ρ (vE C x ρ σ) fun p σ =>
      if p.2 = .own then match wrV ρ q.1 q.2.1 (appV q.2.2 p.1) with
        | some ρ => .nx ρ σ
        | none => .bad
      else .bad else .bad
    | none => .of ρ (vE C e ρ σ) fun _ σ => .nx ρ σ) := by
  simp only [vE_eq, vEs_eq, vAnd_eq, vOr_eq, vIfs_eq, vT_eq, vPath_eq, srcV_eq, srcS_eq, vS_eq, vSs_eq]
  (rw [cS]) <;> rfl
theorem vS_ret' : vS C (.ret e) ρ σ = (.of ρ (vE C e ρ σ) fun p σ => match retV ρ e p with
    | some p => .ret p σ
    | none => .bad) := by
  simp only [vE_eq, vEs_eq, vAnd_eq, vOr_eq, vIfs_eq, vT_eq, vPath_eq, srcV_eq, srcS_eq, vS_eq, vSs_eq]
  (rw [cS]) <;> rfl
theorem vS_retN' : vS C (.retN) ρ σ = (.ret (.non, .own) σ) := by
  simp only [vE_eq, vEs_eq, vAnd_eq, vOr_eq, vIfs_eq, vT_eq, vPath_eq, srcV_eq, srcS_eq, vS_eq, vSs_eq]
  (rw [cS]) <;> rfl
theorem vS_ifs' : vS C (.ifs c a b) ρ σ = (.of ρ (vT C c ρ σ) fun k σ => if k = true then vSs C a ρ σ else vSs C b ρ σ) := by
  simp only [vE_eq, vEs_eq, vAnd_eq, vOr_eq, vIfs_eq, vT_eq, vPath_eq, srcV_eq, srcS_eq, vS_eq, vSs_eq]
  (rw [cS]) <;> rfl
theorem vS_whl' : vS C (.whl c b) ρ σ = (whV (fun ρ σ => vT C c ρ σ) (fun ρ σ => vSs C b ρ σ) wFuel ρ σ) := by
  simp only [vE_eq, vEs_eq, vAnd_eq, vOr_eq, vIfs_eq, vT_eq, vPath_eq, srcV_eq, srcS_eq, vS_eq, vSs_eq]
  (rw [cS]) <;> rfl
theorem vS_for' : vS C (.for tg src b) ρ σ = (match lend ρ src with
    | some (i, v) => if immL v = true ∧ (tgSlots tg ++ asgSs b).contains i = false then
        .of ρ (srcV C src ρ σ) fun xs σ => VS.env (fun ρ => (dropL ρ).set i (some (v, .own))) (forV (fun x ρ σ => match putV tg x ρ with
          | some ρ => vSs C b ρ σ
          | none => .bad) xs (ρ.set i (some (v, .lent))) σ)
      else .bad
    | none => .of ρ (srcS C src ρ σ) fun q σ => if q.2 = true then VS.env dropL (forV (fun x ρ σ => match putV tg x ρ with
          | some ρ => vSs C b ρ σ
          | none => .bad) q.1 ρ σ) else forV (fun x ρ σ => match putV tg x ρ with
          | some ρ => vSs C b ρ σ
          | none => .bad) q.1 ρ σ) := by
  simp only [vE_eq, vEs_eq, vAnd_eq, vOr_eq, vIfs_eq, vT_eq, vPath_eq, srcV_eq, srcS_eq, vS_eq, vSs_eq]
  (rw [cS]) <;> rfl
theorem vS_brk' : vS C (.brk) ρ σ = (.brk ρ σ) := by
  simp only [vE_eq, vEs_eq, vAnd_eq, vOr_eq, vIfs_eq, vT_eq, vPath_eq, srcV_eq, srcS_eq, vS_eq, vSs_eq]
  (rw [cS]) <;> rfl
theorem vS_cnt' : vS C (.cnt) ρ σ = (.cnt ρ σ) := by
  simp only [vE_eq, vEs_eq, vAnd_eq, vOr_eq, vIfs_eq, vT_eq, vPath_eq, srcV_eq, srcS_eq, vS_eq, vSs_eq]
  (rw [cS]) <;> rfl
theorem vS_pas' : vS C (.pas) ρ σ = (.nx ρ σ) := by
  simp only [vE_eq, vEs_eq, vAnd_eq, vOr_eq, vIfs_eq, vT_eq, vPath_eq, srcV_eq, srcS_eq, vS_eq, vSs_eq]
  (rw [cS]) <;> rfl
theorem vS_rais' : vS C (.rais c es) ρ σ = (.of ρ (vEs C es ρ σ) fun ps σ => match C.xc[c]? with
    | some k => if ps.length = k.flds.length ∧ V.imms (ps.map (·.1)) = true then .exc ⟨c, k.flds.zip (ps.map (·.1))⟩ ρ σ else .bad
    | none => .bad) := by
  simp only [vE_eq, vEs_eq, vAnd_eq, vOr_eq, vIfs_eq, vT_eq, vPath_eq, srcV_eq, srcS_eq, vS_eq, vSs_eq]
  (rw [cS]) <;> rfl
theorem vS_tryA' : vS C (.tryA b c i h) ρ σ = (match vSs C b ρ σ with
    | .exc x ρ σ => if x.cls = c ∧ i < ρ.length then vHs C.xc h x ρ σ i else .bad
    | r => r) := by
  simp only [vE_eq, vEs_eq, vAnd_eq, vOr_eq, vIfs_eq, vT_eq, vPath_eq, srcV_eq, srcS_eq, vS_eq, vSs_eq]
  (rw [cS]) <;> rfl
theorem vSs_nil' : vSs C [] ρ σ = (.nx ρ σ) := by
  simp only [vE_eq, vEs_eq, vAnd_eq, vOr_eq, vIfs_eq, vT_eq, vPath_eq, srcV_eq, srcS_eq, vS_eq, vSs_eq]
  (rw [cSs]) <;> rfl
theorem vSs_cons' : vSs C (s :: r) ρ σ = ((vS C s ρ σ).bind fun ρ σ => vSs C r ρ σ) := by
  simp only [vE_eq, vEs_eq, vAnd_eq, vOr_eq, vIfs_eq, vT_eq, vPath_eq, srcV_eq, srcS_eq, vS_eq, vSs_eq]
  (rw [cSs]) <;> rfl
theorem vT' : vT C e ρ σ = ((vE C e ρ σ).bind fun x σ => ofVo (truV x.1) σ id) := by
  simp only [vE_eq, vEs_eq, vAnd_eq, vOr_eq, vIfs_eq, vT_eq, vPath_eq, srcV_eq, srcS_eq, vS_eq, vSs_eq]
  rw [cT]
/-- one turn of a comprehension -/
noncomputable def lcT (C : VCtx) (ρ : VEnv) (elt tg : E) (ifs : List E) (own : List (String × Nat)) : VO → Sg → VR (Option VO) := fun x σ => match putV tg x (wipeV ρ (own.map (·.2))) with
        | some ρ' => (vIfs C ifs ρ' σ).bind fun b σ => if b = true then (vE C elt ρ' σ).bind fun y σ => .ok (some y) σ else .ok none σ
        | none => .bad
theorem lcT' {elt tg : E} {ifs : List E} {own : List (String × Nat)} {x : VO} : lcT C ρ elt tg ifs own x σ = (match putV tg x (wipeV ρ (own.map (·.2))) with
        | some ρ' => (vIfs C ifs ρ' σ).bind fun b σ => if b = true then (vE C elt ρ' σ).bind fun y σ => .ok (some y) σ else .ok none σ
        | none => .bad) := by rw [lcT]
theorem vE_lcT {elt tg src : E} {ifs : List E} {own : List (String × Nat)} : vE C (.lc elt tg src ifs own) ρ σ = (srcV C src ρ σ).bind fun (xs : List VO) σ =>
    if okS xs.length = true then (lcV (lcT C ρ elt tg ifs own) xs σ).nox.bind fun ys σ => ofVo (mk ys) σ fun vs => (.lst vs, .own)
    else .bad := by
  unfold lcT
  simp only [vE_eq, vEs_eq, vAnd_eq, vOr_eq, vIfs_eq, vT_eq, vPath_eq, srcV_eq, srcS_eq, vS_eq, vSs_eq]
  cases src <;> rfl
theorem srcV_val {src : E} (h : srcVal' src = true) : srcV C src ρ σ = (vE C src ρ σ).bind fun x σ => ofVo (goV x.1 x.2) σ id := by
  simp only [vE_eq, vEs_eq, vAnd_eq, vOr_eq, vIfs_eq, vT_eq, vPath_eq, srcV_eq, srcS_eq, vS_eq, vSs_eq]
  cases src <;> first | rfl | cases h
theorem srcV_rng {es : List E} : srcV C (.rng es) ρ σ = (vEs C es ρ σ).bind fun (xs : List VO) σ => ofVo (rngV (xs.map (·.1))) σ fun r => r.map fun x => (x, Ow.own) := by
  simp only [vE_eq, vEs_eq, vAnd_eq, vOr_eq, vIfs_eq, vT_eq, vPath_eq, srcV_eq, srcS_eq, vS_eq, vSs_eq]; rfl
theorem srcV_enum {a : E} : srcV C (.enum a) ρ σ = (vE C a ρ σ).bind fun x σ => ofVo (goE x.1 x.2) σ id := by
  simp only [vE_eq, vEs_eq, vAnd_eq, vOr_eq, vIfs_eq, vT_eq, vPath_eq, srcV_eq, srcS_eq, vS_eq, vSs_eq]; rfl
theorem srcS_val {src : E} (h : srcVal' src = true) : srcS C src ρ σ = (vE C src ρ σ).bind fun x σ => ofVo (if safeV x = true ∨ tmpV x = true then goV x.1 x.2 else none) σ fun r => (r, !safeV x) := by
  simp only [vE_eq, vEs_eq, vAnd_eq, vOr_eq, vIfs_eq, vT_eq, vPath_eq, srcV_eq, srcS_eq, vS_eq, vSs_eq]
  cases src <;> first | rfl | cases h
theorem srcS_rng' {es : List E} : srcS C (.rng es) ρ σ = (vEs C es ρ σ).bind fun (xs : List VO) σ => ofVo (rngV (xs.map (·.1))) σ fun r => (r.map fun x => (x, Ow.own), false) := by
  simp only [vE_eq, vEs_eq, vAnd_eq, vOr_eq, vIfs_eq, vT_eq, vPath_eq, srcV_eq, srcS_eq, vS_eq, vSs_eq]; rfl
theorem srcS_enum {a : E} : srcS C (.enum a) ρ σ = (vE C a ρ σ).bind fun x σ => ofVo (if safeV x = true ∨ tmpV x = true then goE x.1 x.2 else none) σ fun r => (r, !safeV x) := by
  simp only [vE_eq, vEs_eq, vAnd_eq, vOr_eq, vIfs_eq, vT_eq, vPath_eq, srcV_eq, srcS_eq, vS_eq, vSs_eq]; rfl
end
theorem callV_draw {XC : List XCls} {KT : List D} {T : List Fn} {dr k : Nat} {n : Int} {σ : Sg} (h1 : 1 ≤ n) (h2 : n < 1073741824) : callV XC KT T dr (k + 1) dr [.drw, .int n] σ = .ok (.int (drawV σ n).1, .own) (drawV σ n).2 := by
  rw [callV_eq, ccall, if_pos rfl]
  unfold drawC
  dsimp only
  rw [if_pos ⟨h1, h2⟩]
/-- a call by its body -/
theorem callV_of {XC : List XCls} {KT : List D} {T : List Fn} {dr k f : Nat} {fn : Fn} {args : List V} {σ : Sg} (hf : T[f]? = some fn) (hd : f ≠ dr) (ha : args.length = fn.np) :
    callV XC KT T dr (k + 1) f args σ = match vSs ⟨XC, KT, callV XC KT T dr k⟩ fn.body (args.map (fun v => some (v, Ow.fz)) ++ List.replicate (fn.ns - fn.np) none) σ with
        | .ret p σ => .ok p σ
        | .nx _ σ => .ok (.non, .own) σ
        | .exc x _ σ => .exc x σ
        | _ => .bad := by
  rw [callV_eq, vSs_eq, ccall, if_neg hd, hf]
  dsimp only
  rw [if_pos ha]
  all_goals rfl
end DL

set_option linter.all false
set_option maxRecDepth 100000
set_option maxHeartbeats 1000000
/-! values: running by rewriting -/
namespace DL
@[simp ↓] theorem VR.bind_match {α β : Type} {r : VR α} {f : α → Sg → VR β} : r.bind f = match r with | .ok a σ => f a σ | .exc x σ => .exc x σ | .bad => .bad := by cases r <;> rfl
@[simp ↓] theorem VS.of_match {α : Type} {ρ : VEnv} {r : VR α} {f : α → Sg → VS} : VS.of ρ r f = match r with | .ok a σ => f a σ | .exc x σ => .exc x ρ σ | .bad => .bad := by cases r <;> rfl
@[simp ↓] theorem VS.bind_match {r : VS} {f : VEnv → Sg → VS} : r.bind f = match r with | .nx ρ σ => f ρ σ | r => r := by cases r <;> rfl
theorem vSs_nx {C : VCtx} {s : S} {r : List S} {ρ ρ' : VEnv} {σ σ' : Sg} (h : vS C s ρ σ = .nx ρ' σ') : vSs C (s :: r) ρ σ = vSs C r ρ' σ' := by rw [vSs_cons', h]; rfl
theorem vSs_ret {C : VCtx} {s : S} {r : List S} {ρ : VEnv} {σ σ' : Sg} {p : VO} (h : vS C s ρ σ = .ret p σ') : vSs C (s :: r) ρ σ = .ret p σ' := by rw [vSs_cons', h]; rfl
theorem vSs_nil {C : VCtx} {ρ : VEnv} {σ : Sg} : vSs C [] ρ σ = .nx ρ σ := vSs_nil'
theorem vSs_app {C : VCtx} : ∀ {a b : List S} {ρ ρ' : VEnv} {σ σ' : Sg}, vSs C a ρ σ = .nx ρ' σ' → vSs C (a ++ b) ρ σ = vSs C b ρ' σ'
  | [], b, ρ, ρ', σ, σ', h => by rw [vSs_nil] at h; cases h; rfl
  | s :: a, b, ρ, ρ', σ, σ', h => by
    rw [List.cons_append, vSs_cons']
    rw [vSs_cons'] at h
    cases e : vS C s ρ σ with
    | nx ρ1 σ1 => rw [e] at h; exact vSs_app h
    | brk _ _ => rw [e] at h; cases h
    | cnt _ _ => rw [e] at h; cases h
    | ret _ _ => rw [e] at h; cases h
    | exc _ _ _ => rw [e] at h; cases h
    | bad => rw [e] at h; cases h
theorem vS_set_of {C : VCtx} {i : Nat} {e : E} {p : VO} {ρ : VEnv} {σ σ' : Sg} (h : vE C e ρ σ = .ok p σ') : vS C (.set i e) ρ σ = .nx (setV ρ i e p) σ' := by rw [vS_set', h]; rfl
theorem vS_ret_of {C : VCtx} {e : E} {p p' : VO} {ρ : VEnv} {σ σ' : Sg} (h : vE C e ρ σ = .ok p σ') (hr : retV ρ e p = some p') : vS C (.ret e) ρ σ = .ret p' σ' := by
  rw [vS_ret', h]
  dsimp only [VS.of]
  rw [hr]
theorem vE_var_of {C : VCtx} {i : Nat} {p : VO} {ρ : VEnv} {σ : Sg} (h : ρ[i]? = some (some p)) : vE C (.var i) ρ σ = .ok (p.1, rdo p.2 p.1) σ := by rw [vE_var', h]
/-- a for by an invariant -/
theorem forV_inv {body : VO → VEnv → Sg → VS} {items : List VO} (I : Nat → VEnv → Sg → Prop) (Post : VS → Prop) (hend : ∀ ρ σ, I items.length ρ σ → Post (.nx ρ σ))
    (step : ∀ i x ρ σ, items[i]? = some x → I i ρ σ → (∃ ρ' σ', (body x ρ σ = .nx ρ' σ' ∨ body x ρ σ = .cnt ρ' σ') ∧ I (i + 1) ρ' σ') ∨ (∃ ρ' σ', body x ρ σ = .brk ρ' σ' ∧ Post (.nx ρ' σ')) ∨
      (∃ p σ', body x ρ σ = .ret p σ' ∧ Post (.ret p σ')) ∨ (∃ y ρ' σ', body x ρ σ = .exc y ρ' σ' ∧ Post (.exc y ρ' σ'))) :
    ∀ (ρ : VEnv) (σ : Sg), I 0 ρ σ → Post (forV body items ρ σ) := by
  have main : ∀ (m i : Nat) (ρ : VEnv) (σ : Sg), items.length - i = m → i ≤ items.length → I i ρ σ → Post (forV body (items.drop i) ρ σ) := by
    intro m
    induction m with
    | zero =>
      intro i ρ σ hm hi h
      obtain rfl : i = items.length := by omega
      rw [List.drop_length]
      exact hend _ _ h
    | succ m ih =>
      intro i ρ σ hm hi h
      have hlt : i < items.length := by omega
      rw [List.drop_eq_getElem_cons hlt, forV]
      rcases step i _ ρ σ (List.getElem?_eq_getElem hlt) h with ⟨ρ', σ', e | e, h'⟩ | ⟨ρ', σ', e, h'⟩ | ⟨d, σ', e, h'⟩ | ⟨y, ρ', σ', e, h'⟩
      · rw [e]; exact ih (i + 1) ρ' σ' (by omega) hlt h'
      · rw [e]; exact ih (i + 1) ρ' σ' (by omega) hlt h'
      · rw [e]; exact h'
      · rw [e]; exact h'
      · rw [e]; exact h'
  intro ρ σ h
  have := main items.length 0 ρ σ (by omega) (by omega) h
  simpa using this
theorem forV_nx {body : VO → VEnv → Sg → VS} {items : List VO} (I : Nat → VEnv → Sg → Prop)
    (step : ∀ i x ρ σ, items[i]? = some x → I i ρ σ → ∃ ρ' σ', body x ρ σ = .nx ρ' σ' ∧ I (i + 1) ρ' σ') {ρ : VEnv} {σ : Sg} (h : I 0 ρ σ) :
    ∃ ρ' σ', forV body items ρ σ = .nx ρ' σ' ∧ I items.length ρ' σ' := by
  refine forV_inv I (fun r => ∃ ρ' σ', r = .nx ρ' σ' ∧ I items.length ρ' σ') (fun ρ σ h => ⟨ρ, σ, rfl, h⟩) (fun i x ρ σ hx h => .inl ?_) ρ σ h
  obtain ⟨ρ', σ', e, h'⟩ := step i x ρ σ hx h
  exact ⟨ρ', σ', .inl e, h'⟩
theorem forV_pu {body : VO → VEnv → Sg → VS} {items : List VO} {σ : Sg} (I : Nat → VEnv → Prop)
    (step : ∀ i x ρ, items[i]? = some x → I i ρ → ∃ ρ', body x ρ σ = .nx ρ' σ ∧ I (i + 1) ρ') {ρ : VEnv} (h : I 0 ρ) :
    ∃ ρ', forV body items ρ σ = .nx ρ' σ ∧ I items.length ρ' := by
  obtain ⟨ρ', σ', e, rfl, h'⟩ := forV_nx (body := body) (items := items) (fun i ρ s => s = σ ∧ I i ρ) (fun i x ρ s hx ⟨hs, h⟩ => by
    subst hs
    obtain ⟨ρ', e, h'⟩ := step i x ρ hx h
    exact ⟨ρ', s, e, rfl, h'⟩) (ρ := ρ) (σ := σ) ⟨rfl, h⟩
  exact ⟨ρ', e, h'⟩
/-- a for that may end early, drawing nothing -/
theorem forV_pi {body : VO → VEnv → Sg → VS} {items : List VO} {σ : Sg} (I : Nat → VEnv → Prop) (Post : VS → Prop) (hend : ∀ ρ, I items.length ρ → Post (.nx ρ σ))
    (step : ∀ i x ρ, items[i]? = some x → I i ρ → (∃ ρ', body x ρ σ = .nx ρ' σ ∧ I (i + 1) ρ') ∨ (∃ ρ', body x ρ σ = .brk ρ' σ ∧ Post (.nx ρ' σ)) ∨ (∃ p, body x ρ σ = .ret p σ ∧ Post (.ret p σ))) {ρ : VEnv} (h : I 0 ρ) :
    Post (forV body items ρ σ) := by
  refine forV_inv (fun i ρ s => s = σ ∧ I i ρ) Post (fun ρ s ⟨hs, h⟩ => hs ▸ hend ρ h) (fun i x ρ s hx ⟨hs, h⟩ => ?_) ρ σ ⟨rfl, h⟩
  subst hs
  rcases step i x ρ hx h with ⟨ρ', e, h'⟩ | ⟨ρ', e, h'⟩ | ⟨p, e, h'⟩
  · exact .inl ⟨ρ', s, .inl e, rfl, h'⟩
  · exact .inr (.inl ⟨ρ', s, e, h'⟩)
  · exact .inr (.inr (.inl ⟨p, s, e, h'⟩))
/-- a for whose turns are given by a function of a state -/
theorem forV_fold {α β : Type} {body : VO → VEnv → Sg → VS} {σ : Sg} (env : β → VEnv) (f : β → α → β) (it : α → VO) : ∀ (xs : List α) (b : β), (∀ b x, x ∈ xs → body (it x) (env b) σ = .nx (env (f b x)) σ) → forV body (xs.map it) (env b) σ = .nx (env (xs.foldl f b)) σ
  | [], b, h => rfl
  | x :: xs, b, h => by
    rw [List.map_cons, forV, h b x (by simp), List.foldl_cons]
    exact forV_fold env f it xs (f b x) fun b y hy => h b y (by simp [hy])
/-- a comprehension that draws nothing -/
theorem lcV_pure {α : Type} {step : VO → Sg → VR (Option VO)} {σ : Sg} (it : α → VO) (f : α → Option VO) : ∀ {xs : List α}, (∀ x ∈ xs, step (it x) σ = .ok (f x) σ) → lcV step (xs.map it) σ = .ok (xs.filterMap f) σ
  | [], _ => rfl
  | x :: xs, h => by
    rw [List.map_cons, lcV, h x (by simp)]
    dsimp only [VR.bind]
    rw [lcV_pure it f fun y hy => h y (by simp [hy])]
    dsimp only
    rw [List.filterMap_cons]
    cases f x <;> rfl
theorem lcV_inv {step : VO → Sg → VR (Option VO)} {items : List VO} (I : Nat → List VO → Sg → Prop)
    (hs : ∀ i x ys σ, items[i]? = some x → I i ys σ → ∃ y σ', step x σ = .ok (some y) σ' ∧ I (i + 1) (ys ++ [y]) σ') {σ : Sg} (h : I 0 [] σ) :
    ∃ ys σ', lcV step items σ = .ok ys σ' ∧ I items.length ys σ' := by
  have main : ∀ (m i : Nat) (ys : List VO) (σ : Sg), items.length - i = m → i ≤ items.length → I i ys σ → ∃ zs σ', lcV step (items.drop i) σ = .ok zs σ' ∧ I items.length (ys ++ zs) σ' := by
    intro m
    induction m with
    | zero =>
      intro i ys σ hm hi h
      obtain rfl : i = items.length := by omega
      rw [List.drop_length]
      exact ⟨[], σ, rfl, by simpa using h⟩
    | succ m ih =>
      intro i ys σ hm hi h
      have hlt : i < items.length := by omega
      obtain ⟨y, σ1, e, h1⟩ := hs i _ ys σ (List.getElem?_eq_getElem hlt) h
      obtain ⟨zs, σ2, e2, h2⟩ := ih (i + 1) (ys ++ [y]) σ1 (by omega) hlt h1
      refine ⟨y :: zs, σ2, ?_, by simpa using h2⟩
      rw [List.drop_eq_getElem_cons hlt, lcV, e]
      dsimp only [VR.bind]
      rw [e2]
  obtain ⟨zs, σ', e, h'⟩ := main items.length 0 [] σ (by omega) (by omega) h
  exact ⟨zs, σ', by simpa using e, by simpa using h'⟩
/-- a comprehension -/
theorem vE_lc_of {CV : VCtx} {elt tg src : E} {ifs : List E} {own : List (String × Nat)} {ρ : VEnv} {σ σ1 σ2 : Sg} {xs ys : List VO} {vs : List V} (hs : srcV CV src ρ σ = .ok xs σ1) (ho : xs.length ≤ 1000000) (hl : lcV (lcT CV ρ elt tg ifs own) xs σ1 = .ok ys σ2) (hm : mk ys = some vs) :
    vE CV (.lc elt tg src ifs own) ρ σ = .ok (.lst vs, .own) σ2 := by
  rw [vE_lcT, hs]
  dsimp only [VR.bind]
  rw [if_pos (show okS xs.length = true from decide_eq_true ho), hl]
  dsimp only [VR.nox]
  rw [hm]
  rfl
theorem mk_own (vs : List V) : mk (vs.map fun v => (v, Ow.own)) = some vs := by
  unfold mk
  rw [if_pos (by simp), List.map_map]
  congr 1
  rw [show ((fun x => x.fst) ∘ fun v => (v, Ow.own)) = (id : V → V) from rfl, List.map_id]
/-- over known items, each giving one value -/
theorem vE_lc_map {α : Type} {CV : VCtx} {elt tg src : E} {ifs : List E} {own : List (String × Nat)} {ρ : VEnv} {σ : Sg} (xs : List α) (it : α → VO) (f : α → V) (hs : srcV CV src ρ σ = .ok (xs.map it) σ) (ho : xs.length ≤ 1000000) (hl : ∀ x ∈ xs, lcT CV ρ elt tg ifs own (it x) σ = .ok (some (f x, .own)) σ) :
    vE CV (.lc elt tg src ifs own) ρ σ = .ok (.lst (xs.map f), .own) σ := by
  refine vE_lc_of hs (by simpa using ho) (lcV_pure it (fun x => some (f x, .own)) hl) ?_
  rw [List.filterMap_eq_map', show xs.map (fun x => (f x, Ow.own)) = (xs.map f).map fun v => (v, Ow.own) by rw [List.map_map]; rfl]
  exact mk_own _
/-- with a test -/
theorem vE_lc_filter {α : Type} {CV : VCtx} {elt tg src : E} {ifs : List E} {own : List (String × Nat)} {ρ : VEnv} {σ : Sg} (xs : List α) (it : α → VO) (p : α → Bool) (f : α → V) (hs : srcV CV src ρ σ = .ok (xs.map it) σ) (ho : xs.length ≤ 1000000) (hl : ∀ x ∈ xs, lcT CV ρ elt tg ifs own (it x) σ = .ok (if p x = true then some (f x, .own) else none) σ) :
    vE CV (.lc elt tg src ifs own) ρ σ = .ok (.lst ((xs.filter p).map f), .own) σ := by
  refine vE_lc_of hs (by simpa using ho) (lcV_pure it (fun x => if p x = true then some (f x, .own) else none) hl) ?_
  have : xs.filterMap (fun x => if p x = true then some (f x, Ow.own) else none) = ((xs.filter p).map f).map fun v => (v, Ow.own) := by
    clear hs ho hl
    induction xs with
    | nil => rfl
    | cons x xs ih =>
      rw [List.filterMap_cons, ih, List.filter_cons]
      by_cases h : p x = true
      · rw [if_pos h, if_pos h]; rfl
      · rw [if_neg h, if_neg h]
  rw [this]
  exact mk_own _
/-! sources -/
theorem srcV_ne {CV : VCtx} {src : E} {ρ : VEnv} {σ : Sg} (h : srcVal' src = true) : srcV CV src ρ σ = (vE CV src ρ σ).bind fun x σ => ofVo (goV x.1 x.2) σ id := srcV_val h
theorem rngV_eq1 (j : Int) : rngV [.int j] = if small62 j = true then some ((List.range j.toNat).map fun k => .int ((0 : Int) + (k : Nat))) else none := by unfold rngV; rfl
theorem rngV_eq2 (i j : Int) : rngV [.int i, .int j] = if small62 i = true ∧ small62 j = true then some ((List.range (j - i).toNat).map fun k => .int (i + (k : Nat))) else none := by unfold rngV; rfl
theorem rngV_eq3 (i j : Int) : rngV [.int i, .int j, .int (-1)] = if small62 i = true ∧ small62 j = true then some ((List.range (i - j).toNat).map fun k => .int (i - (k : Nat))) else none := by unfold rngV; rfl
theorem s62v {n : Nat} (h : n ≤ 1000000) : small62 (n : Int) = true := by simp [small62]; omega
theorem s62vm : small62 (-1) = true := by simp [small62]
theorem rngV_n {n : Nat} (hn : n ≤ 1000000) : rngV [.int (n : Int)] = some ((List.range n).map fun k : Nat => V.int (k : Int)) := by
  rw [rngV_eq1, if_pos (s62v hn), Int.toNat_natCast]
  congr 1
  apply List.map_congr_left
  intro k _
  rw [Int.zero_add]
theorem rngV_down {n : Nat} (hn : n ≤ 1000000) : rngV [.int (n : Int), .int (-1), .int (-1)] = some ((List.range (n + 1)).map fun k : Nat => V.int ((n : Int) - (k : Int))) := by
  rw [rngV_eq3, if_pos ⟨s62v hn, s62vm⟩, show ((n : Int) - (-1)).toNat = n + 1 by omega]
theorem srcV_rng_of {CV : VCtx} {es : List E} {ρ : VEnv} {σ σ' : Sg} {xs : List VO} {vs : List V} (h : vEs CV es ρ σ = .ok xs σ') (hr : rngV (xs.map (·.1)) = some vs) : srcV CV (.rng es) ρ σ = .ok (vs.map fun x => (x, Ow.own)) σ' := by
  rw [srcV_rng, h]
  dsimp only [VR.bind]
  rw [hr]
  rfl
theorem srcV_rng1 {CV : VCtx} {e : E} {ρ : VEnv} {σ σ' : Sg} {o : Ow} {n : Nat} (h : vE CV e ρ σ = .ok (.int (n : Int), o) σ') (hn : n ≤ 1000000) : srcV CV (.rng [e]) ρ σ = .ok ((List.range n).map fun k : Nat => (V.int (k : Int), Ow.own)) σ' := by
  rw [srcV_rng_of (xs := [(.int (n : Int), o)]) (vs := (List.range n).map fun k : Nat => V.int (k : Int)) (by rw [vEs_cons', h]; show (vEs CV [] ρ σ').bind _ = _; rw [vEs_nil']; rfl) (rngV_n hn), List.map_map]
  rfl
theorem imms_ints {α : Type} (xs : List α) (f : α → Int) : V.imms (xs.map fun x => V.int (f x)) = true := by
  induction xs with
  | nil => rfl
  | cons x xs ih => rw [List.map_cons, V.imms, ih]; rfl
theorem imms_map {α : Type} (xs : List α) (f : α → V) (h : ∀ x ∈ xs, (f x).imm = true) : V.imms (xs.map f) = true := by
  induction xs with
  | nil => rfl
  | cons x xs ih => rw [List.map_cons, V.imms, h x (by simp), ih fun y hy => h y (by simp [hy])]; rfl
end DL

set_option linter.all false
set_option maxRecDepth 100000
/-! k58: the mathematics of scripts -/
namespace K58
def dg (x y : Nat) : Nat := if x = y then 0 else 1
/-- the least cost of what is left -/
def Rd : List Nat → List Nat → Nat
  | [], [] => 0
  | _ :: xs, [] => Rd xs [] + 1
  | [], _ :: ys => Rd [] ys + 1
  | x :: xs, y :: ys => min (min (Rd xs (y :: ys) + 1) (Rd (x :: xs) ys + 1)) (Rd xs ys + dg x y)
termination_by xs ys => xs.length + ys.length
inductive Al : List Nat → List Nat → Nat → Prop
  | nil : Al [] [] 0
  | both {xs ys c} (x y) : Al xs ys c → Al (x :: xs) (y :: ys) (c + dg x y)
  | leave {xs ys c} (x) : Al xs ys c → Al (x :: xs) ys (c + 1)
  | put {xs ys c} (y) : Al xs ys c → Al xs (y :: ys) (c + 1)
theorem min_cases (a b : Nat) : min a b = a ∨ min a b = b := by omega
theorem Al_rd : ∀ (xs ys : List Nat), Al xs ys (Rd xs ys)
  | [], [] => by rw [Rd]; exact .nil
  | x :: xs, [] => by rw [Rd]; exact .leave x (Al_rd xs [])
  | [], y :: ys => by rw [Rd]; exact .put y (Al_rd [] ys)
  | x :: xs, y :: ys => by
    rw [Rd]
    have h1 := Al.leave x (Al_rd xs (y :: ys))
    have h2 := Al.put y (Al_rd (x :: xs) ys)
    have h3 := Al.both x y (Al_rd xs ys)
    generalize (Rd xs ys + dg x y) = c3 at *
    rcases min_cases (min (Rd xs (y :: ys) + 1) (Rd (x :: xs) ys + 1)) c3 with e | e
    · rw [e]
      rcases min_cases (Rd xs (y :: ys) + 1) (Rd (x :: xs) ys + 1) with e | e
      · rw [e]; exact h1
      · rw [e]; exact h2
    · rw [e]; exact h3
termination_by xs ys => xs.length + ys.length
theorem rd_leave (x : Nat) (xs : List Nat) : ∀ ys, Rd (x :: xs) ys ≤ Rd xs ys + 1
  | [] => by rw [Rd]; exact Nat.le_refl _
  | y :: ys => by rw [Rd]; omega
theorem rd_put (y : Nat) (ys : List Nat) : ∀ xs, Rd xs (y :: ys) ≤ Rd xs ys + 1
  | [] => by rw [Rd]; exact Nat.le_refl _
  | x :: xs => by rw [Rd]; omega
theorem rd_both (x y : Nat) (xs ys : List Nat) : Rd (x :: xs) (y :: ys) ≤ Rd xs ys + dg x y := by
  rw [Rd]
  exact Nat.min_le_right _ _
theorem rd_le {xs ys : List Nat} {c : Nat} (h : Al xs ys c) : Rd xs ys ≤ c := by
  induction h with
  | nil => rw [Rd]; exact Nat.le_refl _
  | both x y _ ih => exact Nat.le_trans (rd_both x y _ _) (by omega)
  | leave x _ ih => exact Nat.le_trans (rd_leave x _ _) (by omega)
  | put y _ ih => exact Nat.le_trans (rd_put y _ _) (by omega)
theorem Al_app {xs ys : List Nat} {c : Nat} (h : Al xs ys c) {xs' ys' : List Nat} {c' : Nat} (g : Al xs' ys' c') : Al (xs ++ xs') (ys ++ ys') (c' + c) := by
  induction h with
  | nil => exact g
  | both x y _ ih => rw [← Nat.add_assoc]; exact .both x y ih
  | leave x _ ih => rw [← Nat.add_assoc]; exact .leave x ih
  | put y _ ih => rw [← Nat.add_assoc]; exact .put y ih
theorem Al_rev {xs ys : List Nat} {c : Nat} (h : Al xs ys c) : Al xs.reverse ys.reverse c := by
  induction h with
  | nil => exact .nil
  | both x y _ ih =>
    rw [List.reverse_cons, List.reverse_cons, Nat.add_comm]
    have := Al_app ih (Al.both x y .nil)
    rwa [Nat.zero_add] at this
  | leave x _ ih =>
    have := Al_app ih (Al.leave x .nil)
    rw [List.append_nil, Nat.zero_add, Nat.add_comm] at this
    rw [List.reverse_cons]
    exact this
  | put y _ ih =>
    have := Al_app ih (Al.put y .nil)
    rw [List.append_nil, Nat.zero_add, Nat.add_comm] at this
    rw [List.reverse_cons]
    exact this
theorem rd_rev (xs ys : List Nat) : Rd xs.reverse ys.reverse = Rd xs ys := by
  apply Nat.le_antisymm
  · exact rd_le (Al_rev (Al_rd xs ys))
  · have := rd_le (Al_rev (Al_rd xs.reverse ys.reverse))
    rwa [List.reverse_reverse, List.reverse_reverse] at this
theorem rd_bound : ∀ (xs ys : List Nat), Rd xs ys ≤ xs.length + ys.length
  | [], [] => by rw [Rd]; simp
  | x :: xs, [] => by rw [Rd]; have := rd_bound xs []; simp at *; omega
  | [], y :: ys => by rw [Rd]; have := rd_bound [] ys; simp at *; omega
  | x :: xs, y :: ys => by have := rd_leave x xs (y :: ys); have h := rd_bound xs (y :: ys); simp at *; omega
termination_by xs ys => xs.length + ys.length

/-- the steps' names -/
inductive Stp | keep | change | leave | put
  deriving DecidableEq
def Stp.str : Stp → List Nat
  | .keep => [107, 101, 101, 112]
  | .change => [99, 104, 97, 110, 103, 101]
  | .leave => [108, 101, 97, 118, 101]
  | .put => [112, 117, 116]
def ks (x y : Nat) : Stp := if x = y then .keep else .change
theorem ks_cost (x y : Nat) (r : List Stp) : ((ks x y :: r).filter fun s => s ≠ .keep).length = (r.filter fun s => s ≠ .keep).length + dg x y := by
  unfold ks dg
  by_cases e : x = y
  · rw [if_pos e, if_pos e]; simp
  · rw [if_neg e, if_neg e]; simp
/-- the script that both make -/
def Sc : List Nat → List Nat → List Stp
  | [], [] => []
  | _ :: xs, [] => .leave :: Sc xs []
  | [], _ :: ys => .put :: Sc [] ys
  | x :: xs, y :: ys =>
    if (Rd xs ys + dg x y) = Rd (x :: xs) (y :: ys) then ks x y :: Sc xs ys
    else if Rd xs (y :: ys) + 1 = Rd (x :: xs) (y :: ys) then .leave :: Sc xs (y :: ys)
    else .put :: Sc (x :: xs) ys
termination_by xs ys => xs.length + ys.length
theorem rd_cons (x y : Nat) (xs ys : List Nat) : (Rd xs ys + dg x y) = Rd (x :: xs) (y :: ys) ∨ Rd xs (y :: ys) + 1 = Rd (x :: xs) (y :: ys) ∨ Rd (x :: xs) ys + 1 = Rd (x :: xs) (y :: ys) := by
  rw [Rd]
  omega
theorem sc_len : ∀ (xs ys : List Nat), (Sc xs ys).length ≤ xs.length + ys.length
  | [], [] => by rw [Sc]; simp
  | x :: xs, [] => by rw [Sc]; have := sc_len xs []; simp at *; omega
  | [], y :: ys => by rw [Sc]; have := sc_len [] ys; simp at *; omega
  | x :: xs, y :: ys => by
    rw [Sc]
    have h1 := sc_len xs ys
    have h2 := sc_len xs (y :: ys)
    have h3 := sc_len (x :: xs) ys
    simp only [List.length_cons] at *
    split
    · simp only [List.length_cons]; omega
    · split <;> (simp only [List.length_cons]; omega)
termination_by xs ys => xs.length + ys.length
/-- its cost: what is not kept -/
theorem sc_cost : ∀ (xs ys : List Nat), ((Sc xs ys).filter fun s => s ≠ .keep).length = Rd xs ys
  | [], [] => by rw [Sc, Rd]; rfl
  | x :: xs, [] => by rw [Sc, Rd, ← sc_cost xs []]; simp
  | [], y :: ys => by rw [Sc, Rd, ← sc_cost [] ys]; simp
  | x :: xs, y :: ys => by
    rw [Sc]
    split
    · rename_i h
      rw [ks_cost, sc_cost xs ys, h]
    · split
      · rename_i h
        rw [List.filter_cons_of_pos (by simp), List.length_cons, sc_cost xs (y :: ys), h]
      · rename_i h1 h2
        have := rd_cons x y xs ys
        have h3 : Rd (x :: xs) ys + 1 = Rd (x :: xs) (y :: ys) := by
          rcases this with h | h | h
          · exact absurd h h1
          · exact absurd h h2
          · exact h
        rw [List.filter_cons_of_pos (by simp), List.length_cons, sc_cost (x :: xs) ys, h3]
termination_by xs ys => xs.length + ys.length
end K58

set_option linter.all false
set_option maxRecDepth 100000
set_option maxHeartbeats 1000000
namespace DL
theorem eqV_str {a b : List Nat} : eqV (.str a) (.str b) = some (decide (a = b)) := by
  simp only [eqV, pdv1, pdv, PD.eqv]
  by_cases h : a = b
  · subst h; simp
  · simp [h]
theorem eqV_int {a b : Int} : eqV (.int a) (.int b) = some (decide (a = b)) := by
  simp only [eqV, pdv1, pdv, PD.eqv]
  by_cases h : a = b
  · subst h; simp
  · simp [h]
theorem eqV_bl {a b : Bool} : eqV (.bl a) (.bl b) = some (a == b) := by simp [eqV, pdv1, pdv, PD.eqv]
theorem eqV_non : eqV .non .non = some true := by simp [eqV, pdv1, pdv, PD.eqv]
theorem atD_nat {α : Type} {xs : List α} {i : Nat} : atD xs (i : Int) = xs[i]? := by
  unfold atD
  rw [if_pos (by omega), Int.toNat_natCast]
theorem atD_last {α : Type} {xs : List α} {x : α} (h : xs.getLast? = some x) : atD xs (-1) = some x := by
  unfold atD
  have hne : xs ≠ [] := by intro z; rw [z] at h; cases h
  have := List.length_pos_iff.mpr hne
  rw [if_neg (by omega), if_pos (by omega), show ((-1 : Int) + xs.length).toNat = xs.length - 1 by omega, ← List.getLast?_eq_getElem?, h]
theorem ixV_str {w : List Nat} {i c : Nat} (h : w[i]? = some c) : ixV (.str w) (.int (i : Int)) = some (.str [c]) := by
  rw [ixV, atD_nat, h]; rfl
theorem ixV_tup {xs : List V} {i : Nat} {v : V} (h : xs[i]? = some v) : ixV (.tup xs) (.int (i : Int)) = some v := by
  rw [ixV, atD_nat, h]
theorem ixV_lst {xs : List V} {i : Nat} {v : V} (h : xs[i]? = some v) : ixV (.lst xs) (.int (i : Int)) = some v := by
  rw [ixV, atD_nat, h]
end DL
namespace KL
open DL
noncomputable abbrev cv (k f : Nat) (args : List V) (σ : Sg) : VR VO := callV xcs kts fns i__law_draw k f args σ
noncomputable abbrev CX (k : Nat) : VCtx := ⟨xcs, kts, callV xcs kts fns i__law_draw k⟩
theorem cv_of {k f : Nat} {fn : Fn} {args : List V} {σ : Sg} (hf : fns[f]? = some fn) (hd : f ≠ i__law_draw) (ha : args.length = fn.np) :
    cv (k + 1) f args σ = match vSs (CX k) fn.body (args.map (fun v => some (v, Ow.fz)) ++ List.replicate (fn.ns - fn.np) none) σ with
        | .ret p σ => .ok p σ
        | .nx _ σ => .ok (.non, .own) σ
        | .exc x _ σ => .exc x σ
        | _ => .bad := callV_of hf hd ha
theorem cv_ret {k f : Nat} {fn : Fn} {args : List V} {σ σ' : Sg} {p : VO} (hf : fns[f]? = some fn) (hd : f ≠ i__law_draw) (ha : args.length = fn.np)
    (h : vSs (CX k) fn.body (args.map (fun v => some (v, Ow.fz)) ++ List.replicate (fn.ns - fn.np) none) σ = .ret p σ') : cv (k + 1) f args σ = .ok p σ' := by rw [cv_of hf hd ha, h]
/-! words -/
def runs : List Nat := [97, 98, 99, 100, 101, 102, 103, 104, 105, 106, 107, 108, 109, 110, 111, 112, 113, 114, 115, 116, 117, 118, 119, 120, 121, 122, 65, 66, 67, 68, 69, 70, 71, 72, 73, 74, 75, 76, 77, 78, 79, 80, 81, 82, 83, 84, 85, 86, 87, 88, 89, 90, 48, 49, 50, 51, 52, 53, 54, 55, 56, 57]
structure Word (w : List Nat) : Prop where
  pos : 1 ≤ w.length
  le : w.length ≤ 24
  ok : ∀ c ∈ w, c ∈ runs
theorem bools_map (xs : List Nat) : boolsV (xs.map fun c => V.bl (decide (c ∈ runs))) = some (xs.map fun c => decide (c ∈ runs)) := by
  induction xs with
  | nil => rfl
  | cons x xs ih => simp [boolsV, ih]
theorem sign_lc {C : VCtx} {w : List Nat} {σ : Sg} {o : Ow} (hw : w.length ≤ 1000000) : vE C (.lc (.cmp .isin (.var 1) (.cst c_RUNS)) (.var 1) (.var 0) [] [("sign", 1)]) [some (.str w, o), none] σ = .ok (.lst (w.map fun c => .bl (decide (c ∈ runs))), .own) σ := by
  refine vE_lc_map w (fun c => (.str [c], .own)) (fun c => .bl (decide (c ∈ runs))) ?_ hw fun c hc => ?_
  · rw [srcV_ne rfl]; simp [vE_var', vE_cst', vE_bin', vE_cmp', vE_chain', vE_and', vE_or', vE_not', vE_neg', vE_ife', vE_tup', vE_lst', vE_dic', vE_ix', vE_sl', vE_rev', vE_call', vE_bi', vE_isi', vE_me', vEs_nil', vEs_cons', vAnd_nil', vAnd_cons', vIfs_nil', vIfs_cons', vOr_nil', vOr_cons', vPath_var', vPath_ix', vS_set', vS_setT', vS_setX', vS_aug', vS_ex', vS_ret', vS_retN', vS_ifs', vS_whl', vS_for', vS_brk', vS_cnt', vS_pas', vS_rais', vS_tryA', vSs_nil', vSs_cons', vT', lcT', unemb, unembs, setV, isVar, retV, putV, putVs, addV, subV, mulV, modV, fdivV, powV, ltV, leV, truV, isiV, lenV, intV, itemsV, tupleV, listV, rdo, V.imm, V.imms, mk, okS, cao, isApp, isLV, isNonV, tyb, eqV_str, eqV_int, eqV_bl, eqV_non, wipeV, isNop, toI, recvV, goV]
  · simp [vE_var', vE_cst', vE_bin', vE_cmp', vE_chain', vE_and', vE_or', vE_not', vE_neg', vE_ife', vE_tup', vE_lst', vE_dic', vE_ix', vE_sl', vE_rev', vE_call', vE_bi', vE_isi', vE_me', vEs_nil', vEs_cons', vAnd_nil', vAnd_cons', vIfs_nil', vIfs_cons', vOr_nil', vOr_cons', vPath_var', vPath_ix', vS_set', vS_setT', vS_setX', vS_aug', vS_ex', vS_ret', vS_retN', vS_ifs', vS_whl', vS_for', vS_brk', vS_cnt', vS_pas', vS_rais', vS_tryA', vSs_nil', vSs_cons', vT', lcT', unemb, unembs, setV, isVar, retV, putV, putVs, addV, subV, mulV, modV, fdivV, powV, ltV, leV, truV, isiV, lenV, intV, itemsV, tupleV, listV, rdo, V.imm, V.imms, mk, okS, cao, isApp, isLV, isNonV, tyb, eqV_str, eqV_int, eqV_bl, eqV_non, wipeV, isNop, toI, recvV, inV, c_RUNS, runs]
theorem is_word {k : Nat} {w : List Nat} {σ : Sg} (hw : w.length ≤ 1000000) : cv (k + 1) i_is_word [.str w] σ = .ok (.bl (decide (0 < w.length ∧ w.length ≤ 24 ∧ ∀ c ∈ w, c ∈ runs)), .own) σ := by
  refine cv_ret (fn := f_is_word) rfl (by decide) rfl ?_
  by_cases h1 : 0 < w.length
  · by_cases h2 : w.length ≤ 24
    · have b1 : (0 : Int) < w.length := by omega
      have b2 : (w.length : Int) ≤ 24 := by omega
      simp only [h1, h2, true_and]
      by_cases hd : ∀ c ∈ w, c ∈ runs
      · have eA : allV [.lst (w.map fun c => .bl (decide (c ∈ runs)))] = some (.bl true) := by
          simp [allV, bools_map]; exact hd
        simp [f_is_word, vE_var', vE_cst', vE_bin', vE_cmp', vE_chain', vE_and', vE_or', vE_not', vE_neg', vE_ife', vE_tup', vE_lst', vE_dic', vE_ix', vE_sl', vE_rev', vE_call', vE_bi', vE_isi', vE_me', vEs_nil', vEs_cons', vAnd_nil', vAnd_cons', vIfs_nil', vIfs_cons', vOr_nil', vOr_cons', vPath_var', vPath_ix', vS_set', vS_setT', vS_setX', vS_aug', vS_ex', vS_ret', vS_retN', vS_ifs', vS_whl', vS_for', vS_brk', vS_cnt', vS_pas', vS_rais', vS_tryA', vSs_nil', vSs_cons', vT', lcT', unemb, unembs, setV, isVar, retV, putV, putVs, addV, subV, mulV, modV, fdivV, powV, ltV, leV, truV, isiV, lenV, intV, itemsV, tupleV, listV, rdo, V.imm, V.imms, mk, okS, cao, isApp, isLV, isNonV, tyb, eqV_str, eqV_int, eqV_bl, eqV_non, wipeV, isNop, toI, recvV, ↓sign_lc hw, eA, c_MOST_WORD, b1, b2, h1, h2, hd]
        exact hd
      · have eA : allV [.lst (w.map fun c => .bl (decide (c ∈ runs)))] = some (.bl false) := by
          simp [allV, bools_map]; simpa using hd
        simp [f_is_word, vE_var', vE_cst', vE_bin', vE_cmp', vE_chain', vE_and', vE_or', vE_not', vE_neg', vE_ife', vE_tup', vE_lst', vE_dic', vE_ix', vE_sl', vE_rev', vE_call', vE_bi', vE_isi', vE_me', vEs_nil', vEs_cons', vAnd_nil', vAnd_cons', vIfs_nil', vIfs_cons', vOr_nil', vOr_cons', vPath_var', vPath_ix', vS_set', vS_setT', vS_setX', vS_aug', vS_ex', vS_ret', vS_retN', vS_ifs', vS_whl', vS_for', vS_brk', vS_cnt', vS_pas', vS_rais', vS_tryA', vSs_nil', vSs_cons', vT', lcT', unemb, unembs, setV, isVar, retV, putV, putVs, addV, subV, mulV, modV, fdivV, powV, ltV, leV, truV, isiV, lenV, intV, itemsV, tupleV, listV, rdo, V.imm, V.imms, mk, okS, cao, isApp, isLV, isNonV, tyb, eqV_str, eqV_int, eqV_bl, eqV_non, wipeV, isNop, toI, recvV, ↓sign_lc hw, eA, c_MOST_WORD, b1, b2, h1, h2, hd]
    · have b1 : (0 : Int) < w.length := by omega
      have b2 : ¬ (w.length : Int) ≤ 24 := by omega
      simp [f_is_word, vE_var', vE_cst', vE_bin', vE_cmp', vE_chain', vE_and', vE_or', vE_not', vE_neg', vE_ife', vE_tup', vE_lst', vE_dic', vE_ix', vE_sl', vE_rev', vE_call', vE_bi', vE_isi', vE_me', vEs_nil', vEs_cons', vAnd_nil', vAnd_cons', vIfs_nil', vIfs_cons', vOr_nil', vOr_cons', vPath_var', vPath_ix', vS_set', vS_setT', vS_setX', vS_aug', vS_ex', vS_ret', vS_retN', vS_ifs', vS_whl', vS_for', vS_brk', vS_cnt', vS_pas', vS_rais', vS_tryA', vSs_nil', vSs_cons', vT', lcT', unemb, unembs, setV, isVar, retV, putV, putVs, addV, subV, mulV, modV, fdivV, powV, ltV, leV, truV, isiV, lenV, intV, itemsV, tupleV, listV, rdo, V.imm, V.imms, mk, okS, cao, isApp, isLV, isNonV, tyb, eqV_str, eqV_int, eqV_bl, eqV_non, wipeV, isNop, toI, recvV, c_MOST_WORD, b1, b2, h1, h2]
  · have b1 : ¬ (0 : Int) < w.length := by omega
    simp [f_is_word, vE_var', vE_cst', vE_bin', vE_cmp', vE_chain', vE_and', vE_or', vE_not', vE_neg', vE_ife', vE_tup', vE_lst', vE_dic', vE_ix', vE_sl', vE_rev', vE_call', vE_bi', vE_isi', vE_me', vEs_nil', vEs_cons', vAnd_nil', vAnd_cons', vIfs_nil', vIfs_cons', vOr_nil', vOr_cons', vPath_var', vPath_ix', vS_set', vS_setT', vS_setX', vS_aug', vS_ex', vS_ret', vS_retN', vS_ifs', vS_whl', vS_for', vS_brk', vS_cnt', vS_pas', vS_rais', vS_tryA', vSs_nil', vSs_cons', vT', lcT', unemb, unembs, setV, isVar, retV, putV, putVs, addV, subV, mulV, modV, fdivV, powV, ltV, leV, truV, isiV, lenV, intV, itemsV, tupleV, listV, rdo, V.imm, V.imms, mk, okS, cao, isApp, isLV, isNonV, tyb, eqV_str, eqV_int, eqV_bl, eqV_non, wipeV, isNop, toI, recvV, c_MOST_WORD, b1, h1]
theorem look_ok {k : Nat} {w : List Nat} {σ : Sg} (h : Word w) : cv (k + 2) i_look_at_word [.str w] σ = .ok (.non, .own) σ := by
  have hw : callV xcs kts fns i__law_draw (k + 1) i_is_word [.str w] σ = .ok (.bl true, .own) σ := by
    have := is_word (k := k) (σ := σ) (w := w) (by have := h.le; omega)
    rwa [decide_eq_true (show (0 < w.length ∧ w.length ≤ 24 ∧ ∀ c ∈ w, c ∈ runs) from ⟨h.pos, h.le, h.ok⟩)] at this
  rw [cv_of (fn := f_look_at_word) rfl (by decide) rfl]
  simp [f_look_at_word, vE_var', vE_cst', vE_bin', vE_cmp', vE_chain', vE_and', vE_or', vE_not', vE_neg', vE_ife', vE_tup', vE_lst', vE_dic', vE_ix', vE_sl', vE_rev', vE_call', vE_bi', vE_isi', vE_me', vEs_nil', vEs_cons', vAnd_nil', vAnd_cons', vIfs_nil', vIfs_cons', vOr_nil', vOr_cons', vPath_var', vPath_ix', vS_set', vS_setT', vS_setX', vS_aug', vS_ex', vS_ret', vS_retN', vS_ifs', vS_whl', vS_for', vS_brk', vS_cnt', vS_pas', vS_rais', vS_tryA', vSs_nil', vSs_cons', vT', lcT', unemb, unembs, setV, isVar, retV, putV, putVs, addV, subV, mulV, modV, fdivV, powV, ltV, leV, truV, isiV, lenV, intV, itemsV, tupleV, listV, rdo, V.imm, V.imms, mk, okS, cao, isApp, isLV, isNonV, tyb, eqV_str, eqV_int, eqV_bl, eqV_non, wipeV, isNop, toI, recvV, hw]
end KL

set_option linter.all false
set_option maxRecDepth 100000
set_option maxHeartbeats 2000000
namespace KL
open DL
open K58 (Rd Al dg)
def rowV (f : Nat → Int) (m : Nat) : V := .lst ((List.range (m + 1)).map fun j => .int (f j))
def tabV (f : Nat → Nat → Int) (n m : Nat) : V := .lst ((List.range (n + 1)).map fun i => rowV (f i) m)
theorem rowV_ix {f : Nat → Int} {m j : Nat} (h : j ≤ m) : ixV (rowV f m) (.int (j : Int)) = some (.int (f j)) := ixV_lst (by rw [List.getElem?_map, List.getElem?_range (by omega)]; rfl)
theorem tabV_ix {f : Nat → Nat → Int} {n m i : Nat} (h : i ≤ n) : ixV (tabV f n m) (.int (i : Int)) = some (rowV (f i) m) := ixV_lst (by rw [List.getElem?_map, List.getElem?_range (by omega)]; rfl)
theorem rowV_imm {f : Nat → Int} {m : Nat} : (rowV f m).imm = false := rfl
theorem tabV_imm {f : Nat → Nat → Int} {n m : Nat} : (tabV f n m).imm = false := rfl
theorem map_range_set {α : Type} (f : Nat → α) (n i : Nat) (x : α) : ((List.range n).map f).set i x = (List.range n).map fun k => if k = i then x else f k := by
  apply List.ext_getElem?
  intro k
  by_cases hk : i = k
  · subst hk
    by_cases hl : i < n
    · rw [List.getElem?_set_self (by simpa using hl), List.getElem?_map, List.getElem?_range hl]; simp
    · rw [List.getElem?_eq_none (by simpa using Nat.le_of_not_lt hl), List.getElem?_eq_none (by simpa using Nat.le_of_not_lt hl)]
  · rw [List.getElem?_set_ne hk, List.getElem?_map, List.getElem?_map]
    by_cases hl : k < n
    · rw [List.getElem?_range hl]; simp [Ne.symm hk]
    · rw [List.getElem?_eq_none (by simpa using Nat.le_of_not_lt hl)]; rfl
/-- one cell of a table is written -/
theorem tabV_put {KT : List D} {f : Nat → Nat → Int} {n m i j : Nat} {v : Int} (hi : i ≤ n) (hj : j ≤ m) :
    ∃ w, setXV KT (rowV (f i) m) (.int (j : Int)) (.int v) = some w ∧ putP [.int (i : Int)] w (tabV f n m) = some (tabV (fun a b => if a = i ∧ b = j then v else f a b) n m) := by
  refine ⟨.lst (((List.range (m + 1)).map fun j => V.int (f i j)).set j (.int v)), ?_, ?_⟩
  · unfold setXV rowV
    dsimp only
    rw [if_pos ⟨by omega, by simp; omega⟩, Int.toNat_natCast]
  · unfold tabV
    rw [putP]
    dsimp only
    rw [idxN, if_pos (by omega), Int.toNat_natCast]
    dsimp only
    rw [List.getElem?_map, List.getElem?_range (by omega)]
    dsimp only [Option.map_some]
    rw [putP, map_range_set]
    dsimp only
    rw [map_range_set]
    congr 2
    apply List.map_congr_left
    intro a _
    by_cases ha : a = i
    · subst ha
      rw [if_pos rfl]
      unfold rowV
      congr 1
      apply List.map_congr_left
      intro b _
      by_cases hb : b = j
      · subst hb; simp
      · simp [hb]
    · rw [if_neg ha]
      unfold rowV
      congr 1
      apply List.map_congr_left
      intro b _
      simp [ha]
def rrBody : List S := [
      .set 6 (.ife (.or [(.cmp .lt (.var 4) (.bi .len [(.var 0)])), (.cmp .lt (.var 5) (.bi .len [(.var 1)]))]) (.lst []) (.lst [(.cst (.int (0)))])),
      .ifs (.cmp .lt (.var 4) (.bi .len [(.var 0)])) [
        .ex (.me .append (.var 6) [(.bin .add (.ix (.ix (.var 2) (.bin .add (.var 4) (.cst (.int (1))))) (.var 5)) (.cst (.int (1))))])] [],
      .ifs (.cmp .lt (.var 5) (.bi .len [(.var 1)])) [
        .ex (.me .append (.var 6) [(.bin .add (.ix (.ix (.var 2) (.var 4)) (.bin .add (.var 5) (.cst (.int (1))))) (.cst (.int (1))))])] [],
      .ifs (.and [(.cmp .lt (.var 4) (.bi .len [(.var 0)])), (.cmp .lt (.var 5) (.bi .len [(.var 1)]))]) [
        .ex (.me .append (.var 6) [(.bin .add (.ix (.ix (.var 2) (.bin .add (.var 4) (.cst (.int (1))))) (.bin .add (.var 5) (.cst (.int (1))))) (.bi .int [(.cmp .ne (.ix (.var 0) (.var 4)) (.ix (.var 1) (.var 5)))]))])] [],
      .setX (.ix (.var 2) (.var 4)) (.var 5) (.bi .min [(.var 6)])]
/-- the least of what is left, as the table has it -/
def newV (one two : List Nat) (V : Nat → Nat → Int) (i j : Nat) : Int :=
  match one[i]?, two[j]? with
  | none, none => 0
  | some _, none => V (i + 1) j + 1
  | none, some _ => V i (j + 1) + 1
  | some x, some y => minI (V (i + 1) j + 1) [V i (j + 1) + 1, V (i + 1) (j + 1) + (if x = y then 0 else 1)]
abbrev rrE (one two : List Nat) (f : Nat → Nat → Int) (a b c : Option VO) : VEnv := [some (.str one, .fz), some (.str two, .fz), some (tabV f one.length two.length, .own), none, a, b, c]
theorem rr_body {C : VCtx} {σ : Sg} {one two : List Nat} {f : Nat → Nat → Int} {i j : Nat} {x : Option VO} (hi : i ≤ one.length) (hj : j ≤ two.length) :
    ∃ g, vSs C rrBody (rrE one two f (some (.int i, .own)) (some (.int j, .own)) x) σ = .nx (rrE one two (fun a b => if a = i ∧ b = j then newV one two f i j else f a b) (some (.int i, .own)) (some (.int j, .own)) g) σ := by
  obtain ⟨w, hw1, hw2⟩ := tabV_put (KT := C.kt) (f := f) (v := newV one two f i j) hi hj
  have r0 := tabV_ix (f := f) (m := two.length) hi
  have ti := fun (f : Nat → Nat → Int) (n m : Nat) => @tabV_imm f n m
  have ri := fun (f : Nat → Int) (m : Nat) => @rowV_imm f m
  by_cases h1 : i < one.length
  · have r1 := tabV_ix (f := f) (m := two.length) (i := i + 1) h1
    have c1 : ((i + 1 : Nat) : Int) = (i : Int) + 1 := by omega
    rw [c1] at r1
    have v1 := rowV_ix (f := f (i + 1)) hj
    by_cases h2 : j < two.length
    · have v2 := rowV_ix (f := f i) (j := j + 1) h2
      have v3 := rowV_ix (f := f (i + 1)) (j := j + 1) h2
      have c2 : ((j + 1 : Nat) : Int) = (j : Int) + 1 := by omega
      rw [c2] at v2 v3
      have e1 := ixV_str (List.getElem?_eq_getElem h1)
      have e2 := ixV_str (List.getElem?_eq_getElem h2)
      by_cases e : one[i] = two[j]
      · have hmin : minV [.lst [.int (f (i + 1) j + 1), .int (f i (j + 1) + 1), .int (f (i + 1) (j + 1))]] = some (.int (newV one two f i j)) := by
          simp [minV, intsV, newV, h1, h2, e]
        exact ⟨_, by simp [rrBody, vE_var', vE_cst', vE_bin', vE_cmp', vE_chain', vE_and', vE_or', vE_not', vE_neg', vE_ife', vE_tup', vE_lst', vE_dic', vE_ix', vE_sl', vE_rev', vE_call', vE_bi', vE_isi', vE_me', vEs_nil', vEs_cons', vAnd_nil', vAnd_cons', vIfs_nil', vIfs_cons', vOr_nil', vOr_cons', vPath_var', vPath_ix', vS_set', vS_setT', vS_setX', vS_aug', vS_ex', vS_ret', vS_retN', vS_ifs', vS_whl', vS_for', vS_brk', vS_cnt', vS_pas', vS_rais', vS_tryA', vSs_nil', vSs_cons', vT', lcT', unemb, unembs, setV, isVar, retV, putV, putVs, addV, subV, mulV, modV, fdivV, powV, ltV, leV, truV, isiV, lenV, intV, itemsV, tupleV, listV, rdo, V.imm, V.imms, mk, okS, cao, isApp, isLV, isNonV, tyb, eqV_str, eqV_int, eqV_bl, eqV_non, wipeV, isNop, toI, recvV, h1, h2, r1, r0, v1, v2, v3, e1, e2, e, ti, ri, vPath_var', vPath_ix', appV, wrV, putP, killV, hmin, hw1, hw2]; rfl⟩
      · have hmin : minV [.lst [.int (f (i + 1) j + 1), .int (f i (j + 1) + 1), .int (f (i + 1) (j + 1) + 1)]] = some (.int (newV one two f i j)) := by
          simp [minV, intsV, newV, h1, h2, e]
        exact ⟨_, by simp [rrBody, vE_var', vE_cst', vE_bin', vE_cmp', vE_chain', vE_and', vE_or', vE_not', vE_neg', vE_ife', vE_tup', vE_lst', vE_dic', vE_ix', vE_sl', vE_rev', vE_call', vE_bi', vE_isi', vE_me', vEs_nil', vEs_cons', vAnd_nil', vAnd_cons', vIfs_nil', vIfs_cons', vOr_nil', vOr_cons', vPath_var', vPath_ix', vS_set', vS_setT', vS_setX', vS_aug', vS_ex', vS_ret', vS_retN', vS_ifs', vS_whl', vS_for', vS_brk', vS_cnt', vS_pas', vS_rais', vS_tryA', vSs_nil', vSs_cons', vT', lcT', unemb, unembs, setV, isVar, retV, putV, putVs, addV, subV, mulV, modV, fdivV, powV, ltV, leV, truV, isiV, lenV, intV, itemsV, tupleV, listV, rdo, V.imm, V.imms, mk, okS, cao, isApp, isLV, isNonV, tyb, eqV_str, eqV_int, eqV_bl, eqV_non, wipeV, isNop, toI, recvV, h1, h2, r1, r0, v1, v2, v3, e1, e2, e, ti, ri, vPath_var', vPath_ix', appV, wrV, putP, killV, hmin, hw1, hw2]; rfl⟩
    · have hn : two[j]? = none := List.getElem?_eq_none (by omega)
      have hmin : minV [.lst [.int (f (i + 1) j + 1)]] = some (.int (newV one two f i j)) := by
        simp [minV, intsV, newV, h1, hn, minI]
      exact ⟨_, by simp [rrBody, vE_var', vE_cst', vE_bin', vE_cmp', vE_chain', vE_and', vE_or', vE_not', vE_neg', vE_ife', vE_tup', vE_lst', vE_dic', vE_ix', vE_sl', vE_rev', vE_call', vE_bi', vE_isi', vE_me', vEs_nil', vEs_cons', vAnd_nil', vAnd_cons', vIfs_nil', vIfs_cons', vOr_nil', vOr_cons', vPath_var', vPath_ix', vS_set', vS_setT', vS_setX', vS_aug', vS_ex', vS_ret', vS_retN', vS_ifs', vS_whl', vS_for', vS_brk', vS_cnt', vS_pas', vS_rais', vS_tryA', vSs_nil', vSs_cons', vT', lcT', unemb, unembs, setV, isVar, retV, putV, putVs, addV, subV, mulV, modV, fdivV, powV, ltV, leV, truV, isiV, lenV, intV, itemsV, tupleV, listV, rdo, V.imm, V.imms, mk, okS, cao, isApp, isLV, isNonV, tyb, eqV_str, eqV_int, eqV_bl, eqV_non, wipeV, isNop, toI, recvV, h1, h2, r1, r0, v1, ti, ri, vPath_var', vPath_ix', appV, wrV, putP, killV, hmin, hw1, hw2]; rfl⟩
  · have hn1 : one[i]? = none := List.getElem?_eq_none (by omega)
    by_cases h2 : j < two.length
    · have v2 := rowV_ix (f := f i) (j := j + 1) h2
      have c2 : ((j + 1 : Nat) : Int) = (j : Int) + 1 := by omega
      rw [c2] at v2
      have hmin : minV [.lst [.int (f i (j + 1) + 1)]] = some (.int (newV one two f i j)) := by
        simp [minV, intsV, newV, h2, hn1, minI]
      exact ⟨_, by simp [rrBody, vE_var', vE_cst', vE_bin', vE_cmp', vE_chain', vE_and', vE_or', vE_not', vE_neg', vE_ife', vE_tup', vE_lst', vE_dic', vE_ix', vE_sl', vE_rev', vE_call', vE_bi', vE_isi', vE_me', vEs_nil', vEs_cons', vAnd_nil', vAnd_cons', vIfs_nil', vIfs_cons', vOr_nil', vOr_cons', vPath_var', vPath_ix', vS_set', vS_setT', vS_setX', vS_aug', vS_ex', vS_ret', vS_retN', vS_ifs', vS_whl', vS_for', vS_brk', vS_cnt', vS_pas', vS_rais', vS_tryA', vSs_nil', vSs_cons', vT', lcT', unemb, unembs, setV, isVar, retV, putV, putVs, addV, subV, mulV, modV, fdivV, powV, ltV, leV, truV, isiV, lenV, intV, itemsV, tupleV, listV, rdo, V.imm, V.imms, mk, okS, cao, isApp, isLV, isNonV, tyb, eqV_str, eqV_int, eqV_bl, eqV_non, wipeV, isNop, toI, recvV, h1, h2, r0, v2, ti, ri, vPath_var', vPath_ix', appV, wrV, putP, killV, hmin, hw1, hw2]; rfl⟩
    · have hn : two[j]? = none := List.getElem?_eq_none (by omega)
      have hmin : minV [.lst [.int 0]] = some (.int (newV one two f i j)) := by
        simp [minV, intsV, newV, hn1, hn, minI]
      exact ⟨_, by simp [rrBody, vE_var', vE_cst', vE_bin', vE_cmp', vE_chain', vE_and', vE_or', vE_not', vE_neg', vE_ife', vE_tup', vE_lst', vE_dic', vE_ix', vE_sl', vE_rev', vE_call', vE_bi', vE_isi', vE_me', vEs_nil', vEs_cons', vAnd_nil', vAnd_cons', vIfs_nil', vIfs_cons', vOr_nil', vOr_cons', vPath_var', vPath_ix', vS_set', vS_setT', vS_setX', vS_aug', vS_ex', vS_ret', vS_retN', vS_ifs', vS_whl', vS_for', vS_brk', vS_cnt', vS_pas', vS_rais', vS_tryA', vSs_nil', vSs_cons', vT', lcT', unemb, unembs, setV, isVar, retV, putV, putVs, addV, subV, mulV, modV, fdivV, powV, ltV, leV, truV, isiV, lenV, intV, itemsV, tupleV, listV, rdo, V.imm, V.imms, mk, okS, cao, isApp, isLV, isNonV, tyb, eqV_str, eqV_int, eqV_bl, eqV_non, wipeV, isNop, toI, recvV, h1, h2, r0, ti, ri, vPath_var', vPath_ix', appV, wrV, putP, killV, hmin, hw1, hw2]; rfl⟩
theorem minI3 (a b c : Int) : minI a [b, c] = min (min a b) c := by
  unfold minI minI minI
  split <;> split <;> omega
def Rv (one two : List Nat) (i j : Nat) : Int := (Rd (one.drop i) (two.drop j) : Nat)
theorem newV_rd {one two : List Nat} {V : Nat → Nat → Int} {i j : Nat} (h1 : i < one.length → V (i + 1) j = Rv one two (i + 1) j) (h2 : j < two.length → V i (j + 1) = Rv one two i (j + 1)) (h3 : i < one.length → j < two.length → V (i + 1) (j + 1) = Rv one two (i + 1) (j + 1)) : newV one two V i j = Rv one two i j := by
  unfold newV
  by_cases a : i < one.length
  · have ea := List.getElem?_eq_getElem a
    have da := List.drop_eq_getElem_cons a
    by_cases b : j < two.length
    · have eb := List.getElem?_eq_getElem b
      have db := List.drop_eq_getElem_cons b
      rw [ea, eb]
      dsimp only
      rw [h1 a, h2 b, h3 a b, minI3]
      unfold Rv
      rw [da, db, Rd]
      unfold dg
      split <;> omega
    · have eb : two[j]? = none := List.getElem?_eq_none (by omega)
      rw [ea, eb]
      dsimp only
      rw [h1 a]
      unfold Rv
      rw [da, List.drop_of_length_le (Nat.le_of_not_lt b), Rd]
      omega
  · have ea : one[i]? = none := List.getElem?_eq_none (by omega)
    by_cases b : j < two.length
    · have eb := List.getElem?_eq_getElem b
      have db := List.drop_eq_getElem_cons b
      rw [ea, eb]
      dsimp only
      rw [h2 b]
      unfold Rv
      rw [db, List.drop_of_length_le (Nat.le_of_not_lt a), Rd]
      omega
    · have eb : two[j]? = none := List.getElem?_eq_none (by omega)
      rw [ea, eb]
      unfold Rv
      rw [List.drop_of_length_le (Nat.le_of_not_lt a), List.drop_of_length_le (Nat.le_of_not_lt b), Rd]
      rfl
theorem map_range_get {α β : Type} {g : Nat → α} {f : α → β} {n i : Nat} {x : β} (h : (((List.range n).map g).map f)[i]? = some x) : i < n ∧ x = f (g i) := by
  rw [List.getElem?_map, List.getElem?_map] at h
  by_cases hi : i < n
  · rw [List.getElem?_range hi] at h; cases h; exact ⟨hi, rfl⟩
  · rw [List.getElem?_eq_none (by simpa using Nat.le_of_not_lt hi)] at h; cases h
theorem srcS_rng {CV : VCtx} {es : List E} {ρ : VEnv} {σ σ' : Sg} {xs : List VO} {vs : List V} (h : vEs CV es ρ σ = .ok xs σ') (hr : rngV (xs.map (·.1)) = some vs) : srcS CV (.rng es) ρ σ = .ok (vs.map fun x => (x, Ow.own), false) σ' := by
  rw [srcS_rng', h]
  dsimp only [VR.bind]
  rw [hr]
  rfl
/-- a for over a range -/
theorem vS_for_rng {C : VCtx} {tg : E} {es : List E} {b : List S} {ρ : VEnv} {σ σ' : Sg} {xs : List VO} {vs : List V} (h : vEs C es ρ σ = .ok xs σ') (hr : rngV (xs.map (·.1)) = some vs) :
    vS C (.for tg (.rng es) b) ρ σ = forV (fun x ρ σ => match putV tg x ρ with | some ρ => vSs C b ρ σ | none => .bad) (vs.map fun x => (x, Ow.own)) ρ σ' := by
  rw [vS_for']
  have : lend ρ (.rng es) = none := rfl
  rw [this]
  dsimp only
  rw [srcS_rng h hr]
  rfl
theorem down_args {C : VCtx} {ρ : VEnv} {σ : Sg} {i : Nat} {w : List Nat} {o : Ow} (h : ρ[i]? = some (some (.str w, o))) : vEs C [(.bi .len [(.var i)]), (.neg (.cst (.int (1)))), (.neg (.cst (.int (1))))] ρ σ = .ok [(.int (w.length : Int), .own), (.int (-1), .own), (.int (-1), .own)] σ := by
  simp [vE_var', vE_cst', vE_bin', vE_cmp', vE_chain', vE_and', vE_or', vE_not', vE_neg', vE_ife', vE_tup', vE_lst', vE_dic', vE_ix', vE_sl', vE_rev', vE_call', vE_bi', vE_isi', vE_me', vEs_nil', vEs_cons', vAnd_nil', vAnd_cons', vIfs_nil', vIfs_cons', vOr_nil', vOr_cons', vPath_var', vPath_ix', vS_set', vS_setT', vS_setX', vS_aug', vS_ex', vS_ret', vS_retN', vS_ifs', vS_whl', vS_for', vS_brk', vS_cnt', vS_pas', vS_rais', vS_tryA', vSs_nil', vSs_cons', vT', lcT', unemb, unembs, setV, isVar, retV, putV, putVs, addV, subV, mulV, modV, fdivV, powV, ltV, leV, truV, isiV, lenV, intV, itemsV, tupleV, listV, rdo, V.imm, V.imms, mk, okS, cao, isApp, isLV, isNonV, tyb, eqV_str, eqV_int, eqV_bl, eqV_non, wipeV, isNop, toI, recvV, h]
theorem zero_row {C : VCtx} {one two : List Nat} {σ : Sg} {x : Nat} (h2 : two.length ≤ 100) : lcT C [some (.str one, .fz), some (.str two, .fz), none, none, none, none, none] (.bin .mul (.lst [(.cst (.int (0)))]) (.bin .add (.bi .len [(.var 1)]) (.cst (.int (1))))) (.var 3) [] [("_", 3)] (V.int (x : Int), .own) σ = .ok (some (rowV (fun _ => 0) two.length, .own)) σ := by
  have hrep : ∀ n, rep [V.int 0] n = (List.range n).map fun _ => V.int 0 := by
    intro n
    induction n with
    | zero => rfl
    | succ n ih => rw [rep, ih, List.range_succ_eq_map, List.map_cons, List.map_map]; rfl
  have hm : mulV (.lst [.int 0]) (.int ((two.length : Int) + 1)) = some (rowV (fun _ => 0) two.length) := by
    unfold mulV
    dsimp only
    rw [if_pos ⟨rfl, by simp, by omega, by omega⟩, show ((two.length : Int) + 1).toNat = two.length + 1 by omega, hrep]
    rfl
  generalize rowV (fun _ => 0) two.length = r at hm ⊢
  simp [vE_var', vE_cst', vE_bin', vE_cmp', vE_chain', vE_and', vE_or', vE_not', vE_neg', vE_ife', vE_tup', vE_lst', vE_dic', vE_ix', vE_sl', vE_rev', vE_call', vE_bi', vE_isi', vE_me', vEs_nil', vEs_cons', vAnd_nil', vAnd_cons', vIfs_nil', vIfs_cons', vOr_nil', vOr_cons', vPath_var', vPath_ix', vS_set', vS_setT', vS_setX', vS_aug', vS_ex', vS_ret', vS_retN', vS_ifs', vS_whl', vS_for', vS_brk', vS_cnt', vS_pas', vS_rais', vS_tryA', vSs_nil', vSs_cons', vT', lcT', unemb, wipeV, putV, lenV, addV, rdo, V.imm, mk, okS, hm]
theorem rest_rows {k : Nat} {σ : Sg} {one two : List Nat} (h1 : one.length ≤ 100) (h2 : two.length ≤ 100) : cv (k + 1) i_rest_rows [.str one, .str two] σ = .ok (tabV (Rv one two) one.length two.length, .own) σ := by
  let C := CX k
  have inner : ∀ (i : Nat) (b c : Option VO) (f : Nat → Nat → Int), i ≤ one.length → (∀ a b, i < a → a ≤ one.length → b ≤ two.length → f a b = Rv one two a b) →
      ∃ ρ' σ', forV (fun x ρ σ => match putV (.var 5) x ρ with | some ρ => vSs C rrBody ρ σ | none => .bad) (((List.range (two.length + 1)).map fun k : Nat => V.int ((two.length : Int) - (k : Int))).map fun x => (x, Ow.own)) (rrE one two f (some (.int i, .own)) b c) σ = .nx ρ' σ' ∧ σ' = σ ∧ ∃ f' b' c', ρ' = rrE one two f' (some (.int i, .own)) b' c' ∧ ∀ a b, i ≤ a → a ≤ one.length → b ≤ two.length → f' a b = Rv one two a b := by
    intro i b c f hi hf
    obtain ⟨ρ', σ', e, hσ, f', b', c', rfl, hA, hB⟩ := forV_nx (body := fun x ρ σ => match putV (.var 5) x ρ with | some ρ => vSs C rrBody ρ σ | none => .bad) (items := ((List.range (two.length + 1)).map fun k : Nat => V.int ((two.length : Int) - (k : Int))).map fun x => (x, Ow.own))
      (fun k ρ s => s = σ ∧ ∃ f b c, ρ = rrE one two f (some (.int i, .own)) b c ∧ (∀ a b, i < a → a ≤ one.length → b ≤ two.length → f a b = Rv one two a b) ∧ ∀ b, b ≤ two.length → two.length < b + k → f i b = Rv one two i b)
      (fun k x ρ s hx ⟨hs, f, b, c, e, hA, hB⟩ => by
        obtain ⟨hk, rfl⟩ := map_range_get hx
        obtain ⟨j, hj⟩ : ∃ j : Nat, j + k = two.length := ⟨two.length - k, by omega⟩
        have ej : ((two.length : Int) - (k : Int)) = (j : Int) := by omega
        obtain ⟨g, q⟩ := rr_body (C := C) (σ := s) (f := f) (x := c) hi (show j ≤ two.length by omega)
        refine ⟨_, s, ?_, hs, (fun a b => if a = i ∧ b = j then newV one two f i j else f a b), some (.int j, .own), g, rfl, fun a b h1 h2 h3 => ?_, fun b h1 h2 => ?_⟩
        · rw [e, ej, putV]
          exact q
        · show (if a = i ∧ b = j then _ else _) = _
          rw [if_neg (by omega)]; exact hA a b h1 h2 h3
        · show (if i = i ∧ b = j then _ else _) = _
          by_cases hb : b = j
          · subst hb
            rw [if_pos ⟨rfl, rfl⟩]
            exact newV_rd (fun h => hA _ _ (by omega) h (by omega)) (fun h => hB _ h (by omega)) (fun h h' => hA _ _ (by omega) h h')
          · rw [if_neg (by omega)]; exact hB b h1 (by omega)) (ρ := rrE one two f (some (.int i, .own)) b c) (σ := σ) ⟨rfl, f, b, c, rfl, hf, fun b h1 h2 => by omega⟩
    simp only [List.length_map, List.length_range] at hB
    refine ⟨_, σ', e, hσ, f', b', c', rfl, fun a b ha h3 h4 => ?_⟩
    by_cases h : a = i
    · rw [h]; exact hB b h4 (by omega)
    · exact hA a b (by omega) h3 h4
  obtain ⟨ρ', σ', e, hσ, f', a', b', c', rfl, hA⟩ := forV_nx (body := fun x ρ σ => match putV (.var 4) x ρ with | some ρ => vSs C [.for (.var 5) (.rng [(.bi .len [(.var 1)]), (.neg (.cst (.int (1)))), (.neg (.cst (.int (1))))]) rrBody] ρ σ | none => .bad) (items := ((List.range (one.length + 1)).map fun k : Nat => V.int ((one.length : Int) - (k : Int))).map fun x => (x, Ow.own))
      (fun k ρ s => s = σ ∧ ∃ f a b c, ρ = rrE one two f a b c ∧ ∀ a b, a ≤ one.length → one.length < a + k → b ≤ two.length → f a b = Rv one two a b)
      (fun k x ρ s hx ⟨hs, f, a, b, c, e, hA⟩ => by
        obtain ⟨hk, rfl⟩ := map_range_get hx
        obtain ⟨i, hi⟩ : ∃ i : Nat, i + k = one.length := ⟨one.length - k, by omega⟩
        have ei : ((one.length : Int) - (k : Int)) = (i : Int) := by omega
        subst hs
        obtain ⟨ρ2, s2, q, hs2, f', b', c', rfl, hV⟩ := inner i b c f (by omega) (fun a b h1 h2 h3 => hA a b h2 (by omega) h3)
        subst hs2
        refine ⟨_, _, ?_, rfl, f', some (.int i, .own), b', c', rfl, fun a b h1 h2 h3 => hV a b (by omega) h1 h3⟩
        rw [e, ei, putV]
        show vSs C _ (rrE one two f (some (.int i, .own)) b c) _ = _
        rw [vSs_nx (ρ' := rrE one two f' (some (.int i, .own)) b' c') (σ' := s2), vSs_nil]
        rw [vS_for_rng (down_args (w := two) rfl) (rngV_down (by omega))]
        exact q) (ρ := rrE one two (fun _ _ => 0) none none none) (σ := σ) ⟨rfl, _, none, none, none, rfl, fun a b h1 h2 h3 => by omega⟩
  simp only [List.length_map, List.length_range] at hA
  subst hσ
  have hrows : vE C (.lc (.bin .mul (.lst [(.cst (.int (0)))]) (.bin .add (.bi .len [(.var 1)]) (.cst (.int (1))))) (.var 3) (.rng [(.bin .add (.bi .len [(.var 0)]) (.cst (.int (1))))]) [] [("_", 3)]) [some (.str one, .fz), some (.str two, .fz), none, none, none, none, none] σ' = .ok (tabV (fun _ _ => 0) one.length two.length, .own) σ' := by
    refine vE_lc_map (List.range (one.length + 1)) (fun k : Nat => (V.int (k : Int), .own)) (fun _ => rowV (fun _ => 0) two.length) (srcV_rng1 (o := .own) (by simp [vE_var', vE_cst', vE_bin', vE_cmp', vE_chain', vE_and', vE_or', vE_not', vE_neg', vE_ife', vE_tup', vE_lst', vE_dic', vE_ix', vE_sl', vE_rev', vE_call', vE_bi', vE_isi', vE_me', vEs_nil', vEs_cons', vAnd_nil', vAnd_cons', vIfs_nil', vIfs_cons', vOr_nil', vOr_cons', vPath_var', vPath_ix', vS_set', vS_setT', vS_setX', vS_aug', vS_ex', vS_ret', vS_retN', vS_ifs', vS_whl', vS_for', vS_brk', vS_cnt', vS_pas', vS_rais', vS_tryA', vSs_nil', vSs_cons', vT', lcT', unemb, unembs, setV, isVar, retV, putV, putVs, addV, subV, mulV, modV, fdivV, powV, ltV, leV, truV, isiV, lenV, intV, itemsV, tupleV, listV, rdo, V.imm, V.imms, mk, okS, cao, isApp, isLV, isNonV, tyb, eqV_str, eqV_int, eqV_bl, eqV_non, wipeV, isNop, toI, recvV]) (by omega)) (by simp; omega) fun x _ => ?_
    exact zero_row h2
  refine cv_ret (fn := f_rest_rows) rfl (by decide) rfl ?_
  rw [f_rest_rows]
  show vSs C _ [some (.str one, .fz), some (.str two, .fz), none, none, none, none, none] σ' = _
  rw [vSs_nx (ρ' := rrE one two (fun _ _ => 0) none none none) (σ' := σ') (vS_set_of hrows)]
  rw [vSs_nx (ρ' := rrE one two f' a' b' c') (σ' := σ') (by rw [vS_for_rng (down_args (w := one) rfl) (rngV_down (by omega))]; exact e)]
  refine vSs_ret ?_
  have hft : tabV f' one.length two.length = tabV (Rv one two) one.length two.length := by
    unfold tabV rowV
    refine congrArg V.lst ?_
    apply List.map_congr_left
    intro i hi
    refine congrArg V.lst ?_
    apply List.map_congr_left
    intro j hj
    simp at hi hj
    rw [hA i j (by omega) (by omega) (by omega)]
  rw [← hft]
  exact vS_ret_of (vE_var_of rfl) rfl
end KL

set_option linter.all false
set_option maxRecDepth 100000
namespace K58
def Fd (one two : List Nat) (a b : Nat) : Nat := Rd (one.take a).reverse (two.take b).reverse
theorem take_rev {w : List Nat} {i x : Nat} (h : w[i]? = some x) : (w.take (i + 1)).reverse = x :: (w.take i).reverse := by
  rw [List.take_add_one, h]
  simp
theorem fd0 (one two : List Nat) : Fd one two 0 0 = 0 := by simp [Fd, Rd]
theorem fdL {one two : List Nat} {a x : Nat} (h : one[a]? = some x) : Fd one two (a + 1) 0 = Fd one two a 0 + 1 := by
  unfold Fd
  rw [take_rev h, List.take_zero, List.reverse_nil]
  exact Rd.eq_2 _ _
theorem fdR {one two : List Nat} {b y : Nat} (h : two[b]? = some y) : Fd one two 0 (b + 1) = Fd one two 0 b + 1 := by
  unfold Fd
  rw [take_rev h, List.take_zero, List.reverse_nil]
  exact Rd.eq_3 _ _
theorem fdS {one two : List Nat} {a b x y : Nat} (h : one[a]? = some x) (g : two[b]? = some y) : Fd one two (a + 1) (b + 1) = min (min (Fd one two a (b + 1) + 1) (Fd one two (a + 1) b + 1)) (Fd one two a b + dg x y) := by
  unfold Fd
  rw [take_rev h, take_rev g, Rd]
theorem fd_zero {one two : List Nat} : ∀ a, a ≤ one.length → Fd one two a 0 = a
  | 0, _ => fd0 _ _
  | a + 1, h => by rw [fdL (List.getElem?_eq_getElem h), fd_zero a (by omega)]
theorem fd_end (one two : List Nat) : Fd one two one.length two.length = Rd one two := by
  unfold Fd
  rw [List.take_length, List.take_length]
  exact rd_rev one two
end K58

set_option linter.all false
set_option maxRecDepth 100000
set_option maxHeartbeats 2000000
namespace KL
open DL
open K58 (Rd Al dg Fd fd0 fdL fdR fdS fd_zero fd_end)
/-! how far two words are -/
def colV (one two : List Nat) (b n : Nat) : V := .lst ((List.range n).map fun a => .int (Fd one two a b : Nat))
theorem colV_ix {one two : List Nat} {b n a : Nat} (h : a < n) : ixV (colV one two b n) (.int (a : Int)) = some (.int (Fd one two a b : Nat)) := ixV_lst (by rw [List.getElem?_map, List.getElem?_range h]; rfl)
theorem colV_app {one two : List Nat} {b n : Nat} (h : n ≤ 1000000) : appV (colV one two b n) (.int (Fd one two n b : Nat)) = some (colV one two b (n + 1)) := by
  unfold appV colV
  dsimp only
  rw [if_pos (by simp [okS]; omega), List.range_succ, List.map_append]
  rfl
theorem colV_imm {one two : List Nat} {b n : Nat} : (colV one two b n).imm = false := rfl
theorem colV_lst {one two : List Nat} {b n : Nat} : isLV (colV one two b n) = true := rfl
def farBody : List S := [.ex (.me .append (.var 5) [(.bi .min [(.bi .int [(.bin .add (.ix (.var 5) (.var 3)) (.cst (.int (1))))]), (.bi .int [(.bin .add (.ix (.var 2) (.bin .add (.var 3) (.cst (.int (1))))) (.cst (.int (1))))]), (.bi .int [(.bin .add (.ix (.var 2) (.var 3)) (.ife (.cmp .eq (.ix (.var 0) (.var 3)) (.var 4)) (.cst (.int (0))) (.cst (.int (1)))))])])])]
abbrev faE (one two : List Nat) (b n : Nat) (k : Option VO) (y : Nat) (m : Nat) : VEnv := [some (.str one, .fz), some (.str two, .fz), some (colV one two b n, .own), k, some (.str [y], .own), some (colV one two (b + 1) m, .own)]
theorem far_body {C : VCtx} {σ : Sg} {one two : List Nat} {a b y : Nat} (ha : a < one.length) (hy : two[b]? = some y) (h1 : one.length ≤ 100) :
    vSs C farBody (faE one two b (one.length + 1) (some (.int (a : Int), .own)) y (a + 1)) σ = .nx (faE one two b (one.length + 1) (some (.int (a : Int), .own)) y (a + 2)) σ := by
  have r0 := colV_ix (one := one) (two := two) (b := b + 1) (n := a + 1) (a := a) (by omega)
  have r1 := colV_ix (one := one) (two := two) (b := b) (n := one.length + 1) (a := a) (by omega)
  have r2 := colV_ix (one := one) (two := two) (b := b) (n := one.length + 1) (a := a + 1) (by omega)
  have c1 : ((a + 1 : Nat) : Int) = (a : Int) + 1 := by omega
  rw [c1] at r2
  have e1 := ixV_str (List.getElem?_eq_getElem ha)
  have hF := fdS (List.getElem?_eq_getElem ha) hy
  have hap := colV_app (one := one) (two := two) (b := b + 1) (n := a + 1) (by omega)
  have ci := fun b n => @colV_imm one two b n
  have cl := fun b n => @colV_lst one two b n
  by_cases e : one[a] = y
  · have hmin : minV [.int ((Fd one two a (b + 1) : Nat) + 1), .int ((Fd one two (a + 1) b : Nat) + 1), .int ((Fd one two a b : Nat))] = some (.int (Fd one two (a + 1) (b + 1) : Nat)) := by
      rw [minV, minI3, hF, dg, if_pos e]
      congr 2
      omega
    simp [farBody, vE_var', vE_cst', vE_bin', vE_cmp', vE_chain', vE_and', vE_or', vE_not', vE_neg', vE_ife', vE_tup', vE_lst', vE_dic', vE_ix', vE_sl', vE_rev', vE_call', vE_bi', vE_isi', vE_me', vEs_nil', vEs_cons', vAnd_nil', vAnd_cons', vIfs_nil', vIfs_cons', vOr_nil', vOr_cons', vPath_var', vPath_ix', vS_set', vS_setT', vS_setX', vS_aug', vS_ex', vS_ret', vS_retN', vS_ifs', vS_whl', vS_for', vS_brk', vS_cnt', vS_pas', vS_rais', vS_tryA', vSs_nil', vSs_cons', vT', lcT', unemb, isApp, rdo, addV, r0, r1, r2, e1, e, eqV_str, truV, intV, mk, hmin, hap, wrV, putP, killV, ci, cl, V.imm]
  · have hmin : minV [.int ((Fd one two a (b + 1) : Nat) + 1), .int ((Fd one two (a + 1) b : Nat) + 1), .int ((Fd one two a b : Nat) + 1)] = some (.int (Fd one two (a + 1) (b + 1) : Nat)) := by
      rw [minV, minI3, hF, dg, if_neg e]
      congr 2
      omega
    simp [farBody, vE_var', vE_cst', vE_bin', vE_cmp', vE_chain', vE_and', vE_or', vE_not', vE_neg', vE_ife', vE_tup', vE_lst', vE_dic', vE_ix', vE_sl', vE_rev', vE_call', vE_bi', vE_isi', vE_me', vEs_nil', vEs_cons', vAnd_nil', vAnd_cons', vIfs_nil', vIfs_cons', vOr_nil', vOr_cons', vPath_var', vPath_ix', vS_set', vS_setT', vS_setX', vS_aug', vS_ex', vS_ret', vS_retN', vS_ifs', vS_whl', vS_for', vS_brk', vS_cnt', vS_pas', vS_rais', vS_tryA', vSs_nil', vSs_cons', vT', lcT', unemb, isApp, rdo, addV, r0, r1, r2, e1, e, eqV_str, truV, intV, mk, hmin, hap, wrV, putP, killV, ci, cl, V.imm]
def farOut : List S := [
    .set 5 (.lst [(.bin .add (.ix (.var 2) (.cst (.int (0)))) (.cst (.int (1))))]),
    .for (.var 3) (.rng [(.bi .len [(.var 0)])]) farBody,
    .set 2 (.var 5)]
theorem srcS_str {C : VCtx} {ρ : VEnv} {σ : Sg} {i : Nat} {w : List Nat} {o : Ow} (h : ρ[i]? = some (some (.str w, o))) : srcS C (.var i) ρ σ = .ok (w.map fun c => (V.str [c], Ow.own), false) σ := by
  rw [srcS_val rfl, vE_var', h]
  rfl
theorem vS_for_str {C : VCtx} {tg : E} {i : Nat} {b : List S} {ρ : VEnv} {σ : Sg} {w : List Nat} {o : Ow} (h : ρ[i]? = some (some (.str w, o))) :
    vS C (.for tg (.var i) b) ρ σ = forV (fun x ρ σ => match putV tg x ρ with | some ρ => vSs C b ρ σ | none => .bad) (w.map fun c => (V.str [c], Ow.own)) ρ σ := by
  rw [vS_for']
  have : lend ρ (.var i) = none := by
    unfold lend
    dsimp only
    rw [h]
    cases o <;> rfl
  rw [this]
  dsimp only
  rw [srcS_str h]
  rfl
theorem law_far {k : Nat} {σ : Sg} {one two : List Nat} (h1 : one.length ≤ 100) (h2 : two.length ≤ 100) : cv (k + 1) i__law_far [.str one, .str two] σ = .ok (.int (Rd one two : Nat), .own) σ := by
  let C := CX k
  have h0 : vE C (.lc (.var 3) (.var 3) (.rng [(.bin .add (.bi .len [(.var 0)]) (.cst (.int (1))))]) [] [("k", 3)]) [some (.str one, .fz), some (.str two, .fz), none, none, none, none] σ = .ok (colV one two 0 (one.length + 1), .own) σ := by
    refine vE_lc_map (List.range (one.length + 1)) (fun k : Nat => (V.int (k : Int), .own)) (fun a => .int (Fd one two a 0 : Nat)) (srcV_rng1 (o := .own) (by simp [vE_var', vE_cst', vE_bin', vE_cmp', vE_chain', vE_and', vE_or', vE_not', vE_neg', vE_ife', vE_tup', vE_lst', vE_dic', vE_ix', vE_sl', vE_rev', vE_call', vE_bi', vE_isi', vE_me', vEs_nil', vEs_cons', vAnd_nil', vAnd_cons', vIfs_nil', vIfs_cons', vOr_nil', vOr_cons', vPath_var', vPath_ix', vS_set', vS_setT', vS_setX', vS_aug', vS_ex', vS_ret', vS_retN', vS_ifs', vS_whl', vS_for', vS_brk', vS_cnt', vS_pas', vS_rais', vS_tryA', vSs_nil', vSs_cons', vT', lcT', unemb, unembs, setV, isVar, retV, putV, putVs, addV, subV, mulV, modV, fdivV, powV, ltV, leV, truV, isiV, lenV, intV, itemsV, tupleV, listV, rdo, V.imm, V.imms, mk, okS, cao, isApp, isLV, isNonV, tyb, eqV_str, eqV_int, eqV_bl, eqV_non, wipeV, isNop, toI, recvV]) (by omega)) (by simp; omega) fun x hx => ?_
    rw [fd_zero x (by simp at hx; omega)]
    simp [vE_var', vE_cst', vE_bin', vE_cmp', vE_chain', vE_and', vE_or', vE_not', vE_neg', vE_ife', vE_tup', vE_lst', vE_dic', vE_ix', vE_sl', vE_rev', vE_call', vE_bi', vE_isi', vE_me', vEs_nil', vEs_cons', vAnd_nil', vAnd_cons', vIfs_nil', vIfs_cons', vOr_nil', vOr_cons', vPath_var', vPath_ix', vS_set', vS_setT', vS_setX', vS_aug', vS_ex', vS_ret', vS_retN', vS_ifs', vS_whl', vS_for', vS_brk', vS_cnt', vS_pas', vS_rais', vS_tryA', vSs_nil', vSs_cons', vT', lcT', wipeV, putV, rdo, V.imm]
  obtain ⟨ρ', e, q, s, a', he⟩ := forV_pu (body := fun x ρ σ => match putV (.var 4) x ρ with | some ρ => vSs C farOut ρ σ | none => .bad) (items := two.map fun c => (V.str [c], Ow.own)) (σ := σ)
    (fun b ρ => ∃ (q s a' : Option VO), ρ = [some (.str one, .fz), some (.str two, .fz), some (colV one two b (one.length + 1), .own), q, s, a'])
    (fun b x ρ hx ⟨q, s, a', e⟩ => by
      rw [List.getElem?_map] at hx
      cases hy : two[b]? with
      | none => rw [hy] at hx; cases hx
      | some y =>
        rw [hy] at hx; cases hx
        obtain ⟨ρ2, e2, q2, he2⟩ := forV_pu (body := fun x ρ σ => match putV (.var 3) x ρ with | some ρ => vSs C farBody ρ σ | none => .bad) (items := ((List.range one.length).map fun k : Nat => V.int (k : Int)).map fun x => (x, Ow.own)) (σ := σ)
          (fun a ρ => ∃ q, ρ = faE one two b (one.length + 1) q y (a + 1))
          (fun a x ρ hx ⟨q, e⟩ => by
            obtain ⟨ha, rfl⟩ := map_range_get hx
            refine ⟨_, ?_, some (.int (a : Int), .own), rfl⟩
            rw [e, putV]
            exact far_body ha hy h1) (ρ := faE one two b (one.length + 1) q y 1) ⟨q, rfl⟩
        simp only [List.length_map, List.length_range] at he2
        have c0 := colV_ix (one := one) (two := two) (b := b) (n := one.length + 1) (a := 0) (by omega)
        have c1 : colV one two (b + 1) 1 = .lst [.int ((Fd one two 0 b : Nat) + 1)] := by
          unfold colV
          rw [List.range_one, List.map_cons, List.map_nil, fdR hy]
          rfl
        refine ⟨[some (.str one, .fz), some (.str two, .fz), some (colV one two (b + 1) (one.length + 1), .own), q2, some (.str [y], .own), some (colV one two (b + 1) (one.length + 1), .bo)], ?_, _, _, _, rfl⟩
        rw [e, putV, farOut]
        show vSs C _ [some (.str one, .fz), some (.str two, .fz), some (colV one two b (one.length + 1), .own), q, some (.str [y], .own), a'] σ = _
        rw [vSs_nx (ρ' := faE one two b (one.length + 1) q y 1) (σ' := σ) (by
          rw [show faE one two b (one.length + 1) q y 1 = [some (.str one, .fz), some (.str two, .fz), some (colV one two b (one.length + 1), .own), q, some (.str [y], .own), some (.lst [.int ((Fd one two 0 b : Nat) + 1)], .own)] by rw [faE, c1]]
          have c0' : ixV (colV one two b (one.length + 1)) (.int 0) = some (.int (Fd one two 0 b : Nat)) := c0
          simp [vE_var', vE_cst', vE_bin', vE_cmp', vE_chain', vE_and', vE_or', vE_not', vE_neg', vE_ife', vE_tup', vE_lst', vE_dic', vE_ix', vE_sl', vE_rev', vE_call', vE_bi', vE_isi', vE_me', vEs_nil', vEs_cons', vAnd_nil', vAnd_cons', vIfs_nil', vIfs_cons', vOr_nil', vOr_cons', vPath_var', vPath_ix', vS_set', vS_setT', vS_setX', vS_aug', vS_ex', vS_ret', vS_retN', vS_ifs', vS_whl', vS_for', vS_brk', vS_cnt', vS_pas', vS_rais', vS_tryA', vSs_nil', vSs_cons', vT', lcT', unemb, c0', addV, rdo, V.imm, mk, okS, setV, isVar])]
        rw [vSs_nx (ρ' := ρ2) (σ' := σ) (by rw [vS_for_rng (σ' := σ) (xs := [(.int (one.length : Int), .own)]) (by simp [vE_var', vE_cst', vE_bin', vE_cmp', vE_chain', vE_and', vE_or', vE_not', vE_neg', vE_ife', vE_tup', vE_lst', vE_dic', vE_ix', vE_sl', vE_rev', vE_call', vE_bi', vE_isi', vE_me', vEs_nil', vEs_cons', vAnd_nil', vAnd_cons', vIfs_nil', vIfs_cons', vOr_nil', vOr_cons', vPath_var', vPath_ix', vS_set', vS_setT', vS_setX', vS_aug', vS_ex', vS_ret', vS_retN', vS_ifs', vS_whl', vS_for', vS_brk', vS_cnt', vS_pas', vS_rais', vS_tryA', vSs_nil', vSs_cons', vT', lcT', unemb, unembs, setV, isVar, retV, putV, putVs, addV, subV, mulV, modV, fdivV, powV, ltV, leV, truV, isiV, lenV, intV, itemsV, tupleV, listV, rdo, V.imm, V.imms, mk, okS, cao, isApp, isLV, isNonV, tyb, eqV_str, eqV_int, eqV_bl, eqV_non, wipeV, isNop, toI, recvV]) (rngV_n (by omega))]; exact e2), he2]
        simp [vE_var', vE_cst', vE_bin', vE_cmp', vE_chain', vE_and', vE_or', vE_not', vE_neg', vE_ife', vE_tup', vE_lst', vE_dic', vE_ix', vE_sl', vE_rev', vE_call', vE_bi', vE_isi', vE_me', vEs_nil', vEs_cons', vAnd_nil', vAnd_cons', vIfs_nil', vIfs_cons', vOr_nil', vOr_cons', vPath_var', vPath_ix', vS_set', vS_setT', vS_setX', vS_aug', vS_ex', vS_ret', vS_retN', vS_ifs', vS_whl', vS_for', vS_brk', vS_cnt', vS_pas', vS_rais', vS_tryA', vSs_nil', vSs_cons', vT', lcT', rdo, colV_imm, setV, isVar]) (ρ := [some (.str one, .fz), some (.str two, .fz), some (colV one two 0 (one.length + 1), .own), none, none, none]) ⟨none, none, none, rfl⟩
  rw [List.length_map] at he
  refine cv_ret (fn := f__law_far) rfl (by decide) rfl ?_
  show vSs C [.set 2 (.lc (.var 3) (.var 3) (.rng [(.bin .add (.bi .len [(.var 0)]) (.cst (.int (1))))]) [] [("k", 3)]), .for (.var 4) (.var 1) farOut, .ret (.ix (.var 2) (.neg (.cst (.int (1)))))] [some (.str one, .fz), some (.str two, .fz), none, none, none, none] σ = _
  rw [vSs_nx (ρ' := [some (.str one, .fz), some (.str two, .fz), some (colV one two 0 (one.length + 1), .own), none, none, none]) (σ' := σ) (vS_set_of h0)]
  rw [vSs_nx (ρ' := ρ') (σ' := σ) (by rw [vS_for_str (w := two) (o := .fz) rfl]; exact e), he]
  have hl : ixV (colV one two two.length (one.length + 1)) (.int (-1)) = some (.int (Rd one two : Nat)) := by
    unfold colV
    rw [ixV]
    refine atD_last ?_
    rw [List.range_succ, List.map_append, List.getLast?_append]
    simp [fd_end]
  simp [vE_var', vE_cst', vE_bin', vE_cmp', vE_chain', vE_and', vE_or', vE_not', vE_neg', vE_ife', vE_tup', vE_lst', vE_dic', vE_ix', vE_sl', vE_rev', vE_call', vE_bi', vE_isi', vE_me', vEs_nil', vEs_cons', vAnd_nil', vAnd_cons', vIfs_nil', vIfs_cons', vOr_nil', vOr_cons', vPath_var', vPath_ix', vS_set', vS_setT', vS_setX', vS_aug', vS_ex', vS_ret', vS_retN', vS_ifs', vS_whl', vS_for', vS_brk', vS_cnt', vS_pas', vS_rais', vS_tryA', vSs_nil', vSs_cons', vT', lcT', unemb, hl, rdo, V.imm, retV, isVar]
end KL

set_option linter.all false
set_option maxRecDepth 100000
set_option maxHeartbeats 2000000
namespace KL
open DL
/-! draws, the same -/
theorem pick {k : Nat} {σ : Sg} {xs : List V} (hx : xs ≠ []) (hn : xs.length < 1073741824) : ∃ x σ', x ∈ xs ∧ cv (k + 2) i__law_pick [.drw, .lst xs] σ = .ok (x, rdo .fz x) σ' := by
  have hpos : 0 < xs.length := List.length_pos_iff.mpr hx
  obtain ⟨v0, v1⟩ := drawV_nn σ (n := (xs.length : Int)) (by omega)
  have hd : callV xcs kts fns i__law_draw (k + 1) i__law_draw [.drw, .int (xs.length : Int)] σ = .ok (.int (drawV σ (xs.length : Int)).1, .own) (drawV σ (xs.length : Int)).2 := callV_draw (by omega) (by omega)
  generalize drawV σ (xs.length : Int) = q at *
  obtain ⟨v, σ'⟩ := q
  dsimp only at *
  have hlt : v.toNat < xs.length := by omega
  refine ⟨xs[v.toNat], σ', List.getElem_mem hlt, ?_⟩
  have e : ixV (.lst xs) (.int v) = some xs[v.toNat] := by
    have := ixV_lst (List.getElem?_eq_getElem hlt)
    rwa [Int.toNat_of_nonneg v0] at this
  refine cv_ret (fn := f__law_pick) rfl (by decide) rfl ?_
  have hc : CX (k + 1) = ⟨xcs, kts, callV xcs kts fns i__law_draw (k + 1)⟩ := rfl
  by_cases hi : xs[v.toNat].imm = true
  · simp [f__law_pick, vE_var', vE_cst', vE_bin', vE_cmp', vE_chain', vE_and', vE_or', vE_not', vE_neg', vE_ife', vE_tup', vE_lst', vE_dic', vE_ix', vE_sl', vE_rev', vE_call', vE_bi', vE_isi', vE_me', vEs_nil', vEs_cons', vAnd_nil', vAnd_cons', vIfs_nil', vIfs_cons', vOr_nil', vOr_cons', vPath_var', vPath_ix', vS_set', vS_setT', vS_setX', vS_aug', vS_ex', vS_ret', vS_retN', vS_ifs', vS_whl', vS_for', vS_brk', vS_cnt', vS_pas', vS_rais', vS_tryA', vSs_nil', vSs_cons', vT', lcT', lenV, itemsV, rdo, V.imm, hc, hd, e, cao, retV, isVar, hi]
  · simp [f__law_pick, vE_var', vE_cst', vE_bin', vE_cmp', vE_chain', vE_and', vE_or', vE_not', vE_neg', vE_ife', vE_tup', vE_lst', vE_dic', vE_ix', vE_sl', vE_rev', vE_call', vE_bi', vE_isi', vE_me', vEs_nil', vEs_cons', vAnd_nil', vAnd_cons', vIfs_nil', vIfs_cons', vOr_nil', vOr_cons', vPath_var', vPath_ix', vS_set', vS_setT', vS_setX', vS_aug', vS_ex', vS_ret', vS_retN', vS_ifs', vS_whl', vS_for', vS_brk', vS_cnt', vS_pas', vS_rais', vS_tryA', vSs_nil', vSs_cons', vT', lcT', lenV, itemsV, rdo, V.imm, hc, hd, e, cao, retV, isVar, hi]
/-- plain values of some depth -/
def pn : Nat → V → Bool
  | _, .non => true
  | _, .bl _ => true
  | _, .int _ => true
  | _, .str _ => true
  | n + 1, .tup xs => decide (xs.length ≤ 1000000) && xs.all (pn n)
  | n + 1, .lst xs => decide (xs.length ≤ 1000000) && xs.all (pn n)
  | _, _ => false
theorem mk_nil : mk [] = some [] := rfl
theorem same_lc {k : Nat} {σ : Sg} {v : V} {xs : List V} {o : Ow} (hv : itemsV v = some xs) (hlen : xs.length ≤ 1000000) (hix : ∀ j : Nat, (h : j < xs.length) → ixV v (.int (j : Int)) = some xs[j])
    (hcall : ∀ j : Nat, (h : j < xs.length) → callV xcs kts fns i__law_draw k i__law_same [xs[j], xs[j]] σ = .ok (.bl true, .own) σ) (hl : lenV [v] = some (.int xs.length)) :
    vE (CX k) (.lc (.var 2) (.var 2) (.rng [(.bi .len [(.var 1)])]) [(.not (.call i__law_same [(.ix (.var 0) (.var 2)), (.ix (.var 1) (.var 2))]))] [("k", 2)]) [some (v, o), some (v, o), none] σ = .ok (.lst [], .own) σ := by
  have hc : CX k = ⟨xcs, kts, callV xcs kts fns i__law_draw k⟩ := rfl
  have := vE_lc_filter (CV := CX k) (elt := .var 2) (tg := .var 2) (src := .rng [(.bi .len [(.var 1)])]) (ifs := [(.not (.call i__law_same [(.ix (.var 0) (.var 2)), (.ix (.var 1) (.var 2))]))]) (own := [("k", 2)]) (ρ := [some (v, o), some (v, o), none]) (σ := σ) (List.range xs.length) (fun j : Nat => (V.int (j : Int), Ow.own)) (fun _ => false) (fun j => V.int (j : Int))
    (srcV_rng1 (o := .own) (by simp [vE_var', vE_cst', vE_bin', vE_cmp', vE_chain', vE_and', vE_or', vE_not', vE_neg', vE_ife', vE_tup', vE_lst', vE_dic', vE_ix', vE_sl', vE_rev', vE_call', vE_bi', vE_isi', vE_me', vEs_nil', vEs_cons', vAnd_nil', vAnd_cons', vIfs_nil', vIfs_cons', vOr_nil', vOr_cons', vPath_var', vPath_ix', vS_set', vS_setT', vS_setX', vS_aug', vS_ex', vS_ret', vS_retN', vS_ifs', vS_whl', vS_for', vS_brk', vS_cnt', vS_pas', vS_rais', vS_tryA', vSs_nil', vSs_cons', vT', lcT', hl]) hlen) (by simpa using hlen) (fun j hj => by
      have hj' : j < xs.length := by simpa using hj
      have h1 := hix j hj'
      have h2 := hcall j hj'
      simp [vE_var', vE_cst', vE_bin', vE_cmp', vE_chain', vE_and', vE_or', vE_not', vE_neg', vE_ife', vE_tup', vE_lst', vE_dic', vE_ix', vE_sl', vE_rev', vE_call', vE_bi', vE_isi', vE_me', vEs_nil', vEs_cons', vAnd_nil', vAnd_cons', vIfs_nil', vIfs_cons', vOr_nil', vOr_cons', vPath_var', vPath_ix', vS_set', vS_setT', vS_setX', vS_aug', vS_ex', vS_ret', vS_retN', vS_ifs', vS_whl', vS_for', vS_brk', vS_cnt', vS_pas', vS_rais', vS_tryA', vSs_nil', vSs_cons', vT', lcT', wipeV, putV, rdo, V.imm, h1, hc, h2, truV, cao])
  rw [this]
  simp
theorem pn_tup {n : Nat} {xs : List V} : pn (n + 1) (.tup xs) = true ↔ xs.length ≤ 1000000 ∧ ∀ x ∈ xs, pn n x = true := by
  simp only [pn, Bool.and_eq_true, decide_eq_true_eq, List.all_eq_true]
theorem pn_lst {n : Nat} {xs : List V} : pn (n + 1) (.lst xs) = true ↔ xs.length ≤ 1000000 ∧ ∀ x ∈ xs, pn n x = true := by
  simp only [pn, Bool.and_eq_true, decide_eq_true_eq, List.all_eq_true]
theorem same_flat {σ : Sg} {v : V} (k : Nat) (h : flatV v = true) : cv (k + 1) i__law_same [v, v] σ = .ok (.bl true, .own) σ := by
  refine cv_ret (fn := f__law_same) rfl (by decide) rfl ?_
  cases v <;> first | (cases h; done) | skip
  all_goals simp [f__law_same, vE_var', vE_cst', vE_bin', vE_cmp', vE_chain', vE_and', vE_or', vE_not', vE_neg', vE_ife', vE_tup', vE_lst', vE_dic', vE_ix', vE_sl', vE_rev', vE_call', vE_bi', vE_isi', vE_me', vEs_nil', vEs_cons', vAnd_nil', vAnd_cons', vIfs_nil', vIfs_cons', vOr_nil', vOr_cons', vPath_var', vPath_ix', vS_set', vS_setT', vS_setX', vS_aug', vS_ex', vS_ret', vS_retN', vS_ifs', vS_whl', vS_for', vS_brk', vS_cnt', vS_pas', vS_rais', vS_tryA', vSs_nil', vSs_cons', vT', lcT', unemb, unembs, setV, isVar, retV, putV, putVs, addV, subV, mulV, modV, fdivV, powV, ltV, leV, truV, isiV, lenV, intV, itemsV, tupleV, listV, rdo, V.imm, V.imms, mk, okS, cao, isApp, isLV, isNonV, tyb, eqV_str, eqV_int, eqV_bl, eqV_non, wipeV, isNop, toI, recvV, pdv1, pdv, PD.eqv, eqV]
theorem pn_flat {v : V} (h : pn 0 v = true) : flatV v = true := by
  cases v <;> first | rfl | (simp [pn] at h)
theorem pn_flatS {n : Nat} {v : V} (h : pn (n + 1) v = true) : flatV v = true ∨ (∃ xs, v = .tup xs) ∨ ∃ xs, v = .lst xs := by
  cases v <;> first | exact .inl rfl | exact .inr (.inl ⟨_, rfl⟩) | exact .inr (.inr ⟨_, rfl⟩) | (simp [pn] at h)
theorem same_tup {σ : Sg} {xs : List V} {k : Nat} (h : xs.length ≤ 1000000) (hcall : ∀ j : Nat, (h : j < xs.length) → callV xcs kts fns i__law_draw k i__law_same [xs[j], xs[j]] σ = .ok (.bl true, .own) σ) : cv (k + 1) i__law_same [.tup xs, .tup xs] σ = .ok (.bl true, .own) σ := by
  have hlc := fun o => same_lc (k := k) (σ := σ) (v := .tup xs) (xs := xs) (o := o) rfl h (fun j hj => ixV_tup (List.getElem?_eq_getElem hj)) hcall rfl
  refine cv_ret (fn := f__law_same) rfl (by decide) rfl ?_
  generalize CX k = C at hlc ⊢
  clear hcall h
  simp [f__law_same, vE_var', vE_cst', vE_bin', vE_cmp', vE_chain', vE_and', vE_or', vE_not', vE_neg', vE_ife', vE_tup', vE_lst', vE_dic', vE_ix', vE_sl', vE_rev', vE_call', vE_bi', vE_isi', vE_me', vEs_nil', vEs_cons', vAnd_nil', vAnd_cons', vIfs_nil', vIfs_cons', vOr_nil', vOr_cons', vPath_var', vPath_ix', vS_set', vS_setT', vS_setX', vS_aug', vS_ex', vS_ret', vS_retN', vS_ifs', vS_whl', vS_for', vS_brk', vS_cnt', vS_pas', vS_rais', vS_tryA', vSs_nil', vSs_cons', vT', lcT', ↓hlc, tyb, rdo, V.imm, isiV, eqV_bl, eqV_int, truV, lenV, itemsV, retV, isVar, unemb]
theorem same_lst {σ : Sg} {xs : List V} {k : Nat} (h : xs.length ≤ 1000000) (hcall : ∀ j : Nat, (h : j < xs.length) → callV xcs kts fns i__law_draw k i__law_same [xs[j], xs[j]] σ = .ok (.bl true, .own) σ) : cv (k + 1) i__law_same [.lst xs, .lst xs] σ = .ok (.bl true, .own) σ := by
  have hlc := fun o => same_lc (k := k) (σ := σ) (v := .lst xs) (xs := xs) (o := o) rfl h (fun j hj => ixV_lst (List.getElem?_eq_getElem hj)) hcall rfl
  refine cv_ret (fn := f__law_same) rfl (by decide) rfl ?_
  generalize CX k = C at hlc ⊢
  clear hcall h
  simp [f__law_same, vE_var', vE_cst', vE_bin', vE_cmp', vE_chain', vE_and', vE_or', vE_not', vE_neg', vE_ife', vE_tup', vE_lst', vE_dic', vE_ix', vE_sl', vE_rev', vE_call', vE_bi', vE_isi', vE_me', vEs_nil', vEs_cons', vAnd_nil', vAnd_cons', vIfs_nil', vIfs_cons', vOr_nil', vOr_cons', vPath_var', vPath_ix', vS_set', vS_setT', vS_setX', vS_aug', vS_ex', vS_ret', vS_retN', vS_ifs', vS_whl', vS_for', vS_brk', vS_cnt', vS_pas', vS_rais', vS_tryA', vSs_nil', vSs_cons', vT', lcT', ↓hlc, tyb, rdo, V.imm, isiV, eqV_bl, eqV_int, truV, lenV, itemsV, retV, isVar, unemb]
theorem same {σ : Sg} (n : Nat) : ∀ (v : V) (k : Nat), pn n v = true → cv (k + n + 1) i__law_same [v, v] σ = .ok (.bl true, .own) σ := by
  induction n with
  | zero => exact fun v k h => same_flat k (pn_flat h)
  | succ n ih =>
    intro v k h
    rcases pn_flatS h with h0 | ⟨xs, rfl⟩ | ⟨xs, rfl⟩
    · exact same_flat _ h0
    · rw [pn_tup] at h
      exact same_tup (k := k + (n + 1)) h.1 fun j hj => ih _ k (h.2 _ (List.getElem_mem hj))
    · rw [pn_lst] at h
      exact same_lst (k := k + (n + 1)) h.1 fun j hj => ih _ k (h.2 _ (List.getElem_mem hj))
/-! drawn words -/
def alph : List Nat := [97, 98, 99, 90, 48]
def row6 : List V := [.str [97], .str [98], .str [99], .str [97], .str [90], .str [48]]
theorem row6_mem {x : V} (h : x ∈ row6) : ∃ c, x = .str [c] ∧ c ∈ alph := by
  simp only [row6, List.mem_cons, List.not_mem_nil, or_false] at h
  rcases h with rfl | rfl | rfl | rfl | rfl | rfl <;> exact ⟨_, rfl, by decide⟩
theorem join_one : ∀ cs : List Nat, join [] (cs.map fun c => [c]) = cs
  | [] => rfl
  | [x] => rfl
  | x :: y :: r => by
    have := join_one (y :: r)
    simp only [List.map_cons] at this ⊢
    rw [join, this]
    rfl
theorem strs_one : ∀ cs : List Nat, strsV (cs.map fun c => V.str [c]) = some (cs.map fun c => [c])
  | [] => rfl
  | x :: r => by rw [List.map_cons, strsV, strs_one r]; rfl
theorem joinSize_one : ∀ cs : List Nat, joinSize [] (cs.map fun c => [c]) = cs.length
  | [] => rfl
  | x :: r => by rw [List.map_cons, joinSize, joinSize_one r]; simp; omega
/-- the list of drawn signs -/
theorem signs_lc {k : Nat} {σ : Sg} {m : Nat} (hm : 1 ≤ m) (hm2 : m ≤ 100) : ∃ (w : List Nat) (σ' : Sg), vE (CX (k + 2)) (.lc (.call i__law_pick [(.var 0), (.lst [(.cst (.str [97])), (.cst (.str [98])), (.cst (.str [99])), (.cst (.str [97])), (.cst (.str [90])), (.cst (.str [48]))])]) (.var 1) (.rng [(.bin .add (.cst (.int (1))) (.call i__law_draw [(.var 0), (.cst (.int (m : Int)))]))]) [] [("k", 1)]) [some (.drw, .fz), none] σ = .ok (.lst (w.map fun c => .str [c]), .own) σ' ∧ 1 ≤ w.length ∧ w.length ≤ m ∧ ∀ c ∈ w, c ∈ alph := by
  have hc : CX (k + 2) = ⟨xcs, kts, callV xcs kts fns i__law_draw (k + 2)⟩ := rfl
  obtain ⟨v0, v1⟩ := drawV_nn σ (n := (m : Int)) (by omega)
  have hd : callV xcs kts fns i__law_draw (k + 2) i__law_draw [.drw, .int (m : Int)] σ = .ok (.int (drawV σ (m : Int)).1, .own) (drawV σ (m : Int)).2 := callV_draw (by omega) (by omega)
  generalize drawV σ (m : Int) = q at *
  obtain ⟨v, σ1⟩ := q
  dsimp only at *
  obtain ⟨n, rfl⟩ : ∃ n : Nat, v = (n : Int) := ⟨v.toNat, by omega⟩
  have hsrc : srcV (CX (k + 2)) (.rng [(.bin .add (.cst (.int (1))) (.call i__law_draw [(.var 0), (.cst (.int (m : Int)))]))]) [some (.drw, .fz), none] σ = .ok ((List.range (1 + n)).map fun k : Nat => (V.int (k : Int), Ow.own)) σ1 :=
    srcV_rng1 (n := 1 + n) (o := .own) (by rw [hc]; simp [vE_var', vE_cst', vE_bin', vE_cmp', vE_chain', vE_and', vE_or', vE_not', vE_neg', vE_ife', vE_tup', vE_lst', vE_dic', vE_ix', vE_sl', vE_rev', vE_call', vE_bi', vE_isi', vE_me', vEs_nil', vEs_cons', vAnd_nil', vAnd_cons', vIfs_nil', vIfs_cons', vOr_nil', vOr_cons', vPath_var', vPath_ix', vS_set', vS_setT', vS_setX', vS_aug', vS_ex', vS_ret', vS_retN', vS_ifs', vS_whl', vS_for', vS_brk', vS_cnt', vS_pas', vS_rais', vS_tryA', vSs_nil', vSs_cons', vT', lcT', unemb, rdo, V.imm, hd, cao, addV]) (by omega)
  obtain ⟨ys, σ2, e2, cs, rfl, hl, hcs⟩ := lcV_inv (step := lcT (CX (k + 2)) [some (.drw, .fz), none] (.call i__law_pick [(.var 0), (.lst [(.cst (.str [97])), (.cst (.str [98])), (.cst (.str [99])), (.cst (.str [97])), (.cst (.str [90])), (.cst (.str [48]))])]) (.var 1) [] [("k", 1)]) (items := (List.range (1 + n)).map fun k : Nat => (V.int (k : Int), Ow.own))
    (fun i ys _ => ∃ cs : List Nat, ys = cs.map (fun c => (V.str [c], Ow.own)) ∧ cs.length = i ∧ ∀ c ∈ cs, c ∈ alph) (fun i x ys s hx ⟨cs, e, hl, h⟩ => by
      obtain ⟨y, s', hy, q⟩ := pick (k := k) (σ := s) (xs := row6) (by simp [row6]) (by simp [row6])
      obtain ⟨c, rfl, hc'⟩ := row6_mem hy
      have q' : callV xcs kts fns i__law_draw (k + 2) i__law_pick [.drw, .lst [.str [97], .str [98], .str [99], .str [97], .str [90], .str [48]]] s = .ok (.str [c], .own) s' := q
      refine ⟨(.str [c], .own), s', ?_, cs ++ [c], by rw [e]; simp, by simp [hl], fun z hz => ?_⟩
      · rw [hc]
        simp [vE_var', vE_cst', vE_bin', vE_cmp', vE_chain', vE_and', vE_or', vE_not', vE_neg', vE_ife', vE_tup', vE_lst', vE_dic', vE_ix', vE_sl', vE_rev', vE_call', vE_bi', vE_isi', vE_me', vEs_nil', vEs_cons', vAnd_nil', vAnd_cons', vIfs_nil', vIfs_cons', vOr_nil', vOr_cons', vPath_var', vPath_ix', vS_set', vS_setT', vS_setX', vS_aug', vS_ex', vS_ret', vS_retN', vS_ifs', vS_whl', vS_for', vS_brk', vS_cnt', vS_pas', vS_rais', vS_tryA', vSs_nil', vSs_cons', vT', lcT', wipeV, putV, unemb, rdo, V.imm, mk, okS, q', cao]
      · rcases List.mem_append.mp hz with hz | hz
        · exact h z hz
        · rw [List.mem_singleton] at hz; rw [hz]; exact hc') (σ := σ1) ⟨[], rfl, rfl, by simp⟩
  simp only [List.length_map, List.length_range] at hl
  refine ⟨cs, σ2, ?_, by omega, by omega, hcs⟩
  refine vE_lc_of hsrc (by simp; omega) e2 ?_
  rw [show cs.map (fun c => (V.str [c], Ow.own)) = (cs.map fun c => V.str [c]).map fun v => (v, Ow.own) by rw [List.map_map]; rfl]
  exact mk_own _
end KL

set_option linter.all false
set_option maxRecDepth 100000
set_option maxHeartbeats 2000000
/-! loops over tuples -/
namespace DL
theorem rdo_imm {o : Ow} {v : V} (h : v.imm = true) : rdo o v = .own := by unfold rdo; rw [if_pos h]
theorem imms_all' : ∀ xs, V.imms xs = xs.all V.imm
  | [] => rfl
  | x :: xs => by rw [V.imms, imms_all' xs]; rfl
theorem map_rdo {xs : List V} {o : Ow} (h : V.imms xs = true) : xs.map (fun x => (x, rdo o x)) = xs.map fun x => (x, Ow.own) := by
  apply List.map_congr_left
  intro x hx
  rw [rdo_imm]
  rw [imms_all', List.all_eq_true] at h
  exact h x hx
theorem lend_imm {ρ : VEnv} {i : Nat} {v : V} {o : Ow} (h : ρ[i]? = some (some (v, o))) (hi : v.imm = true) : lend ρ (.var i) = none ∧ lend ρ (.enum (.var i)) = none := by
  unfold lend
  dsimp only
  rw [h]
  cases o <;> first | exact ⟨rfl, rfl⟩ | (dsimp only; rw [if_pos hi]; exact ⟨rfl, rfl⟩)
/-- a for over a plain tuple -/
theorem vS_for_tup {C : VCtx} {tg : E} {i : Nat} {b : List S} {ρ : VEnv} {σ : Sg} {xs : List V} {o : Ow} (h : ρ[i]? = some (some (.tup xs, o))) (hi : V.imms xs = true) :
    vS C (.for tg (.var i) b) ρ σ = forV (fun x ρ σ => match putV tg x ρ with | some ρ => vSs C b ρ σ | none => .bad) (xs.map fun x => (x, Ow.own)) ρ σ := by
  rw [vS_for', (lend_imm h (by rw [V.imm]; exact hi)).1]
  dsimp only
  rw [srcS_val rfl, vE_var', h]
  dsimp only [VR.bind]
  have hs : safeV (V.tup xs, rdo o (V.tup xs)) = true := by unfold safeV; rw [show (V.tup xs).imm = true by rw [V.imm]; exact hi]; rfl
  rw [if_pos (.inl hs), hs]
  unfold goV
  dsimp only
  rw [map_rdo hi]
  rfl
theorem enumV_len : ∀ (k : Nat) (xs : List V), (enumV k xs).length = xs.length
  | _, [] => rfl
  | k, x :: xs => by rw [enumV, List.length_cons, enumV_len, List.length_cons]
theorem enumV_get : ∀ (xs : List V) (k i : Nat), (enumV k xs)[i]? = (xs[i]?).map fun d => V.tup [.int ((k + i : Nat) : Int), d]
  | [], k, i => by simp [enumV]
  | x :: xs, k, i => by
    rw [enumV]
    cases i with
    | zero => simp
    | succ i => rw [List.getElem?_cons_succ, List.getElem?_cons_succ, enumV_get xs (k + 1) i]; congr 2; funext d; congr 3; omega
theorem enumV_imms : ∀ (k : Nat) (xs : List V), V.imms xs = true → V.imms (enumV k xs) = true
  | _, [], _ => rfl
  | k, x :: xs, h => by
    rw [V.imms, Bool.and_eq_true] at h
    rw [enumV, V.imms, enumV_imms (k + 1) xs h.2, V.imm, V.imms, V.imms, V.imms, h.1]
    rfl
theorem vS_for_enum {C : VCtx} {tg : E} {i : Nat} {b : List S} {ρ : VEnv} {σ : Sg} {xs : List V} {o : Ow} (h : ρ[i]? = some (some (.tup xs, o))) (hi : V.imms xs = true) :
    vS C (.for tg (.enum (.var i)) b) ρ σ = forV (fun x ρ σ => match putV tg x ρ with | some ρ => vSs C b ρ σ | none => .bad) ((enumV 0 xs).map fun x => (x, Ow.own)) ρ σ := by
  rw [vS_for', (lend_imm h (by rw [V.imm]; exact hi)).2]
  dsimp only
  rw [srcS_enum, vE_var', h]
  dsimp only [VR.bind]
  have hs : safeV (V.tup xs, rdo o (V.tup xs)) = true := by unfold safeV; rw [show (V.tup xs).imm = true by rw [V.imm]; exact hi]; rfl
  rw [if_pos (.inl hs), hs]
  unfold goE
  dsimp only
  rw [map_rdo (enumV_imms 0 xs hi)]
  rfl
theorem srcV_tup {C : VCtx} {i : Nat} {ρ : VEnv} {σ : Sg} {xs : List V} {o : Ow} (h : ρ[i]? = some (some (.tup xs, o))) (hi : V.imms xs = true) : srcV C (.var i) ρ σ = .ok (xs.map fun x => (x, Ow.own)) σ := by
  rw [srcV_val rfl, vE_var', h]
  dsimp only [VR.bind]
  unfold goV
  dsimp only
  rw [map_rdo hi]
  rfl
theorem bools_of {α : Type} (xs : List α) (p : α → Bool) : boolsV (xs.map fun x => V.bl (p x)) = some (xs.map p) := by
  induction xs with
  | nil => rfl
  | cons x xs ih => rw [List.map_cons, boolsV, ih]; rfl
theorem allV_of {α : Type} (xs : List α) (p : α → Bool) : allV [.lst (xs.map fun x => V.bl (p x))] = some (.bl (xs.all p)) := by
  unfold allV
  dsimp only
  rw [bools_of]
  simp [List.all_map]
theorem flat_imm {v : V} (h : flatV v = true) : v.imm = true := by cases v <;> first | rfl | cases h
theorem flats_imm {xs : List V} (h : ∀ x ∈ xs, flatV x = true) : V.imms xs = true := by
  rw [imms_all', List.all_eq_true]; exact fun x hx => flat_imm (h x hx)
theorem pdvs_flat : ∀ {xs : List V}, (∀ x ∈ xs, flatV x = true) → ∃ ps, pdvs 40 xs = some ps ∧ ps.length = xs.length
  | [], _ => ⟨[], rfl, rfl⟩
  | x :: xs, h => by
    obtain ⟨ps, e, l⟩ := pdvs_flat (xs := xs) fun y hy => h y (by simp [hy])
    obtain ⟨p, q⟩ : ∃ p, pdv 40 x = some p := by
      have := h x (by simp)
      cases x <;> first | (cases this; done) | exact ⟨_, rfl⟩
    exact ⟨p :: ps, by rw [pdvs, q, e], by simp [l]⟩
theorem eqV_nil {xs : List V} (h : ∀ x ∈ xs, flatV x = true) : eqV (.lst xs) (.lst []) = some xs.isEmpty := by
  obtain ⟨ps, e, l⟩ := pdvs_flat h
  unfold eqV pdv1
  dsimp only
  rw [e]
  simp only [pdvs, Option.map_some, PD.eqv]
  cases xs with
  | nil => cases ps with | nil => rfl | cons _ _ => cases l
  | cons _ _ => cases ps with | nil => cases l | cons _ _ => rfl
theorem pure_for {body : VO → VEnv → Sg → VS} {items : List VO} {σ : Sg} {ρ : VEnv} (I : Nat → VEnv → Prop) (R : V → Prop)
    (step : ∀ i x ρ, items[i]? = some x → I i ρ → (∃ ρ', body x ρ σ = .nx ρ' σ ∧ I (i + 1) ρ') ∨ (∃ v, body x ρ σ = .ret (v, .own) σ ∧ R v)) (h : I 0 ρ) :
    (∃ ρ', forV body items ρ σ = .nx ρ' σ ∧ I items.length ρ') ∨ ∃ v, forV body items ρ σ = .ret (v, .own) σ ∧ R v := by
  refine forV_pi I (fun r => (∃ ρ', r = .nx ρ' σ ∧ I items.length ρ') ∨ ∃ v, r = .ret (v, .own) σ ∧ R v) (fun ρ h => .inl ⟨ρ, rfl, h⟩) (fun i x ρ hx h => ?_) h
  rcases step i x ρ hx h with ⟨ρ', e, h'⟩ | ⟨v, e, h'⟩
  · exact .inl ⟨ρ', e, h'⟩
  · exact .inr (.inr ⟨_, e, .inr ⟨v, rfl, h'⟩⟩)
theorem mem_get {α : Type} {xs : List α} {i : Nat} {x : α} (h : xs[i]? = some x) : x ∈ xs := List.mem_of_getElem? h
theorem cut_mem' {α : Type} {xs : List α} {lo hi : Option Int} {x : α} (h : x ∈ cut xs lo hi) : x ∈ xs := List.mem_of_mem_drop (List.mem_of_mem_take h)
theorem slV_tup {xs : List V} {lo hi : Option Int} (h : V.imms xs = true) : slV (.tup xs) lo hi = some (.tup (cut xs lo hi)) := by
  unfold slV
  dsimp only
  rw [if_pos h]
theorem addV_tup {a b : List V} (ha : V.imms a = true) (hb : V.imms b = true) (hl : a.length + b.length ≤ 1000000) : addV (.tup a) (.tup b) = some (.tup (a ++ b)) := by
  unfold addV
  dsimp only
  rw [if_pos ⟨ha, hb, decide_eq_true hl⟩]
theorem imms_app' {a b : List V} (ha : V.imms a = true) (hb : V.imms b = true) : V.imms (a ++ b) = true := by
  rw [imms_all', List.all_append, ← imms_all', ← imms_all', ha, hb]; rfl
theorem cut_map'' {α β : Type} (f : α → β) (xs : List α) (lo hi : Option Int) : cut (xs.map f) lo hi = (cut xs lo hi).map f := by
  unfold cut
  rw [List.length_map, List.map_take, List.map_drop]
end DL

set_option linter.all false
set_option maxRecDepth 100000
set_option maxHeartbeats 2000000
namespace KL
open DL
open K58 (Rd Al dg Fd fd0 fdL fdR fdS fd_zero fd_end rd_rev)
def rowT (f : Nat → Int) (m : Nat) : List V := (List.range (m + 1)).map fun j => .int (f j)
def rowsT (f : Nat → Nat → Int) (n m : Nat) : List V := (List.range (n + 1)).map fun i => .tup (rowT (f i) m)
def tupT (f : Nat → Nat → Int) (n m : Nat) : V := .tup (rowsT f n m)
theorem rowT_get {f : Nat → Int} {m j : Nat} (h : j ≤ m) : (rowT f m)[j]? = some (.int (f j)) := by
  unfold rowT; rw [List.getElem?_map, List.getElem?_range (by omega)]; rfl
theorem rowsT_get {f : Nat → Nat → Int} {n m i : Nat} (h : i ≤ n) : (rowsT f n m)[i]? = some (.tup (rowT (f i) m)) := by
  unfold rowsT; rw [List.getElem?_map, List.getElem?_range (by omega)]; rfl
theorem rowT_ix {f : Nat → Int} {m j : Nat} (h : j ≤ m) : ixV (.tup (rowT f m)) (.int (j : Int)) = some (.int (f j)) := ixV_tup (rowT_get h)
theorem tupT_ix {f : Nat → Nat → Int} {n m i : Nat} (h : i ≤ n) : ixV (tupT f n m) (.int (i : Int)) = some (.tup (rowT (f i) m)) := ixV_tup (rowsT_get h)
theorem rowT_len {f : Nat → Int} {m : Nat} : (rowT f m).length = m + 1 := by simp [rowT]
theorem rowsT_len {f : Nat → Nat → Int} {n m : Nat} : (rowsT f n m).length = n + 1 := by simp [rowsT]
theorem rowT_imms {f : Nat → Int} {m : Nat} : V.imms (rowT f m) = true := imms_map _ _ fun _ _ => rfl
theorem rowsT_imms {f : Nat → Nat → Int} {n m : Nat} : V.imms (rowsT f n m) = true := imms_map _ _ fun _ _ => rowT_imms
theorem tupT_imm {f : Nat → Nat → Int} {n m : Nat} : (tupT f n m).imm = true := rowsT_imms
theorem rowTt_imm {f : Nat → Int} {m : Nat} : (V.tup (rowT f m)).imm = true := rowT_imms
/-- how far beginnings are -/
def Td (one two : List Nat) (i j : Nat) : Int := (Rd (one.take i) (two.take j) : Nat)
theorem Td_fd (one two : List Nat) (i j : Nat) : Td one two i j = (Fd one two i j : Nat) := by
  unfold Td Fd; rw [rd_rev]
theorem tup_lc_map {C : VCtx} {ρ : VEnv} {σ : Sg} {e : E} {ws : List V} (h : vE C e ρ σ = .ok (.lst ws, .own) σ) (hi : V.imms ws = true) : vE C (.bi .tuple [e]) ρ σ = .ok (.tup ws, .own) σ := by
  rw [vE_bi', vEs_cons', h]
  show (((vEs C [] ρ σ).bind fun xs σ => VR.ok ((V.lst ws, Ow.own) :: xs) σ).bind _) = _
  rw [vEs_nil']
  show nw (tupleV [.lst ws]) σ = _
  unfold tupleV itemsV
  dsimp only
  rw [if_pos hi]
  rfl
theorem far_table {k : Nat} {σ : Sg} {one two : List Nat} (w1 : Word one) (w2 : Word two) : cv (k + 3) i_far_table [.str one, .str two] σ = .ok (tupT (Td one two) one.length two.length, .own) σ := by
  have hc : CX (k + 2) = ⟨xcs, kts, callV xcs kts fns i__law_draw (k + 2)⟩ := rfl
  have h1 := w1.le
  have h2 := w2.le
  have k1 : callV xcs kts fns i__law_draw (k + 2) i_look_at_word [.str one] σ = .ok (.non, .own) σ := look_ok w1
  have k2 : callV xcs kts fns i__law_draw (k + 2) i_look_at_word [.str two] σ = .ok (.non, .own) σ := look_ok w2
  have k3 : callV xcs kts fns i__law_draw (k + 2) i_rest_rows [.str one.reverse, .str two.reverse] σ = .ok (tabV (Rv one.reverse two.reverse) one.length two.length, .own) σ := by
    have := rest_rows (k := k + 1) (σ := σ) (one := one.reverse) (two := two.reverse) (by simp; omega) (by simp; omega)
    simpa using this
  refine cv_ret (fn := f_far_table) rfl (by decide) rfl ?_
  rw [f_far_table]
  generalize hC : CX (k + 2) = C
  have hcc : C.call = callV xcs kts fns i__law_draw (k + 2) := by rw [← hC]
  show vSs C _ [some (.str one, .fz), some (.str two, .fz), none, none, none, none, none] σ = _
  rw [vSs_nx (ρ' := [some (.str one, .fz), some (.str two, .fz), none, none, none, none, none]) (σ' := σ) (by simp [vE_var', vE_cst', vE_bin', vE_cmp', vE_chain', vE_and', vE_or', vE_not', vE_neg', vE_ife', vE_tup', vE_lst', vE_dic', vE_ix', vE_sl', vE_rev', vE_call', vE_bi', vE_isi', vE_me', vEs_nil', vEs_cons', vAnd_nil', vAnd_cons', vIfs_nil', vIfs_cons', vOr_nil', vOr_cons', vPath_var', vPath_ix', vS_set', vS_setT', vS_setX', vS_aug', vS_ex', vS_ret', vS_retN', vS_ifs', vS_whl', vS_for', vS_brk', vS_cnt', vS_pas', vS_rais', vS_tryA', vSs_nil', vSs_cons', vT', lcT', unemb, unembs, setV, isVar, retV, putV, putVs, addV, subV, mulV, modV, fdivV, powV, ltV, leV, truV, isiV, lenV, intV, itemsV, tupleV, listV, rdo, V.imm, V.imms, mk, okS, cao, isApp, isLV, isNonV, tyb, eqV_str, eqV_int, eqV_bl, eqV_non, wipeV, isNop, toI, recvV, hcc, k1])]
  rw [vSs_nx (ρ' := [some (.str one, .fz), some (.str two, .fz), none, none, none, none, none]) (σ' := σ) (by simp [vE_var', vE_cst', vE_bin', vE_cmp', vE_chain', vE_and', vE_or', vE_not', vE_neg', vE_ife', vE_tup', vE_lst', vE_dic', vE_ix', vE_sl', vE_rev', vE_call', vE_bi', vE_isi', vE_me', vEs_nil', vEs_cons', vAnd_nil', vAnd_cons', vIfs_nil', vIfs_cons', vOr_nil', vOr_cons', vPath_var', vPath_ix', vS_set', vS_setT', vS_setX', vS_aug', vS_ex', vS_ret', vS_retN', vS_ifs', vS_whl', vS_for', vS_brk', vS_cnt', vS_pas', vS_rais', vS_tryA', vSs_nil', vSs_cons', vT', lcT', unemb, unembs, setV, isVar, retV, putV, putVs, addV, subV, mulV, modV, fdivV, powV, ltV, leV, truV, isiV, lenV, intV, itemsV, tupleV, listV, rdo, V.imm, V.imms, mk, okS, cao, isApp, isLV, isNonV, tyb, eqV_str, eqV_int, eqV_bl, eqV_non, wipeV, isNop, toI, recvV, hcc, k2])]
  generalize hT : tabV (Rv one.reverse two.reverse) one.length two.length = T at k3
  have hTi : T.imm = false := by rw [← hT]; rfl
  rw [vSs_nx (ρ' := [some (.str one, .fz), some (.str two, .fz), some (T, .own), none, none, none, none]) (σ' := σ) (by simp [vE_var', vE_cst', vE_bin', vE_cmp', vE_chain', vE_and', vE_or', vE_not', vE_neg', vE_ife', vE_tup', vE_lst', vE_dic', vE_ix', vE_sl', vE_rev', vE_call', vE_bi', vE_isi', vE_me', vEs_nil', vEs_cons', vAnd_nil', vAnd_cons', vIfs_nil', vIfs_cons', vOr_nil', vOr_cons', vPath_var', vPath_ix', vS_set', vS_setT', vS_setX', vS_aug', vS_ex', vS_ret', vS_retN', vS_ifs', vS_whl', vS_for', vS_brk', vS_cnt', vS_pas', vS_rais', vS_tryA', vSs_nil', vSs_cons', vT', lcT', unemb, unembs, setV, isVar, retV, putV, putVs, addV, subV, mulV, modV, fdivV, powV, ltV, leV, truV, isiV, lenV, intV, itemsV, tupleV, listV, rdo, V.imm, V.imms, mk, okS, cao, isApp, isLV, isNonV, tyb, eqV_str, eqV_int, eqV_bl, eqV_non, wipeV, isNop, toI, recvV, revV, hcc, k3, hTi])]
  rw [vSs_nx (ρ' := [some (.str one, .fz), some (.str two, .fz), some (T, .own), some (.int one.length, .own), some (.int two.length, .own), none, none]) (σ' := σ) (by simp [vE_var', vE_cst', vE_bin', vE_cmp', vE_chain', vE_and', vE_or', vE_not', vE_neg', vE_ife', vE_tup', vE_lst', vE_dic', vE_ix', vE_sl', vE_rev', vE_call', vE_bi', vE_isi', vE_me', vEs_nil', vEs_cons', vAnd_nil', vAnd_cons', vIfs_nil', vIfs_cons', vOr_nil', vOr_cons', vPath_var', vPath_ix', vS_set', vS_setT', vS_setX', vS_aug', vS_ex', vS_ret', vS_retN', vS_ifs', vS_whl', vS_for', vS_brk', vS_cnt', vS_pas', vS_rais', vS_tryA', vSs_nil', vSs_cons', vT', lcT', unemb, unembs, setV, isVar, retV, putV, putVs, addV, subV, mulV, modV, fdivV, powV, ltV, leV, truV, isiV, lenV, intV, itemsV, tupleV, listV, rdo, V.imm, V.imms, mk, okS, cao, isApp, isLV, isNonV, tyb, eqV_str, eqV_int, eqV_bl, eqV_non, wipeV, isNop, toI, recvV])]
  refine vSs_ret (vS_ret_of (p := (tupT (Td one two) one.length two.length, .own)) ?_ ?_)
  · refine tup_lc_map (ws := rowsT (Td one two) one.length two.length) ?_ rowsT_imms
    refine vE_lc_map (List.range (one.length + 1)) (fun k : Nat => (V.int (k : Int), .own)) (fun i => .tup (rowT (Td one two i) two.length)) (srcV_rng1 (o := .own) (by simp [vE_var', vE_cst', vE_bin', vE_cmp', vE_chain', vE_and', vE_or', vE_not', vE_neg', vE_ife', vE_tup', vE_lst', vE_dic', vE_ix', vE_sl', vE_rev', vE_call', vE_bi', vE_isi', vE_me', vEs_nil', vEs_cons', vAnd_nil', vAnd_cons', vIfs_nil', vIfs_cons', vOr_nil', vOr_cons', vPath_var', vPath_ix', vS_set', vS_setT', vS_setX', vS_aug', vS_ex', vS_ret', vS_retN', vS_ifs', vS_whl', vS_for', vS_brk', vS_cnt', vS_pas', vS_rais', vS_tryA', vSs_nil', vSs_cons', vT', lcT', unemb, unembs, setV, isVar, retV, putV, putVs, addV, subV, mulV, modV, fdivV, powV, ltV, leV, truV, isiV, lenV, intV, itemsV, tupleV, listV, rdo, V.imm, V.imms, mk, okS, cao, isApp, isLV, isNonV, tyb, eqV_str, eqV_int, eqV_bl, eqV_non, wipeV, isNop, toI, recvV]) (by omega)) (by simp; omega) fun i hi => ?_
    have hi' : i ≤ one.length := by simp at hi; omega
    have inner : vE C (.bi .tuple [(.lc (.ix (.ix (.var 2) (.bin .sub (.var 3) (.var 6))) (.bin .sub (.var 4) (.var 5))) (.var 5) (.rng [(.bin .add (.var 4) (.cst (.int (1))))]) [] [("place", 5)])]) [some (.str one, .fz), some (.str two, .fz), some (T, .own), some (.int one.length, .own), some (.int two.length, .own), none, some (.int (i : Int), .own)] σ = .ok (.tup (rowT (Td one two i) two.length), .own) σ := by
      refine tup_lc_map ?_ rowT_imms
      refine vE_lc_map (List.range (two.length + 1)) (fun k : Nat => (V.int (k : Int), .own)) (fun j => .int (Td one two i j)) (srcV_rng1 (o := .own) (by simp [vE_var', vE_cst', vE_bin', vE_cmp', vE_chain', vE_and', vE_or', vE_not', vE_neg', vE_ife', vE_tup', vE_lst', vE_dic', vE_ix', vE_sl', vE_rev', vE_call', vE_bi', vE_isi', vE_me', vEs_nil', vEs_cons', vAnd_nil', vAnd_cons', vIfs_nil', vIfs_cons', vOr_nil', vOr_cons', vPath_var', vPath_ix', vS_set', vS_setT', vS_setX', vS_aug', vS_ex', vS_ret', vS_retN', vS_ifs', vS_whl', vS_for', vS_brk', vS_cnt', vS_pas', vS_rais', vS_tryA', vSs_nil', vSs_cons', vT', lcT', unemb, unembs, setV, isVar, retV, putV, putVs, addV, subV, mulV, modV, fdivV, powV, ltV, leV, truV, isiV, lenV, intV, itemsV, tupleV, listV, rdo, V.imm, V.imms, mk, okS, cao, isApp, isLV, isNonV, tyb, eqV_str, eqV_int, eqV_bl, eqV_non, wipeV, isNop, toI, recvV]) (by omega)) (by simp; omega) fun j hj => ?_
      have hj' : j ≤ two.length := by simp at hj; omega
      have a1 : ixV T (.int ((one.length : Int) - (i : Int))) = some (rowV (Rv one.reverse two.reverse (one.length - i)) two.length) := by
        rw [← hT, show ((one.length : Int) - (i : Int)) = ((one.length - i : Nat) : Int) by omega]
        exact tabV_ix (by omega)
      have a2 : ixV (rowV (Rv one.reverse two.reverse (one.length - i)) two.length) (.int ((two.length : Int) - (j : Int))) = some (.int (Td one two i j)) := by
        rw [show ((two.length : Int) - (j : Int)) = ((two.length - j : Nat) : Int) by omega, rowV_ix (by omega)]
        congr 2
        unfold Rv Td
        rw [← rd_rev (one.take i) (two.take j)]
        rw [List.reverse_take, List.reverse_take]
      have ri := @rowV_imm (Rv one.reverse two.reverse (one.length - i)) two.length
      simp [vE_var', vE_cst', vE_bin', vE_cmp', vE_chain', vE_and', vE_or', vE_not', vE_neg', vE_ife', vE_tup', vE_lst', vE_dic', vE_ix', vE_sl', vE_rev', vE_call', vE_bi', vE_isi', vE_me', vEs_nil', vEs_cons', vAnd_nil', vAnd_cons', vIfs_nil', vIfs_cons', vOr_nil', vOr_cons', vPath_var', vPath_ix', vS_set', vS_setT', vS_setX', vS_aug', vS_ex', vS_ret', vS_retN', vS_ifs', vS_whl', vS_for', vS_brk', vS_cnt', vS_pas', vS_rais', vS_tryA', vSs_nil', vSs_cons', vT', lcT', unemb, unembs, setV, isVar, retV, putV, putVs, addV, subV, mulV, modV, fdivV, powV, ltV, leV, truV, isiV, lenV, intV, itemsV, tupleV, listV, rdo, V.imm, V.imms, mk, okS, cao, isApp, isLV, isNonV, tyb, eqV_str, eqV_int, eqV_bl, eqV_non, wipeV, isNop, toI, recvV, a1, a2, ri, hTi]
    simp [vE_var', vE_cst', vE_bin', vE_cmp', vE_chain', vE_and', vE_or', vE_not', vE_neg', vE_ife', vE_tup', vE_lst', vE_dic', vE_ix', vE_sl', vE_rev', vE_call', vE_bi', vE_isi', vE_me', vEs_nil', vEs_cons', vAnd_nil', vAnd_cons', vIfs_nil', vIfs_cons', vOr_nil', vOr_cons', vPath_var', vPath_ix', vS_set', vS_setT', vS_setX', vS_aug', vS_ex', vS_ret', vS_retN', vS_ifs', vS_whl', vS_for', vS_brk', vS_cnt', vS_pas', vS_rais', vS_tryA', vSs_nil', vSs_cons', vT', lcT', wipeV, putV, ↓inner]
  · simp [retV, isVar, tupT_imm]
/-! what may be told at most -/
def mostT (one two : List Nat) (f : Nat → Nat → Int) : Nat → Nat → Int
  | 0, 0 => 0
  | i + 1, 0 => f i 0 + 1
  | 0, j + 1 => f 0 j + 1
  | i + 1, j + 1 => min (min (f i (j + 1) + 1) (f (i + 1) j + 1)) (f i j + if one[i]? = two[j]? then 0 else 1)
theorem tupT_ix1 {f : Nat → Nat → Int} {n m i : Nat} (h : i + 1 ≤ n) : ixV (tupT f n m) (.int ((i : Int) + 1)) = some (.tup (rowT (f (i + 1)) m)) := by
  rw [show ((i : Int) + 1) = ((i + 1 : Nat) : Int) by omega]; exact tupT_ix h
theorem rowT_ix1 {f : Nat → Int} {m j : Nat} (h : j + 1 ≤ m) : ixV (.tup (rowT f m)) (.int ((j : Int) + 1)) = some (.int (f (j + 1))) := by
  rw [show ((j : Int) + 1) = ((j + 1 : Nat) : Int) by omega]; exact rowT_ix h
theorem most_told {k : Nat} {σ : Sg} {one two : List Nat} {f : Nat → Nat → Int} {i j : Nat} (hi : i ≤ one.length) (hj : j ≤ two.length) :
    cv (k + 1) i_most_told [.str one, .str two, tupT f one.length two.length, .int (i : Int), .int (j : Int)] σ = .ok (.int (mostT one two f i j), .own) σ := by
  refine cv_ret (fn := f_most_told) rfl (by decide) rfl ?_
  generalize CX k = C
  have ti := @tupT_imm f one.length two.length
  have ri := fun i => @rowTt_imm (f i) two.length
  have b0 : ixV (tupT f one.length two.length) (.int 0) = some (.tup (rowT (f 0) two.length)) := tupT_ix (Nat.zero_le _)
  have c0 : ∀ i, ixV (.tup (rowT (f i) two.length)) (.int 0) = some (.int (f i 0)) := fun i => rowT_ix (f := f i) (m := two.length) (j := 0) (Nat.zero_le _)
  cases i with
  | zero =>
    cases j with
    | zero => simp [f_most_told, vE_var', vE_cst', vE_bin', vE_cmp', vE_chain', vE_and', vE_or', vE_not', vE_neg', vE_ife', vE_tup', vE_lst', vE_dic', vE_ix', vE_sl', vE_rev', vE_call', vE_bi', vE_isi', vE_me', vEs_nil', vEs_cons', vAnd_nil', vAnd_cons', vIfs_nil', vIfs_cons', vOr_nil', vOr_cons', vPath_var', vPath_ix', vS_set', vS_setT', vS_setX', vS_aug', vS_ex', vS_ret', vS_retN', vS_ifs', vS_whl', vS_for', vS_brk', vS_cnt', vS_pas', vS_rais', vS_tryA', vSs_nil', vSs_cons', vT', lcT', unemb, unembs, setV, isVar, retV, putV, putVs, addV, subV, mulV, modV, fdivV, powV, ltV, leV, truV, isiV, lenV, intV, itemsV, tupleV, listV, rdo, V.imm, V.imms, mk, okS, cao, isApp, isLV, isNonV, tyb, eqV_str, eqV_int, eqV_bl, eqV_non, wipeV, isNop, toI, recvV, minV, intsV, minI, mostT]
    | succ j =>
      have h1 : ¬ (0 : Int) = (j : Int) + 1 := by omega
      have h2 : (0 : Int) < (j : Int) + 1 := by omega
      have a2 := rowT_ix (f := f 0) (m := two.length) (j := j) (by omega)
      simp [f_most_told, vE_var', vE_cst', vE_bin', vE_cmp', vE_chain', vE_and', vE_or', vE_not', vE_neg', vE_ife', vE_tup', vE_lst', vE_dic', vE_ix', vE_sl', vE_rev', vE_call', vE_bi', vE_isi', vE_me', vEs_nil', vEs_cons', vAnd_nil', vAnd_cons', vIfs_nil', vIfs_cons', vOr_nil', vOr_cons', vPath_var', vPath_ix', vS_set', vS_setT', vS_setX', vS_aug', vS_ex', vS_ret', vS_retN', vS_ifs', vS_whl', vS_for', vS_brk', vS_cnt', vS_pas', vS_rais', vS_tryA', vSs_nil', vSs_cons', vT', lcT', unemb, unembs, setV, isVar, retV, putV, putVs, addV, subV, mulV, modV, fdivV, powV, ltV, leV, truV, isiV, lenV, intV, itemsV, tupleV, listV, rdo, V.imm, V.imms, mk, okS, cao, isApp, isLV, isNonV, tyb, eqV_str, eqV_int, eqV_bl, eqV_non, wipeV, isNop, toI, recvV, h1, h2, b0, a2, ti, ri, vPath_var', appV, wrV, putP, killV, minV, intsV, minI, mostT]
  | succ i =>
    have g2 : (0 : Int) < (i : Int) + 1 := by omega
    have a1 := tupT_ix (f := f) (n := one.length) (m := two.length) (i := i) (by omega)
    have a3 := tupT_ix1 (f := f) (n := one.length) (m := two.length) (i := i) hi
    cases j with
    | zero =>
      have h1 : ¬ (i : Int) + 1 = 0 := by omega
      simp [f_most_told, vE_var', vE_cst', vE_bin', vE_cmp', vE_chain', vE_and', vE_or', vE_not', vE_neg', vE_ife', vE_tup', vE_lst', vE_dic', vE_ix', vE_sl', vE_rev', vE_call', vE_bi', vE_isi', vE_me', vEs_nil', vEs_cons', vAnd_nil', vAnd_cons', vIfs_nil', vIfs_cons', vOr_nil', vOr_cons', vPath_var', vPath_ix', vS_set', vS_setT', vS_setX', vS_aug', vS_ex', vS_ret', vS_retN', vS_ifs', vS_whl', vS_for', vS_brk', vS_cnt', vS_pas', vS_rais', vS_tryA', vSs_nil', vSs_cons', vT', lcT', unemb, unembs, setV, isVar, retV, putV, putVs, addV, subV, mulV, modV, fdivV, powV, ltV, leV, truV, isiV, lenV, intV, itemsV, tupleV, listV, rdo, V.imm, V.imms, mk, okS, cao, isApp, isLV, isNonV, tyb, eqV_str, eqV_int, eqV_bl, eqV_non, wipeV, isNop, toI, recvV, h1, g2, b0, a1, c0, ti, ri, vPath_var', appV, wrV, putP, killV, minV, intsV, minI, mostT]
    | succ j =>
      have h2 : (0 : Int) < (j : Int) + 1 := by omega
      have h4 : ¬ (j : Int) + 1 = 0 := by omega
      have a2 := rowT_ix1 (f := f i) (m := two.length) (j := j) hj
      have a4 := fun i => rowT_ix (f := f i) (m := two.length) (j := j) (by omega)
      have e1 := ixV_str (List.getElem?_eq_getElem (show i < one.length by omega))
      have e2 := ixV_str (List.getElem?_eq_getElem (show j < two.length by omega))
      by_cases e : one[i] = two[j]
      · have hm : minV [.lst [.int (f i (j + 1) + 1), .int (f (i + 1) j + 1), .int (f i j)]] = some (.int (mostT one two f (i + 1) (j + 1))) := by
          simp only [minV, intsV, mostT]
          rw [minI3, List.getElem?_eq_getElem (show i < one.length by omega), List.getElem?_eq_getElem (show j < two.length by omega), e, if_pos rfl]
          congr 2; omega
        by_cases h0 : i = j
        · subst h0
          simp [f_most_told, vE_var', vE_cst', vE_bin', vE_cmp', vE_chain', vE_and', vE_or', vE_not', vE_neg', vE_ife', vE_tup', vE_lst', vE_dic', vE_ix', vE_sl', vE_rev', vE_call', vE_bi', vE_isi', vE_me', vEs_nil', vEs_cons', vAnd_nil', vAnd_cons', vIfs_nil', vIfs_cons', vOr_nil', vOr_cons', vPath_var', vPath_ix', vS_set', vS_setT', vS_setX', vS_aug', vS_ex', vS_ret', vS_retN', vS_ifs', vS_whl', vS_for', vS_brk', vS_cnt', vS_pas', vS_rais', vS_tryA', vSs_nil', vSs_cons', vT', lcT', unemb, unembs, setV, isVar, retV, putV, putVs, addV, subV, mulV, modV, fdivV, powV, ltV, leV, truV, isiV, lenV, intV, itemsV, tupleV, listV, rdo, V.imm, V.imms, mk, okS, cao, isApp, isLV, isNonV, tyb, eqV_str, eqV_int, eqV_bl, eqV_non, wipeV, isNop, toI, recvV, h2, h4, g2, a1, a2, a3, a4, e1, e2, e, ti, ri, vPath_var', appV, wrV, putP, killV, hm]
        · have h1 : ¬ (i : Int) = j := by omega
          simp [f_most_told, vE_var', vE_cst', vE_bin', vE_cmp', vE_chain', vE_and', vE_or', vE_not', vE_neg', vE_ife', vE_tup', vE_lst', vE_dic', vE_ix', vE_sl', vE_rev', vE_call', vE_bi', vE_isi', vE_me', vEs_nil', vEs_cons', vAnd_nil', vAnd_cons', vIfs_nil', vIfs_cons', vOr_nil', vOr_cons', vPath_var', vPath_ix', vS_set', vS_setT', vS_setX', vS_aug', vS_ex', vS_ret', vS_retN', vS_ifs', vS_whl', vS_for', vS_brk', vS_cnt', vS_pas', vS_rais', vS_tryA', vSs_nil', vSs_cons', vT', lcT', unemb, unembs, setV, isVar, retV, putV, putVs, addV, subV, mulV, modV, fdivV, powV, ltV, leV, truV, isiV, lenV, intV, itemsV, tupleV, listV, rdo, V.imm, V.imms, mk, okS, cao, isApp, isLV, isNonV, tyb, eqV_str, eqV_int, eqV_bl, eqV_non, wipeV, isNop, toI, recvV, h1, h2, h4, g2, a1, a2, a3, a4, e1, e2, e, ti, ri, vPath_var', appV, wrV, putP, killV, hm]
      · have hm : minV [.lst [.int (f i (j + 1) + 1), .int (f (i + 1) j + 1), .int (f i j + 1)]] = some (.int (mostT one two f (i + 1) (j + 1))) := by
          simp only [minV, intsV, mostT]
          rw [minI3, List.getElem?_eq_getElem (show i < one.length by omega), List.getElem?_eq_getElem (show j < two.length by omega), if_neg (by simpa using e)]
        by_cases h0 : i = j
        · subst h0
          simp [f_most_told, vE_var', vE_cst', vE_bin', vE_cmp', vE_chain', vE_and', vE_or', vE_not', vE_neg', vE_ife', vE_tup', vE_lst', vE_dic', vE_ix', vE_sl', vE_rev', vE_call', vE_bi', vE_isi', vE_me', vEs_nil', vEs_cons', vAnd_nil', vAnd_cons', vIfs_nil', vIfs_cons', vOr_nil', vOr_cons', vPath_var', vPath_ix', vS_set', vS_setT', vS_setX', vS_aug', vS_ex', vS_ret', vS_retN', vS_ifs', vS_whl', vS_for', vS_brk', vS_cnt', vS_pas', vS_rais', vS_tryA', vSs_nil', vSs_cons', vT', lcT', unemb, unembs, setV, isVar, retV, putV, putVs, addV, subV, mulV, modV, fdivV, powV, ltV, leV, truV, isiV, lenV, intV, itemsV, tupleV, listV, rdo, V.imm, V.imms, mk, okS, cao, isApp, isLV, isNonV, tyb, eqV_str, eqV_int, eqV_bl, eqV_non, wipeV, isNop, toI, recvV, h2, h4, g2, a1, a2, a3, a4, e1, e2, e, ti, ri, vPath_var', appV, wrV, putP, killV, hm]
        · have h1 : ¬ (i : Int) = j := by omega
          simp [f_most_told, vE_var', vE_cst', vE_bin', vE_cmp', vE_chain', vE_and', vE_or', vE_not', vE_neg', vE_ife', vE_tup', vE_lst', vE_dic', vE_ix', vE_sl', vE_rev', vE_call', vE_bi', vE_isi', vE_me', vEs_nil', vEs_cons', vAnd_nil', vAnd_cons', vIfs_nil', vIfs_cons', vOr_nil', vOr_cons', vPath_var', vPath_ix', vS_set', vS_setT', vS_setX', vS_aug', vS_ex', vS_ret', vS_retN', vS_ifs', vS_whl', vS_for', vS_brk', vS_cnt', vS_pas', vS_rais', vS_tryA', vSs_nil', vSs_cons', vT', lcT', unemb, unembs, setV, isVar, retV, putV, putVs, addV, subV, mulV, modV, fdivV, powV, ltV, leV, truV, isiV, lenV, intV, itemsV, tupleV, listV, rdo, V.imm, V.imms, mk, okS, cao, isApp, isLV, isNonV, tyb, eqV_str, eqV_int, eqV_bl, eqV_non, wipeV, isNop, toI, recvV, h1, h2, h4, g2, a1, a2, a3, a4, e1, e2, e, ti, ri, vPath_var', appV, wrV, putP, killV, hm]
end KL

set_option linter.all false
set_option maxRecDepth 100000
set_option maxHeartbeats 2000000
namespace KL
open DL
def isWh : V → Bool | .int _ => true | _ => false
def rowOk (m : Nat) (cs : List V) : Bool := cs.length == m + 1 && cs.all isWh
def form : V := .tup [.str [102, 111, 114, 109]]
def rowD (i j : Nat) : V := .tup [.str [114, 111, 119], .int (i : Int), .int (j : Int)]
def farD : V := .tup [.str [102, 97, 114]]
theorem is_whole {k : Nat} {σ : Sg} {v : V} (h : flatV v = true) : callV xcs kts fns i__law_draw (k + 1) i_is_whole [v] σ = .ok (.bl (isWh v), .own) σ := by
  refine cv_ret (fn := f_is_whole) rfl (by decide) rfl ?_
  cases v <;> first | (cases h; done) | skip
  all_goals simp [f_is_whole, vE_var', vE_cst', vE_bin', vE_cmp', vE_chain', vE_and', vE_or', vE_not', vE_neg', vE_ife', vE_tup', vE_lst', vE_dic', vE_ix', vE_sl', vE_rev', vE_call', vE_bi', vE_isi', vE_me', vEs_nil', vEs_cons', vAnd_nil', vAnd_cons', vIfs_nil', vIfs_cons', vOr_nil', vOr_cons', vPath_var', vPath_ix', vS_set', vS_setT', vS_setX', vS_aug', vS_ex', vS_ret', vS_retN', vS_ifs', vS_whl', vS_for', vS_brk', vS_cnt', vS_pas', vS_rais', vS_tryA', vSs_nil', vSs_cons', vT', lcT', unemb, unembs, setV, isVar, retV, putV, putVs, addV, subV, mulV, modV, fdivV, powV, ltV, leV, truV, isiV, lenV, intV, itemsV, tupleV, listV, rdo, V.imm, V.imms, mk, okS, cao, isApp, isLV, isNonV, tyb, eqV_str, eqV_int, eqV_bl, eqV_non, wipeV, isNop, toI, recvV, isWh]
theorem law_whole {k : Nat} {σ : Sg} {v : V} (h : flatV v = true) : callV xcs kts fns i__law_draw (k + 1) i__law_whole [v] σ = .ok (.bl (isWh v), .own) σ := by
  refine cv_ret (fn := f__law_whole) rfl (by decide) rfl ?_
  cases v <;> first | (cases h; done) | skip
  all_goals simp [f__law_whole, vE_var', vE_cst', vE_bin', vE_cmp', vE_chain', vE_and', vE_or', vE_not', vE_neg', vE_ife', vE_tup', vE_lst', vE_dic', vE_ix', vE_sl', vE_rev', vE_call', vE_bi', vE_isi', vE_me', vEs_nil', vEs_cons', vAnd_nil', vAnd_cons', vIfs_nil', vIfs_cons', vOr_nil', vOr_cons', vPath_var', vPath_ix', vS_set', vS_setT', vS_setX', vS_aug', vS_ex', vS_ret', vS_retN', vS_ifs', vS_whl', vS_for', vS_brk', vS_cnt', vS_pas', vS_rais', vS_tryA', vSs_nil', vSs_cons', vT', lcT', unemb, unembs, setV, isVar, retV, putV, putVs, addV, subV, mulV, modV, fdivV, powV, ltV, leV, truV, isiV, lenV, intV, itemsV, tupleV, listV, rdo, V.imm, V.imms, mk, okS, cao, isApp, isLV, isNonV, tyb, eqV_str, eqV_int, eqV_bl, eqV_non, wipeV, isNop, toI, recvV, isWh]
/-! the form, as the program looks at it -/
abbrev ffE (one two : List Nat) (far : Int) (v : V) (a b c d : Option VO) : VEnv := [some (.str one, .fz), some (.str two, .fz), some (.int far, .fz), some (v, .fz), a, b, c, d]
def ffForm : List S := [
    .ifs (.or [(.not (.isi (.var 4) .tuple)), (.cmp .ne (.bi .len [(.var 4)]) (.bin .add (.bi .len [(.var 1)]) (.cst (.int (1))))), (.not (.bi .all [(.lc (.call i_is_whole [(.var 5)]) (.var 5) (.var 4) [] [("cell", 5)])]))]) [
      .ret (.tup [(.cst (.str [102, 111, 114, 109]))])] []]
theorem ff_form {k : Nat} {σ : Sg} {one two : List Nat} {far : Int} {v : V} {cs : List V} {b c d : Option VO} (h2 : two.length ≤ 100) (hl : cs.length ≤ 1000) (hf : ∀ x ∈ cs, flatV x = true) :
    vSs (CX (k + 1)) ffForm (ffE one two far v (some (.tup cs, .own)) b c d) σ = if rowOk two.length cs = true then .nx (ffE one two far v (some (.tup cs, .own)) b c d) σ else .ret (form, .own) σ := by
  have hi : V.imms cs = true := flats_imm hf
  have hlc : vE (CX (k + 1)) (.lc (.call i_is_whole [(.var 5)]) (.var 5) (.var 4) [] [("cell", 5)]) (ffE one two far v (some (.tup cs, .own)) b c d) σ = .ok (.lst (cs.map fun x => .bl (isWh x)), .own) σ := by
    refine vE_lc_map cs (fun x => (x, .own)) (fun x => .bl (isWh x)) (srcV_tup rfl hi) (by omega) fun x hx => ?_
    have hw := is_whole (k := k) (σ := σ) (hf x hx)
    have hxi := flat_imm (hf x hx)
    simp [vE_var', vE_cst', vE_bin', vE_cmp', vE_chain', vE_and', vE_or', vE_not', vE_neg', vE_ife', vE_tup', vE_lst', vE_dic', vE_ix', vE_sl', vE_rev', vE_call', vE_bi', vE_isi', vE_me', vEs_nil', vEs_cons', vAnd_nil', vAnd_cons', vIfs_nil', vIfs_cons', vOr_nil', vOr_cons', vPath_var', vPath_ix', vS_set', vS_setT', vS_setX', vS_aug', vS_ex', vS_ret', vS_retN', vS_ifs', vS_whl', vS_for', vS_brk', vS_cnt', vS_pas', vS_rais', vS_tryA', vSs_nil', vSs_cons', vT', lcT', unemb, unembs, setV, isVar, retV, putV, putVs, addV, subV, mulV, modV, fdivV, powV, ltV, leV, truV, isiV, lenV, intV, itemsV, tupleV, listV, rdo, V.imm, V.imms, mk, okS, cao, isApp, isLV, isNonV, tyb, eqV_str, eqV_int, eqV_bl, eqV_non, wipeV, isNop, toI, recvV, hw, hxi]
  have hall := allV_of cs isWh
  unfold rowOk
  by_cases e : cs.length = two.length + 1
  · have e' : (cs.length : Int) = (two.length : Int) + 1 := by omega
    cases ha : cs.all isWh with
    | true =>
      rw [ha] at hall
      simp only [ffForm, e, e', ha]
      simp [vE_var', vE_cst', vE_bin', vE_cmp', vE_chain', vE_and', vE_or', vE_not', vE_neg', vE_ife', vE_tup', vE_lst', vE_dic', vE_ix', vE_sl', vE_rev', vE_call', vE_bi', vE_isi', vE_me', vEs_nil', vEs_cons', vAnd_nil', vAnd_cons', vIfs_nil', vIfs_cons', vOr_nil', vOr_cons', vPath_var', vPath_ix', vS_set', vS_setT', vS_setX', vS_aug', vS_ex', vS_ret', vS_retN', vS_ifs', vS_whl', vS_for', vS_brk', vS_cnt', vS_pas', vS_rais', vS_tryA', vSs_nil', vSs_cons', vT', lcT', unemb, unembs, setV, isVar, retV, putV, putVs, addV, subV, mulV, modV, fdivV, powV, ltV, leV, truV, isiV, lenV, intV, itemsV, tupleV, listV, rdo, V.imm, V.imms, mk, okS, cao, isApp, isLV, isNonV, tyb, eqV_str, eqV_int, eqV_bl, eqV_non, wipeV, isNop, toI, recvV, ↓hlc, hi, hall, e']
    | false =>
      rw [ha] at hall
      simp only [ffForm, e, e', ha]
      simp [vE_var', vE_cst', vE_bin', vE_cmp', vE_chain', vE_and', vE_or', vE_not', vE_neg', vE_ife', vE_tup', vE_lst', vE_dic', vE_ix', vE_sl', vE_rev', vE_call', vE_bi', vE_isi', vE_me', vEs_nil', vEs_cons', vAnd_nil', vAnd_cons', vIfs_nil', vIfs_cons', vOr_nil', vOr_cons', vPath_var', vPath_ix', vS_set', vS_setT', vS_setX', vS_aug', vS_ex', vS_ret', vS_retN', vS_ifs', vS_whl', vS_for', vS_brk', vS_cnt', vS_pas', vS_rais', vS_tryA', vSs_nil', vSs_cons', vT', lcT', unemb, unembs, setV, isVar, retV, putV, putVs, addV, subV, mulV, modV, fdivV, powV, ltV, leV, truV, isiV, lenV, intV, itemsV, tupleV, listV, rdo, V.imm, V.imms, mk, okS, cao, isApp, isLV, isNonV, tyb, eqV_str, eqV_int, eqV_bl, eqV_non, wipeV, isNop, toI, recvV, ↓hlc, hi, hall, e', form]
  · have e' : ¬ (cs.length : Int) = (two.length : Int) + 1 := by omega
    have e2 : (cs.length == two.length + 1) = false := by simpa using e
    rw [e2]
    simp [ffForm, vE_var', vE_cst', vE_bin', vE_cmp', vE_chain', vE_and', vE_or', vE_not', vE_neg', vE_ife', vE_tup', vE_lst', vE_dic', vE_ix', vE_sl', vE_rev', vE_call', vE_bi', vE_isi', vE_me', vEs_nil', vEs_cons', vAnd_nil', vAnd_cons', vIfs_nil', vIfs_cons', vOr_nil', vOr_cons', vPath_var', vPath_ix', vS_set', vS_setT', vS_setX', vS_aug', vS_ex', vS_ret', vS_retN', vS_ifs', vS_whl', vS_for', vS_brk', vS_cnt', vS_pas', vS_rais', vS_tryA', vSs_nil', vSs_cons', vT', lcT', unemb, unembs, setV, isVar, retV, putV, putVs, addV, subV, mulV, modV, fdivV, powV, ltV, leV, truV, isiV, lenV, intV, itemsV, tupleV, listV, rdo, V.imm, V.imms, mk, okS, cao, isApp, isLV, isNonV, tyb, eqV_str, eqV_int, eqV_bl, eqV_non, wipeV, isNop, toI, recvV, hi, e', form]
/-! the form, as the law looks at it -/
abbrev lfE (one two : List Nat) (far : Int) (v : V) (a b c d e : Option VO) : VEnv := [some (.str one, .fz), some (.str two, .fz), some (.int far, .fz), some (v, .fz), a, b, c, d, e]
def lfForm : List S := [
    .ifs (.or [(.not (.isi (.var 4) .tuple)), (.cmp .ne (.bi .len [(.var 4)]) (.bin .add (.bi .len [(.var 1)]) (.cst (.int (1))))), (.cmp .ne (.lc (.var 5) (.var 5) (.var 4) [(.not (.call i__law_whole [(.var 5)]))] [("cell", 5)]) (.lst []))]) [
      .ret (.tup [(.cst (.str [102, 111, 114, 109]))])] []]
theorem lf_form {k : Nat} {σ : Sg} {one two : List Nat} {far : Int} {v : V} {cs : List V} {b c d e : Option VO} (h2 : two.length ≤ 100) (hl : cs.length ≤ 1000) (hf : ∀ x ∈ cs, flatV x = true) :
    vSs (CX (k + 1)) lfForm (lfE one two far v (some (.tup cs, .own)) b c d e) σ = if rowOk two.length cs = true then .nx (lfE one two far v (some (.tup cs, .own)) b c d e) σ else .ret (form, .own) σ := by
  have hi : V.imms cs = true := flats_imm hf
  have hlc : vE (CX (k + 1)) (.lc (.var 5) (.var 5) (.var 4) [(.not (.call i__law_whole [(.var 5)]))] [("cell", 5)]) (lfE one two far v (some (.tup cs, .own)) b c d e) σ = .ok (.lst ((cs.filter fun x => !isWh x).map fun x => x), .own) σ := by
    refine vE_lc_filter cs (fun x => (x, .own)) (fun x => !isWh x) (fun x => x) (srcV_tup rfl hi) (by omega) fun x hx => ?_
    have hw := law_whole (k := k) (σ := σ) (hf x hx)
    have hxi := flat_imm (hf x hx)
    cases hq : isWh x <;> simp [vE_var', vE_cst', vE_bin', vE_cmp', vE_chain', vE_and', vE_or', vE_not', vE_neg', vE_ife', vE_tup', vE_lst', vE_dic', vE_ix', vE_sl', vE_rev', vE_call', vE_bi', vE_isi', vE_me', vEs_nil', vEs_cons', vAnd_nil', vAnd_cons', vIfs_nil', vIfs_cons', vOr_nil', vOr_cons', vPath_var', vPath_ix', vS_set', vS_setT', vS_setX', vS_aug', vS_ex', vS_ret', vS_retN', vS_ifs', vS_whl', vS_for', vS_brk', vS_cnt', vS_pas', vS_rais', vS_tryA', vSs_nil', vSs_cons', vT', lcT', unemb, unembs, setV, isVar, retV, putV, putVs, addV, subV, mulV, modV, fdivV, powV, ltV, leV, truV, isiV, lenV, intV, itemsV, tupleV, listV, rdo, V.imm, V.imms, mk, okS, cao, isApp, isLV, isNonV, tyb, eqV_str, eqV_int, eqV_bl, eqV_non, wipeV, isNop, toI, recvV, hw, hxi, hq]
  rw [List.map_id'] at hlc
  have heq : eqV (.lst (cs.filter fun x => !isWh x)) (.lst []) = some (cs.all isWh) := by
    rw [eqV_nil (fun x hx => hf x (List.mem_filter.mp hx).1)]
    congr 1
    rw [Bool.eq_iff_iff, List.isEmpty_iff, List.filter_eq_nil_iff, List.all_eq_true]
    simp
  unfold rowOk
  by_cases e1 : cs.length = two.length + 1
  · have e' : (cs.length : Int) = (two.length : Int) + 1 := by omega
    cases ha : cs.all isWh with
    | true =>
      rw [ha] at heq
      simp only [lfForm, e1, e', ha]
      simp [vE_var', vE_cst', vE_bin', vE_cmp', vE_chain', vE_and', vE_or', vE_not', vE_neg', vE_ife', vE_tup', vE_lst', vE_dic', vE_ix', vE_sl', vE_rev', vE_call', vE_bi', vE_isi', vE_me', vEs_nil', vEs_cons', vAnd_nil', vAnd_cons', vIfs_nil', vIfs_cons', vOr_nil', vOr_cons', vPath_var', vPath_ix', vS_set', vS_setT', vS_setX', vS_aug', vS_ex', vS_ret', vS_retN', vS_ifs', vS_whl', vS_for', vS_brk', vS_cnt', vS_pas', vS_rais', vS_tryA', vSs_nil', vSs_cons', vT', lcT', unemb, unembs, setV, isVar, retV, putV, putVs, addV, subV, mulV, modV, fdivV, powV, ltV, leV, truV, isiV, lenV, intV, itemsV, tupleV, listV, rdo, V.imm, V.imms, mk, okS, cao, isApp, isLV, isNonV, tyb, eqV_str, eqV_int, eqV_bl, eqV_non, wipeV, isNop, toI, recvV, ↓hlc, hi, heq, e']
    | false =>
      rw [ha] at heq
      simp only [lfForm, e1, e', ha]
      simp [vE_var', vE_cst', vE_bin', vE_cmp', vE_chain', vE_and', vE_or', vE_not', vE_neg', vE_ife', vE_tup', vE_lst', vE_dic', vE_ix', vE_sl', vE_rev', vE_call', vE_bi', vE_isi', vE_me', vEs_nil', vEs_cons', vAnd_nil', vAnd_cons', vIfs_nil', vIfs_cons', vOr_nil', vOr_cons', vPath_var', vPath_ix', vS_set', vS_setT', vS_setX', vS_aug', vS_ex', vS_ret', vS_retN', vS_ifs', vS_whl', vS_for', vS_brk', vS_cnt', vS_pas', vS_rais', vS_tryA', vSs_nil', vSs_cons', vT', lcT', unemb, unembs, setV, isVar, retV, putV, putVs, addV, subV, mulV, modV, fdivV, powV, ltV, leV, truV, isiV, lenV, intV, itemsV, tupleV, listV, rdo, V.imm, V.imms, mk, okS, cao, isApp, isLV, isNonV, tyb, eqV_str, eqV_int, eqV_bl, eqV_non, wipeV, isNop, toI, recvV, ↓hlc, hi, heq, e', form]
  · have e' : ¬ (cs.length : Int) = (two.length : Int) + 1 := by omega
    have e2 : (cs.length == two.length + 1) = false := by simpa using e1
    rw [e2]
    simp [lfForm, vE_var', vE_cst', vE_bin', vE_cmp', vE_chain', vE_and', vE_or', vE_not', vE_neg', vE_ife', vE_tup', vE_lst', vE_dic', vE_ix', vE_sl', vE_rev', vE_call', vE_bi', vE_isi', vE_me', vEs_nil', vEs_cons', vAnd_nil', vAnd_cons', vIfs_nil', vIfs_cons', vOr_nil', vOr_cons', vPath_var', vPath_ix', vS_set', vS_setT', vS_setX', vS_aug', vS_ex', vS_ret', vS_retN', vS_ifs', vS_whl', vS_for', vS_brk', vS_cnt', vS_pas', vS_rais', vS_tryA', vSs_nil', vSs_cons', vT', lcT', unemb, unembs, setV, isVar, retV, putV, putVs, addV, subV, mulV, modV, fdivV, powV, ltV, leV, truV, isiV, lenV, intV, itemsV, tupleV, listV, rdo, V.imm, V.imms, mk, okS, cao, isApp, isLV, isNonV, tyb, eqV_str, eqV_int, eqV_bl, eqV_non, wipeV, isNop, toI, recvV, hi, e', form]
end KL

set_option linter.all false
set_option maxRecDepth 100000
set_option maxHeartbeats 2000000
namespace KL
open DL
open K58 (Rd Al dg Fd fd0 fdL fdR fdS fd_zero fd_end)
/-- a cell that tells too much -/
def Bad (one two : List Nat) (f : Nat → Nat → Int) (i j : Nat) : Prop := mostT one two f i j < f i j
def Res (one two : List Nat) (f : Nat → Nat → Int) (least : Int) (v : V) : Prop :=
  (∃ i j, i ≤ one.length ∧ j ≤ two.length ∧ Bad one two f i j ∧ (∀ a b, a ≤ one.length → b ≤ two.length → (a < i ∨ (a = i ∧ b < j)) → ¬ Bad one two f a b) ∧ v = rowD i j) ∨
  ((∀ i j, i ≤ one.length → j ≤ two.length → ¬ Bad one two f i j) ∧ v = if least ≤ f one.length two.length then .non else farD)
theorem Res.uniq {one two : List Nat} {f : Nat → Nat → Int} {least : Int} {v w : V} (h : Res one two f least v) (g : Res one two f least w) : v = w := by
  rcases h with ⟨i, j, hi, hj, hb, hm, rfl⟩ | ⟨hn, rfl⟩
  · rcases g with ⟨i', j', hi', hj', hb', hm', rfl⟩ | ⟨hn', rfl⟩
    · have a1 : ¬ (i < i' ∨ (i = i' ∧ j < j')) := fun z => hm' i j hi hj z hb
      have a2 : ¬ (i' < i ∨ (i' = i ∧ j' < j)) := fun z => hm i' j' hi' hj' z hb'
      obtain rfl : i = i' := by omega
      obtain rfl : j = j' := by omega
      rfl
    · exact absurd hb (hn' i j hi hj)
  · rcases g with ⟨i', j', hi', hj', hb', hm', rfl⟩ | ⟨hn', rfl⟩
    · exact absurd hb' (hn i' j' hi' hj')
    · rfl
theorem map_own_get {xs : List V} {i : Nat} {x : VO} (h : (xs.map fun x => (x, Ow.own))[i]? = some x) : ∃ v, xs[i]? = some v ∧ x = (v, .own) := by
  rw [List.getElem?_map] at h
  cases q : xs[i]? with
  | none => rw [q] at h; cases h
  | some v => rw [q] at h; cases h; exact ⟨v, rfl, rfl⟩
theorem enum_get {xs : List V} {i : Nat} {x : VO} (h : ((enumV 0 xs).map fun x => (x, Ow.own))[i]? = some x) : ∃ v, xs[i]? = some v ∧ x = (.tup [.int (i : Int), v], .own) := by
  obtain ⟨w, h2, rfl⟩ := map_own_get h
  rw [enumV_get] at h2
  cases q : xs[i]? with
  | none => rw [q] at h2; cases h2
  | some v => rw [q] at h2; cases h2; exact ⟨v, rfl, by rw [Nat.zero_add]⟩
def ffIn : List S := [
      .ifs (.cmp .gt (.var 5) (.call i_most_told [(.var 0), (.var 1), (.var 3), (.var 6), (.var 7)])) [
        .ret (.tup [(.cst (.str [114, 111, 119])), (.var 6), (.var 7)])] []]
theorem ff_in {k : Nat} {σ : Sg} {one two : List Nat} {far : Int} {f : Nat → Nat → Int} {i j : Nat} {a : Option VO} (hi : i ≤ one.length) (hj : j ≤ two.length) :
    vSs (CX (k + 1)) ffIn (ffE one two far (tupT f one.length two.length) a (some (.int (f i j), .own)) (some (.int (i : Int), .own)) (some (.int (j : Int), .own))) σ =
      if mostT one two f i j < f i j then .ret (rowD i j, .own) σ else .nx (ffE one two far (tupT f one.length two.length) a (some (.int (f i j), .own)) (some (.int (i : Int), .own)) (some (.int (j : Int), .own))) σ := by
  have hm : callV xcs kts fns i__law_draw (k + 1) i_most_told [.str one, .str two, tupT f one.length two.length, .int (i : Int), .int (j : Int)] σ = .ok (.int (mostT one two f i j), .own) σ := most_told hi hj
  have ti := @tupT_imm f one.length two.length
  by_cases h : mostT one two f i j < f i j
  · rw [if_pos h]
    simp [ffIn, vE_var', vE_cst', vE_bin', vE_cmp', vE_chain', vE_and', vE_or', vE_not', vE_neg', vE_ife', vE_tup', vE_lst', vE_dic', vE_ix', vE_sl', vE_rev', vE_call', vE_bi', vE_isi', vE_me', vEs_nil', vEs_cons', vAnd_nil', vAnd_cons', vIfs_nil', vIfs_cons', vOr_nil', vOr_cons', vPath_var', vPath_ix', vS_set', vS_setT', vS_setX', vS_aug', vS_ex', vS_ret', vS_retN', vS_ifs', vS_whl', vS_for', vS_brk', vS_cnt', vS_pas', vS_rais', vS_tryA', vSs_nil', vSs_cons', vT', lcT', unemb, unembs, setV, isVar, retV, putV, putVs, addV, subV, mulV, modV, fdivV, powV, ltV, leV, truV, isiV, lenV, intV, itemsV, tupleV, listV, rdo, V.imm, V.imms, mk, okS, cao, isApp, isLV, isNonV, tyb, eqV_str, eqV_int, eqV_bl, eqV_non, wipeV, isNop, toI, recvV, ti, hm, h, rowD]
  · rw [if_neg h]
    simp [ffIn, vE_var', vE_cst', vE_bin', vE_cmp', vE_chain', vE_and', vE_or', vE_not', vE_neg', vE_ife', vE_tup', vE_lst', vE_dic', vE_ix', vE_sl', vE_rev', vE_call', vE_bi', vE_isi', vE_me', vEs_nil', vEs_cons', vAnd_nil', vAnd_cons', vIfs_nil', vIfs_cons', vOr_nil', vOr_cons', vPath_var', vPath_ix', vS_set', vS_setT', vS_setX', vS_aug', vS_ex', vS_ret', vS_retN', vS_ifs', vS_whl', vS_for', vS_brk', vS_cnt', vS_pas', vS_rais', vS_tryA', vSs_nil', vSs_cons', vT', lcT', unemb, unembs, setV, isVar, retV, putV, putVs, addV, subV, mulV, modV, fdivV, powV, ltV, leV, truV, isiV, lenV, intV, itemsV, tupleV, listV, rdo, V.imm, V.imms, mk, okS, cao, isApp, isLV, isNonV, tyb, eqV_str, eqV_int, eqV_bl, eqV_non, wipeV, isNop, toI, recvV, ti, hm, h]
def ffMid : List S := [.for (.tup [.var 7, .var 5]) (.enum (.var 4)) ffIn]
/-- the program's look at a table -/
theorem ff_check {k : Nat} {σ : Sg} {one two : List Nat} {least : Int} {f : Nat → Nat → Int} {a b c d : Option VO} :
    ∃ v, vSs (CX (k + 1)) [.for (.tup [.var 6, .var 4]) (.enum (.var 3)) ffMid, .ret (.ife (.cmp .ge (.ix (.ix (.var 3) (.neg (.cst (.int (1))))) (.neg (.cst (.int (1))))) (.var 2)) (.cst (.non)) (.tup [(.cst (.str [102, 97, 114]))]))]
      (ffE one two least (tupT f one.length two.length) a b c d) σ = .ret (v, .own) σ ∧ Res one two f least v := by
  generalize hC : CX (k + 1) = C
  have hloop := pure_for (body := fun x ρ σ => match putV (.tup [.var 6, .var 4]) x ρ with | some ρ => vSs C ffMid ρ σ | none => .bad) (items := (enumV 0 (rowsT f one.length two.length)).map fun x => (x, Ow.own)) (σ := σ) (ρ := ffE one two least (tupT f one.length two.length) a b c d)
    (fun i ρ => (∃ a b c d, ρ = ffE one two least (tupT f one.length two.length) a b c d) ∧ ∀ p q, p < i → p ≤ one.length → q ≤ two.length → ¬ Bad one two f p q) (fun v => ∃ i j, i ≤ one.length ∧ j ≤ two.length ∧ Bad one two f i j ∧ (∀ a b, a ≤ one.length → b ≤ two.length → (a < i ∨ (a = i ∧ b < j)) → ¬ Bad one two f a b) ∧ v = rowD i j)
    (fun i x ρ hx ⟨⟨a, b, c, d, e⟩, hn⟩ => by
      obtain ⟨r, hr, rfl⟩ := enum_get hx
      have hi : i ≤ one.length := by
        have := (List.getElem?_eq_some_iff.mp hr).1
        rw [rowsT_len] at this; omega
      rw [rowsT_get hi] at hr
      cases hr
      have hin := pure_for (body := fun x ρ σ => match putV (.tup [.var 7, .var 5]) x ρ with | some ρ => vSs C ffIn ρ σ | none => .bad) (items := (enumV 0 (rowT (f i) two.length)).map fun x => (x, Ow.own)) (σ := σ) (ρ := ffE one two least (tupT f one.length two.length) (some (.tup (rowT (f i) two.length), .own)) b (some (.int (i : Int), .own)) d)
        (fun j ρ => (∃ b d, ρ = ffE one two least (tupT f one.length two.length) (some (.tup (rowT (f i) two.length), .own)) b (some (.int (i : Int), .own)) d) ∧ ∀ q, q < j → q ≤ two.length → ¬ Bad one two f i q) (fun v => ∃ j, j ≤ two.length ∧ Bad one two f i j ∧ (∀ b, b ≤ two.length → b < j → ¬ Bad one two f i b) ∧ v = rowD i j)
        (fun j x ρ hx ⟨⟨b, d, e⟩, hn⟩ => by
          obtain ⟨r, hr, rfl⟩ := enum_get hx
          have hj : j ≤ two.length := by
            have := (List.getElem?_eq_some_iff.mp hr).1
            rw [rowT_len] at this; omega
          rw [rowT_get hj] at hr
          cases hr
          have hp : putV (.tup [.var 7, .var 5]) (.tup [.int (j : Int), .int (f i j)], .own) ρ = some (ffE one two least (tupT f one.length two.length) (some (.tup (rowT (f i) two.length), .own)) (some (.int (f i j), .own)) (some (.int (i : Int), .own)) (some (.int (j : Int), .own))) := by rw [e]; rfl
          have hb := ff_in (k := k) (σ := σ) (far := least) (f := f) (a := some (.tup (rowT (f i) two.length), .own)) hi hj
          rw [hC] at hb
          rw [hp]
          dsimp only
          rw [hb]
          by_cases hbad : mostT one two f i j < f i j
          · rw [if_pos hbad]
            exact .inr ⟨_, rfl, j, hj, hbad, fun b hb hlt => hn b hlt hb, rfl⟩
          · rw [if_neg hbad]
            refine .inl ⟨_, rfl, ⟨_, _, rfl⟩, fun q hq hq2 => ?_⟩
            by_cases h : q = j
            · subst h; exact hbad
            · exact hn q (by omega) hq2) ⟨⟨b, d, rfl⟩, fun q hq => by omega⟩
      have hp : putV (.tup [.var 6, .var 4]) (.tup [.int (i : Int), .tup (rowT (f i) two.length)], .own) ρ = some (ffE one two least (tupT f one.length two.length) (some (.tup (rowT (f i) two.length), .own)) b (some (.int (i : Int), .own)) d) := by rw [e]; rfl
      have hfor := vS_for_enum (C := C) (tg := .tup [.var 7, .var 5]) (b := ffIn) (σ := σ) (i := 4) (ρ := ffE one two least (tupT f one.length two.length) (some (.tup (rowT (f i) two.length), .own)) b (some (.int (i : Int), .own)) d) rfl rowT_imms
      rcases hin with ⟨ρ', e', ⟨b', d', rfl⟩, hn'⟩ | ⟨v, e', j, hj, hb, hm, rfl⟩
      · left
        refine ⟨_, ?_, ⟨some (.tup (rowT (f i) two.length), .own), b', some (.int (i : Int), .own), d', rfl⟩, fun p q h1 h2 h3 => ?_⟩
        · rw [hp, ffMid]
          dsimp only
          rw [vSs_nx (hfor.trans e'), vSs_nil]
        · by_cases h : p = i
          · subst h
            refine hn' q ?_ h3
            rw [List.length_map, enumV_len, rowT_len]; omega
          · exact hn p q (by omega) h2 h3
      · right
        refine ⟨_, ?_, i, j, hi, hj, hb, fun a b h1 h2 h3 => ?_, rfl⟩
        · rw [hp, ffMid]
          dsimp only
          exact vSs_ret (hfor.trans e')
        · rcases h3 with h3 | ⟨rfl, h3⟩
          · exact hn a b h3 h1 h2
          · exact hm b h2 h3) ⟨⟨a, b, c, d, rfl⟩, fun p q h => by omega⟩
  have hfor := vS_for_enum (C := C) (tg := .tup [.var 6, .var 4]) (b := ffMid) (σ := σ) (i := 3) (o := .fz) (ρ := ffE one two least (tupT f one.length two.length) a b c d) (xs := rowsT f one.length two.length) rfl rowsT_imms
  rcases hloop with ⟨ρ', e', ⟨a', b', c', d', rfl⟩, hn⟩ | ⟨v, e', h⟩
  · refine ⟨if least ≤ f one.length two.length then .non else farD, ?_, .inr ⟨fun i j hi hj => hn i j ?_ hi hj, rfl⟩⟩
    · rw [vSs_nx (hfor.trans e')]
      have ti := @tupT_imm f one.length two.length
      have l1 : ixV (tupT f one.length two.length) (.int (-1)) = some (.tup (rowT (f one.length) two.length)) := by
        unfold tupT; rw [ixV]; refine atD_last ?_; unfold rowsT; rw [List.range_succ, List.map_append, List.getLast?_append]; rfl
      have l2 : ixV (.tup (rowT (f one.length) two.length)) (.int (-1)) = some (.int (f one.length two.length)) := by
        rw [ixV]; refine atD_last ?_; unfold rowT; rw [List.range_succ, List.map_append, List.getLast?_append]; rfl
      have ri := @rowTt_imm (f one.length) two.length
      by_cases h : least ≤ f one.length two.length
      · simp [vE_var', vE_cst', vE_bin', vE_cmp', vE_chain', vE_and', vE_or', vE_not', vE_neg', vE_ife', vE_tup', vE_lst', vE_dic', vE_ix', vE_sl', vE_rev', vE_call', vE_bi', vE_isi', vE_me', vEs_nil', vEs_cons', vAnd_nil', vAnd_cons', vIfs_nil', vIfs_cons', vOr_nil', vOr_cons', vPath_var', vPath_ix', vS_set', vS_setT', vS_setX', vS_aug', vS_ex', vS_ret', vS_retN', vS_ifs', vS_whl', vS_for', vS_brk', vS_cnt', vS_pas', vS_rais', vS_tryA', vSs_nil', vSs_cons', vT', lcT', unemb, unembs, setV, isVar, retV, putV, putVs, addV, subV, mulV, modV, fdivV, powV, ltV, leV, truV, isiV, lenV, intV, itemsV, tupleV, listV, rdo, V.imm, V.imms, mk, okS, cao, isApp, isLV, isNonV, tyb, eqV_str, eqV_int, eqV_bl, eqV_non, wipeV, isNop, toI, recvV, ti, ri, l1, l2, h]
      · simp [vE_var', vE_cst', vE_bin', vE_cmp', vE_chain', vE_and', vE_or', vE_not', vE_neg', vE_ife', vE_tup', vE_lst', vE_dic', vE_ix', vE_sl', vE_rev', vE_call', vE_bi', vE_isi', vE_me', vEs_nil', vEs_cons', vAnd_nil', vAnd_cons', vIfs_nil', vIfs_cons', vOr_nil', vOr_cons', vPath_var', vPath_ix', vS_set', vS_setT', vS_setX', vS_aug', vS_ex', vS_ret', vS_retN', vS_ifs', vS_whl', vS_for', vS_brk', vS_cnt', vS_pas', vS_rais', vS_tryA', vSs_nil', vSs_cons', vT', lcT', unemb, unembs, setV, isVar, retV, putV, putVs, addV, subV, mulV, modV, fdivV, powV, ltV, leV, truV, isiV, lenV, intV, itemsV, tupleV, listV, rdo, V.imm, V.imms, mk, okS, cao, isApp, isLV, isNonV, tyb, eqV_str, eqV_int, eqV_bl, eqV_non, wipeV, isNop, toI, recvV, ti, ri, l1, l2, h, farD]
    · rw [List.length_map, enumV_len, rowsT_len]; omega
  · exact ⟨v, vSs_ret (hfor.trans e'), .inl h⟩
end KL

set_option linter.all false
set_option maxRecDepth 100000
set_option maxHeartbeats 2000000
namespace KL
open DL
def lfIn : List S := [
      .set 8 (.ife (.and [(.cmp .eq (.var 6) (.cst (.int (0)))), (.cmp .eq (.var 7) (.cst (.int (0))))]) (.lst [(.cst (.int (0)))]) (.lst [])),
      .set 8 (.bin .add (.bin .add (.var 8) (.ife (.cmp .gt (.var 6) (.cst (.int (0)))) (.lst [(.bin .add (.ix (.ix (.var 3) (.bin .sub (.var 6) (.cst (.int (1))))) (.var 7)) (.cst (.int (1))))]) (.lst []))) (.ife (.cmp .gt (.var 7) (.cst (.int (0)))) (.lst [(.bin .add (.ix (.ix (.var 3) (.var 6)) (.bin .sub (.var 7) (.cst (.int (1))))) (.cst (.int (1))))]) (.lst []))),
      .ifs (.and [(.cmp .gt (.var 6) (.cst (.int (0)))), (.cmp .gt (.var 7) (.cst (.int (0))))]) [
        .ex (.me .append (.var 8) [(.bin .add (.ix (.ix (.var 3) (.bin .sub (.var 6) (.cst (.int (1))))) (.bin .sub (.var 7) (.cst (.int (1))))) (.ife (.cmp .eq (.ix (.var 0) (.bin .sub (.var 6) (.cst (.int (1))))) (.ix (.var 1) (.bin .sub (.var 7) (.cst (.int (1)))))) (.cst (.int (0))) (.cst (.int (1)))))])] [],
      .ifs (.cmp .gt (.ix (.ix (.var 3) (.var 6)) (.var 7)) (.bi .min [(.var 8)])) [
        .ret (.tup [(.cst (.str [114, 111, 119])), (.var 6), (.var 7)])] []]
theorem lf_in {C : VCtx} {σ : Sg} {one two : List Nat} {far : Int} {f : Nat → Nat → Int} {i j : Nat} {r : List V} {e : Option VO} (hi : i ≤ one.length) (hj : j ≤ two.length) :
    ∃ e', vSs C lfIn (lfE one two far (tupT f one.length two.length) (some (.tup r, .own)) none (some (.int (i : Int), .own)) (some (.int (j : Int), .own)) e) σ =
      if mostT one two f i j < f i j then .ret (rowD i j, .own) σ else .nx (lfE one two far (tupT f one.length two.length) (some (.tup r, .own)) none (some (.int (i : Int), .own)) (some (.int (j : Int), .own)) e') σ := by
  have ti := @tupT_imm f one.length two.length
  have ri := fun i => @rowTt_imm (f i) two.length
  have b0 : ixV (tupT f one.length two.length) (.int 0) = some (.tup (rowT (f 0) two.length)) := tupT_ix (Nat.zero_le _)
  have c0 : ∀ i, ixV (.tup (rowT (f i) two.length)) (.int 0) = some (.int (f i 0)) := fun i => rowT_ix (f := f i) (m := two.length) (j := 0) (Nat.zero_le _)
  cases i with
  | zero =>
    cases j with
    | zero =>
      have hm : minV [.lst [.int 0]] = some (.int (mostT one two f 0 0)) := by simp [minV, intsV, minI, mostT]
      refine ⟨some (.lst [.int 0], .own), ?_⟩
      by_cases h : mostT one two f 0 0 < f 0 0
      · rw [if_pos h]; simp [lfIn, vE_var', vE_cst', vE_bin', vE_cmp', vE_chain', vE_and', vE_or', vE_not', vE_neg', vE_ife', vE_tup', vE_lst', vE_dic', vE_ix', vE_sl', vE_rev', vE_call', vE_bi', vE_isi', vE_me', vEs_nil', vEs_cons', vAnd_nil', vAnd_cons', vIfs_nil', vIfs_cons', vOr_nil', vOr_cons', vPath_var', vPath_ix', vS_set', vS_setT', vS_setX', vS_aug', vS_ex', vS_ret', vS_retN', vS_ifs', vS_whl', vS_for', vS_brk', vS_cnt', vS_pas', vS_rais', vS_tryA', vSs_nil', vSs_cons', vT', lcT', unemb, unembs, setV, isVar, retV, putV, putVs, addV, subV, mulV, modV, fdivV, powV, ltV, leV, truV, isiV, lenV, intV, itemsV, tupleV, listV, rdo, V.imm, V.imms, mk, okS, cao, isApp, isLV, isNonV, tyb, eqV_str, eqV_int, eqV_bl, eqV_non, wipeV, isNop, toI, recvV, b0, c0, ti, ri, hm, h, rowD]
      · rw [if_neg h]; simp [lfIn, vE_var', vE_cst', vE_bin', vE_cmp', vE_chain', vE_and', vE_or', vE_not', vE_neg', vE_ife', vE_tup', vE_lst', vE_dic', vE_ix', vE_sl', vE_rev', vE_call', vE_bi', vE_isi', vE_me', vEs_nil', vEs_cons', vAnd_nil', vAnd_cons', vIfs_nil', vIfs_cons', vOr_nil', vOr_cons', vPath_var', vPath_ix', vS_set', vS_setT', vS_setX', vS_aug', vS_ex', vS_ret', vS_retN', vS_ifs', vS_whl', vS_for', vS_brk', vS_cnt', vS_pas', vS_rais', vS_tryA', vSs_nil', vSs_cons', vT', lcT', unemb, unembs, setV, isVar, retV, putV, putVs, addV, subV, mulV, modV, fdivV, powV, ltV, leV, truV, isiV, lenV, intV, itemsV, tupleV, listV, rdo, V.imm, V.imms, mk, okS, cao, isApp, isLV, isNonV, tyb, eqV_str, eqV_int, eqV_bl, eqV_non, wipeV, isNop, toI, recvV, b0, c0, ti, ri, hm, h, rowD]
    | succ j =>
      have h2 : (0 : Int) < (j : Int) + 1 := by omega
      have h3 : ¬ (j : Int) + 1 = 0 := by omega
      have a2 := rowT_ix (f := f 0) (m := two.length) (j := j) (by omega)
      have a3 := rowT_ix1 (f := f 0) (m := two.length) (j := j) hj
      have hm : minV [.lst [.int (f 0 j + 1)]] = some (.int (mostT one two f 0 (j + 1))) := by simp [minV, intsV, minI, mostT]
      refine ⟨some (.lst [.int (f 0 j + 1)], .own), ?_⟩
      by_cases h : mostT one two f 0 (j + 1) < f 0 (j + 1)
      · rw [if_pos h]; simp [lfIn, vE_var', vE_cst', vE_bin', vE_cmp', vE_chain', vE_and', vE_or', vE_not', vE_neg', vE_ife', vE_tup', vE_lst', vE_dic', vE_ix', vE_sl', vE_rev', vE_call', vE_bi', vE_isi', vE_me', vEs_nil', vEs_cons', vAnd_nil', vAnd_cons', vIfs_nil', vIfs_cons', vOr_nil', vOr_cons', vPath_var', vPath_ix', vS_set', vS_setT', vS_setX', vS_aug', vS_ex', vS_ret', vS_retN', vS_ifs', vS_whl', vS_for', vS_brk', vS_cnt', vS_pas', vS_rais', vS_tryA', vSs_nil', vSs_cons', vT', lcT', unemb, unembs, setV, isVar, retV, putV, putVs, addV, subV, mulV, modV, fdivV, powV, ltV, leV, truV, isiV, lenV, intV, itemsV, tupleV, listV, rdo, V.imm, V.imms, mk, okS, cao, isApp, isLV, isNonV, tyb, eqV_str, eqV_int, eqV_bl, eqV_non, wipeV, isNop, toI, recvV, b0, c0, a2, a3, ti, ri, hm, h, h2, h3, rowD]
      · rw [if_neg h]; simp [lfIn, vE_var', vE_cst', vE_bin', vE_cmp', vE_chain', vE_and', vE_or', vE_not', vE_neg', vE_ife', vE_tup', vE_lst', vE_dic', vE_ix', vE_sl', vE_rev', vE_call', vE_bi', vE_isi', vE_me', vEs_nil', vEs_cons', vAnd_nil', vAnd_cons', vIfs_nil', vIfs_cons', vOr_nil', vOr_cons', vPath_var', vPath_ix', vS_set', vS_setT', vS_setX', vS_aug', vS_ex', vS_ret', vS_retN', vS_ifs', vS_whl', vS_for', vS_brk', vS_cnt', vS_pas', vS_rais', vS_tryA', vSs_nil', vSs_cons', vT', lcT', unemb, unembs, setV, isVar, retV, putV, putVs, addV, subV, mulV, modV, fdivV, powV, ltV, leV, truV, isiV, lenV, intV, itemsV, tupleV, listV, rdo, V.imm, V.imms, mk, okS, cao, isApp, isLV, isNonV, tyb, eqV_str, eqV_int, eqV_bl, eqV_non, wipeV, isNop, toI, recvV, b0, c0, a2, a3, ti, ri, hm, h, h2, h3, rowD]
  | succ i =>
    have g2 : (0 : Int) < (i : Int) + 1 := by omega
    have g3 : ¬ (i : Int) + 1 = 0 := by omega
    have a1 := tupT_ix (f := f) (n := one.length) (m := two.length) (i := i) (by omega)
    have a3 := tupT_ix1 (f := f) (n := one.length) (m := two.length) (i := i) hi
    cases j with
    | zero =>
      have hm : minV [.lst [.int (f i 0 + 1)]] = some (.int (mostT one two f (i + 1) 0)) := by simp [minV, intsV, minI, mostT]
      refine ⟨some (.lst [.int (f i 0 + 1)], .own), ?_⟩
      by_cases h : mostT one two f (i + 1) 0 < f (i + 1) 0
      · rw [if_pos h]; simp [lfIn, vE_var', vE_cst', vE_bin', vE_cmp', vE_chain', vE_and', vE_or', vE_not', vE_neg', vE_ife', vE_tup', vE_lst', vE_dic', vE_ix', vE_sl', vE_rev', vE_call', vE_bi', vE_isi', vE_me', vEs_nil', vEs_cons', vAnd_nil', vAnd_cons', vIfs_nil', vIfs_cons', vOr_nil', vOr_cons', vPath_var', vPath_ix', vS_set', vS_setT', vS_setX', vS_aug', vS_ex', vS_ret', vS_retN', vS_ifs', vS_whl', vS_for', vS_brk', vS_cnt', vS_pas', vS_rais', vS_tryA', vSs_nil', vSs_cons', vT', lcT', unemb, unembs, setV, isVar, retV, putV, putVs, addV, subV, mulV, modV, fdivV, powV, ltV, leV, truV, isiV, lenV, intV, itemsV, tupleV, listV, rdo, V.imm, V.imms, mk, okS, cao, isApp, isLV, isNonV, tyb, eqV_str, eqV_int, eqV_bl, eqV_non, wipeV, isNop, toI, recvV, c0, a1, a3, ti, ri, hm, h, g2, g3, rowD]
      · rw [if_neg h]; simp [lfIn, vE_var', vE_cst', vE_bin', vE_cmp', vE_chain', vE_and', vE_or', vE_not', vE_neg', vE_ife', vE_tup', vE_lst', vE_dic', vE_ix', vE_sl', vE_rev', vE_call', vE_bi', vE_isi', vE_me', vEs_nil', vEs_cons', vAnd_nil', vAnd_cons', vIfs_nil', vIfs_cons', vOr_nil', vOr_cons', vPath_var', vPath_ix', vS_set', vS_setT', vS_setX', vS_aug', vS_ex', vS_ret', vS_retN', vS_ifs', vS_whl', vS_for', vS_brk', vS_cnt', vS_pas', vS_rais', vS_tryA', vSs_nil', vSs_cons', vT', lcT', unemb, unembs, setV, isVar, retV, putV, putVs, addV, subV, mulV, modV, fdivV, powV, ltV, leV, truV, isiV, lenV, intV, itemsV, tupleV, listV, rdo, V.imm, V.imms, mk, okS, cao, isApp, isLV, isNonV, tyb, eqV_str, eqV_int, eqV_bl, eqV_non, wipeV, isNop, toI, recvV, c0, a1, a3, ti, ri, hm, h, g2, g3, rowD]
    | succ j =>
      have h2 : (0 : Int) < (j : Int) + 1 := by omega
      have h4 : ¬ (j : Int) + 1 = 0 := by omega
      have a2 := fun i => rowT_ix1 (f := f i) (m := two.length) (j := j) hj
      have a4 := fun i => rowT_ix (f := f i) (m := two.length) (j := j) (by omega)
      have e1 := ixV_str (List.getElem?_eq_getElem (show i < one.length by omega))
      have e2 := ixV_str (List.getElem?_eq_getElem (show j < two.length by omega))
      by_cases e : one[i] = two[j]
      · have hm : minV [.lst [.int (f i (j + 1) + 1), .int (f (i + 1) j + 1), .int (f i j)]] = some (.int (mostT one two f (i + 1) (j + 1))) := by
          simp only [minV, intsV, mostT]
          rw [minI3, List.getElem?_eq_getElem (show i < one.length by omega), List.getElem?_eq_getElem (show j < two.length by omega), e, if_pos rfl]
          congr 2; omega
        refine ⟨some (.lst [.int (f i (j + 1) + 1), .int (f (i + 1) j + 1), .int (f i j)], .own), ?_⟩
        by_cases h : mostT one two f (i + 1) (j + 1) < f (i + 1) (j + 1)
        · rw [if_pos h]; simp [lfIn, vE_var', vE_cst', vE_bin', vE_cmp', vE_chain', vE_and', vE_or', vE_not', vE_neg', vE_ife', vE_tup', vE_lst', vE_dic', vE_ix', vE_sl', vE_rev', vE_call', vE_bi', vE_isi', vE_me', vEs_nil', vEs_cons', vAnd_nil', vAnd_cons', vIfs_nil', vIfs_cons', vOr_nil', vOr_cons', vPath_var', vPath_ix', vS_set', vS_setT', vS_setX', vS_aug', vS_ex', vS_ret', vS_retN', vS_ifs', vS_whl', vS_for', vS_brk', vS_cnt', vS_pas', vS_rais', vS_tryA', vSs_nil', vSs_cons', vT', lcT', unemb, unembs, setV, isVar, retV, putV, putVs, addV, subV, mulV, modV, fdivV, powV, ltV, leV, truV, isiV, lenV, intV, itemsV, tupleV, listV, rdo, V.imm, V.imms, mk, okS, cao, isApp, isLV, isNonV, tyb, eqV_str, eqV_int, eqV_bl, eqV_non, wipeV, isNop, toI, recvV, h2, h4, g2, g3, a1, a2, a3, a4, e1, e2, e, ti, ri, vPath_var', appV, wrV, putP, killV, hm, h, rowD]
        · rw [if_neg h]; simp [lfIn, vE_var', vE_cst', vE_bin', vE_cmp', vE_chain', vE_and', vE_or', vE_not', vE_neg', vE_ife', vE_tup', vE_lst', vE_dic', vE_ix', vE_sl', vE_rev', vE_call', vE_bi', vE_isi', vE_me', vEs_nil', vEs_cons', vAnd_nil', vAnd_cons', vIfs_nil', vIfs_cons', vOr_nil', vOr_cons', vPath_var', vPath_ix', vS_set', vS_setT', vS_setX', vS_aug', vS_ex', vS_ret', vS_retN', vS_ifs', vS_whl', vS_for', vS_brk', vS_cnt', vS_pas', vS_rais', vS_tryA', vSs_nil', vSs_cons', vT', lcT', unemb, unembs, setV, isVar, retV, putV, putVs, addV, subV, mulV, modV, fdivV, powV, ltV, leV, truV, isiV, lenV, intV, itemsV, tupleV, listV, rdo, V.imm, V.imms, mk, okS, cao, isApp, isLV, isNonV, tyb, eqV_str, eqV_int, eqV_bl, eqV_non, wipeV, isNop, toI, recvV, h2, h4, g2, g3, a1, a2, a3, a4, e1, e2, e, ti, ri, vPath_var', appV, wrV, putP, killV, hm, h, rowD]
      · have hm : minV [.lst [.int (f i (j + 1) + 1), .int (f (i + 1) j + 1), .int (f i j + 1)]] = some (.int (mostT one two f (i + 1) (j + 1))) := by
          simp only [minV, intsV, mostT]
          rw [minI3, List.getElem?_eq_getElem (show i < one.length by omega), List.getElem?_eq_getElem (show j < two.length by omega), if_neg (by simpa using e)]
        refine ⟨some (.lst [.int (f i (j + 1) + 1), .int (f (i + 1) j + 1), .int (f i j + 1)], .own), ?_⟩
        by_cases h : mostT one two f (i + 1) (j + 1) < f (i + 1) (j + 1)
        · rw [if_pos h]; simp [lfIn, vE_var', vE_cst', vE_bin', vE_cmp', vE_chain', vE_and', vE_or', vE_not', vE_neg', vE_ife', vE_tup', vE_lst', vE_dic', vE_ix', vE_sl', vE_rev', vE_call', vE_bi', vE_isi', vE_me', vEs_nil', vEs_cons', vAnd_nil', vAnd_cons', vIfs_nil', vIfs_cons', vOr_nil', vOr_cons', vPath_var', vPath_ix', vS_set', vS_setT', vS_setX', vS_aug', vS_ex', vS_ret', vS_retN', vS_ifs', vS_whl', vS_for', vS_brk', vS_cnt', vS_pas', vS_rais', vS_tryA', vSs_nil', vSs_cons', vT', lcT', unemb, unembs, setV, isVar, retV, putV, putVs, addV, subV, mulV, modV, fdivV, powV, ltV, leV, truV, isiV, lenV, intV, itemsV, tupleV, listV, rdo, V.imm, V.imms, mk, okS, cao, isApp, isLV, isNonV, tyb, eqV_str, eqV_int, eqV_bl, eqV_non, wipeV, isNop, toI, recvV, h2, h4, g2, g3, a1, a2, a3, a4, e1, e2, e, ti, ri, vPath_var', appV, wrV, putP, killV, hm, h, rowD]
        · rw [if_neg h]; simp [lfIn, vE_var', vE_cst', vE_bin', vE_cmp', vE_chain', vE_and', vE_or', vE_not', vE_neg', vE_ife', vE_tup', vE_lst', vE_dic', vE_ix', vE_sl', vE_rev', vE_call', vE_bi', vE_isi', vE_me', vEs_nil', vEs_cons', vAnd_nil', vAnd_cons', vIfs_nil', vIfs_cons', vOr_nil', vOr_cons', vPath_var', vPath_ix', vS_set', vS_setT', vS_setX', vS_aug', vS_ex', vS_ret', vS_retN', vS_ifs', vS_whl', vS_for', vS_brk', vS_cnt', vS_pas', vS_rais', vS_tryA', vSs_nil', vSs_cons', vT', lcT', unemb, unembs, setV, isVar, retV, putV, putVs, addV, subV, mulV, modV, fdivV, powV, ltV, leV, truV, isiV, lenV, intV, itemsV, tupleV, listV, rdo, V.imm, V.imms, mk, okS, cao, isApp, isLV, isNonV, tyb, eqV_str, eqV_int, eqV_bl, eqV_non, wipeV, isNop, toI, recvV, h2, h4, g2, g3, a1, a2, a3, a4, e1, e2, e, ti, ri, vPath_var', appV, wrV, putP, killV, hm, h, rowD]
def lfMid : List S := [.for (.var 7) (.rng [(.bin .add (.bi .len [(.var 1)]) (.cst (.int (1))))]) lfIn]
theorem rng_items {n i : Nat} {x : VO} (h : (((List.range n).map fun k : Nat => V.int (k : Int)).map fun x => (x, Ow.own))[i]? = some x) : i < n ∧ x = (.int (i : Int), .own) := map_range_get h
/-- the law's look at a table -/
theorem lf_check {C : VCtx} {σ : Sg} {one two : List Nat} {least : Int} {f : Nat → Nat → Int} {r : List V} {e0 : Option VO} (h1 : one.length ≤ 100) (h2 : two.length ≤ 100) {c d : Option VO} :
    ∃ v, vSs C [.for (.var 6) (.rng [(.bin .add (.bi .len [(.var 0)]) (.cst (.int (1))))]) lfMid, .ret (.ife (.cmp .ge (.ix (.ix (.var 3) (.neg (.cst (.int (1))))) (.neg (.cst (.int (1))))) (.var 2)) (.cst (.non)) (.tup [(.cst (.str [102, 97, 114]))]))]
      (lfE one two least (tupT f one.length two.length) (some (.tup r, .own)) none c d e0) σ = .ret (v, .own) σ ∧ Res one two f least v := by
  have args : ∀ (i : Nat) (w : List Nat) (ρ : VEnv) (o : Ow), ρ[i]? = some (some (.str w, o)) → vEs C [(.bin .add (.bi .len [(.var i)]) (.cst (.int (1))))] ρ σ = .ok [(.int ((w.length + 1 : Nat) : Int), .own)] σ := by
    intro i w ρ o h
    simp [vE_var', vE_cst', vE_bin', vE_cmp', vE_chain', vE_and', vE_or', vE_not', vE_neg', vE_ife', vE_tup', vE_lst', vE_dic', vE_ix', vE_sl', vE_rev', vE_call', vE_bi', vE_isi', vE_me', vEs_nil', vEs_cons', vAnd_nil', vAnd_cons', vIfs_nil', vIfs_cons', vOr_nil', vOr_cons', vPath_var', vPath_ix', vS_set', vS_setT', vS_setX', vS_aug', vS_ex', vS_ret', vS_retN', vS_ifs', vS_whl', vS_for', vS_brk', vS_cnt', vS_pas', vS_rais', vS_tryA', vSs_nil', vSs_cons', vT', lcT', unemb, unembs, setV, isVar, retV, putV, putVs, addV, subV, mulV, modV, fdivV, powV, ltV, leV, truV, isiV, lenV, intV, itemsV, tupleV, listV, rdo, V.imm, V.imms, mk, okS, cao, isApp, isLV, isNonV, tyb, eqV_str, eqV_int, eqV_bl, eqV_non, wipeV, isNop, toI, recvV, h]
  have hloop := pure_for (body := fun x ρ σ => match putV (.var 6) x ρ with | some ρ => vSs C lfMid ρ σ | none => .bad) (items := ((List.range (one.length + 1)).map fun k : Nat => V.int (k : Int)).map fun x => (x, Ow.own)) (σ := σ) (ρ := lfE one two least (tupT f one.length two.length) (some (.tup r, .own)) none c d e0)
    (fun i ρ => (∃ c d e, ρ = lfE one two least (tupT f one.length two.length) (some (.tup r, .own)) none c d e) ∧ ∀ p q, p < i → p ≤ one.length → q ≤ two.length → ¬ Bad one two f p q) (fun v => ∃ i j, i ≤ one.length ∧ j ≤ two.length ∧ Bad one two f i j ∧ (∀ a b, a ≤ one.length → b ≤ two.length → (a < i ∨ (a = i ∧ b < j)) → ¬ Bad one two f a b) ∧ v = rowD i j)
    (fun i x ρ hx ⟨⟨c, d, e0, e⟩, hn⟩ => by
      obtain ⟨hi, rfl⟩ := rng_items hx
      have hi : i ≤ one.length := by omega
      have hin := pure_for (body := fun x ρ σ => match putV (.var 7) x ρ with | some ρ => vSs C lfIn ρ σ | none => .bad) (items := ((List.range (two.length + 1)).map fun k : Nat => V.int (k : Int)).map fun x => (x, Ow.own)) (σ := σ) (ρ := lfE one two least (tupT f one.length two.length) (some (.tup r, .own)) none (some (.int (i : Int), .own)) d e0)
        (fun j ρ => (∃ d e, ρ = lfE one two least (tupT f one.length two.length) (some (.tup r, .own)) none (some (.int (i : Int), .own)) d e) ∧ ∀ q, q < j → q ≤ two.length → ¬ Bad one two f i q) (fun v => ∃ j, j ≤ two.length ∧ Bad one two f i j ∧ (∀ b, b ≤ two.length → b < j → ¬ Bad one two f i b) ∧ v = rowD i j)
        (fun j x ρ hx ⟨⟨d, e0, e⟩, hn⟩ => by
          obtain ⟨hj, rfl⟩ := rng_items hx
          have hj : j ≤ two.length := by omega
          obtain ⟨e', hb⟩ := lf_in (C := C) (σ := σ) (far := least) (f := f) (r := r) (e := e0) hi hj
          have hp : putV (.var 7) (.int (j : Int), .own) ρ = some (lfE one two least (tupT f one.length two.length) (some (.tup r, .own)) none (some (.int (i : Int), .own)) (some (.int (j : Int), .own)) e0) := by rw [e, putV]; rfl
          rw [hp]
          dsimp only
          rw [hb]
          by_cases hbad : mostT one two f i j < f i j
          · rw [if_pos hbad]
            exact .inr ⟨_, rfl, j, hj, hbad, fun b hb hlt => hn b hlt hb, rfl⟩
          · rw [if_neg hbad]
            refine .inl ⟨_, rfl, ⟨_, _, rfl⟩, fun q hq hq2 => ?_⟩
            by_cases h : q = j
            · subst h; exact hbad
            · exact hn q (by omega) hq2) ⟨⟨d, e0, rfl⟩, fun q hq => by omega⟩
      have hp : putV (.var 6) (.int (i : Int), .own) ρ = some (lfE one two least (tupT f one.length two.length) (some (.tup r, .own)) none (some (.int (i : Int), .own)) d e0) := by rw [e, putV]; rfl
      have hfor := vS_for_rng (C := C) (tg := .var 7) (b := lfIn) (σ := σ) (ρ := lfE one two least (tupT f one.length two.length) (some (.tup r, .own)) none (some (.int (i : Int), .own)) d e0) (args 1 two _ .fz rfl) (rngV_n (by omega))
      rcases hin with ⟨ρ', e', ⟨d', e2, rfl⟩, hn'⟩ | ⟨v, e', j, hj, hb, hm, rfl⟩
      · left
        refine ⟨_, ?_, ⟨some (.int (i : Int), .own), d', e2, rfl⟩, fun p q h1 h2 h3 => ?_⟩
        · rw [hp, lfMid]
          dsimp only
          rw [vSs_nx (hfor.trans e'), vSs_nil]
        · by_cases h : p = i
          · subst h
            refine hn' q ?_ h3
            simp; omega
          · exact hn p q (by omega) h2 h3
      · right
        refine ⟨_, ?_, i, j, hi, hj, hb, fun a b h1 h2 h3 => ?_, rfl⟩
        · rw [hp, lfMid]
          dsimp only
          exact vSs_ret (hfor.trans e')
        · rcases h3 with h3 | ⟨rfl, h3⟩
          · exact hn a b h3 h1 h2
          · exact hm b h2 h3) ⟨⟨c, d, e0, rfl⟩, fun p q h => by omega⟩
  have hfor := vS_for_rng (C := C) (tg := .var 6) (b := lfMid) (σ := σ) (ρ := lfE one two least (tupT f one.length two.length) (some (.tup r, .own)) none c d e0) (args 0 one _ .fz rfl) (rngV_n (by omega))
  rcases hloop with ⟨ρ', e', ⟨c', d', e2, rfl⟩, hn⟩ | ⟨v, e', h⟩
  · refine ⟨if least ≤ f one.length two.length then .non else farD, ?_, .inr ⟨fun i j hi hj => hn i j ?_ hi hj, rfl⟩⟩
    · rw [vSs_nx (hfor.trans e')]
      have ti := @tupT_imm f one.length two.length
      have l1 : ixV (tupT f one.length two.length) (.int (-1)) = some (.tup (rowT (f one.length) two.length)) := by
        unfold tupT; rw [ixV]; refine atD_last ?_; unfold rowsT; rw [List.range_succ, List.map_append, List.getLast?_append]; rfl
      have l2 : ixV (.tup (rowT (f one.length) two.length)) (.int (-1)) = some (.int (f one.length two.length)) := by
        rw [ixV]; refine atD_last ?_; unfold rowT; rw [List.range_succ, List.map_append, List.getLast?_append]; rfl
      have ri := @rowTt_imm (f one.length) two.length
      by_cases h : least ≤ f one.length two.length
      · simp [vE_var', vE_cst', vE_bin', vE_cmp', vE_chain', vE_and', vE_or', vE_not', vE_neg', vE_ife', vE_tup', vE_lst', vE_dic', vE_ix', vE_sl', vE_rev', vE_call', vE_bi', vE_isi', vE_me', vEs_nil', vEs_cons', vAnd_nil', vAnd_cons', vIfs_nil', vIfs_cons', vOr_nil', vOr_cons', vPath_var', vPath_ix', vS_set', vS_setT', vS_setX', vS_aug', vS_ex', vS_ret', vS_retN', vS_ifs', vS_whl', vS_for', vS_brk', vS_cnt', vS_pas', vS_rais', vS_tryA', vSs_nil', vSs_cons', vT', lcT', unemb, unembs, setV, isVar, retV, putV, putVs, addV, subV, mulV, modV, fdivV, powV, ltV, leV, truV, isiV, lenV, intV, itemsV, tupleV, listV, rdo, V.imm, V.imms, mk, okS, cao, isApp, isLV, isNonV, tyb, eqV_str, eqV_int, eqV_bl, eqV_non, wipeV, isNop, toI, recvV, ti, ri, l1, l2, h]
      · simp [vE_var', vE_cst', vE_bin', vE_cmp', vE_chain', vE_and', vE_or', vE_not', vE_neg', vE_ife', vE_tup', vE_lst', vE_dic', vE_ix', vE_sl', vE_rev', vE_call', vE_bi', vE_isi', vE_me', vEs_nil', vEs_cons', vAnd_nil', vAnd_cons', vIfs_nil', vIfs_cons', vOr_nil', vOr_cons', vPath_var', vPath_ix', vS_set', vS_setT', vS_setX', vS_aug', vS_ex', vS_ret', vS_retN', vS_ifs', vS_whl', vS_for', vS_brk', vS_cnt', vS_pas', vS_rais', vS_tryA', vSs_nil', vSs_cons', vT', lcT', unemb, unembs, setV, isVar, retV, putV, putVs, addV, subV, mulV, modV, fdivV, powV, ltV, leV, truV, isiV, lenV, intV, itemsV, tupleV, listV, rdo, V.imm, V.imms, mk, okS, cao, isApp, isLV, isNonV, tyb, eqV_str, eqV_int, eqV_bl, eqV_non, wipeV, isNop, toI, recvV, ti, ri, l1, l2, h, farD]
    · simp; omega
  · exact ⟨v, vSs_ret (hfor.trans e'), .inl h⟩
end KL

set_option linter.all false
set_option maxRecDepth 100000
set_option maxHeartbeats 2000000
namespace KL
open DL
def tupR (R : List (List V)) : V := .tup (R.map .tup)
structure RowsOk (R : List (List V)) : Prop where
  len : R.length ≤ 100
  row : ∀ cs ∈ R, cs.length ≤ 100 ∧ ∀ x ∈ cs, flatV x = true
theorem RowsOk.imms {R : List (List V)} (h : RowsOk R) : V.imms (R.map V.tup) = true := imms_map _ _ fun cs hc => by rw [V.imm]; exact flats_imm (h.row cs hc).2
def formOk (n m : Nat) (R : List (List V)) : Bool := R.length == n + 1 && R.all (rowOk m)
def cellI : V → Int | .int i => i | _ => 0
theorem form_tab {n m : Nat} {R : List (List V)} (h : formOk n m R = true) : ∃ f, tupR R = tupT f n m := by
  unfold formOk at h
  rw [Bool.and_eq_true, List.all_eq_true] at h
  obtain ⟨hl, hr⟩ := h
  have hl : R.length = n + 1 := by simpa using hl
  refine ⟨fun i j => cellI (((R[i]?).getD [])[j]?.getD .non), ?_⟩
  unfold tupR tupT rowsT
  congr 1
  apply List.ext_getElem?
  intro i
  rw [List.getElem?_map, List.getElem?_map]
  by_cases hi : i < n + 1
  · rw [List.getElem?_range hi, List.getElem?_eq_getElem (by omega)]
    simp only [Option.map_some]
    congr 2
    have hro := hr _ (List.getElem_mem (show i < R.length by omega))
    unfold rowOk at hro
    rw [Bool.and_eq_true, List.all_eq_true] at hro
    have hcl : R[i].length = m + 1 := by simpa using hro.1
    unfold rowT
    apply List.ext_getElem?
    intro j
    rw [List.getElem?_map]
    by_cases hj : j < m + 1
    · rw [List.getElem?_range hj, List.getElem?_eq_getElem (by omega)]
      have hw := hro.2 _ (List.getElem_mem (show j < R[i].length by omega))
      simp only [Option.map_some]
      rw [List.getElem?_eq_getElem (show i < R.length by omega)]
      simp only [Option.getD_some]
      rw [List.getElem?_eq_getElem (show j < R[i].length by omega)]
      simp only [Option.getD_some]
      generalize R[i][j] = x at hw
      cases x <;> first | rfl | cases hw
    · have hq : (List.range (m + 1))[j]? = none := List.getElem?_eq_none (by simpa using Nat.le_of_not_lt hj)
      have hq2 : R[i][j]? = none := List.getElem?_eq_none (by omega)
      rw [hq, hq2]; rfl
  · rw [List.getElem?_eq_none (by omega), List.getElem?_eq_none (by simpa using Nat.le_of_not_lt hi)]; rfl
def rowsOf (v : V) : List (List V) := match v with | .tup rs => rs.map (fun r => match r with | .tup cs => cs | _ => []) | _ => []
theorem rowsOf_tupR (R : List (List V)) : rowsOf (tupR R) = R := by
  show (R.map V.tup).map _ = R
  rw [List.map_map]
  exact List.map_id'' (fun _ => rfl) R
def Asked (v : V) : Prop := v = .non ∨ (∃ xs, v = .lst xs) ∨ ∃ R, v = tupR R ∧ RowsOk R
def Told (one two : List Nat) (least : Int) (v F : V) : Prop := (F = form) ∨ ∃ f, v = tupT f one.length two.length ∧ Res one two f least F
theorem far_fault {k : Nat} {σ : Sg} {one two : List Nat} {least : Int} {v : V} (w1 : Word one) (w2 : Word two) (h : Asked v) : ∃ F, cv (k + 3) i_far_fault [.str one, .str two, .int least, v] σ = .ok (F, .own) σ ∧
    ((formOk one.length two.length (rowsOf v) = false ∧ F = form) ∨ ∃ f, v = tupT f one.length two.length ∧ Res one two f least F) := by
  have l1 := w1.le
  have l2 := w2.le
  have k1 : callV xcs kts fns i__law_draw (k + 2) i_look_at_word [.str one] σ = .ok (.non, .own) σ := look_ok w1
  have k2 : callV xcs kts fns i__law_draw (k + 2) i_look_at_word [.str two] σ = .ok (.non, .own) σ := look_ok w2
  have start : ∀ r, vSs (CX (k + 2)) (.ex (.call i_look_at_word [(.var 0)]) :: .ex (.call i_look_at_word [(.var 1)]) :: r) (ffE one two least v none none none none) σ = vSs (CX (k + 2)) r (ffE one two least v none none none none) σ := by
    intro r
    rw [vSs_nx (ρ' := ffE one two least v none none none none) (σ' := σ) (by simp [vE_var', vE_cst', vE_bin', vE_cmp', vE_chain', vE_and', vE_or', vE_not', vE_neg', vE_ife', vE_tup', vE_lst', vE_dic', vE_ix', vE_sl', vE_rev', vE_call', vE_bi', vE_isi', vE_me', vEs_nil', vEs_cons', vAnd_nil', vAnd_cons', vIfs_nil', vIfs_cons', vOr_nil', vOr_cons', vPath_var', vPath_ix', vS_set', vS_setT', vS_setX', vS_aug', vS_ex', vS_ret', vS_retN', vS_ifs', vS_whl', vS_for', vS_brk', vS_cnt', vS_pas', vS_rais', vS_tryA', vSs_nil', vSs_cons', vT', lcT', unemb, unembs, setV, isVar, retV, putV, putVs, addV, subV, mulV, modV, fdivV, powV, ltV, leV, truV, isiV, lenV, intV, itemsV, tupleV, listV, rdo, V.imm, V.imms, mk, okS, cao, isApp, isLV, isNonV, tyb, eqV_str, eqV_int, eqV_bl, eqV_non, wipeV, isNop, toI, recvV, k1])]
    rw [vSs_nx (ρ' := ffE one two least v none none none none) (σ' := σ) (by simp [vE_var', vE_cst', vE_bin', vE_cmp', vE_chain', vE_and', vE_or', vE_not', vE_neg', vE_ife', vE_tup', vE_lst', vE_dic', vE_ix', vE_sl', vE_rev', vE_call', vE_bi', vE_isi', vE_me', vEs_nil', vEs_cons', vAnd_nil', vAnd_cons', vIfs_nil', vIfs_cons', vOr_nil', vOr_cons', vPath_var', vPath_ix', vS_set', vS_setT', vS_setX', vS_aug', vS_ex', vS_ret', vS_retN', vS_ifs', vS_whl', vS_for', vS_brk', vS_cnt', vS_pas', vS_rais', vS_tryA', vSs_nil', vSs_cons', vT', lcT', unemb, unembs, setV, isVar, retV, putV, putVs, addV, subV, mulV, modV, fdivV, powV, ltV, leV, truV, isiV, lenV, intV, itemsV, tupleV, listV, rdo, V.imm, V.imms, mk, okS, cao, isApp, isLV, isNonV, tyb, eqV_str, eqV_int, eqV_bl, eqV_non, wipeV, isNop, toI, recvV, k2])]
  rcases h with rfl | ⟨xs, rfl⟩ | ⟨R, rfl, hR⟩
  · refine ⟨form, cv_ret (fn := f_far_fault) rfl (by decide) rfl ?_, .inl ⟨by simp [formOk, rowsOf], rfl⟩⟩
    rw [f_far_fault]
    show vSs (CX (k + 2)) (.ex (.call i_look_at_word [(.var 0)]) :: .ex (.call i_look_at_word [(.var 1)]) :: _) (ffE one two least .non none none none none) σ = _
    rw [start]
    generalize CX (k + 2) = C
    simp [vE_var', vE_cst', vE_bin', vE_cmp', vE_chain', vE_and', vE_or', vE_not', vE_neg', vE_ife', vE_tup', vE_lst', vE_dic', vE_ix', vE_sl', vE_rev', vE_call', vE_bi', vE_isi', vE_me', vEs_nil', vEs_cons', vAnd_nil', vAnd_cons', vIfs_nil', vIfs_cons', vOr_nil', vOr_cons', vPath_var', vPath_ix', vS_set', vS_setT', vS_setX', vS_aug', vS_ex', vS_ret', vS_retN', vS_ifs', vS_whl', vS_for', vS_brk', vS_cnt', vS_pas', vS_rais', vS_tryA', vSs_nil', vSs_cons', vT', lcT', unemb, unembs, setV, isVar, retV, putV, putVs, addV, subV, mulV, modV, fdivV, powV, ltV, leV, truV, isiV, lenV, intV, itemsV, tupleV, listV, rdo, V.imm, V.imms, mk, okS, cao, isApp, isLV, isNonV, tyb, eqV_str, eqV_int, eqV_bl, eqV_non, wipeV, isNop, toI, recvV, form]
  · refine ⟨form, cv_ret (fn := f_far_fault) rfl (by decide) rfl ?_, .inl ⟨by simp [formOk, rowsOf], rfl⟩⟩
    rw [f_far_fault]
    show vSs (CX (k + 2)) (.ex (.call i_look_at_word [(.var 0)]) :: .ex (.call i_look_at_word [(.var 1)]) :: _) (ffE one two least (.lst xs) none none none none) σ = _
    rw [start]
    generalize CX (k + 2) = C
    simp [vE_var', vE_cst', vE_bin', vE_cmp', vE_chain', vE_and', vE_or', vE_not', vE_neg', vE_ife', vE_tup', vE_lst', vE_dic', vE_ix', vE_sl', vE_rev', vE_call', vE_bi', vE_isi', vE_me', vEs_nil', vEs_cons', vAnd_nil', vAnd_cons', vIfs_nil', vIfs_cons', vOr_nil', vOr_cons', vPath_var', vPath_ix', vS_set', vS_setT', vS_setX', vS_aug', vS_ex', vS_ret', vS_retN', vS_ifs', vS_whl', vS_for', vS_brk', vS_cnt', vS_pas', vS_rais', vS_tryA', vSs_nil', vSs_cons', vT', lcT', unemb, unembs, setV, isVar, retV, putV, putVs, addV, subV, mulV, modV, fdivV, powV, ltV, leV, truV, isiV, lenV, intV, itemsV, tupleV, listV, rdo, V.imm, V.imms, mk, okS, cao, isApp, isLV, isNonV, tyb, eqV_str, eqV_int, eqV_bl, eqV_non, wipeV, isNop, toI, recvV, form]
  · rw [rowsOf_tupR]
    have hl1 : lenV [.str one] = some (.int one.length) := rfl
    have hi := hR.imms
    have hti : (tupR R).imm = true := by unfold tupR; rw [V.imm]; exact hi
    by_cases e : R.length = one.length + 1
    · have hloop := pure_for (body := fun x ρ σ => match putV (.var 4) x ρ with | some ρ => vSs (CX (k + 2)) ffForm ρ σ | none => .bad) (items := (R.map V.tup).map fun x => (x, Ow.own)) (σ := σ) (ρ := ffE one two least (tupR R) none none none none)
        (fun i ρ => (∃ a, ρ = ffE one two least (tupR R) a none none none) ∧ ∀ p cs, p < i → R[p]? = some cs → rowOk two.length cs = true) (fun v => (∃ cs ∈ R, rowOk two.length cs = false) ∧ v = form)
        (fun i x ρ hx ⟨⟨a, e⟩, hn⟩ => by
          obtain ⟨r, hr, rfl⟩ := map_own_get hx
          rw [List.getElem?_map] at hr
          cases q : R[i]? with
          | none => rw [q] at hr; cases hr
          | some cs =>
            rw [q] at hr; cases hr
            have hm := mem_get q
            have hb := ff_form (k := k + 1) (σ := σ) (one := one) (two := two) (far := least) (v := tupR R) (b := none) (c := none) (d := none) (by omega) (by have := (hR.row cs hm).1; omega) (hR.row cs hm).2
            have hp : putV (.var 4) (.tup cs, .own) ρ = some (ffE one two least (tupR R) (some (.tup cs, .own)) none none none) := by rw [e, putV]; rfl
            rw [hp]
            dsimp only
            rw [hb]
            cases hk : rowOk two.length cs with
            | true =>
              rw [if_pos rfl]
              refine .inl ⟨_, rfl, ⟨_, rfl⟩, fun p c' h1 h2 => ?_⟩
              by_cases hpi : p = i
              · subst hpi; rw [q] at h2; cases h2; exact hk
              · exact hn p c' (by omega) h2
            | false => rw [if_neg (by decide)]; exact .inr ⟨_, rfl, ⟨cs, hm, hk⟩, rfl⟩) ⟨⟨none, rfl⟩, fun p cs h => by omega⟩
      have hfor := vS_for_tup (C := CX (k + 2)) (tg := .var 4) (b := ffForm) (σ := σ) (i := 3) (o := .fz) (ρ := ffE one two least (tupR R) none none none none) (xs := R.map V.tup) rfl hi
      have hfirst : vS (CX (k + 2)) (.ifs (.or [(.not (.isi (.var 3) .tuple)), (.cmp .ne (.bi .len [(.var 3)]) (.bin .add (.bi .len [(.var 0)]) (.cst (.int (1)))))]) [.ret (.tup [(.cst (.str [102, 111, 114, 109]))])] []) (ffE one two least (tupR R) none none none none) σ = .nx (ffE one two least (tupR R) none none none none) σ := by
        have e' : (R.length : Int) = (one.length : Int) + 1 := by omega
        generalize CX (k + 2) = C
        have hlen : lenV [tupR R] = some (.int ((one.length : Int) + 1)) := by simp [tupR, lenV, itemsV, e']
        have his : isiV (tupR R) .tuple = some true := rfl
        simp [vE_var', vE_cst', vE_bin', vE_cmp', vE_chain', vE_and', vE_or', vE_not', vE_neg', vE_ife', vE_tup', vE_lst', vE_dic', vE_ix', vE_sl', vE_rev', vE_call', vE_bi', vE_isi', vE_me', vEs_nil', vEs_cons', vAnd_nil', vAnd_cons', vIfs_nil', vIfs_cons', vOr_nil', vOr_cons', vPath_var', vPath_ix', vS_set', vS_setT', vS_setX', vS_aug', vS_ex', vS_ret', vS_retN', vS_ifs', vS_whl', vS_for', vS_brk', vS_cnt', vS_pas', vS_rais', vS_tryA', vSs_nil', vSs_cons', vT', lcT', rdo, hti, his, hlen, hl1, unemb, addV, eqV_int, truV, V.imm]
      rcases hloop with ⟨ρ', e', ⟨a, rfl⟩, hn⟩ | ⟨v, e', ⟨cs, hcm, hck⟩, rfl⟩
      · have hok : formOk one.length two.length R = true := by
          unfold formOk
          rw [Bool.and_eq_true, List.all_eq_true]
          refine ⟨by simpa using e, fun cs hc => ?_⟩
          obtain ⟨p, hp, rfl⟩ := List.mem_iff_getElem.mp hc
          exact hn p _ (by simpa using hp) (List.getElem?_eq_getElem hp)
        obtain ⟨f, hf⟩ := form_tab hok
        obtain ⟨F, q, hres⟩ := ff_check (k := k + 1) (σ := σ) (least := least) (f := f) (a := a) (b := none) (c := none) (d := none) (one := one) (two := two)
        refine ⟨F, cv_ret (fn := f_far_fault) rfl (by decide) rfl ?_, .inr ⟨f, hf, hres⟩⟩
        rw [f_far_fault]
        show vSs (CX (k + 2)) (.ex (.call i_look_at_word [(.var 0)]) :: .ex (.call i_look_at_word [(.var 1)]) :: _) (ffE one two least (tupR R) none none none none) σ = _
        rw [start, vSs_nx hfirst]
        refine (vSs_nx (hfor.trans e')).trans ?_
        rw [hf]
        exact q
      · refine ⟨form, cv_ret (fn := f_far_fault) rfl (by decide) rfl ?_, .inl ⟨?_, rfl⟩⟩
        · rw [f_far_fault]
          show vSs (CX (k + 2)) (.ex (.call i_look_at_word [(.var 0)]) :: .ex (.call i_look_at_word [(.var 1)]) :: _) (ffE one two least (tupR R) none none none none) σ = _
          rw [start, vSs_nx hfirst]
          exact vSs_ret (hfor.trans e')
        · unfold formOk
          rw [Bool.and_eq_false_iff]
          right
          rw [List.all_eq_false]
          exact ⟨cs, hcm, by simp [hck]⟩
    · have e' : ¬ (R.length : Int) = (one.length : Int) + 1 := by omega
      refine ⟨form, cv_ret (fn := f_far_fault) rfl (by decide) rfl ?_, .inl ⟨by unfold formOk; rw [Bool.and_eq_false_iff]; left; simpa using e, rfl⟩⟩
      rw [f_far_fault]
      show vSs (CX (k + 2)) (.ex (.call i_look_at_word [(.var 0)]) :: .ex (.call i_look_at_word [(.var 1)]) :: _) (ffE one two least (tupR R) none none none none) σ = _
      rw [start]
      generalize CX (k + 2) = C
      refine vSs_ret ?_
      have hlen : lenV [tupR R] = some (.int R.length) := by simp [tupR, lenV, itemsV]
      have his : isiV (tupR R) .tuple = some true := rfl
      simp [vE_var', vE_cst', vE_bin', vE_cmp', vE_chain', vE_and', vE_or', vE_not', vE_neg', vE_ife', vE_tup', vE_lst', vE_dic', vE_ix', vE_sl', vE_rev', vE_call', vE_bi', vE_isi', vE_me', vEs_nil', vEs_cons', vAnd_nil', vAnd_cons', vIfs_nil', vIfs_cons', vOr_nil', vOr_cons', vPath_var', vPath_ix', vS_set', vS_setT', vS_setX', vS_aug', vS_ex', vS_ret', vS_retN', vS_ifs', vS_whl', vS_for', vS_brk', vS_cnt', vS_pas', vS_rais', vS_tryA', vSs_nil', vSs_cons', vT', lcT', rdo, hti, his, hlen, hl1, e', unemb, addV, eqV_int, truV, V.imm, V.imms, mk, okS, retV, isVar, form]
end KL

set_option linter.all false
set_option maxRecDepth 100000
set_option maxHeartbeats 2000000
namespace KL
open DL
theorem law_fault {k : Nat} {σ : Sg} {one two : List Nat} {least : Int} {v : V} (l1 : one.length ≤ 24) (l2 : two.length ≤ 24) (h : Asked v) : ∃ F, cv (k + 2) i__law_fault [.str one, .str two, .int least, v] σ = .ok (F, .own) σ ∧
    ((formOk one.length two.length (rowsOf v) = false ∧ F = form) ∨ ∃ f, v = tupT f one.length two.length ∧ Res one two f least F) := by
  rcases h with rfl | ⟨xs, rfl⟩ | ⟨R, rfl, hR⟩
  · refine ⟨form, cv_ret (fn := f__law_fault) rfl (by decide) rfl ?_, .inl ⟨by simp [formOk, rowsOf], rfl⟩⟩
    rw [f__law_fault]
    show vSs (CX (k + 1)) _ (lfE one two least .non none none none none none) σ = _
    generalize CX (k + 1) = C
    simp [vE_var', vE_cst', vE_bin', vE_cmp', vE_chain', vE_and', vE_or', vE_not', vE_neg', vE_ife', vE_tup', vE_lst', vE_dic', vE_ix', vE_sl', vE_rev', vE_call', vE_bi', vE_isi', vE_me', vEs_nil', vEs_cons', vAnd_nil', vAnd_cons', vIfs_nil', vIfs_cons', vOr_nil', vOr_cons', vPath_var', vPath_ix', vS_set', vS_setT', vS_setX', vS_aug', vS_ex', vS_ret', vS_retN', vS_ifs', vS_whl', vS_for', vS_brk', vS_cnt', vS_pas', vS_rais', vS_tryA', vSs_nil', vSs_cons', vT', lcT', unemb, unembs, setV, isVar, retV, putV, putVs, addV, subV, mulV, modV, fdivV, powV, ltV, leV, truV, isiV, lenV, intV, itemsV, tupleV, listV, rdo, V.imm, V.imms, mk, okS, cao, isApp, isLV, isNonV, tyb, eqV_str, eqV_int, eqV_bl, eqV_non, wipeV, isNop, toI, recvV, form]
  · refine ⟨form, cv_ret (fn := f__law_fault) rfl (by decide) rfl ?_, .inl ⟨by simp [formOk, rowsOf], rfl⟩⟩
    rw [f__law_fault]
    show vSs (CX (k + 1)) _ (lfE one two least (.lst xs) none none none none none) σ = _
    generalize CX (k + 1) = C
    simp [vE_var', vE_cst', vE_bin', vE_cmp', vE_chain', vE_and', vE_or', vE_not', vE_neg', vE_ife', vE_tup', vE_lst', vE_dic', vE_ix', vE_sl', vE_rev', vE_call', vE_bi', vE_isi', vE_me', vEs_nil', vEs_cons', vAnd_nil', vAnd_cons', vIfs_nil', vIfs_cons', vOr_nil', vOr_cons', vPath_var', vPath_ix', vS_set', vS_setT', vS_setX', vS_aug', vS_ex', vS_ret', vS_retN', vS_ifs', vS_whl', vS_for', vS_brk', vS_cnt', vS_pas', vS_rais', vS_tryA', vSs_nil', vSs_cons', vT', lcT', unemb, unembs, setV, isVar, retV, putV, putVs, addV, subV, mulV, modV, fdivV, powV, ltV, leV, truV, isiV, lenV, intV, itemsV, tupleV, listV, rdo, V.imm, V.imms, mk, okS, cao, isApp, isLV, isNonV, tyb, eqV_str, eqV_int, eqV_bl, eqV_non, wipeV, isNop, toI, recvV, form]
  · rw [rowsOf_tupR]
    have hl1 : lenV [.str one] = some (.int one.length) := rfl
    have hi := hR.imms
    have hti : (tupR R).imm = true := by unfold tupR; rw [V.imm]; exact hi
    by_cases e : R.length = one.length + 1
    · have hloop := pure_for (body := fun x ρ σ => match putV (.var 4) x ρ with | some ρ => vSs (CX (k + 1)) lfForm ρ σ | none => .bad) (items := (R.map V.tup).map fun x => (x, Ow.own)) (σ := σ) (ρ := lfE one two least (tupR R) none none none none none)
        (fun i ρ => (∃ a, ρ = lfE one two least (tupR R) a none none none none ∧ (0 < i → ∃ r, a = some (.tup r, .own))) ∧ ∀ p cs, p < i → R[p]? = some cs → rowOk two.length cs = true) (fun v => (∃ cs ∈ R, rowOk two.length cs = false) ∧ v = form)
        (fun i x ρ hx ⟨⟨a, e, _⟩, hn⟩ => by
          obtain ⟨r, hr, rfl⟩ := map_own_get hx
          rw [List.getElem?_map] at hr
          cases q : R[i]? with
          | none => rw [q] at hr; cases hr
          | some cs =>
            rw [q] at hr; cases hr
            have hm := mem_get q
            have hb := lf_form (k := k) (σ := σ) (one := one) (two := two) (far := least) (v := tupR R) (b := none) (c := none) (d := none) (e := none) (by omega) (by have := (hR.row cs hm).1; omega) (hR.row cs hm).2
            have hp : putV (.var 4) (.tup cs, .own) ρ = some (lfE one two least (tupR R) (some (.tup cs, .own)) none none none none) := by rw [e, putV]; rfl
            rw [hp]
            dsimp only
            rw [hb]
            cases hk : rowOk two.length cs with
            | true =>
              rw [if_pos rfl]
              refine .inl ⟨_, rfl, ⟨_, rfl, fun _ => ⟨cs, rfl⟩⟩, fun p c' h1 h2 => ?_⟩
              by_cases hpi : p = i
              · subst hpi; rw [q] at h2; cases h2; exact hk
              · exact hn p c' (by omega) h2
            | false => rw [if_neg (by decide)]; exact .inr ⟨_, rfl, ⟨cs, hm, hk⟩, rfl⟩) ⟨⟨none, rfl, fun h => by omega⟩, fun p cs h => by omega⟩
      have hfor := vS_for_tup (C := CX (k + 1)) (tg := .var 4) (b := lfForm) (σ := σ) (i := 3) (o := .fz) (ρ := lfE one two least (tupR R) none none none none none) (xs := R.map V.tup) rfl hi
      have hfirst : vS (CX (k + 1)) (.ifs (.or [(.not (.isi (.var 3) .tuple)), (.cmp .ne (.bi .len [(.var 3)]) (.bin .add (.bi .len [(.var 0)]) (.cst (.int (1)))))]) [.ret (.tup [(.cst (.str [102, 111, 114, 109]))])] []) (lfE one two least (tupR R) none none none none none) σ = .nx (lfE one two least (tupR R) none none none none none) σ := by
        have e' : (R.length : Int) = (one.length : Int) + 1 := by omega
        generalize CX (k + 1) = C
        have hlen : lenV [tupR R] = some (.int ((one.length : Int) + 1)) := by simp [tupR, lenV, itemsV, e']
        have his : isiV (tupR R) .tuple = some true := rfl
        simp [vE_var', vE_cst', vE_bin', vE_cmp', vE_chain', vE_and', vE_or', vE_not', vE_neg', vE_ife', vE_tup', vE_lst', vE_dic', vE_ix', vE_sl', vE_rev', vE_call', vE_bi', vE_isi', vE_me', vEs_nil', vEs_cons', vAnd_nil', vAnd_cons', vIfs_nil', vIfs_cons', vOr_nil', vOr_cons', vPath_var', vPath_ix', vS_set', vS_setT', vS_setX', vS_aug', vS_ex', vS_ret', vS_retN', vS_ifs', vS_whl', vS_for', vS_brk', vS_cnt', vS_pas', vS_rais', vS_tryA', vSs_nil', vSs_cons', vT', lcT', rdo, hti, his, hlen, hl1, unemb, addV, eqV_int, truV, V.imm]
      rcases hloop with ⟨ρ', e', ⟨a, rfl, ha⟩, hn⟩ | ⟨v, e', ⟨cs, hcm, hck⟩, rfl⟩
      · have hok : formOk one.length two.length R = true := by
          unfold formOk
          rw [Bool.and_eq_true, List.all_eq_true]
          refine ⟨by simpa using e, fun cs hc => ?_⟩
          obtain ⟨p, hp, rfl⟩ := List.mem_iff_getElem.mp hc
          exact hn p _ (by simpa using hp) (List.getElem?_eq_getElem hp)
        obtain ⟨f, hf⟩ := form_tab hok
        obtain ⟨r, rfl⟩ := ha (by simp; omega)
        obtain ⟨F, q, hres⟩ := lf_check (C := CX (k + 1)) (σ := σ) (least := least) (f := f) (r := r) (e0 := none) (c := none) (d := none) (one := one) (two := two) (by omega) (by omega)
        refine ⟨F, cv_ret (fn := f__law_fault) rfl (by decide) rfl ?_, .inr ⟨f, hf, hres⟩⟩
        rw [f__law_fault]
        show vSs (CX (k + 1)) _ (lfE one two least (tupR R) none none none none none) σ = _
        rw [vSs_nx hfirst]
        refine (vSs_nx (hfor.trans e')).trans ?_
        rw [hf]
        exact q
      · refine ⟨form, cv_ret (fn := f__law_fault) rfl (by decide) rfl ?_, .inl ⟨?_, rfl⟩⟩
        · rw [f__law_fault]
          show vSs (CX (k + 1)) _ (lfE one two least (tupR R) none none none none none) σ = _
          rw [vSs_nx hfirst]
          exact vSs_ret (hfor.trans e')
        · unfold formOk
          rw [Bool.and_eq_false_iff]
          right
          rw [List.all_eq_false]
          exact ⟨cs, hcm, by simp [hck]⟩
    · have e' : ¬ (R.length : Int) = (one.length : Int) + 1 := by omega
      refine ⟨form, cv_ret (fn := f__law_fault) rfl (by decide) rfl ?_, .inl ⟨by unfold formOk; rw [Bool.and_eq_false_iff]; left; simpa using e, rfl⟩⟩
      rw [f__law_fault]
      show vSs (CX (k + 1)) _ (lfE one two least (tupR R) none none none none none) σ = _
      generalize CX (k + 1) = C
      refine vSs_ret ?_
      have hlen : lenV [tupR R] = some (.int R.length) := by simp [tupR, lenV, itemsV]
      have his : isiV (tupR R) .tuple = some true := rfl
      simp [vE_var', vE_cst', vE_bin', vE_cmp', vE_chain', vE_and', vE_or', vE_not', vE_neg', vE_ife', vE_tup', vE_lst', vE_dic', vE_ix', vE_sl', vE_rev', vE_call', vE_bi', vE_isi', vE_me', vEs_nil', vEs_cons', vAnd_nil', vAnd_cons', vIfs_nil', vIfs_cons', vOr_nil', vOr_cons', vPath_var', vPath_ix', vS_set', vS_setT', vS_setX', vS_aug', vS_ex', vS_ret', vS_retN', vS_ifs', vS_whl', vS_for', vS_brk', vS_cnt', vS_pas', vS_rais', vS_tryA', vSs_nil', vSs_cons', vT', lcT', rdo, hti, his, hlen, hl1, e', unemb, addV, eqV_int, truV, V.imm, V.imms, mk, okS, retV, isVar, form]
end KL

set_option linter.all false
set_option maxRecDepth 100000
set_option maxHeartbeats 2000000
namespace KL
open DL
open K58 (Rd Al dg Fd fd0 fdL fdR fdS fd_zero fd_end)
theorem tupT_R (f : Nat → Nat → Int) (n m : Nat) : tupT f n m = tupR ((List.range (n + 1)).map fun i => rowT (f i) m) := by
  unfold tupT rowsT tupR
  rw [List.map_map]; rfl
theorem tupT_rows {f : Nat → Nat → Int} {n m : Nat} (h1 : n ≤ 24) (h2 : m ≤ 24) : RowsOk ((List.range (n + 1)).map fun i => rowT (f i) m) := by
  refine ⟨by simp; omega, fun cs hc => ?_⟩
  rw [List.mem_map] at hc
  obtain ⟨i, _, rfl⟩ := hc
  refine ⟨by rw [rowT_len]; omega, fun x hx => ?_⟩
  unfold rowT at hx
  rw [List.mem_map] at hx
  obtain ⟨j, _, rfl⟩ := hx
  rfl
theorem tupT_asked {f : Nat → Nat → Int} {n m : Nat} (h1 : n ≤ 24) (h2 : m ≤ 24) : Asked (tupT f n m) := .inr (.inr ⟨_, tupT_R f n m, tupT_rows h1 h2⟩)
theorem tupT_form (f : Nat → Nat → Int) (n m : Nat) : formOk n m (rowsOf (tupT f n m)) = true := by
  rw [tupT_R, rowsOf_tupR]
  unfold formOk
  rw [Bool.and_eq_true, List.all_eq_true]
  refine ⟨by simp, fun cs hc => ?_⟩
  rw [List.mem_map] at hc
  obtain ⟨i, _, rfl⟩ := hc
  unfold rowOk
  rw [Bool.and_eq_true, List.all_eq_true]
  refine ⟨by simp [rowT_len], fun x hx => ?_⟩
  unfold rowT at hx
  rw [List.mem_map] at hx
  obtain ⟨j, _, rfl⟩ := hx
  rfl
theorem tupT_inj {f g : Nat → Nat → Int} {n m : Nat} (h : tupT f n m = tupT g n m) {i j : Nat} (hi : i ≤ n) (hj : j ≤ m) : f i j = g i j := by
  have h1 := tupT_ix (f := f) (m := m) hi
  rw [h, tupT_ix hi] at h1
  have h2 := rowT_ix (f := f i) hj
  injection h1 with h1
  rw [← h1, rowT_ix hj] at h2
  injection h2 with h2
  injection h2 with h2
  exact h2.symm
theorem most_congr {one two : List Nat} {f g : Nat → Nat → Int} (h : ∀ i j, i ≤ one.length → j ≤ two.length → f i j = g i j) {i j : Nat} (hi : i ≤ one.length) (hj : j ≤ two.length) : mostT one two f i j = mostT one two g i j := by
  cases i with
  | zero => cases j with
    | zero => rfl
    | succ j => simp only [mostT]; rw [h 0 j (Nat.zero_le _) (by omega)]
  | succ i => cases j with
    | zero => simp only [mostT]; rw [h i 0 (by omega) (Nat.zero_le _)]
    | succ j => simp only [mostT]; rw [h i (j + 1) (by omega) hj, h (i + 1) j hi (by omega), h i j (by omega) (by omega)]
theorem Res.congr {one two : List Nat} {f g : Nat → Nat → Int} {least : Int} {v : V} (h : ∀ i j, i ≤ one.length → j ≤ two.length → f i j = g i j) (r : Res one two f least v) : Res one two g least v := by
  have hb : ∀ i j, i ≤ one.length → j ≤ two.length → (Bad one two f i j ↔ Bad one two g i j) := fun i j hi hj => by
    unfold Bad; rw [most_congr h hi hj, h i j hi hj]
  rcases r with ⟨i, j, hi, hj, b, hm, rfl⟩ | ⟨hn, rfl⟩
  · exact .inl ⟨i, j, hi, hj, (hb i j hi hj).mp b, fun a c ha hc hlt z => hm a c ha hc hlt ((hb a c ha hc).mpr z), rfl⟩
  · exact .inr ⟨fun i j hi hj z => hn i j hi hj ((hb i j hi hj).mpr z), by rw [h _ _ (Nat.le_refl _) (Nat.le_refl _)]⟩
theorem ask {k : Nat} {σ : Sg} {one two : List Nat} {least : Int} {v : V} (w1 : Word one) (w2 : Word two) (h : Asked v) :
    ∃ F, cv (k + 3) i_far_fault [.str one, .str two, .int least, v] σ = .ok (F, .own) σ ∧ cv (k + 3) i__law_fault [.str one, .str two, .int least, v] σ = .ok (F, .own) σ ∧ (F = form ∨ ∃ f, v = tupT f one.length two.length ∧ Res one two f least F) := by
  obtain ⟨F, q1, r1⟩ := far_fault (k := k) (σ := σ) (least := least) w1 w2 h
  obtain ⟨G, q2, r2⟩ := law_fault (k := k + 1) (σ := σ) (least := least) w1.le w2.le h
  have e : F = G := by
    rcases r1 with ⟨a1, rfl⟩ | ⟨f, rfl, a1⟩
    · rcases r2 with ⟨_, rfl⟩ | ⟨g, rfl, _⟩
      · rfl
      · rw [tupT_form] at a1; cases a1
    · rcases r2 with ⟨b1, _⟩ | ⟨g, hg, b1⟩
      · rw [tupT_form] at b1; cases b1
      · exact a1.uniq (b1.congr fun i j hi hj => (tupT_inj hg hi hj).symm)
  subst e
  exact ⟨F, q1, q2, r1.elim (fun z => .inl z.2) .inr⟩
theorem told {k : Nat} {σ : Sg} {one two : List Nat} {least : Int} {f : Nat → Nat → Int} {v : V} (w1 : Word one) (w2 : Word two) (h : Res one two f least v) : cv (k + 3) i_far_fault [.str one, .str two, .int least, tupT f one.length two.length] σ = .ok (v, .own) σ := by
  obtain ⟨F, q1, r1⟩ := far_fault (k := k) (σ := σ) (least := least) w1 w2 (tupT_asked (f := f) w1.le w2.le)
  rcases r1 with ⟨a1, _⟩ | ⟨g, hg, a1⟩
  · rw [tupT_form] at a1; cases a1
  · rw [h.uniq (a1.congr fun i j hi hj => (tupT_inj hg hi hj).symm)]
    exact q1
/-! the distances' table -/
theorem Td_low {one two : List Nat} {c : Int} (hc : 0 ≤ c) : ∀ i j, i ≤ one.length → j ≤ two.length → ¬ Bad one two (fun i j => Td one two i j - c) i j := by
  intro i j hi hj
  unfold Bad
  cases i with
  | zero => cases j with
    | zero => simp only [mostT]; rw [Td_fd, fd0]; omega
    | succ j =>
      simp only [mostT]
      rw [Td_fd, Td_fd, fdR (List.getElem?_eq_getElem (show j < two.length by omega))]; omega
  | succ i => cases j with
    | zero =>
      simp only [mostT]
      rw [Td_fd, Td_fd, fdL (List.getElem?_eq_getElem (show i < one.length by omega))]; omega
    | succ j =>
      simp only [mostT]
      have e1 := List.getElem?_eq_getElem (show i < one.length by omega)
      have e2 := List.getElem?_eq_getElem (show j < two.length by omega)
      rw [Td_fd, Td_fd, Td_fd, Td_fd, fdS e1 e2, e1, e2]
      unfold dg
      simp only [Option.some.injEq]
      split <;> omega
theorem Td_end (one two : List Nat) : Td one two one.length two.length = (Rd one two : Nat) := by
  unfold Td; rw [List.take_length, List.take_length]
theorem Td_res {one two : List Nat} {c least : Int} (hc : 0 ≤ c) : Res one two (fun i j => Td one two i j - c) least (if least ≤ (Rd one two : Nat) - c then .non else farD) := by
  refine .inr ⟨Td_low hc, ?_⟩
  simp only [Td_end]
theorem most_le {one two : List Nat} {f : Nat → Nat → Int} (h : ∀ i j, i ≤ one.length → j ≤ two.length → ¬ Bad one two f i j) : ∀ (s i j : Nat), i + j = s → i ≤ one.length → j ≤ two.length → f i j ≤ (Fd one two i j : Nat) := by
  intro s
  induction s using Nat.strongRecOn with
  | _ s ih =>
    intro i j hs hi hj
    have hb := h i j hi hj
    unfold Bad at hb
    cases i with
    | zero => cases j with
      | zero => simp only [mostT] at hb; rw [fd0]; omega
      | succ j =>
        simp only [mostT] at hb
        have := ih j (by omega) 0 j (by omega) hi (by omega)
        rw [fdR (List.getElem?_eq_getElem (show j < two.length by omega))]; omega
    | succ i => cases j with
      | zero =>
        simp only [mostT] at hb
        have := ih i (by omega) i 0 (by omega) (by omega) hj
        rw [fdL (List.getElem?_eq_getElem (show i < one.length by omega))]; omega
      | succ j =>
        simp only [mostT] at hb
        have e1 := List.getElem?_eq_getElem (show i < one.length by omega)
        have e2 := List.getElem?_eq_getElem (show j < two.length by omega)
        have a1 := ih (i + (j + 1)) (by omega) i (j + 1) rfl (by omega) hj
        have a2 := ih (i + 1 + j) (by omega) (i + 1) j rfl hi (by omega)
        have a3 := ih (i + j) (by omega) i j rfl (by omega) (by omega)
        rw [e1, e2] at hb
        simp only [Option.some.injEq] at hb
        rw [fdS e1 e2]
        unfold dg
        split at hb <;> split <;> omega
/-- what a table that is taken tells is never more than the distance -/
theorem res_le {one two : List Nat} {f : Nat → Nat → Int} {least : Int} (h : Res one two f least .non) : least ≤ (Rd one two : Nat) := by
  rcases h with ⟨i, j, _, _, _, _, e⟩ | ⟨hn, e⟩
  · cases e
  · have := most_le hn (one.length + two.length) one.length two.length rfl (Nat.le_refl _) (Nat.le_refl _)
    rw [fd_end] at this
    split at e
    · omega
    · cases e
theorem res_pn {one two : List Nat} {f : Nat → Nat → Int} {least : Int} {v : V} (h : Res one two f least v) : pn 1 v = true := by
  rcases h with ⟨i, j, _, _, _, _, rfl⟩ | ⟨_, rfl⟩
  · rfl
  · split <;> rfl
end KL

set_option linter.all false
set_option maxRecDepth 100000
set_option maxHeartbeats 4000000
namespace KL
open DL
open K58 (Rd)
theorem cut_take {α : Type} (xs : List α) (k : Nat) : cut xs none (some (k : Int)) = xs.take k := by
  unfold cut sIx
  dsimp only
  rw [if_neg (by omega), List.drop_zero, Int.toNat_natCast, Nat.sub_zero]
  by_cases h : k ≤ xs.length
  · rw [Nat.min_eq_left h]
  · rw [Nat.min_eq_right (by omega), List.take_of_length_le (Nat.le_refl _), List.take_of_length_le (by omega)]
theorem cut_le {α : Type} (xs : List α) (lo hi : Option Int) : (cut xs lo hi).length ≤ xs.length := by
  unfold cut
  rw [List.length_take, List.length_drop]; omega
theorem alph_runs {c : Nat} (h : c ∈ alph) : c ∈ runs := by
  simp only [alph, List.mem_cons, List.not_mem_nil, or_false] at h
  rcases h with rfl | rfl | rfl | rfl | rfl <;> decide
theorem drawn {k : Nat} {σ : Sg} : ∃ w σ', cv (k + 3) i__law_drawn [.drw] σ = .ok (.str w, .own) σ' ∧ Word w ∧ w.length ≤ 7 := by
  obtain ⟨w, σ', h, h1, h2, h3⟩ := signs_lc (k := k) (σ := σ) (m := 7) (by decide) (by decide)
  refine ⟨w, σ', cv_ret (fn := f__law_drawn) rfl (by decide) rfl ?_, ⟨h1, by omega, fun c hc => alph_runs (h3 c hc)⟩, h2⟩
  have h' : vE (CX (k + 2)) (.lc (.call i__law_pick [(.var 0), (.lst [(.cst (.str [97])), (.cst (.str [98])), (.cst (.str [99])), (.cst (.str [97])), (.cst (.str [90])), (.cst (.str [48]))])]) (.var 1) (.rng [(.bin .add (.cst (.int (1))) (.call i__law_draw [(.var 0), (.cst (.int (7)))]))]) [] [("k", 1)]) [some (.drw, .fz), none] σ = .ok (.lst (w.map fun c => .str [c]), .own) σ' := h
  generalize CX (k + 2) = C at h'
  have hj : joinV (.str []) [.lst (w.map fun c => V.str [c])] = some (.str w) := by
    unfold joinV itemsV
    dsimp only
    rw [strs_one]
    dsimp only
    rw [joinSize_one, if_pos (by rw [okS, decide_eq_true_eq]; omega), join_one]
  simp [f__law_drawn, vE_var', vE_cst', vE_bin', vE_cmp', vE_chain', vE_and', vE_or', vE_not', vE_neg', vE_ife', vE_tup', vE_lst', vE_dic', vE_ix', vE_sl', vE_rev', vE_call', vE_bi', vE_isi', vE_me', vEs_nil', vEs_cons', vAnd_nil', vAnd_cons', vIfs_nil', vIfs_cons', vOr_nil', vOr_cons', vPath_var', vPath_ix', vS_set', vS_setT', vS_setX', vS_aug', vS_ex', vS_ret', vS_retN', vS_ifs', vS_whl', vS_for', vS_brk', vS_cnt', vS_pas', vS_rais', vS_tryA', vSs_nil', vSs_cons', vT', lcT', unemb, ↓h', recvV, hj, retV, isVar, V.imm]
abbrev lwE (one two : List Nat) (a2 a6 a7 a9 a10 a11 a12 a13 a14 a15 : Option VO) : VEnv := [none, some (.drw, .own), a2, some (.str one, .own), some (.str two, .own), some (tupT (Td one two) one.length two.length, .own), a6, a7, some (.int (Rd one two : Nat), .own), a9, a10, a11, a12, a13, a14, a15]
def cellE : E := .call i__law_pick [(.var 1), (.lst [(.bin .sub (.ix (.ix (.var 5) (.var 7)) (.var 6)) (.cst (.int (1)))), (.bin .sub (.ix (.ix (.var 5) (.var 7)) (.var 6)) (.cst (.int (1)))), (.bin .add (.ix (.ix (.var 5) (.var 7)) (.var 6)) (.cst (.int (1)))), (.cst (.int (0))), (.cst (.non)), (.cst (.bl true)), (.bin .sub (.ix (.ix (.var 5) (.var 7)) (.var 6)) (.cst (.int (5))))])]
def rowE : E := .bin .add (.bin .add (.sl (.ix (.var 5) (.var 7)) .nop (.var 6)) (.tup [(.var 10)])) (.sl (.ix (.var 5) (.var 7)) (.bin .add (.var 6) (.cst (.int (1)))) .nop)
def valE : E := .call i__law_pick [(.var 1), (.lst [(.bin .add (.bin .add (.sl (.var 5) .nop (.var 7)) (.tup [(.var 11)])) (.sl (.var 5) (.bin .add (.var 7) (.cst (.int (1)))) .nop)), (.bin .add (.bin .add (.sl (.var 5) .nop (.var 7)) (.tup [(.var 11)])) (.sl (.var 5) (.bin .add (.var 7) (.cst (.int (1)))) .nop)), (.sl (.var 5) .nop (.var 7)), (.bin .add (.bin .add (.sl (.var 5) .nop (.var 7)) (.tup [(.sl (.ix (.var 5) (.var 7)) (.cst (.int (1))) .nop)])) (.sl (.var 5) (.bin .add (.var 7) (.cst (.int (1)))) .nop)), (.bi .list [(.var 5)]), (.cst (.non))])]
theorem cell_ok {k : Nat} {σ : Sg} {one two : List Nat} {i j : Nat} {a2 a9 a10 a11 a12 a13 a14 a15 : Option VO} (hi : i ≤ one.length) (hj : j ≤ two.length) :
    ∃ c σ', vE (CX (k + 2)) cellE (lwE one two a2 (some (.int (j : Int), .own)) (some (.int (i : Int), .own)) a9 a10 a11 a12 a13 a14 a15) σ = .ok (c, .own) σ' ∧ flatV c = true := by
  have ti := @tupT_imm (Td one two) one.length two.length
  have ri := @rowTt_imm (Td one two i) two.length
  have x1 := tupT_ix (f := Td one two) (m := two.length) hi
  have x2 := rowT_ix (f := Td one two i) hj
  obtain ⟨c, σ', hc, q⟩ := pick (k := k) (σ := σ) (xs := [.int (Td one two i j - 1), .int (Td one two i j - 1), .int (Td one two i j + 1), .int 0, .non, .bl true, .int (Td one two i j - 5)]) (by simp) (by simp)
  have hf : flatV c = true := by
    simp only [List.mem_cons, List.not_mem_nil, or_false] at hc
    rcases hc with rfl | rfl | rfl | rfl | rfl | rfl | rfl <;> rfl
  have hci := flat_imm hf
  rw [rdo_imm hci] at q
  refine ⟨c, σ', ?_, hf⟩
  have q' : (CX (k + 2)).call i__law_pick [.drw, .lst [.int (Td one two i j - 1), .int (Td one two i j - 1), .int (Td one two i j + 1), .int 0, .non, .bl true, .int (Td one two i j - 5)]] σ = .ok (c, .own) σ' := q
  generalize CX (k + 2) = C at q'
  simp [cellE, vE_var', vE_cst', vE_bin', vE_cmp', vE_chain', vE_and', vE_or', vE_not', vE_neg', vE_ife', vE_tup', vE_lst', vE_dic', vE_ix', vE_sl', vE_rev', vE_call', vE_bi', vE_isi', vE_me', vEs_nil', vEs_cons', vAnd_nil', vAnd_cons', vIfs_nil', vIfs_cons', vOr_nil', vOr_cons', vPath_var', vPath_ix', vS_set', vS_setT', vS_setX', vS_aug', vS_ex', vS_ret', vS_retN', vS_ifs', vS_whl', vS_for', vS_brk', vS_cnt', vS_pas', vS_rais', vS_tryA', vSs_nil', vSs_cons', vT', lcT', unemb, unembs, setV, isVar, retV, putV, putVs, addV, subV, mulV, modV, fdivV, powV, ltV, leV, truV, isiV, lenV, intV, itemsV, tupleV, listV, rdo, V.imm, V.imms, mk, okS, cao, isApp, isLV, isNonV, tyb, eqV_str, eqV_int, eqV_bl, eqV_non, wipeV, isNop, toI, recvV, ti, ri, x1, x2, q', hci]
theorem row_ok {C : VCtx} {σ : Sg} {one two : List Nat} {i j : Nat} {c : V} {a2 a9 a11 a12 a13 a14 a15 : Option VO} (hi : i ≤ one.length) (hj : j ≤ two.length) (l2 : two.length ≤ 24) (hc : flatV c = true) :
    ∃ cs, vE C rowE (lwE one two a2 (some (.int (j : Int), .own)) (some (.int (i : Int), .own)) a9 (some (c, .own)) a11 a12 a13 a14 a15) σ = .ok (.tup cs, .own) σ ∧ cs.length ≤ 100 ∧ ∀ x ∈ cs, flatV x = true := by
  have ti := @tupT_imm (Td one two) one.length two.length
  have ri := @rowTt_imm (Td one two i) two.length
  have ri2 := @rowT_imms (Td one two i) two.length
  have x1 := tupT_ix (f := Td one two) (m := two.length) hi
  have hci := flat_imm hc
  have fl : ∀ x ∈ rowT (Td one two i) two.length, flatV x = true := fun x hx => by
    unfold rowT at hx; rw [List.mem_map] at hx; obtain ⟨_, _, rfl⟩ := hx; rfl
  have la := cut_le (rowT (Td one two i) two.length) none (some (j : Int))
  have lb := cut_le (rowT (Td one two i) two.length) (some ((j : Int) + 1)) none
  have fa : ∀ x ∈ cut (rowT (Td one two i) two.length) none (some (j : Int)), flatV x = true := fun x hx => fl x (cut_mem' hx)
  have fb : ∀ x ∈ cut (rowT (Td one two i) two.length) (some ((j : Int) + 1)) none, flatV x = true := fun x hx => fl x (cut_mem' hx)
  rw [rowT_len] at la lb
  have ia := flats_imm fa
  have ib := flats_imm fb
  have s1 : slV (.tup (rowT (Td one two i) two.length)) none (some (j : Int)) = some (.tup (cut (rowT (Td one two i) two.length) none (some (j : Int)))) := slV_tup ri2
  have s2 : slV (.tup (rowT (Td one two i) two.length)) (some ((j : Int) + 1)) none = some (.tup (cut (rowT (Td one two i) two.length) (some ((j : Int) + 1)) none)) := slV_tup ri2
  generalize cut (rowT (Td one two i) two.length) none (some (j : Int)) = A at *
  generalize cut (rowT (Td one two i) two.length) (some ((j : Int) + 1)) none = B at *
  have ac : V.imms (A ++ [c]) = true := by rw [imms_all', List.all_append, ← imms_all', ia]; simp [hci]
  refine ⟨A ++ [c] ++ B, ?_, by simp; omega, fun x hx => ?_⟩
  · have o1 : addV (.tup A) (.tup [c]) = some (.tup (A ++ [c])) := by unfold addV; dsimp only; rw [if_pos ⟨ia, by simp [V.imms, hci], by simp [okS]; omega⟩]
    have o2 : addV (.tup (A ++ [c])) (.tup B) = some (.tup (A ++ [c] ++ B)) := by unfold addV; dsimp only; rw [if_pos ⟨ac, ib, by simp [okS]; omega⟩]
    have o3 : addV (.int (j : Int)) (.int 1) = some (.int ((j : Int) + 1)) := rfl
    simp [rowE, vE_var', vE_cst', vE_bin', vE_cmp', vE_chain', vE_and', vE_or', vE_not', vE_neg', vE_ife', vE_tup', vE_lst', vE_dic', vE_ix', vE_sl', vE_rev', vE_call', vE_bi', vE_isi', vE_me', vEs_nil', vEs_cons', vAnd_nil', vAnd_cons', vIfs_nil', vIfs_cons', vOr_nil', vOr_cons', vPath_var', vPath_ix', vS_set', vS_setT', vS_setX', vS_aug', vS_ex', vS_ret', vS_retN', vS_ifs', vS_whl', vS_for', vS_brk', vS_cnt', vS_pas', vS_rais', vS_tryA', vSs_nil', vSs_cons', vT', lcT', unemb, rdo, isNop, toI, mk, okS, ti, ri, x1, s1, s2, o1, o2, o3, V.imm, hci]
  · simp only [List.mem_append, List.mem_singleton] at hx
    rcases hx with (hx | rfl) | hx
    · exact fa x hx
    · exact hc
    · exact fb x hx
theorem val_ok {k : Nat} {σ : Sg} {one two : List Nat} {i j : Nat} {cs : List V} {a2 a9 a10 a12 a13 a14 a15 : Option VO} (hi : i ≤ one.length) (l1 : one.length ≤ 24) (l2 : two.length ≤ 24) (hl : cs.length ≤ 100) (hc : ∀ x ∈ cs, flatV x = true) :
    ∃ v o σ', vE (CX (k + 2)) valE (lwE one two a2 (some (.int (j : Int), .own)) (some (.int (i : Int), .own)) a9 a10 (some (.tup cs, .own)) a12 a13 a14 a15) σ = .ok (v, o) σ' ∧ Asked v := by
  have ti := @tupT_imm (Td one two) one.length two.length
  have ri := @rowTt_imm (Td one two i) two.length
  have ri2 := @rowT_imms (Td one two i) two.length
  have x1 := tupT_ix (f := Td one two) (m := two.length) hi
  have hcs := flats_imm hc
  have hcs' : (V.tup cs).imm = true := by rw [V.imm]; exact hcs
  have hR := tupT_rows (f := Td one two) l1 l2
  have hlen := @rowT_len (Td one two i) two.length
  have hflr : ∀ x ∈ rowT (Td one two i) two.length, flatV x = true := fun x hx => by
    unfold rowT at hx; rw [List.mem_map] at hx; obtain ⟨_, _, rfl⟩ := hx; rfl
  rw [tupT_R] at ti x1
  show ∃ v o σ', vE (CX (k + 2)) valE [none, some (.drw, .own), a2, some (.str one, .own), some (.str two, .own), some (tupT (Td one two) one.length two.length, .own), some (.int (j : Int), .own), some (.int (i : Int), .own), some (.int (Rd one two : Nat), .own), a9, a10, some (.tup cs, .own), a12, a13, a14, a15] σ = .ok (v, o) σ' ∧ Asked v
  rw [tupT_R]
  generalize hR0 : ((List.range (one.length + 1)).map fun i => rowT (Td one two i) two.length) = R at *
  generalize rowT (Td one two i) two.length = row at *
  have ia := hR.imms
  have rows : ∀ lo hi, RowsOk (cut R lo hi) := fun lo hi => ⟨Nat.le_trans (cut_le _ _ _) hR.len, fun c hc => hR.row c (cut_mem' hc)⟩
  have s1 : ∀ lo hi, slV (tupR R) lo hi = some (tupR (cut R lo hi)) := fun lo hi => by unfold tupR; rw [slV_tup ia, cut_map'']
  have s2 : ∀ lo hi, slV (.tup row) lo hi = some (.tup (cut row lo hi)) := fun lo hi => slV_tup ri2
  have im : ∀ lo hi, (tupR (cut R lo hi)).imm = true := fun lo hi => by unfold tupR; rw [V.imm]; exact (rows lo hi).imms
  have hA := fun lo hi => (rows lo hi).len
  have crow : (cut row (some 1) none).length ≤ 100 ∧ ∀ x ∈ cut row (some 1) none, flatV x = true := ⟨Nat.le_trans (cut_le _ _ _) (by omega), fun x hx => hflr x (cut_mem' hx)⟩
  have icr : V.imms (cut row (some 1) none) = true := flats_imm crow.2
  have join : ∀ (c : List V), V.imms c = true → ∀ lo hi lo' hi', addV (tupR (cut R lo hi)) (.tup [.tup c]) = some (tupR (cut R lo hi ++ [c])) ∧ addV (tupR (cut R lo hi ++ [c])) (tupR (cut R lo' hi')) = some (tupR (cut R lo hi ++ [c] ++ cut R lo' hi')) := by
    intro c hc lo hi lo' hi'
    have h1 := hA lo hi
    have h2 := hA lo' hi'
    unfold tupR
    constructor
    · rw [addV_tup (rows lo hi).imms (by simp [V.imms, V.imm, hc]) (by simp; omega)]
      simp
    · rw [addV_tup (by rw [List.map_append]; exact imms_app' (rows lo hi).imms (by simp [V.imms, V.imm, hc])) (rows lo' hi').imms (by simp; omega)]
      simp
  have ok3 : ∀ (c : List V), c.length ≤ 100 → (∀ x ∈ c, flatV x = true) → RowsOk (cut R none (some (i : Int)) ++ [c] ++ cut R (some ((i : Int) + 1)) none) := by
    intro c h1 h2
    have hr := hR.len
    refine ⟨?_, fun z hz => ?_⟩
    · have q : (cut R none (some (i : Int))).length + (cut R (some ((i : Int) + 1)) none).length ≤ R.length + R.length := Nat.add_le_add (cut_le _ _ _) (cut_le _ _ _)
      have q2 : R.length ≤ 25 := by rw [← hR0]; simp; omega
      simp; omega
    · simp only [List.mem_append, List.mem_singleton] at hz
      rcases hz with (hz | rfl) | hz
      · exact (rows _ _).row z hz
      · exact ⟨h1, h2⟩
      · exact (rows _ _).row z hz
  have j1 := join cs hcs
  have j2 := join _ icr
  obtain ⟨v, σ', hv, q⟩ := pick (k := k) (σ := σ) (xs := [tupR (cut R none (some (i : Int)) ++ [cs] ++ cut R (some ((i : Int) + 1)) none), tupR (cut R none (some (i : Int)) ++ [cs] ++ cut R (some ((i : Int) + 1)) none), tupR (cut R none (some (i : Int))), tupR (cut R none (some (i : Int)) ++ [cut row (some 1) none] ++ cut R (some ((i : Int) + 1)) none), .lst (R.map .tup), .non]) (by simp) (by simp)
  have hask : Asked v := by
    simp only [List.mem_cons, List.not_mem_nil, or_false] at hv
    rcases hv with rfl | rfl | rfl | rfl | rfl | rfl
    · exact .inr (.inr ⟨_, rfl, ok3 cs hl hc⟩)
    · exact .inr (.inr ⟨_, rfl, ok3 cs hl hc⟩)
    · exact .inr (.inr ⟨_, rfl, rows _ _⟩)
    · exact .inr (.inr ⟨_, rfl, ok3 _ crow.1 crow.2⟩)
    · exact .inr (.inl ⟨_, rfl⟩)
    · exact .inl rfl
  have o3 : addV (.int (i : Int)) (.int 1) = some (.int ((i : Int) + 1)) := rfl
  have olist : listV [tupR R] = some (.lst (R.map .tup)) := by unfold listV tupR itemsV; dsimp only; rw [if_pos ia]
  have q' : (CX (k + 2)).call i__law_pick [.drw, .lst [tupR (cut R none (some (i : Int)) ++ [cs] ++ cut R (some ((i : Int) + 1)) none), tupR (cut R none (some (i : Int)) ++ [cs] ++ cut R (some ((i : Int) + 1)) none), tupR (cut R none (some (i : Int))), tupR (cut R none (some (i : Int)) ++ [cut row (some 1) none] ++ cut R (some ((i : Int) + 1)) none), .lst (R.map .tup), .non]] σ = .ok (v, rdo .fz v) σ' := q
  generalize CX (k + 2) = C at q'
  have ij1 := (j1 none (some (i : Int)) (some ((i : Int) + 1)) none)
  have ij2 := (j2 none (some (i : Int)) (some ((i : Int) + 1)) none)
  generalize tupR (cut R none (some (i : Int)) ++ [cs] ++ cut R (some ((i : Int) + 1)) none) = O1 at *
  generalize tupR (cut R none (some (i : Int)) ++ [cut row (some 1) none] ++ cut R (some ((i : Int) + 1)) none) = O2 at *
  have s1a := s1 none (some (i : Int))
  have s1b := s1 (some ((i : Int) + 1)) none
  have s2a := s2 (some 1) none
  have ima := im none (some (i : Int))
  have imb := im (some ((i : Int) + 1)) none
  generalize tupR (cut R none (some (i : Int))) = A at *
  generalize tupR (cut R (some ((i : Int) + 1)) none) = B at *
  generalize tupR R = T at *
  refine ⟨v, (cao [(.drw, .own), (.lst [O1, O1, A, O2, .lst (R.map .tup), .non], .own)] (v, rdo .fz v)).2, σ', ?_, hask⟩
  generalize hro : rdo .fz v = ro at q' ⊢
  simp [valE, vE_var', vE_cst', vE_bin', vE_cmp', vE_chain', vE_and', vE_or', vE_not', vE_neg', vE_ife', vE_tup', vE_lst', vE_dic', vE_ix', vE_sl', vE_rev', vE_call', vE_bi', vE_isi', vE_me', vEs_nil', vEs_cons', vAnd_nil', vAnd_cons', vIfs_nil', vIfs_cons', vOr_nil', vOr_cons', vPath_var', vPath_ix', vS_set', vS_setT', vS_setX', vS_aug', vS_ex', vS_ret', vS_retN', vS_ifs', vS_whl', vS_for', vS_brk', vS_cnt', vS_pas', vS_rais', vS_tryA', vSs_nil', vSs_cons', vT', lcT', unemb, rdo, isNop, toI, mk, okS, ti, ri, x1, s1a, s1b, s2a, ij1, ij2, o3, olist, q', V.imm, V.imms, hcs, icr]
  rfl
end KL

set_option linter.all false
set_option maxRecDepth 100000
set_option maxHeartbeats 4000000
namespace KL
open DL
open K58 (Rd)
def p2B : List S := [
      .setT (.tup [.var 7, .var 6]) (.tup [(.call i__law_draw [(.var 1), (.bin .add (.bi .len [(.var 3)]) (.cst (.int (1))))]), (.call i__law_draw [(.var 1), (.bin .add (.bi .len [(.var 4)]) (.cst (.int (1))))])]),
      .set 10 cellE,
      .set 11 rowE,
      .set 12 valE,
      .set 13 (.call i__law_draw [(.var 1), (.cst (.int (9)))]),
      .set 14 (.call i_far_fault [(.var 3), (.var 4), (.var 13), (.var 12)]),
      .ifs (.or [(.not (.call i__law_same [(.var 14), (.call i__law_fault [(.var 3), (.var 4), (.var 13), (.var 12)])])), (.and [(.cmp .is (.var 14) (.cst (.non))), (.cmp .gt (.var 13) (.var 8))])]) [
        .ret (.cst (.bl false))] []]
theorem draw_at {k : Nat} (σ : Sg) (n : Nat) (h : 1 ≤ n) (h2 : n ≤ 1000) : ∃ (v : Nat) (σ' : Sg), callV xcs kts fns i__law_draw (k + 1) i__law_draw [.drw, .int (n : Int)] σ = .ok (.int (v : Int), .own) σ' ∧ v < n := by
  obtain ⟨v0, v1⟩ := drawV_nn σ (n := (n : Int)) (by omega)
  have hd : callV xcs kts fns i__law_draw (k + 1) i__law_draw [.drw, .int (n : Int)] σ = .ok (.int (drawV σ (n : Int)).1, .own) (drawV σ (n : Int)).2 := callV_draw (by omega) (by omega)
  generalize drawV σ (n : Int) = q at *
  obtain ⟨v, σ'⟩ := q
  dsimp only at *
  exact ⟨v.toNat, σ', by rw [hd, Int.toNat_of_nonneg v0], by omega⟩
theorem p2 {k : Nat} {σ : Sg} {one two : List Nat} {a2 a6 a7 a9 a10 a11 a12 a13 a14 a15 : Option VO} (w1 : Word one) (w2 : Word two) (l1 : one.length ≤ 7) (l2 : two.length ≤ 7) :
    ∃ b6 b7 b10 b11 b12 b13 b14 σ', vSs (CX (k + 3)) p2B (lwE one two a2 a6 a7 a9 a10 a11 a12 a13 a14 a15) σ = .nx (lwE one two a2 b6 b7 a9 b10 b11 b12 b13 b14 a15) σ' := by
  obtain ⟨i, σ1, q1, hi⟩ := draw_at (k := k + 2) σ (one.length + 1) (by omega) (by omega)
  obtain ⟨j, σ2, q2, hj⟩ := draw_at (k := k + 2) σ1 (two.length + 1) (by omega) (by omega)
  have c1 : ((one.length + 1 : Nat) : Int) = (one.length : Int) + 1 := by omega
  have c2 : ((two.length + 1 : Nat) : Int) = (two.length : Int) + 1 := by omega
  rw [c1] at q1
  rw [c2] at q2
  replace q1 : callV xcs kts fns i__law_draw (k + 3) i__law_draw [.drw, .int ((one.length : Int) + 1)] σ = .ok (.int (i : Int), .own) σ1 := q1
  replace q2 : callV xcs kts fns i__law_draw (k + 3) i__law_draw [.drw, .int ((two.length : Int) + 1)] σ1 = .ok (.int (j : Int), .own) σ2 := q2
  obtain ⟨c, σ3, q3, hc⟩ := cell_ok (k := k + 1) (σ := σ2) (one := one) (two := two) (i := i) (j := j) (a2 := a2) (a9 := a9) (a10 := a10) (a11 := a11) (a12 := a12) (a13 := a13) (a14 := a14) (a15 := a15) (by omega) (by omega)
  obtain ⟨cs, q4, hl, hcs⟩ := row_ok (C := CX (k + 3)) (σ := σ3) (one := one) (two := two) (i := i) (j := j) (c := c) (a2 := a2) (a9 := a9) (a11 := a11) (a12 := a12) (a13 := a13) (a14 := a14) (a15 := a15) (by omega) (by omega) w2.le hc
  obtain ⟨v, o, σ5, q5, hv⟩ := val_ok (k := k + 1) (σ := σ3) (one := one) (two := two) (i := i) (j := j) (cs := cs) (a2 := a2) (a9 := a9) (a10 := some (c, .own)) (a12 := a12) (a13 := a13) (a14 := a14) (a15 := a15) (by omega) w1.le w2.le hl hcs
  obtain ⟨m, σ6, q6, hm⟩ := draw_at (k := k + 2) σ5 9 (by omega) (by omega)
  obtain ⟨F, q7, q8, hF⟩ := ask (k := k) (σ := σ6) (least := (m : Int)) w1 w2 hv
  have hpn : pn 1 F = true := by
    rcases hF with rfl | ⟨f, _, r⟩
    · rfl
    · exact res_pn r
  have q9 : callV xcs kts fns i__law_draw (k + 3) i__law_same [F, F] σ6 = .ok (.bl true, .own) σ6 := same 1 F (k + 1) hpn
  have q6' : callV xcs kts fns i__law_draw (k + 3) i__law_draw [.drw, .int 9] σ5 = .ok (.int (m : Int), .own) σ6 := q6
  have q7' : callV xcs kts fns i__law_draw (k + 3) i_far_fault [.str one, .str two, .int (m : Int), v] σ6 = .ok (F, .own) σ6 := q7
  have q8' : callV xcs kts fns i__law_draw (k + 3) i__law_fault [.str one, .str two, .int (m : Int), v] σ6 = .ok (F, .own) σ6 := q8
  have hcall : (CX (k + 3)).call = callV xcs kts fns i__law_draw (k + 3) := rfl
  generalize CX (k + 3) = C at *
  have hci := flat_imm hc
  have hic := flats_imm hcs
  have ti := @tupT_imm (Td one two) one.length two.length
  have hFi : F.imm = true := by
    rcases pn_flatS hpn with h | ⟨xs, rfl⟩ | ⟨xs, rfl⟩
    · exact flat_imm h
    · rw [pn_tup] at hpn
      rw [V.imm]; exact flats_imm fun x hx => pn_flat (hpn.2 x hx)
    · rcases hF with z | ⟨f, _, r⟩
      · cases z
      · rcases r with ⟨_, _, _, _, _, _, z⟩ | ⟨_, z⟩
        · cases z
        · split at z <;> cases z
  refine ⟨some (.int (j : Int), .own), some (.int (i : Int), .own), some (c, .own), some (.tup cs, .own), some (v, o), some (.int (m : Int), .own), some (F, .own), σ6, ?_⟩
  rw [p2B]
  rw [vSs_nx (ρ' := lwE one two a2 (some (.int (j : Int), .own)) (some (.int (i : Int), .own)) a9 a10 a11 a12 a13 a14 a15) (σ' := σ2) (by simp [vE_var', vE_cst', vE_bin', vE_cmp', vE_chain', vE_and', vE_or', vE_not', vE_neg', vE_ife', vE_tup', vE_lst', vE_dic', vE_ix', vE_sl', vE_rev', vE_call', vE_bi', vE_isi', vE_me', vEs_nil', vEs_cons', vAnd_nil', vAnd_cons', vIfs_nil', vIfs_cons', vOr_nil', vOr_cons', vPath_var', vPath_ix', vS_set', vS_setT', vS_setX', vS_aug', vS_ex', vS_ret', vS_retN', vS_ifs', vS_whl', vS_for', vS_brk', vS_cnt', vS_pas', vS_rais', vS_tryA', vSs_nil', vSs_cons', vT', lcT', unemb, unembs, setV, isVar, retV, putV, putVs, addV, subV, mulV, modV, fdivV, powV, ltV, leV, truV, isiV, lenV, intV, itemsV, tupleV, listV, rdo, V.imm, V.imms, mk, okS, cao, isApp, isLV, isNonV, tyb, eqV_str, eqV_int, eqV_bl, eqV_non, wipeV, isNop, toI, recvV, hcall, q1, q2])]
  rw [vSs_nx (ρ' := lwE one two a2 (some (.int (j : Int), .own)) (some (.int (i : Int), .own)) a9 (some (c, .own)) a11 a12 a13 a14 a15) (σ' := σ3) (vS_set_of q3)]
  rw [vSs_nx (ρ' := lwE one two a2 (some (.int (j : Int), .own)) (some (.int (i : Int), .own)) a9 (some (c, .own)) (some (.tup cs, .own)) a12 a13 a14 a15) (σ' := σ3) (vS_set_of q4)]
  rw [vSs_nx (ρ' := lwE one two a2 (some (.int (j : Int), .own)) (some (.int (i : Int), .own)) a9 (some (c, .own)) (some (.tup cs, .own)) (some (v, o)) a13 a14 a15) (σ' := σ5) (vS_set_of q5)]
  rw [vSs_nx (ρ' := lwE one two a2 (some (.int (j : Int), .own)) (some (.int (i : Int), .own)) a9 (some (c, .own)) (some (.tup cs, .own)) (some (v, o)) (some (.int (m : Int), .own)) a14 a15) (σ' := σ6) (by simp [vE_var', vE_cst', vE_bin', vE_cmp', vE_chain', vE_and', vE_or', vE_not', vE_neg', vE_ife', vE_tup', vE_lst', vE_dic', vE_ix', vE_sl', vE_rev', vE_call', vE_bi', vE_isi', vE_me', vEs_nil', vEs_cons', vAnd_nil', vAnd_cons', vIfs_nil', vIfs_cons', vOr_nil', vOr_cons', vPath_var', vPath_ix', vS_set', vS_setT', vS_setX', vS_aug', vS_ex', vS_ret', vS_retN', vS_ifs', vS_whl', vS_for', vS_brk', vS_cnt', vS_pas', vS_rais', vS_tryA', vSs_nil', vSs_cons', vT', lcT', unemb, unembs, setV, isVar, retV, putV, putVs, addV, subV, mulV, modV, fdivV, powV, ltV, leV, truV, isiV, lenV, intV, itemsV, tupleV, listV, rdo, V.imm, V.imms, mk, okS, cao, isApp, isLV, isNonV, tyb, eqV_str, eqV_int, eqV_bl, eqV_non, wipeV, isNop, toI, recvV, hcall, q6'])]
  rw [vSs_nx (ρ' := lwE one two a2 (some (.int (j : Int), .own)) (some (.int (i : Int), .own)) a9 (some (c, .own)) (some (.tup cs, .own)) (some (v, o)) (some (.int (m : Int), .own)) (some (F, .own)) a15) (σ' := σ6) (by simp [vE_var', vE_cst', vE_bin', vE_cmp', vE_chain', vE_and', vE_or', vE_not', vE_neg', vE_ife', vE_tup', vE_lst', vE_dic', vE_ix', vE_sl', vE_rev', vE_call', vE_bi', vE_isi', vE_me', vEs_nil', vEs_cons', vAnd_nil', vAnd_cons', vIfs_nil', vIfs_cons', vOr_nil', vOr_cons', vPath_var', vPath_ix', vS_set', vS_setT', vS_setX', vS_aug', vS_ex', vS_ret', vS_retN', vS_ifs', vS_whl', vS_for', vS_brk', vS_cnt', vS_pas', vS_rais', vS_tryA', vSs_nil', vSs_cons', vT', lcT', unemb, unembs, setV, isVar, retV, putV, putVs, addV, subV, mulV, modV, fdivV, powV, ltV, leV, truV, isiV, lenV, intV, itemsV, tupleV, listV, rdo, V.imm, V.imms, mk, okS, cao, isApp, isLV, isNonV, tyb, eqV_str, eqV_int, eqV_bl, eqV_non, wipeV, isNop, toI, recvV, hcall, q7', hFi])]
  by_cases hn : isNonV F = true
  · have : F = .non := by cases F <;> first | rfl | cases hn
    subst this
    have hle : ¬ ((Rd one two : Nat) : Int) < (m : Int) := by
      rcases hF with z | ⟨f, _, r⟩
      · cases z
      · have := res_le r; omega
    have hle' : ¬ Rd one two < m := by omega
    simp [vE_var', vE_cst', vE_bin', vE_cmp', vE_chain', vE_and', vE_or', vE_not', vE_neg', vE_ife', vE_tup', vE_lst', vE_dic', vE_ix', vE_sl', vE_rev', vE_call', vE_bi', vE_isi', vE_me', vEs_nil', vEs_cons', vAnd_nil', vAnd_cons', vIfs_nil', vIfs_cons', vOr_nil', vOr_cons', vPath_var', vPath_ix', vS_set', vS_setT', vS_setX', vS_aug', vS_ex', vS_ret', vS_retN', vS_ifs', vS_whl', vS_for', vS_brk', vS_cnt', vS_pas', vS_rais', vS_tryA', vSs_nil', vSs_cons', vT', lcT', unemb, rdo, hcall, q8', q9, cao, truV, isNonV, ltV, V.imm, hle, hle']
  · have hn' : isNonV F = false := by simpa using hn
    simp [vE_var', vE_cst', vE_bin', vE_cmp', vE_chain', vE_and', vE_or', vE_not', vE_neg', vE_ife', vE_tup', vE_lst', vE_dic', vE_ix', vE_sl', vE_rev', vE_call', vE_bi', vE_isi', vE_me', vEs_nil', vEs_cons', vAnd_nil', vAnd_cons', vIfs_nil', vIfs_cons', vOr_nil', vOr_cons', vPath_var', vPath_ix', vS_set', vS_setT', vS_setX', vS_aug', vS_ex', vS_ret', vS_retN', vS_ifs', vS_whl', vS_for', vS_brk', vS_cnt', vS_pas', vS_rais', vS_tryA', vSs_nil', vSs_cons', vT', lcT', unemb, rdo, hcall, q8', q9, hFi, cao, truV, hn', V.imm, show isNonV .non = true from rfl]
theorem vS_for_lit {C : VCtx} {tg : E} {n : Nat} {b : List S} {ρ : VEnv} {σ : Sg} (hn : n ≤ 1000) : vS C (.for tg (.rng [(.cst (.int (n : Int)))]) b) ρ σ = forV (fun x ρ σ => match putV tg x ρ with | some ρ => vSs C b ρ σ | none => .bad) (((List.range n).map fun k : Nat => V.int (k : Int)).map fun x => (x, Ow.own)) ρ σ :=
  vS_for_rng (xs := [(.int (n : Int), .own)]) (by simp [vE_var', vE_cst', vE_bin', vE_cmp', vE_chain', vE_and', vE_or', vE_not', vE_neg', vE_ife', vE_tup', vE_lst', vE_dic', vE_ix', vE_sl', vE_rev', vE_call', vE_bi', vE_isi', vE_me', vEs_nil', vEs_cons', vAnd_nil', vAnd_cons', vIfs_nil', vIfs_cons', vOr_nil', vOr_cons', vPath_var', vPath_ix', vS_set', vS_setT', vS_setX', vS_aug', vS_ex', vS_ret', vS_retN', vS_ifs', vS_whl', vS_for', vS_brk', vS_cnt', vS_pas', vS_rais', vS_tryA', vSs_nil', vSs_cons', vT', lcT', unemb]) (rngV_n (by omega))
def dueE : E := .bi .tuple [(.lc (.bi .tuple [(.lc (.call i__law_far [(.sl (.var 3) .nop (.var 7)), (.sl (.var 4) .nop (.var 6))]) (.var 6) (.rng [(.bin .add (.bi .len [(.var 4)]) (.cst (.int (1))))]) [] [("to", 6)])]) (.var 7) (.rng [(.bin .add (.bi .len [(.var 3)]) (.cst (.int (1))))]) [] [("at", 7)])]
theorem due_ok {k : Nat} {σ : Sg} {one two : List Nat} {a2 a5 a6 a7 a8 a9 a10 a11 a12 a13 a14 a15 : Option VO} (l1 : one.length ≤ 7) (l2 : two.length ≤ 7) :
    vE (CX (k + 1)) dueE [none, some (.drw, .own), a2, some (.str one, .own), some (.str two, .own), a5, a6, a7, a8, a9, a10, a11, a12, a13, a14, a15] σ = .ok (tupT (Td one two) one.length two.length, .own) σ := by
  refine tup_lc_map (ws := rowsT (Td one two) one.length two.length) ?_ rowsT_imms
  refine vE_lc_map (List.range (one.length + 1)) (fun k : Nat => (V.int (k : Int), .own)) (fun i => .tup (rowT (Td one two i) two.length)) (srcV_rng1 (o := .own) (by simp [vE_var', vE_cst', vE_bin', vE_cmp', vE_chain', vE_and', vE_or', vE_not', vE_neg', vE_ife', vE_tup', vE_lst', vE_dic', vE_ix', vE_sl', vE_rev', vE_call', vE_bi', vE_isi', vE_me', vEs_nil', vEs_cons', vAnd_nil', vAnd_cons', vIfs_nil', vIfs_cons', vOr_nil', vOr_cons', vPath_var', vPath_ix', vS_set', vS_setT', vS_setX', vS_aug', vS_ex', vS_ret', vS_retN', vS_ifs', vS_whl', vS_for', vS_brk', vS_cnt', vS_pas', vS_rais', vS_tryA', vSs_nil', vSs_cons', vT', lcT', unemb, unembs, setV, isVar, retV, putV, putVs, addV, subV, mulV, modV, fdivV, powV, ltV, leV, truV, isiV, lenV, intV, itemsV, tupleV, listV, rdo, V.imm, V.imms, mk, okS, cao, isApp, isLV, isNonV, tyb, eqV_str, eqV_int, eqV_bl, eqV_non, wipeV, isNop, toI, recvV]) (by omega)) (by simp; omega) fun i hi => ?_
  have inner : vE (CX (k + 1)) (.bi .tuple [(.lc (.call i__law_far [(.sl (.var 3) .nop (.var 7)), (.sl (.var 4) .nop (.var 6))]) (.var 6) (.rng [(.bin .add (.bi .len [(.var 4)]) (.cst (.int (1))))]) [] [("to", 6)])]) [none, some (.drw, .own), a2, some (.str one, .own), some (.str two, .own), a5, a6, some (.int (i : Int), .own), a8, a9, a10, a11, a12, a13, a14, a15] σ = .ok (.tup (rowT (Td one two i) two.length), .own) σ := by
    refine tup_lc_map ?_ rowT_imms
    refine vE_lc_map (List.range (two.length + 1)) (fun k : Nat => (V.int (k : Int), .own)) (fun j => .int (Td one two i j)) (srcV_rng1 (o := .own) (by simp [vE_var', vE_cst', vE_bin', vE_cmp', vE_chain', vE_and', vE_or', vE_not', vE_neg', vE_ife', vE_tup', vE_lst', vE_dic', vE_ix', vE_sl', vE_rev', vE_call', vE_bi', vE_isi', vE_me', vEs_nil', vEs_cons', vAnd_nil', vAnd_cons', vIfs_nil', vIfs_cons', vOr_nil', vOr_cons', vPath_var', vPath_ix', vS_set', vS_setT', vS_setX', vS_aug', vS_ex', vS_ret', vS_retN', vS_ifs', vS_whl', vS_for', vS_brk', vS_cnt', vS_pas', vS_rais', vS_tryA', vSs_nil', vSs_cons', vT', lcT', unemb, unembs, setV, isVar, retV, putV, putVs, addV, subV, mulV, modV, fdivV, powV, ltV, leV, truV, isiV, lenV, intV, itemsV, tupleV, listV, rdo, V.imm, V.imms, mk, okS, cao, isApp, isLV, isNonV, tyb, eqV_str, eqV_int, eqV_bl, eqV_non, wipeV, isNop, toI, recvV]) (by omega)) (by simp; omega) fun j hj => ?_
    have hf : (CX (k + 1)).call i__law_far [.str (one.take i), .str (two.take j)] σ = .ok (.int (Td one two i j), .own) σ := law_far (k := k) (σ := σ) (one := one.take i) (two := two.take j) (by simp; omega) (by simp; omega)
    generalize CX (k + 1) = C at hf
    simp [vE_var', vE_cst', vE_bin', vE_cmp', vE_chain', vE_and', vE_or', vE_not', vE_neg', vE_ife', vE_tup', vE_lst', vE_dic', vE_ix', vE_sl', vE_rev', vE_call', vE_bi', vE_isi', vE_me', vEs_nil', vEs_cons', vAnd_nil', vAnd_cons', vIfs_nil', vIfs_cons', vOr_nil', vOr_cons', vPath_var', vPath_ix', vS_set', vS_setT', vS_setX', vS_aug', vS_ex', vS_ret', vS_retN', vS_ifs', vS_whl', vS_for', vS_brk', vS_cnt', vS_pas', vS_rais', vS_tryA', vSs_nil', vSs_cons', vT', lcT', unemb, unembs, setV, isVar, retV, putV, putVs, addV, subV, mulV, modV, fdivV, powV, ltV, leV, truV, isiV, lenV, intV, itemsV, tupleV, listV, rdo, V.imm, V.imms, mk, okS, cao, isApp, isLV, isNonV, tyb, eqV_str, eqV_int, eqV_bl, eqV_non, wipeV, isNop, toI, recvV, slV, cut_take, hf]
  generalize CX (k + 1) = C at inner
  simp [vE_var', vE_cst', vE_bin', vE_cmp', vE_chain', vE_and', vE_or', vE_not', vE_neg', vE_ife', vE_tup', vE_lst', vE_dic', vE_ix', vE_sl', vE_rev', vE_call', vE_bi', vE_isi', vE_me', vEs_nil', vEs_cons', vAnd_nil', vAnd_cons', vIfs_nil', vIfs_cons', vOr_nil', vOr_cons', vPath_var', vPath_ix', vS_set', vS_setT', vS_setX', vS_aug', vS_ex', vS_ret', vS_retN', vS_ifs', vS_whl', vS_for', vS_brk', vS_cnt', vS_pas', vS_rais', vS_tryA', vSs_nil', vSs_cons', vT', lcT', wipeV, putV, ↓inner]
def turnB : List S := [
    .setT (.tup [.var 3, .var 4]) (.tup [(.call i__law_drawn [(.var 1)]), (.call i__law_drawn [(.var 1)])]),
    .set 5 dueE,
    .set 8 (.call i__law_far [(.var 3), (.var 4)]),
    .ifs (.or [(.not (.call i__law_same [(.call i_far_table [(.var 3), (.var 4)]), (.var 5)])), (.cmp .isnot (.call i_far_fault [(.var 3), (.var 4), (.var 8), (.var 5)]) (.cst (.non))), (.not (.call i__law_same [(.call i_far_fault [(.var 3), (.var 4), (.bin .add (.var 8) (.cst (.int (1)))), (.var 5)]), (.tup [(.cst (.str [102, 97, 114]))])]))]) [
      .ret (.cst (.bl false))] [],
    .for (.var 9) (.rng [(.cst (.int (12)))]) p2B,
    .set 15 (.bi .tuple [(.lc (.bi .tuple [(.lc (.bin .sub (.var 10) (.cst (.int (2)))) (.var 10) (.var 11) [] [("cell", 10)])]) (.var 11) (.var 5) [] [("row", 11)])]),
    .ifs (.not (.call i__law_same [(.call i_far_fault [(.var 3), (.var 4), (.bin .sub (.var 8) (.cst (.int (2)))), (.var 15)]), (.cst (.non))])) [
      .ret (.cst (.bl false))] []]
theorem low_ok {C : VCtx} {σ : Sg} {one two : List Nat} {a2 a6 a7 a9 a10 a11 a12 a13 a14 a15 : Option VO} (l1 : one.length ≤ 7) (l2 : two.length ≤ 7) :
    vE C (.bi .tuple [(.lc (.bi .tuple [(.lc (.bin .sub (.var 10) (.cst (.int (2)))) (.var 10) (.var 11) [] [("cell", 10)])]) (.var 11) (.var 5) [] [("row", 11)])]) (lwE one two a2 a6 a7 a9 a10 a11 a12 a13 a14 a15) σ = .ok (tupT (fun i j => Td one two i j - 2) one.length two.length, .own) σ := by
  refine tup_lc_map (ws := rowsT (fun i j => Td one two i j - 2) one.length two.length) ?_ rowsT_imms
  have hs : srcV C (.var 5) (lwE one two a2 a6 a7 a9 a10 a11 a12 a13 a14 a15) σ = .ok ((List.range (one.length + 1)).map fun i => (V.tup (rowT (Td one two i) two.length), Ow.own)) σ := by
    rw [srcV_tup (o := .own) (xs := rowsT (Td one two) one.length two.length) rfl rowsT_imms]
    unfold rowsT
    rw [List.map_map]; rfl
  refine vE_lc_map (List.range (one.length + 1)) (fun i : Nat => (V.tup (rowT (Td one two i) two.length), .own)) (fun i => .tup (rowT (fun j => Td one two i j - 2) two.length)) hs (by simp; omega) fun i hi => ?_
  have inner : vE C (.bi .tuple [(.lc (.bin .sub (.var 10) (.cst (.int (2)))) (.var 10) (.var 11) [] [("cell", 10)])]) (lwE one two a2 a6 a7 a9 a10 (some (.tup (rowT (Td one two i) two.length), .own)) a12 a13 a14 a15) σ = .ok (.tup (rowT (fun j => Td one two i j - 2) two.length), .own) σ := by
    refine tup_lc_map ?_ rowT_imms
    have hs : srcV C (.var 11) (lwE one two a2 a6 a7 a9 a10 (some (.tup (rowT (Td one two i) two.length), .own)) a12 a13 a14 a15) σ = .ok ((List.range (two.length + 1)).map fun j => (V.int (Td one two i j), Ow.own)) σ := by
      rw [srcV_tup (o := .own) (xs := rowT (Td one two i) two.length) rfl rowT_imms]
      unfold rowT
      rw [List.map_map]; rfl
    refine vE_lc_map (List.range (two.length + 1)) (fun j : Nat => (V.int (Td one two i j), .own)) (fun j => .int (Td one two i j - 2)) hs (by simp; omega) fun j hj => ?_
    simp [vE_var', vE_cst', vE_bin', vE_cmp', vE_chain', vE_and', vE_or', vE_not', vE_neg', vE_ife', vE_tup', vE_lst', vE_dic', vE_ix', vE_sl', vE_rev', vE_call', vE_bi', vE_isi', vE_me', vEs_nil', vEs_cons', vAnd_nil', vAnd_cons', vIfs_nil', vIfs_cons', vOr_nil', vOr_cons', vPath_var', vPath_ix', vS_set', vS_setT', vS_setX', vS_aug', vS_ex', vS_ret', vS_retN', vS_ifs', vS_whl', vS_for', vS_brk', vS_cnt', vS_pas', vS_rais', vS_tryA', vSs_nil', vSs_cons', vT', lcT', unemb, unembs, setV, isVar, retV, putV, putVs, addV, subV, mulV, modV, fdivV, powV, ltV, leV, truV, isiV, lenV, intV, itemsV, tupleV, listV, rdo, V.imm, V.imms, mk, okS, cao, isApp, isLV, isNonV, tyb, eqV_str, eqV_int, eqV_bl, eqV_non, wipeV, isNop, toI, recvV]
  simp [vE_var', vE_cst', vE_bin', vE_cmp', vE_chain', vE_and', vE_or', vE_not', vE_neg', vE_ife', vE_tup', vE_lst', vE_dic', vE_ix', vE_sl', vE_rev', vE_call', vE_bi', vE_isi', vE_me', vEs_nil', vEs_cons', vAnd_nil', vAnd_cons', vIfs_nil', vIfs_cons', vOr_nil', vOr_cons', vPath_var', vPath_ix', vS_set', vS_setT', vS_setX', vS_aug', vS_ex', vS_ret', vS_retN', vS_ifs', vS_whl', vS_for', vS_brk', vS_cnt', vS_pas', vS_rais', vS_tryA', vSs_nil', vSs_cons', vT', lcT', wipeV, putV, ↓inner]
end KL

set_option linter.all false
set_option maxRecDepth 100000
set_option maxHeartbeats 4000000
namespace KL
open DL
open K58 (Rd)
abbrev anyE (a2 a3 a4 a5 a6 a7 a8 a9 a10 a11 a12 a13 a14 a15 : Option VO) : VEnv := [none, some (.drw, .own), a2, a3, a4, a5, a6, a7, a8, a9, a10, a11, a12, a13, a14, a15]
def Any (ρ : VEnv) : Prop := ∃ a2 a3 a4 a5 a6 a7 a8 a9 a10 a11 a12 a13 a14 a15, ρ = anyE a2 a3 a4 a5 a6 a7 a8 a9 a10 a11 a12 a13 a14 a15
theorem turn {k : Nat} {σ : Sg} {a2 a3 a4 a5 a6 a7 a8 a9 a10 a11 a12 a13 a14 a15 : Option VO} :
    ∃ ρ' σ', vSs (CX (k + 3)) turnB (anyE a2 a3 a4 a5 a6 a7 a8 a9 a10 a11 a12 a13 a14 a15) σ = .nx ρ' σ' ∧ Any ρ' := by
  obtain ⟨one, σ1, q1, w1, l1⟩ := drawn (k := k) (σ := σ)
  obtain ⟨two, σ2, q2, w2, l2⟩ := drawn (k := k) (σ := σ1)
  have d := due_ok (k := k + 2) (σ := σ2) (one := one) (two := two) (a2 := a2) (a5 := a5) (a6 := a6) (a7 := a7) (a8 := a8) (a9 := a9) (a10 := a10) (a11 := a11) (a12 := a12) (a13 := a13) (a14 := a14) (a15 := a15) l1 l2
  have f1 : callV xcs kts fns i__law_draw (k + 3) i__law_far [.str one, .str two] σ2 = .ok (.int (Rd one two : Nat), .own) σ2 := law_far (k := k + 2) (by omega) (by omega)
  have f2 : callV xcs kts fns i__law_draw (k + 3) i_far_table [.str one, .str two] σ2 = .ok (tupT (Td one two) one.length two.length, .own) σ2 := far_table w1 w2
  have pT : pn 2 (tupT (Td one two) one.length two.length) = true := by
    unfold tupT
    rw [pn_tup]
    refine ⟨by rw [rowsT_len]; omega, fun x hx => ?_⟩
    unfold rowsT at hx
    rw [List.mem_map] at hx
    obtain ⟨i, _, rfl⟩ := hx
    rw [pn_tup]
    refine ⟨by rw [rowT_len]; omega, fun x hx => ?_⟩
    unfold rowT at hx
    rw [List.mem_map] at hx
    obtain ⟨j, _, rfl⟩ := hx
    rfl
  have f3 : callV xcs kts fns i__law_draw (k + 3) i__law_same [tupT (Td one two) one.length two.length, tupT (Td one two) one.length two.length] σ2 = .ok (.bl true, .own) σ2 := same 2 _ k pT
  have t0 : ∀ {least : Int} {s : Sg}, callV xcs kts fns i__law_draw (k + 3) i_far_fault [.str one, .str two, .int least, tupT (Td one two) one.length two.length] s = .ok (if least ≤ (Rd one two : Nat) then .non else farD, .own) s := by
    intro least s
    have := told (k := k) (σ := s) w1 w2 ((Td_res (one := one) (two := two) (c := 0) (least := least) (Int.le_refl 0)).congr (g := Td one two) fun i j _ _ => by omega)
    rw [Int.sub_zero] at this
    exact this
  have f4 : callV xcs kts fns i__law_draw (k + 3) i_far_fault [.str one, .str two, .int (Rd one two : Nat), tupT (Td one two) one.length two.length] σ2 = .ok (.non, .own) σ2 := by rw [t0, if_pos (Int.le_refl _)]
  have f5 : callV xcs kts fns i__law_draw (k + 3) i_far_fault [.str one, .str two, .int ((Rd one two : Nat) + 1), tupT (Td one two) one.length two.length] σ2 = .ok (farD, .own) σ2 := by rw [t0, if_neg (by omega)]
  have f6 : callV xcs kts fns i__law_draw (k + 3) i__law_same [farD, farD] σ2 = .ok (.bl true, .own) σ2 := same 1 _ (k + 1) rfl
  have f7 : ∀ s, callV xcs kts fns i__law_draw (k + 3) i_far_fault [.str one, .str two, .int ((Rd one two : Nat) - 2), tupT (fun i j => Td one two i j - 2) one.length two.length] s = .ok (.non, .own) s := by
    intro s
    have := told (k := k) (σ := s) w1 w2 (Td_res (one := one) (two := two) (c := 2) (least := (Rd one two : Nat) - 2) (by decide))
    rw [if_pos (Int.le_refl _)] at this
    exact this
  have f8 : ∀ s, callV xcs kts fns i__law_draw (k + 3) i__law_same [.non, .non] s = .ok (.bl true, .own) s := fun s => same 1 _ (k + 1) rfl
  have hloop := forV_nx (body := fun x ρ σ => match putV (.var 9) x ρ with | some ρ => vSs (CX (k + 3)) p2B ρ σ | none => .bad) (items := ((List.range 12).map fun k : Nat => V.int (k : Int)).map fun x => (x, Ow.own))
    (fun _ ρ _ => ∃ a2 a6 a7 a9 a10 a11 a12 a13 a14 a15, ρ = lwE one two a2 a6 a7 a9 a10 a11 a12 a13 a14 a15) (fun i x ρ s hx ⟨a2, a6, a7, a9, a10, a11, a12, a13, a14, a15, e⟩ => by
      obtain ⟨b6, b7, b10, b11, b12, b13, b14, s', q⟩ := p2 (k := k) (σ := s) (a2 := a2) (a6 := a6) (a7 := a7) (a9 := some x) (a10 := a10) (a11 := a11) (a12 := a12) (a13 := a13) (a14 := a14) (a15 := a15) w1 w2 l1 l2
      refine ⟨lwE one two a2 b6 b7 (some x) b10 b11 b12 b13 b14 a15, s', ?_, a2, b6, b7, some x, b10, b11, b12, b13, b14, a15, rfl⟩
      rw [e, putV]
      exact q) (ρ := lwE one two a2 a6 a7 a9 a10 a11 a12 a13 a14 a15) (σ := σ2) ⟨_, _, _, _, _, _, _, _, _, _, rfl⟩
  obtain ⟨ρ3, σ3, e3, b2, b6, b7, b9, b10, b11, b12, b13, b14, b15, rfl⟩ := hloop
  have lo := low_ok (C := CX (k + 3)) (σ := σ3) (one := one) (two := two) (a2 := b2) (a6 := b6) (a7 := b7) (a9 := b9) (a10 := b10) (a11 := b11) (a12 := b12) (a13 := b13) (a14 := b14) (a15 := b15) l1 l2
  have hcall : (CX (k + 3)).call = callV xcs kts fns i__law_draw (k + 3) := rfl
  have hfor := vS_for_lit (C := CX (k + 3)) (tg := .var 9) (n := 12) (b := p2B) (ρ := lwE one two a2 a6 a7 a9 a10 a11 a12 a13 a14 a15) (σ := σ2) (by decide)
  have q1' : callV xcs kts fns i__law_draw (k + 3) i__law_drawn [.drw] σ = .ok (.str one, .own) σ1 := q1
  have q2' : callV xcs kts fns i__law_draw (k + 3) i__law_drawn [.drw] σ1 = .ok (.str two, .own) σ2 := q2
  generalize CX (k + 3) = C at *
  have ti := @tupT_imm (Td one two) one.length two.length
  have ti2 := @tupT_imm (fun i j => Td one two i j - 2) one.length two.length
  refine ⟨lwE one two b2 b6 b7 b9 b10 b11 b12 b13 b14 (some (tupT (fun i j => Td one two i j - 2) one.length two.length, .own)), σ3, ?_, _, _, _, _, _, _, _, _, _, _, _, _, _, _, rfl⟩
  rw [turnB]
  rw [vSs_nx (ρ' := anyE a2 (some (.str one, .own)) (some (.str two, .own)) a5 a6 a7 a8 a9 a10 a11 a12 a13 a14 a15) (σ' := σ2) (by simp [vE_var', vE_cst', vE_bin', vE_cmp', vE_chain', vE_and', vE_or', vE_not', vE_neg', vE_ife', vE_tup', vE_lst', vE_dic', vE_ix', vE_sl', vE_rev', vE_call', vE_bi', vE_isi', vE_me', vEs_nil', vEs_cons', vAnd_nil', vAnd_cons', vIfs_nil', vIfs_cons', vOr_nil', vOr_cons', vPath_var', vPath_ix', vS_set', vS_setT', vS_setX', vS_aug', vS_ex', vS_ret', vS_retN', vS_ifs', vS_whl', vS_for', vS_brk', vS_cnt', vS_pas', vS_rais', vS_tryA', vSs_nil', vSs_cons', vT', lcT', unemb, unembs, setV, isVar, retV, putV, putVs, addV, subV, mulV, modV, fdivV, powV, ltV, leV, truV, isiV, lenV, intV, itemsV, tupleV, listV, rdo, V.imm, V.imms, mk, okS, cao, isApp, isLV, isNonV, tyb, eqV_str, eqV_int, eqV_bl, eqV_non, wipeV, isNop, toI, recvV, hcall, q1', q2'])]
  rw [vSs_nx (ρ' := anyE a2 (some (.str one, .own)) (some (.str two, .own)) (some (tupT (Td one two) one.length two.length, .own)) a6 a7 a8 a9 a10 a11 a12 a13 a14 a15) (σ' := σ2) (vS_set_of d)]
  rw [vSs_nx (ρ' := lwE one two a2 a6 a7 a9 a10 a11 a12 a13 a14 a15) (σ' := σ2) (by simp [vE_var', vE_cst', vE_bin', vE_cmp', vE_chain', vE_and', vE_or', vE_not', vE_neg', vE_ife', vE_tup', vE_lst', vE_dic', vE_ix', vE_sl', vE_rev', vE_call', vE_bi', vE_isi', vE_me', vEs_nil', vEs_cons', vAnd_nil', vAnd_cons', vIfs_nil', vIfs_cons', vOr_nil', vOr_cons', vPath_var', vPath_ix', vS_set', vS_setT', vS_setX', vS_aug', vS_ex', vS_ret', vS_retN', vS_ifs', vS_whl', vS_for', vS_brk', vS_cnt', vS_pas', vS_rais', vS_tryA', vSs_nil', vSs_cons', vT', lcT', unemb, unembs, setV, isVar, retV, putV, putVs, addV, subV, mulV, modV, fdivV, powV, ltV, leV, truV, isiV, lenV, intV, itemsV, tupleV, listV, rdo, V.imm, V.imms, mk, okS, cao, isApp, isLV, isNonV, tyb, eqV_str, eqV_int, eqV_bl, eqV_non, wipeV, isNop, toI, recvV, hcall, f1])]
  rw [vSs_nx (ρ' := lwE one two a2 a6 a7 a9 a10 a11 a12 a13 a14 a15) (σ' := σ2) (by
    have hfd : farD = .tup [.str [102, 97, 114]] := rfl
    rw [hfd] at f5 f6
    simp [vE_var', vE_cst', vE_bin', vE_cmp', vE_chain', vE_and', vE_or', vE_not', vE_neg', vE_ife', vE_tup', vE_lst', vE_dic', vE_ix', vE_sl', vE_rev', vE_call', vE_bi', vE_isi', vE_me', vEs_nil', vEs_cons', vAnd_nil', vAnd_cons', vIfs_nil', vIfs_cons', vOr_nil', vOr_cons', vPath_var', vPath_ix', vS_set', vS_setT', vS_setX', vS_aug', vS_ex', vS_ret', vS_retN', vS_ifs', vS_whl', vS_for', vS_brk', vS_cnt', vS_pas', vS_rais', vS_tryA', vSs_nil', vSs_cons', vT', lcT', unemb, rdo, hcall, f2, f3, f4, f5, f6, ti, cao, truV, addV, isNonV, mk, okS, V.imm, V.imms])]
  refine (vSs_nx (hfor.trans e3)).trans ?_
  rw [vSs_nx (ρ' := lwE one two b2 b6 b7 b9 b10 b11 b12 b13 b14 (some (tupT (fun i j => Td one two i j - 2) one.length two.length, .own))) (σ' := σ3) (vS_set_of lo)]
  generalize tupT (fun i j => Td one two i j - 2) one.length two.length = T2 at *
  simp [vE_var', vE_cst', vE_bin', vE_cmp', vE_chain', vE_and', vE_or', vE_not', vE_neg', vE_ife', vE_tup', vE_lst', vE_dic', vE_ix', vE_sl', vE_rev', vE_call', vE_bi', vE_isi', vE_me', vEs_nil', vEs_cons', vAnd_nil', vAnd_cons', vIfs_nil', vIfs_cons', vOr_nil', vOr_cons', vPath_var', vPath_ix', vS_set', vS_setT', vS_setX', vS_aug', vS_ex', vS_ret', vS_retN', vS_ifs', vS_whl', vS_for', vS_brk', vS_cnt', vS_pas', vS_rais', vS_tryA', vSs_nil', vSs_cons', vT', lcT', unemb, rdo, hcall, f7, f8, ti2, cao, truV, subV, V.imm]
theorem law_v (σ : Sg) : ∃ σ', vSs (CX 39) [.for (.var 2) (.rng [(.cst (.int (10)))]) turnB, .ret (.cst (.bl true))] (none :: some (.drw, .own) :: List.replicate 14 none) σ = .ret (.bl true, .own) σ' := by
  obtain ⟨ρ', σ', e, h⟩ := forV_nx (body := fun x ρ σ => match putV (.var 2) x ρ with | some ρ => vSs (CX 39) turnB ρ σ | none => .bad) (items := ((List.range 10).map fun k : Nat => V.int (k : Int)).map fun x => (x, Ow.own))
    (fun _ ρ _ => Any ρ) (fun i x ρ s hx ⟨a2, a3, a4, a5, a6, a7, a8, a9, a10, a11, a12, a13, a14, a15, e⟩ => by
      obtain ⟨ρ', s', q, h⟩ := turn (k := 36) (σ := s) (a2 := some x) (a3 := a3) (a4 := a4) (a5 := a5) (a6 := a6) (a7 := a7) (a8 := a8) (a9 := a9) (a10 := a10) (a11 := a11) (a12 := a12) (a13 := a13) (a14 := a14) (a15 := a15)
      refine ⟨ρ', s', ?_, h⟩
      rw [e, putV]
      exact q) (ρ := none :: some (.drw, .own) :: List.replicate 14 none) (σ := σ) ⟨none, none, none, none, none, none, none, none, none, none, none, none, none, none, rfl⟩
  have hfor := vS_for_lit (C := CX 39) (tg := .var 2) (n := 10) (b := turnB) (ρ := none :: some (.drw, .own) :: List.replicate 14 none) (σ := σ) (by decide)
  refine ⟨σ', ?_⟩
  refine (vSs_nx (hfor.trans e)).trans ?_
  generalize CX 39 = C
  simp [vE_var', vE_cst', vE_bin', vE_cmp', vE_chain', vE_and', vE_or', vE_not', vE_neg', vE_ife', vE_tup', vE_lst', vE_dic', vE_ix', vE_sl', vE_rev', vE_call', vE_bi', vE_isi', vE_me', vEs_nil', vEs_cons', vAnd_nil', vAnd_cons', vIfs_nil', vIfs_cons', vOr_nil', vOr_cons', vPath_var', vPath_ix', vS_set', vS_setT', vS_setX', vS_aug', vS_ex', vS_ret', vS_retN', vS_ifs', vS_whl', vS_for', vS_brk', vS_cnt', vS_pas', vS_rais', vS_tryA', vSs_nil', vSs_cons', vT', lcT', unemb, retV, isVar, V.imm]
theorem law_pureI (ns : List Int) (h : ns.length ≤ 63) : ∃ st, callF xcs kts fns 40 15 [.fl ns] [] = .ok (.bl true) st := by
  obtain ⟨σ', hv⟩ := law_v ⟨ns, 0, 0, 1⟩
  refine law_of (k := 38) (dr := i__law_draw) (mkd := i__law_draws) (f := 15) (rest := [.for (.var 2) (.rng [(.cst (.int (10)))]) turnB, .ret (.cst (.bl true))]) (nsl := 14) rfl rfl rfl h ⟨σ', ?_⟩
  have hc : CX 39 = ⟨xcs, kts, ccall xcs kts fns i__law_draw 39⟩ := by
    show VCtx.mk _ _ (callV xcs kts fns i__law_draw 39) = _
    rw [callV_eq]
  rw [hc, vSs_eq] at hv
  exact hv
end KL

open PySem PySem.W PyProof.Rows
set_option maxRecDepth 100000 in
set_option maxHeartbeats 0 in
theorem PySem.Challenge.cw_seekwright_k59_whole_tables_of_how_far_holds : PySem.Challenge.rw_seekwright_k59_whole_tables_of_how_far.Holds := by
  w_on; o_law; k_head; (case hw => w_witness2)
  k_fill
  refine L2.walk_of (l := PySem.Challenge.rw_seekwright_k59_whole_tables_of_how_far) (n := 63) (k := 40 + 2) (x := "script") (CX := fun w => L2.CX PySem.Challenge.rw_seekwright_k59_whole_tables_of_how_far.prog w) (sp := fun w => DS.spL _ KL.kts (KL.pr.call 40 15)) rfl (by decide) rfl ⟨rfl, by decide, by decide⟩ (fun w h Y => PySem.W.kIn_of Y) ?F (fun w H a ns hl hO hS => DS.spL_law (fun ns h => KL.law_pureI ns h) H a ns hl hO hS) (fun w H s e s' h => by obtain ⟨_, _, _, _, _, _, _, _, _, _, _, _, z⟩ := h; exact z)
  case F =>
    intro w mg fa h KX GN hmg
    refine' KL.all_mk 40 KX GN hmg ?h_is_whole ?h_is_word ?h_look_at_word ?h_rest_rows ?h_far_table ?h_far_fault ?h_most_told ?h__law_draws ?h__law_draw ?h__law_pick ?h__law_same ?h__law_far ?h__law_whole ?h__law_fault ?h__law_drawn ?h_law ?x_BadPlan ?c_SMALL ?c_GREAT ?c_DIGITS ?c_RUNS ?c_MOST_WORD ?b_len ?b_int ?b_min ?b_tuple ?b_list ?b_all ?b_any ?b_range ?b_enumerate ?b_isinstance ?b_str ?b_bool ?b_dict ?b_sorted ?b_sum ?b_set ?b_abs ?b_max ?b_zip
    (case h_is_whole => refine' DS.FnK.mk ?a ?l ?c ?k; (case a => k_is); (case l => k_is); (case c => k_is); (case k => k_is))
    (case h_is_word => refine' DS.FnK.mk ?a ?l ?c ?k; (case a => k_is); (case l => k_is); (case c => k_is); (case k => k_is))
    (case h_look_at_word => refine' DS.FnK.mk ?a ?l ?c ?k; (case a => k_is); (case l => k_is); (case c => k_is); (case k => k_is))
    (case h_rest_rows => refine' DS.FnK.mk ?a ?l ?c ?k; (case a => k_is); (case l => k_is); (case c => k_is); (case k => k_is))
    (case h_far_table => refine' DS.FnK.mk ?a ?l ?c ?k; (case a => k_is); (case l => k_is); (case c => k_is); (case k => k_is))
    (case h_far_fault => refine' DS.FnK.mk ?a ?l ?c ?k; (case a => k_is); (case l => k_is); (case c => k_is); (case k => k_is))
    (case h_most_told => refine' DS.FnK.mk ?a ?l ?c ?k; (case a => k_is); (case l => k_is); (case c => k_is); (case k => k_is))
    (case h__law_draws => refine' DS.FnK.mk ?a ?l ?c ?k; (case a => k_is); (case l => k_is); (case c => k_is); (case k => k_is))
    (case h__law_draw => refine' DS.FnK.mk ?a ?l ?c ?k; (case a => k_is); (case l => k_is); (case c => k_is); (case k => k_is))
    (case h__law_pick => refine' DS.FnK.mk ?a ?l ?c ?k; (case a => k_is); (case l => k_is); (case c => k_is); (case k => k_is))
    (case h__law_same => refine' DS.FnK.mk ?a ?l ?c ?k; (case a => k_is); (case l => k_is); (case c => k_is); (case k => k_is))
    (case h__law_far => refine' DS.FnK.mk ?a ?l ?c ?k; (case a => k_is); (case l => k_is); (case c => k_is); (case k => k_is))
    (case h__law_whole => refine' DS.FnK.mk ?a ?l ?c ?k; (case a => k_is); (case l => k_is); (case c => k_is); (case k => k_is))
    (case h__law_fault => refine' DS.FnK.mk ?a ?l ?c ?k; (case a => k_is); (case l => k_is); (case c => k_is); (case k => k_is))
    (case h__law_drawn => refine' DS.FnK.mk ?a ?l ?c ?k; (case a => k_is); (case l => k_is); (case c => k_is); (case k => k_is))
    (case h_law => refine' DS.FnK.mk ?a ?l ?c ?k; (case a => k_is); (case l => k_is); (case c => k_is); (case k => k_is))
    (case x_BadPlan => refine' DS.ExcK.mk ?aC ?aS ?xL ?hbm ?sa ?ga ?gg ?no ?i1 ?t1 ?l1 ?c1 ?k1 ?kC ?eC ?tC ?hC ?cl ?sC ?ca ?cn ?ct ?cm ?kS ?b1 ?b2 ?b3 ?b4; (case aC => k_is); (case aS => k_is); (case xL => k_is); (case hbm => decide +kernel); (case sa => k_is); (case ga => k_is); (case gg => k_is); (case no => intro n hn; simp only [List.mem_cons, List.not_mem_nil, or_false] at hn; subst hn; k_is); (case i1 => k_is); (case t1 => k_is); (case l1 => k_is); (case c1 => k_is); (case k1 => k_is); (case kC => k_is); (case eC => k_is); (case tC => k_is); (case hC => k_is); (case cl => first | rfl | k_is); (case sC => first | rfl | k_is); (case ca => k_is); (case cn => k_is); (case ct => k_is); (case cm => k_is); (case kS => first | rfl | k_is); (case b1 => k_is); (case b2 => k_is); (case b3 => k_is); (case b4 => k_is))
    (case c_SMALL => refine' DS.CstK.one ?a ?h; (case a => k_is); (case h => decide +kernel))
    (case c_GREAT => refine' DS.CstK.one ?a ?h; (case a => k_is); (case h => decide +kernel))
    (case c_DIGITS => refine' DS.CstK.one ?a ?h; (case a => k_is); (case h => decide +kernel))
    (case c_RUNS => refine' DS.CstK.one ?a ?h; (case a => k_is); (case h => decide +kernel))
    (case c_MOST_WORD => refine' DS.CstK.one ?a ?h; (case a => k_is); (case h => decide +kernel))
    (case b_len => k_is)
    (case b_int => k_is)
    (case b_min => k_is)
    (case b_tuple => k_is)
    (case b_list => k_is)
    (case b_all => k_is)
    (case b_any => k_is)
    (case b_range => k_is)
    (case b_enumerate => k_is)
    (case b_isinstance => k_is)
    (case b_str => k_is)
    (case b_bool => k_is)
    (case b_dict => k_is)
    (case b_sorted => k_is)
    (case b_sum => k_is)
    (case b_set => k_is)
    (case b_abs => k_is)
    (case b_max => k_is)
    (case b_zip => k_is)
