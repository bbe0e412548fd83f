import PyProof.Rows.All
import HandS.ForMost
import HandS.Exc
import HandS.TryOnly
import HandS.ExcOwn
import HandS.ExcInit
import HandS.ExcField
import HandS.ExcIs
import HandS.TupAny
import HandS.TupMul
import HandS.Steps
import HandS.Deep
import HandS.IsInst
import HandS.Style
import KE.GoesMore
import KE.GoesEnum
import HandS.Zip
import HandS.WordsExc
import KE.KExcIs
import PySem.Challenge.RW_seekwright_k58_whole_scripts_of_changes
set_option Elab.async false
set_option linter.all false
set_option maxRecDepth 10000
/-! The data layer: values, store, the IR and its evaluator. Plain Lean, nothing of the model. -/
namespace DL

inductive D where
  | non
  | bl (b : Bool)
  | int (i : Int)
  | str (s : List Nat)
  | tup (xs : List D)
  | ref (l : Nat)
  | fl (ns : List Int)
  | fn (f : Nat)
  deriving Inhabited

inductive Cell where
  | lst (xs : List D)
  | dic (tk : Bool) (kvs : List (D × D))

abbrev Store := List Cell
abbrev Env := List (Option D)

structure DX where
  cls : Nat
  flds : List (String × D)

inductive Res (α : Type) where
  | ok (a : α) (st : Store)
  | exc (x : DX) (st : Store)
  | bad

@[simp] def Res.bind {α β : Type} (r : Res α) (f : α → Store → Res β) : Res β :=
  match r with
  | .ok a st => f a st
  | .exc x st => .exc x st
  | .bad => .bad

/-- no exception may leave (a comprehension) -/
@[simp] def Res.nox {α : Type} (r : Res α) : Res α :=
  match r with
  | .ok a st => .ok a st
  | _ => .bad

inductive Bop | add | sub | mul | fdiv | mod | pow
  deriving DecidableEq
inductive Cop | eq | ne | lt | le | gt | ge | isin | notin | is | isnot
  deriving DecidableEq
inductive Bi | len | int | min | max | tuple | list | all | any | sum | sorted | abs | str | set | dict
  deriving DecidableEq
inductive Ty | int | bool | str | tuple | list | dict
  deriving DecidableEq
inductive Me | append | index | join | get | setdefault | extend | update | pop | endswith | startswith | split | values | items | keys
  deriving DecidableEq

/-- expressions, targets (var, tup, ix), sources of loops (rng, enum, zip, else a value), left-out parts (nop) -/
inductive E where
  | nop
  | var (i : Nat)
  | cst (d : D)
  | bin (o : Bop) (a b : E)
  | cmp (o : Cop) (a b : E)
  | chain (o1 o2 : Cop) (a b c : E)
  | and (es : List E)
  | or (es : List E)
  | not (a : E)
  | neg (a : E)
  | ife (c a b : E)
  | tup (es : List E)
  | lst (es : List E)
  | dic (tk : Bool)
  | ix (a b : E)
  | sl (a lo hi : E)
  | rev (a : E)
  | call (f : Nat) (es : List E)
  | bi (b : Bi) (es : List E)
  | isi (a : E) (t : Ty)
  | me (m : Me) (a : E) (es : List E)
  | lc (elt tg src : E) (ifs : List E) (own : List (String × Nat))
  | rng (es : List E)
  | enum (a : E)
  | zip (a b : E)

inductive XE where
  | fld (n : String)
  | str (s : List Nat)
  | isf (c : Nat) (a b : XE)

inductive Hs where
  | app (i : Nat) (x : XE)
  | ret (x : XE)
  | cnt

inductive S where
  | set (i : Nat) (e : E)
  | setT (tg e : E)
  | setX (a b e : E)
  | aug (i : Nat) (o : Bop) (e : E)
  | ex (e : E)
  | ret (e : E)
  | retN
  | ifs (c : E) (a b : List S)
  | whl (c : E) (b : List S)
  | for (tg src : E) (b : List S)
  | brk
  | cnt
  | pas
  | rais (c : Nat) (es : List E)
  | tryA (b : List S) (c : Nat) (i : Nat) (h : Hs)

/-! ### data to be compared -/
inductive PD where
  | non | bl (b : Bool) | int (i : Int) | str (s : List Nat) | lst (xs : List PD) | tup (xs : List PD)

mutual
def PD.eqv : PD → PD → Bool
  | .non, .non => true
  | .bl a, .bl b => a == b
  | .bl a, .int j => (if a then 1 else 0) == j
  | .int i, .bl b => i == (if b then 1 else 0)
  | .int i, .int j => i == j
  | .str x, .str y => x == y
  | .lst xs, .lst ys => PD.eqvs xs ys
  | .tup xs, .tup ys => PD.eqvs xs ys
  | _, _ => false
def PD.eqvs : List PD → List PD → Bool
  | [], [] => true
  | x :: xs, y :: ys => PD.eqv x y && PD.eqvs xs ys
  | _, _ => false
end

mutual
/-- n: how deep tuples may lie in tuples -/
def rsv (n : Nat) : D → Option PD
  | .non => some .non
  | .bl b => some (.bl b)
  | .int i => some (.int i)
  | .str s => some (.str s)
  | .tup xs => if n = 0 then none else (rsvs (n - 1) xs).map .tup
  | _ => none
def rsvs (n : Nat) : List D → Option (List PD)
  | [] => some []
  | x :: xs => match rsv n x, rsvs n xs with
    | some a, some b => some (a :: b)
    | _, _ => none
end
/-- a list at the top is looked into (its items hold no lists) -/
def rsv1 (st : Store) : D → Option PD
  | .ref l => match st[l]? with
    | some (.lst xs) => (rsvs 40 xs).map .lst
    | _ => none
  | d => rsv 40 d

def eqD (st : Store) (a b : D) : Option Bool :=
  match rsv1 st a, rsv1 st b with
  | some x, some y => some (PD.eqv x y)
  | _, _ => none

mutual
def D.same : D → D → Bool
  | .non, .non => true
  | .bl a, .bl b => a == b
  | .int a, .int b => a == b
  | .str a, .str b => a == b
  | .tup a, .tup b => D.sames a b
  | .ref a, .ref b => a == b
  | .fl a, .fl b => a == b
  | .fn a, .fn b => a == b
  | _, _ => false
def D.sames : List D → List D → Bool
  | [], [] => true
  | x :: xs, y :: ys => D.same x y && D.sames xs ys
  | _, _ => false
end

def isK : D → Bool
  | .int _ => true
  | .str _ => true
  | _ => false
def isKs : List D → Bool
  | [] => true
  | d :: ds => isK d && isKs ds
/-- a key of a dict: ints and texts, or tuples of them -/
def keyOkD (tk : Bool) (d : D) : Bool :=
  if tk = true then (match d with | .tup ds => isKs ds | _ => false) else isK d

/-! ### labels -/
mutual
def wfD (n : Nat) : D → Bool
  | .ref l => decide (l < n)
  | .tup xs => wfDs n xs
  | _ => true
def wfDs (n : Nat) : List D → Bool
  | [] => true
  | x :: xs => wfD n x && wfDs n xs
end
def wfC (n : Nat) : Cell → Prop
  | .lst xs => wfDs n xs = true
  | .dic _ kvs => ∀ p ∈ kvs, wfD n p.1 = true ∧ wfD n p.2 = true

def TruncOk (st st' : Store) (ds : List D) : Prop :=
  st.length ≤ st'.length ∧ (∀ d ∈ ds, wfD st.length d = true) ∧ ∀ l c, l < st.length → st'[l]? = some c → st[l]? = some c ∨ wfC st.length c
open Classical in
noncomputable def settle (st st' : Store) (ds : List D) : Store := if TruncOk st st' ds then st'.take st.length else st'

/-! ### operations -/
def rep {α : Type} (xs : List α) : Nat → List α
  | 0 => []
  | n + 1 => xs ++ rep xs n

def okS (n : Nat) : Bool := decide (n ≤ 1000000)
def small64 (i : Int) : Bool := decide (-(2 ^ 64) < i) && decide (i < 2 ^ 64)

def newL (xs : List D) (st : Store) : Option (D × Store) := some ((.ref st.length), st ++ [.lst xs])

def addD (x y : D) (st : Store) : Option (D × Store) :=
  match x, y with
  | .int i, .int j => some (.int (i + j), st)
  | .str a, .str b => if okS (a.length + b.length) = true then some (.str (a ++ b), st) else none
  | .tup a, .tup b => if okS (a.length + b.length) = true then some (.tup (a ++ b), st) else none
  | .ref a, .ref b => match st[a]?, st[b]? with
    | some (.lst xs), some (.lst ys) => if okS (xs.length + ys.length) = true then newL (xs ++ ys) st else none
    | _, _ => none
  | _, _ => none
def subD (x y : D) (st : Store) : Option (D × Store) :=
  match x, y with
  | .int i, .int j => some (.int (i - j), st)
  | _, _ => none
def mulD (x y : D) (st : Store) : Option (D × Store) :=
  match x, y with
  | .int i, .int j => if small64 i = true ∨ small64 j = true then some (.int (i * j), st) else none
  | .str a, .int j => if a.length ≤ 1000 ∧ 1 ≤ j ∧ j ≤ 1000 then some (.str (rep a j.toNat), st) else none
  | .tup a, .int j => if 1 ≤ a.length ∧ a.length ≤ 1000 ∧ 1 ≤ j ∧ j ≤ 1000 then some (.tup (rep a j.toNat), st) else none
  | .ref a, .int j => match st[a]? with
    | some (.lst xs) => if xs.length ≤ 1000 ∧ 0 ≤ j ∧ j ≤ 1000 then newL (rep xs j.toNat) st else none
    | _ => none
  | _, _ => none
def fdivD (x y : D) (st : Store) : Option (D × Store) :=
  match x, y with
  | .int i, .int j => if 0 < j ∧ j < 1073741824 then some (.int (i / j), st) else none
  | _, _ => none
def modD (x y : D) (st : Store) : Option (D × Store) :=
  match x, y with
  | .int i, .int j => if 0 < j then some (.int (i % j), st) else none
  | _, _ => none
def powD (x y : D) (st : Store) : Option (D × Store) :=
  match x, y with
  | .int i, .int j => if 0 ≤ j ∧ j ≤ 1000 ∧ small64 i = true then some (.int (i ^ j.toNat), st) else none
  | _, _ => none
@[simp] def binD (o : Bop) (x y : D) (st : Store) : Option (D × Store) :=
  match o with
  | .add => addD x y st
  | .sub => subD x y st
  | .mul => mulD x y st
  | .fdiv => fdivD x y st
  | .mod => modD x y st
  | .pow => powD x y st

/-- the flat things that `in` compares -/
def flat : D → Bool
  | .non => true | .int _ => true | .str _ => true | .bl _ => true
  | _ => false

def flats : List D → Bool
  | [] => true
  | x :: xs => flat x && flats xs

def inD (x y : D) (st : Store) : Option Bool :=
  match y with
  | .str b => match x with
    | .str [a] => some (decide (a ∈ b))
    | _ => none
  | .tup ys => if flat x = true ∧ flats ys = true then match rsv 40 x, rsvs 40 ys with
      | some p, some qs => some (qs.any fun q => PD.eqv q p)
      | _, _ => none
    else none
  | .ref l => match st[l]? with
    | some (.lst ys) => match rsv 40 x, rsvs 40 ys with
      | some p, some qs => some (qs.any fun q => PD.eqv q p)
      | _, _ => none
    | some (.dic tk kvs) => if keyOkD tk x = true then some (kvs.any fun p => D.same p.1 x) else none
    | _ => none
  | _ => none

def ltD (x y : D) : Option Bool :=
  match x, y with
  | .int i, .int j => some (decide (i < j))
  | .str i, .str j => some (decide (i < j))
  | _, _ => none
def leD (x y : D) : Option Bool :=
  match x, y with
  | .int i, .int j => some (decide (i ≤ j))
  | _, _ => none
def isNon (x : D) : Bool :=
  match x with
  | .non => true
  | _ => false
@[simp] def cmpD (o : Cop) (x y : D) (st : Store) : Option Bool :=
  match o with
  | .eq => eqD st x y
  | .ne => (eqD st x y).map (!·)
  | .lt => ltD x y
  | .le => leD x y
  | .gt => ltD y x
  | .ge => leD y x
  | .isin => inD x y st
  | .notin => (inD x y st).map (!·)
  | .is => if isNon y = true then some (isNon x) else none
  | .isnot => if isNon y = true then some (!isNon x) else none

def truD (x : D) (st : Store) : Option Bool :=
  match x with
  | .non => some false
  | .bl b => some b
  | .int i => some (i != 0)
  | .str s => some (!s.isEmpty)
  | .tup xs => some (!xs.isEmpty)
  | .ref l => match st[l]? with
    | some (.lst xs) => some (!xs.isEmpty)
    | _ => none
  | _ => none

/-- an item at an int, from the end for one below nought -/
def atD {α : Type} (xs : List α) (i : Int) : Option α :=
  if 0 ≤ i then xs[i.toNat]? else if -(xs.length : Int) ≤ i then xs[(i + xs.length).toNat]? else none

def lookD (k : D) : List (D × D) → Option D
  | [] => none
  | p :: r => if D.same p.1 k = true then some p.2 else lookD k r

def ixD (x y : D) (st : Store) : Option (D × Store) :=
  match x, y with
  | .tup xs, .int i => match atD xs i with | some d => some (d, st) | none => none
  | .str s, .int i => match atD s i with | some c => some ((.str [c]), st) | none => none
  | .ref l, k => match st[l]? with
    | some (.lst xs) => match k with
      | .int i => match atD xs i with | some d => some (d, st) | none => none
      | _ => none
    | some (.dic tk kvs) => if keyOkD tk k = true then match lookD k kvs with | some d => some (d, st) | none => none else none
    | none => none
  | _, _ => none

/-- a slice's bound as a place among n -/
def sIx (n d : Nat) : Option Int → Nat
  | none => d
  | some v => if v < 0 then (v + (n : Int)).toNat else min v.toNat n
def cut {α : Type} (xs : List α) (lo hi : Option Int) : List α :=
  (xs.drop (sIx xs.length 0 lo)).take (sIx xs.length xs.length hi - sIx xs.length 0 lo)

def slD (x : D) (lo hi : Option Int) (st : Store) : Option (D × Store) :=
  match x with
  | .str s => some ((.str (cut s lo hi)), st)
  | .tup xs => some ((.tup (cut xs lo hi)), st)
  | .ref l => match st[l]? with
    | some (.lst xs) => newL (cut xs lo hi) st
    | _ => none
  | _ => none

def revD (x : D) (st : Store) : Option (D × Store) :=
  match x with
  | .str s => some ((.str s.reverse), st)
  | .ref l => match st[l]? with
    | some (.lst xs) => newL xs.reverse st
    | _ => none
  | _ => none

def ints? : List D → Option (List Int)
  | [] => some []
  | .int i :: r => match ints? r with | some b => some (i :: b) | none => none
  | _ => none
def bools? : List D → Option (List Bool)
  | [] => some []
  | .bl i :: r => match bools? r with | some b => some (i :: b) | none => none
  | _ => none
def strs? : List D → Option (List (List Nat))
  | [] => some []
  | .str i :: r => match strs? r with | some b => some (i :: b) | none => none
  | _ => none

def minI : Int → List Int → Int
  | m, [] => m
  | m, x :: r => minI (if x < m then x else m) r
def maxI : Int → List Int → Int
  | m, [] => m
  | m, x :: r => maxI (if m < x then x else m) r

/-- the items of a list or tuple -/
def itemsD (x : D) (st : Store) : Option (List D) :=
  match x with
  | .tup xs => some xs
  | .ref l => match st[l]? with | some (.lst xs) => some xs | _ => none
  | _ => none

def lenD (xs : List D) (st : Store) : Option (D × Store) :=
  match xs with
  | [.str s] => some (.int s.length, st)
  | [x] => match itemsD x st with | some ys => some (.int ys.length, st) | none => none
  | _ => none
def intD (xs : List D) (st : Store) : Option (D × Store) :=
  match xs with
  | [.int i] => some (.int i, st)
  | [.bl k] => some (.int (if k then 1 else 0), st)
  | _ => none
def minD (xs : List D) (st : Store) : Option (D × Store) :=
  match xs with
  | [.ref l] => match st[l]? with
    | some (.lst ys) => match ints? ys with | some (m :: r) => some (.int (minI m r), st) | _ => none
    | _ => none
  | [.int a, .int b] => some (.int (minI a [b]), st)
  | [.int a, .int b, .int c] => some (.int (minI a [b, c]), st)
  | [.int a, .int b, .int c, .int d] => some (.int (minI a [b, c, d]), st)
  | _ => none
def maxD (xs : List D) (st : Store) : Option (D × Store) :=
  match xs with
  | [.int a, .int b] => some (.int (maxI a [b]), st)
  | _ => none
def tupleD (xs : List D) (st : Store) : Option (D × Store) :=
  match xs with
  | [x] => match itemsD x st with | some ys => some (.tup ys, st) | none => none
  | _ => none
def listD (xs : List D) (st : Store) : Option (D × Store) :=
  match xs with
  | [.fl ns] => newL (ns.map .int) st
  | [x] => match itemsD x st with | some ys => newL ys st | none => none
  | _ => none
def allD (xs : List D) (st : Store) : Option (D × Store) :=
  match xs with
  | [.ref l] => match st[l]? with
    | some (.lst ys) => match bools? ys with | some bs => some (.bl (bs.all id), st) | none => none
    | _ => none
  | _ => none
def anyD (xs : List D) (st : Store) : Option (D × Store) :=
  match xs with
  | [.ref l] => match st[l]? with
    | some (.lst ys) => match bools? ys with | some bs => some (.bl (bs.any id), st) | none => none
    | _ => none
  | _ => none
@[simp] def biD (b : Bi) (xs : List D) (st : Store) : Option (D × Store) :=
  match b with
  | .len => lenD xs st
  | .int => intD xs st
  | .min => minD xs st
  | .max => maxD xs st
  | .tuple => tupleD xs st
  | .list => listD xs st
  | .all => allD xs st
  | .any => anyD xs st
  | _ => none

def isiD (x : D) (t : Ty) (st : Store) : Option Bool :=
  match x with
  | .non => some false
  | .bl _ => some (t == .bool || t == .int)
  | .int _ => some (t == .int)
  | .str _ => some (t == .str)
  | .tup _ => some (t == .tuple)
  | .ref l => match st[l]? with
    | some (.lst _) => some (t == .list)
    | some (.dic _ _) => some (t == .dict)
    | none => none
  | _ => none

def join (sep : List Nat) : List (List Nat) → List Nat
  | [] => []
  | [x] => x
  | x :: y :: r => x ++ (sep ++ join sep (y :: r))

def appendD (x : D) (xs : List D) (st : Store) : Option (D × Store) :=
  match x, xs with
  | .ref l, [y] => match st[l]? with
    | some (.lst ys) => if okS ys.length = true then some (.non, st.set l (.lst (ys ++ [y]))) else none
    | _ => none
  | _, _ => none
/-- how many signs joining takes at most -/
def joinSize (sep : List Nat) : List (List Nat) → Nat
  | [] => 0
  | x :: r => x.length + sep.length + joinSize sep r
def joinD (x : D) (xs : List D) (st : Store) : Option (D × Store) :=
  match x, xs with
  | .str s, [y] => match itemsD y st with
    | some ys => match strs? ys with
      | some zs => if okS (joinSize s zs) = true then some (.str (join s zs), st) else none
      | none => none
    | none => none
  | _, _ => none
@[simp] def meD (m : Me) (x : D) (xs : List D) (st : Store) : Option (D × Store) :=
  match m with
  | .append => appendD x xs st
  | .join => joinD x xs st
  | _ => none

def putD (k v : D) (kvs : List (D × D)) : List (D × D) :=
  if (kvs.any fun p => D.same p.1 k) = true then kvs.map (fun p => if D.same p.1 k = true then (p.1, v) else p) else kvs ++ [(k, v)]

def setXD (kt : List D) (x i v : D) (st : Store) : Option Store :=
  match x with
  | .ref l => match st[l]? with
    | some (.lst xs) => match i with
      | .int j => if 0 ≤ j ∧ j < xs.length then some (st.set l (.lst (xs.set j.toNat v))) else none
      | _ => none
    | some (.dic tk kvs) => if okS kvs.length = true ∧ keyOkD tk i = true ∧ (kt.any fun d => D.same d i) = false then some (st.set l (.dic tk (putD i v kvs))) else none
    | none => none
  | _ => none

/-- the receiver of a method is of its kind -/
def isL (x : D) (st : Store) : Bool :=
  match x with
  | .ref l => match st[l]? with | some (.lst _) => true | _ => false
  | _ => false
def isS (x : D) : Bool :=
  match x with
  | .str _ => true
  | _ => false
def isDc (x : D) (st : Store) : Bool :=
  match x with
  | .ref l => match st[l]? with | some (.dic _ _) => true | _ => false
  | _ => false
@[simp] def recv (m : Me) (x : D) (st : Store) : Bool :=
  match m with
  | .append => isL x st
  | .extend => isL x st
  | .join => isS x
  | .get => isDc x st
  | .setdefault => isDc x st
  | .update => isDc x st
  | _ => true

/-! ### the evaluator -/
@[simp] def ofO {α β : Type} (o : Option α) (st : Store) (f : α → β) : Res β :=
  match o with
  | some a => .ok (f a) st
  | none => .bad

def rangeL (lo : Int) (n : Nat) : List D := (List.range n).map fun k => .int (lo + (k : Nat))
def rangeD (lo : Int) (n : Nat) : List D := (List.range n).map fun k => .int (lo - (k : Nat))
def small62 (i : Int) : Bool := decide (-(2 ^ 60) ≤ i) && decide (i < 2 ^ 60)
def rngD : List D → Option (List D)
  | [.int j] => if small62 j = true then some (rangeL 0 j.toNat) else none
  | [.int i, .int j] => if small62 i = true ∧ small62 j = true then some (rangeL i (j - i).toNat) else none
  | [.int i, .int j, .int (-1)] => if small62 i = true ∧ small62 j = true then some (rangeD i (i - j).toNat) else none
  | _ => none

@[simp] def ofV (o : Option (D × Store)) : Res D :=
  match o with
  | some p => .ok p.1 p.2
  | none => .bad

abbrev Guard := Option (Nat × List D)
def GuardOk : Guard → Store → Prop
  | none, _ => True
  | some (l, xs), st => st[l]? = some (.lst xs)

def enumL (i : Nat) : List D → List D
  | [] => []
  | x :: r => .tup [.int (i : Nat), x] :: enumL (i + 1) r
def zipL : List D → List D → List D
  | x :: xs, y :: ys => .tup [x, y] :: zipL xs ys
  | _, _ => []

@[simp] def consO (o : Option D) (ys : List D) : List D :=
  match o with
  | some y => y :: ys
  | none => ys
open Classical in
noncomputable def lcL (step : D → Store → Res (Option D)) (g : Guard) : List D → Store → Res (List D)
  | [], st => if GuardOk g st then .ok [] st else .bad
  | x :: xs, st => if GuardOk g st then
      (step x st).bind fun o st1 => (lcL step g xs st1).bind fun ys st2 => .ok (consO o ys) st2
    else .bad

mutual
/-- a target of names takes a value -/
def putT : E → D → Env → Option Env
  | .var i, d, ρ => some (ρ.set i (some d))
  | .tup ts, .tup ds, ρ => putTs ts ds ρ
  | _, _, _ => none
def putTs : List E → List D → Env → Option Env
  | [], [], ρ => some ρ
  | t :: ts, d :: ds, ρ => match putT t d ρ with
    | some ρ => putTs ts ds ρ
    | none => none
  | _, _, _ => none
end
mutual
/-- the slots of a target -/
def tgSlots : E → List Nat
  | .var i => [i]
  | .tup ts => tgSlotss ts
  | _ => []
def tgSlotss : List E → List Nat
  | [] => []
  | t :: ts => tgSlots t ++ tgSlotss ts
end

def wipeE (ρ : Env) : List Nat → Env
  | [] => ρ
  | v :: vs => (wipeE ρ vs).set v none

structure XCls where
  flds : List String
  up : List Nat
structure Ctx where
  xc : List XCls
  kt : List D
  call : Nat → List D → Store → Res D

mutual
noncomputable def evE (C : Ctx) (ρ : Env) : E → Store → Res D
  | .var i, st => match ρ[i]? with | some (some d) => .ok d st | _ => .bad
  | .cst d, st => .ok d st
  | .bin o a b, st => (evE C ρ a st).bind fun x st => (evE C ρ b st).bind fun y st => ofV (binD o x y st)
  | .cmp o a b, st => (evE C ρ a st).bind fun x st => (evE C ρ b st).bind fun y st => ofO (cmpD o x y st) st .bl
  | .chain o1 o2 a b c, st => (evE C ρ a st).bind fun x st => (evE C ρ b st).bind fun y st => match cmpD o1 x y st with
    | some true => (evE C ρ c st).bind fun z st => ofO (cmpD o2 y z st) st .bl
    | some false => .ok (.bl false) st
    | none => .bad
  | .and es, st => evAnd C ρ es st
  | .or es, st => evOr C ρ es st
  | .not a, st => (evE C ρ a st).bind fun x st => ofO (truD x st) st fun b => .bl (!b)
  | .neg a, st => (evE C ρ a st).bind fun x st => match x with | .int i => .ok (.int (-i)) st | _ => .bad
  | .ife c a b, st => (evE C ρ c st).bind fun x st => match truD x st with
    | some true => evE C ρ a st
    | some false => evE C ρ b st
    | none => .bad
  | .tup es, st => (evEs C ρ es st).bind fun xs st => if okS xs.length = true then .ok (.tup xs) st else .bad
  | .lst es, st => (evEs C ρ es st).bind fun xs st => if okS xs.length = true then ofV (newL xs st) else .bad
  | .dic tk, st => .ok (.ref st.length) (st ++ [.dic tk []])
  | .ix a b, st => (evE C ρ a st).bind fun x st => (evE C ρ b st).bind fun y st => ofV (ixD x y st)
  | .sl a lo hi, st => (evE C ρ a st).bind fun x st => (evP C ρ lo st).bind fun l st => (evP C ρ hi st).bind fun h st => ofV (slD x l h st)
  | .rev a, st => (evE C ρ a st).bind fun x st => ofV (revD x st)
  | .call f es, st => (evEs C ρ es st).bind fun xs st => C.call f xs st
  | .bi b es, st => (evEs C ρ es st).bind fun xs st => ofV (biD b xs st)
  | .isi a t, st => (evE C ρ a st).bind fun x st => ofO (isiD x t st) st .bl
  | .me m a es, st => (evE C ρ a st).bind fun x st => if recv m x st = true then (evEs C ρ es st).bind fun xs st => ofV (meD m x xs st) else .bad
  | .lc elt tg src ifs own, st => (evI C ρ src st).bind fun p st =>
      if okS p.1.length = true then
        (lcL (fun x st => match putT tg x (wipeE ρ (own.map (·.2))) with
          | some ρ' => (evIfs C ρ' ifs st).bind fun b st => if b = true then (evE C ρ' elt st).bind fun y st => .ok (some y) st else .ok none st
          | none => .bad) p.2 p.1 st).nox.bind fun ys st => ofV (newL ys st)
      else .bad
  | _, _ => .bad
noncomputable def evP (C : Ctx) (ρ : Env) : E → Store → Res (Option Int)
  | .nop, st => .ok none st
  | e, st => (evE C ρ e st).bind fun x st => match x with | .int i => .ok (some i) st | _ => .bad
noncomputable def evEs (C : Ctx) (ρ : Env) : List E → Store → Res (List D)
  | [], st => .ok [] st
  | e :: es, st => (evE C ρ e st).bind fun x st => (evEs C ρ es st).bind fun xs st => .ok (x :: xs) st
/-- bools alone -/
noncomputable def evAnd (C : Ctx) (ρ : Env) : List E → Store → Res D
  | [], st => .ok (.bl true) st
  | e :: es, st => (evE C ρ e st).bind fun x st => match x with
    | .bl true => evAnd C ρ es st
    | .bl false => .ok (.bl false) st
    | _ => .bad
noncomputable def evIfs (C : Ctx) (ρ : Env) : List E → Store → Res Bool
  | [], st => .ok true st
  | e :: es, st => (evE C ρ e st).bind fun x st => match truD x st with
    | some true => evIfs C ρ es st
    | some false => .ok false st
    | none => .bad
noncomputable def evOr (C : Ctx) (ρ : Env) : List E → Store → Res D
  | [], st => .ok (.bl false) st
  | e :: es, st => (evE C ρ e st).bind fun x st => match x with
    | .bl true => .ok (.bl true) st
    | .bl false => evOr C ρ es st
    | _ => .bad
noncomputable def evI (C : Ctx) (ρ : Env) : E → Store → Res (List D × Guard)
  | .rng es, st => (evEs C ρ es st).bind fun xs st => ofO (rngD xs) st fun r => (r, none)
  | .enum a, st => (evE C ρ a st).bind fun x st => match x with
    | .tup xs => .ok (enumL 0 xs, none) st
    | .ref l => match st[l]? with | some (.lst xs) => .ok (enumL 0 xs, some (l, xs)) st | _ => .bad
    | _ => .bad
  | e, st => (evE C ρ e st).bind fun x st => match x with
    | .tup xs => .ok (xs, none) st
    | .str s => .ok (s.map (fun c => .str [c]), none) st
    | .ref l => match st[l]? with | some (.lst xs) => .ok (xs, some (l, xs)) st | _ => .bad
    | _ => .bad
end

/-! ### statements -/
inductive SRes where
  | nx (ρ : Env) (st : Store)
  | brk (ρ : Env) (st : Store)
  | cnt (ρ : Env) (st : Store)
  | ret (d : D) (st : Store)
  | exc (x : DX) (ρ : Env) (st : Store)
  | bad

/-- behind an expression -/
@[simp] def SRes.of {α : Type} (ρ : Env) (r : Res α) (f : α → Store → SRes) : SRes :=
  match r with
  | .ok a st => f a st
  | .exc x st => .exc x ρ st
  | .bad => .bad
@[simp] def SRes.bind (r : SRes) (f : Env → Store → SRes) : SRes :=
  match r with
  | .nx ρ st => f ρ st
  | r => r

open Classical in
noncomputable def forL (body : D → Env → Store → SRes) (g : Guard) : List D → Env → Store → SRes
  | [], ρ, st => if GuardOk g st then .nx ρ st else .bad
  | x :: xs, ρ, st => if GuardOk g st then
      match body x ρ st with
      | .nx ρ st => forL body g xs ρ st
      | .cnt ρ st => forL body g xs ρ st
      | .brk ρ st => .nx ρ st
      | r => r
    else .bad

noncomputable def whN (c : Env → Store → Res Bool) (body : Env → Store → SRes) : Nat → Env → Store → SRes
  | 0, _, _ => .bad
  | n + 1, ρ, st => .of ρ (c ρ st) fun b st => if b = true then
      match body ρ st with
      | .nx ρ st => whN c body n ρ st
      | .cnt ρ st => whN c body n ρ st
      | .brk ρ st => .nx ρ st
      | r => r
    else .nx ρ st
open Classical in
noncomputable def whL (c : Env → Store → Res Bool) (body : Env → Store → SRes) (ρ : Env) (st : Store) : SRes :=
  if h : ∃ n, whN c body n ρ st ≠ .bad then whN c body (Classical.choose h) ρ st else .bad

def evXE (xc : List XCls) (x : DX) : XE → Option D
  | .fld n => x.flds.lookup n
  | .str s => if okS s.length = true then some (.str s) else none
  | .isf c a b => match xc[x.cls]? with
    | some k => if k.up.contains c = true then evXE xc x a else none
    | none => none

noncomputable def evHs (xc : List XCls) (h : Hs) (x : DX) (ρ : Env) (st : Store) (i : Nat) : SRes :=
  match h with
  | .app j y => match evXE xc x y, ρ[j]? with
    | some d, some (some (.ref l)) => match st[l]? with
      | some (.lst ys) => if okS ys.length = true ∧ i ≠ j then .nx (ρ.set i none) (st.set l (.lst (ys ++ [d]))) else .bad
      | _ => .bad
    | _, _ => .bad
  | .ret y => match evXE xc x y with
    | some d => .ret d st
    | none => .bad
  | .cnt => .cnt (ρ.set i none) st

section
variable (C : Ctx)
noncomputable def evT (ρ : Env) (e : E) (st : Store) : Res Bool := (evE C ρ e st).bind fun x st => ofO (truD x st) st id

mutual
noncomputable def evS : S → Env → Store → SRes
  | .set i e, ρ, st => .of ρ (evE C ρ e st) fun d st => .nx (ρ.set i (some d)) st
  | .setT tg e, ρ, st => .of ρ (evE C ρ e st) fun d st => match putT tg d ρ with
    | some ρ => .nx ρ st
    | none => .bad
  | .setX a b e, ρ, st => .of ρ (evE C ρ e st) fun d st => .of ρ (evE C ρ a st) fun x st => .of ρ (evE C ρ b st) fun y st => match setXD C.kt x y d st with
    | some st => .nx ρ st
    | none => .bad
  | .aug i o e, ρ, st => match ρ[i]? with
    | some (some x) => .of ρ (evE C ρ e st) fun y st => match x, y with
      | .int _, .int _ => .of ρ (ofV (binD o x y st)) fun d st => .nx (ρ.set i (some d)) st
      | _, _ => .bad
    | _ => .bad
  | .ex e, ρ, st => .of ρ (evE C ρ e st) fun _ st => .nx ρ st
  | .ret e, ρ, st => .of ρ (evE C ρ e st) fun d st => .ret d st
  | .retN, ρ, st => .ret .non st
  | .ifs c a b, ρ, st => .of ρ (evT C ρ c st) fun k st => if k = true then evSs a ρ st else evSs b ρ st
  | .whl c b, ρ, st => whL (fun ρ st => evT C ρ c st) (evSs b) ρ st
  | .for tg src b, ρ, st => .of ρ (evI C ρ src st) fun p st => forL (fun x ρ st => match putT tg x ρ with
      | some ρ => evSs b ρ st
      | none => .bad) p.2 p.1 ρ st
  | .brk, ρ, st => .brk ρ st
  | .cnt, ρ, st => .cnt ρ st
  | .pas, ρ, st => .nx ρ st
  | .rais c es, ρ, st => .of ρ (evEs C ρ es st) fun ds st => match C.xc[c]? with
    | some k => if ds.length = k.flds.length then .exc ⟨c, k.flds.zip ds⟩ ρ st else .bad
    | none => .bad
  | .tryA b c i h, ρ, st => match evSs b ρ st with
    | .exc x ρ st => if x.cls = c ∧ i < ρ.length then evHs C.xc h x ρ st i else .bad
    | r => r
noncomputable def evSs : List S → Env → Store → SRes
  | [], ρ, st => .nx ρ st
  | s :: r, ρ, st => (evS s ρ st).bind fun ρ st => evSs r ρ st
end
end

structure Fn where
  np : Nat
  ns : Nat
  body : List S

noncomputable def callF (XC : List XCls) (KT : List D) (T : List Fn) : Nat → Nat → List D → Store → Res D
  | 0, _, _, _ => .bad
  | k + 1, f, args, st => match T[f]? with
    | none => .bad
    | some fn => if args.length = fn.np then
        match evSs ⟨XC, KT, callF XC KT T k⟩ fn.body (args.map some ++ List.replicate (fn.ns - fn.np) none) st with
        | .ret d st' => .ok d (settle st st' [d])
        | .nx _ st' => .ok .non (settle st st' [])
        | .exc x _ st' => .exc x (settle st st' (x.flds.map (·.2)))
        | _ => .bad
      else .bad

end DL

set_option Elab.async false
set_option linter.all false
set_option maxRecDepth 100000
set_option maxHeartbeats 4000000
/-! The soundness of the evaluator, over HandS: how data lie in the heap. -/
namespace DS
open PySem PySem.Spec PyProof.Rows L2
open DL (D Cell Store DX Res SRes)

abbrev DE := DL.E
abbrev DSt := DL.S
def sS (s : List Nat) : Str := ⟨s.toArray⟩
theorem sS_cps (s : List Nat) : (sS s).cps.toList = s := by simp [sS]
theorem sS_len (s : List Nat) : (sS s).length = s.length := by simp [sS, Str.length]
theorem sS_app (a b : List Nat) : sS a ++ sS b = sS (a ++ b) := by
  show (⟨a.toArray ++ b.toArray⟩ : Str) = _
  simp [sS]
theorem sS_inj {a b : List Nat} (h : sS a = sS b) : a = b := by
  have := congrArg (fun x : Str => x.cps.toList) h
  simpa [sS] using this
theorem lineM {n : Nat} (h : n ≤ 1000000) : n ≤ sizeLine := by rw [sizeLine_eq]; omega
theorem lineLt {n : Nat} (h : n ≤ 1000000) : n < sizeLine := by rw [sizeLine_eq]; omega

/-- what is fixed through a law: the written part, the defs' addresses, the exception classes' addresses, the written tuples -/
structure Gl where
  K : PySem.W.Frag
  fa : Nat → Option Addr
  xa : Nat → Option Addr
  kt : List D

/-- a written tuple -/
def KTup (K : PySem.W.Frag) (a : Addr) (xs : List V) : Prop :=
  ∃ (o : Obj) (its : Array Value) (n : Nat), K.lookup a = some o ∧ o.cls = .type "tuple" ∧ o.data = .seq its n ∧ its.size ≤ sizeLine ∧ Vals xs its.toList

variable (G : Gl)
mutual
def Rep (ι : List Addr) (H : Hp) : D → V → Prop
  | .non, v => v = .non
  | .bl b, v => v = .bl b
  | .int i, v => v = .int i
  | .str s, v => v = .str (sS s) ∧ s.length ≤ sizeLine ∧ PySem.PyData.strOk (sS s) = true
  | .tup ds, v => ∃ a vs, v = .ref a ∧ (H a = some (.tup vs) ∨ (KTup G.K a vs ∧ ∃ d ∈ G.kt, DL.D.same d (.tup ds) = true)) ∧ RepL ι H ds vs
  | .ref l, v => ∃ a, v = .ref a ∧ ι[l]? = some a
  | .fl ns, v => ∃ a, v = .ref a ∧ ((∃ o, H a = some (.frz o (.lst (ns.map V.int)))) ∨ ∃ (o : Obj) (its : Array Value) (n : Nat), G.K.lookup a = some o ∧ o.cls = .type "list" ∧ o.dict = none ∧ o.data = .seq its n ∧ its.size ≤ sizeLine ∧ Vals (ns.map V.int) its.toList)
  | .fn f, v => ∃ a, G.fa f = some a ∧ v = .ref a
def RepL (ι : List Addr) (H : Hp) : List D → List V → Prop
  | [], vs => vs = []
  | d :: ds, vs => ∃ v r, vs = v :: r ∧ Rep ι H d v ∧ RepL ι H ds r
end

/-- a key of a dict -/
def keyK : D → Option Key
  | .int i => some (.inl i)
  | .str s => some (.inr (sS s))
  | _ => none
def keysT : List D → Option (List Key)
  | [] => some []
  | d :: ds => match keyK d, keysT ds with
    | some k, some ks => some (k :: ks)
    | _, _ => none
def keyT : D → Option (List Key)
  | .tup ds => keysT ds
  | _ => none
def RepK {κ : Type} (f : D → Option κ) (ι : List Addr) (H : Hp) : List (D × D) → List (κ × V) → Prop
  | [], ks => ks = []
  | p :: r, ks => ∃ k v s, ks = (k, v) :: s ∧ f p.1 = some k ∧ Rep G ι H p.2 v ∧ RepK f ι H r s
def CellRep (ι : List Addr) (H : Hp) (a : Addr) : Cell → Prop
  | .lst ds => ∃ vs, H a = some (.lst vs) ∧ RepL G ι H ds vs
  | .dic false kvs => ∃ ks, H a = some (.dK ks) ∧ RepK G keyK ι H kvs ks
  | .dic true kvs => ∃ ks, H a = some (.dT ks) ∧ RepK G keyT ι H kvs ks

def Imm : HO → Prop
  | .tup _ => True
  | .frz _ _ => True
  | _ => False

/-- the heap goes on: labels are added, of what was tracked only the labelled lists and dicts change -/
structure Ext (ι : List Addr) (H : Hp) (ι' : List Addr) (H' : Hp) : Prop where
  pre : ∃ r, ι' = ι ++ r
  new : ∀ a ∈ ι', a ∈ ι ∨ H a = none
  keep : ∀ a o, H a = some o → a ∉ ι → H' a = some o
  imm : ∀ a o, H a = some o → Imm o → H' a = some o
  there : ∀ a, H a ≠ none → H' a ≠ none

structure RS (ι : List Addr) (st : Store) (H : Hp) : Prop where
  len : st.length = ι.length
  nd : ι.Nodup
  cell : ∀ (l : Nat) (c : Cell), st[l]? = some c → ∃ a, ι[l]? = some a ∧ CellRep G ι H a c

structure RepEnv (ι : List Addr) (H : Hp) (ρ : DL.Env) (σ : L2.St) : Prop where
  len : ρ.length = σ.length
  at_ : ∀ (i : Nat) (d : D), ρ[i]? = some (some d) → ∃ v, σ[i]? = some (some v) ∧ Rep G ι H d v

variable {G}
section
variable {ι ι' ι'' : List Addr} {H H' H'' : Hp} {st : Store} {a : Addr} {l : Nat}
theorem Ext.refl : Ext ι H ι H := ⟨⟨[], by simp⟩, fun a h => .inl h, fun _ _ e _ => e, fun _ _ e _ => e, fun _ h => h⟩
theorem Ext.mem (e : Ext ι H ι' H') (h : a ∈ ι) : a ∈ ι' := by
  obtain ⟨r, rfl⟩ := e.pre
  exact List.mem_append_left _ h
theorem Ext.trans (e : Ext ι H ι' H') (f : Ext ι' H' ι'' H'') : Ext ι H ι'' H'' := by
  refine ⟨?_, fun a h => ?_, fun a o q n => ?_, fun a o q i => f.imm a o (e.imm a o q i) i, fun a h => f.there a (e.there a h)⟩
  · obtain ⟨r, rfl⟩ := e.pre
    obtain ⟨s, rfl⟩ := f.pre
    exact ⟨r ++ s, by simp⟩
  · rcases f.new a h with h | h
    · exact e.new a h
    · right
      cases q : H a with
      | none => rfl
      | some o => exact absurd h (e.there a (by rw [q]; simp))
  · refine f.keep a o (e.keep a o q n) fun h => ?_
    rcases e.new a h with h | h
    · exact n h
    · rw [q] at h; cases h
theorem Ext.get (e : Ext ι H ι' H') (h : ι[l]? = some a) : ι'[l]? = some a := by
  obtain ⟨r, rfl⟩ := e.pre
  rw [List.getElem?_append_left]
  · exact h
  · exact (List.getElem?_eq_some_iff.mp h).1

mutual
theorem Rep.mono (e : Ext ι H ι' H') : ∀ {d : D} {v : V}, Rep G ι H d v → Rep G ι' H' d v
  | .non, _, h => h
  | .bl _, _, h => h
  | .int _, _, h => h
  | .str _, _, h => h
  | .tup ds, _, ⟨a, vs, h1, h2, h3⟩ => ⟨a, vs, h1, h2.elim (fun h => .inl (e.imm a _ h trivial)) .inr, RepL.mono e h3⟩
  | .ref l, _, ⟨a, h1, h2⟩ => ⟨a, h1, e.get h2⟩
  | .fl ns, _, ⟨a, h1, h2⟩ => ⟨a, h1, h2.elim (fun ⟨o, h⟩ => .inl ⟨o, e.imm a _ h trivial⟩) .inr⟩
  | .fn _, _, h => h
theorem RepL.mono (e : Ext ι H ι' H') : ∀ {ds : List D} {vs : List V}, RepL G ι H ds vs → RepL G ι' H' ds vs
  | [], _, h => h
  | d :: ds, _, ⟨v, r, h1, h2, h3⟩ => ⟨v, r, h1, Rep.mono e h2, RepL.mono e h3⟩
end
theorem RepK.mono {κ : Type} {f : D → Option κ} (e : Ext ι H ι' H') : ∀ {ds : List (D × D)} {vs : List (κ × V)}, RepK G f ι H ds vs → RepK G f ι' H' ds vs
  | [], _, h => h
  | p :: ds, _, ⟨k, v, r, h1, h2, h3, h4⟩ => ⟨k, v, r, h1, h2, h3.mono e, RepK.mono e h4⟩
theorem RepEnv.mono {ρ : DL.Env} {σ : L2.St} (e : Ext ι H ι' H') (h : RepEnv G ι H ρ σ) : RepEnv G ι' H' ρ σ :=
  ⟨h.len, fun i d q => let ⟨v, h1, h2⟩ := h.at_ i d q; ⟨v, h1, h2.mono e⟩⟩
theorem RepEnv.set {ρ : DL.Env} {σ : L2.St} {i : Nat} {d : D} {v : V} (h : RepEnv G ι H ρ σ) (r : Rep G ι H d v) : RepEnv G ι H (ρ.set i (some d)) (σ.set i (some v)) := by
  refine ⟨by simp [h.len], fun j c q => ?_⟩
  by_cases hj : i = j
  · subst hj
    by_cases hi : i < ρ.length
    · rw [List.getElem?_set_self hi] at q
      cases q
      exact ⟨v, List.getElem?_set_self (by rw [← h.len]; exact hi), r⟩
    · rw [List.getElem?_eq_none (by simpa using hi)] at q; cases q
  · rw [List.getElem?_set_ne hj] at q
    obtain ⟨u, h1, h2⟩ := h.at_ j c q
    exact ⟨u, by rw [List.getElem?_set_ne hj]; exact h1, h2⟩
theorem RepEnv.unset {ρ : DL.Env} {σ : L2.St} {i : Nat} (h : RepEnv G ι H ρ σ) : RepEnv G ι H (ρ.set i none) (σ.set i none) := by
  refine ⟨by simp [h.len], fun j c q => ?_⟩
  by_cases hj : i = j
  · subst hj
    by_cases hi : i < ρ.length
    · rw [List.getElem?_set_self hi] at q; cases q
    · rw [List.getElem?_eq_none (by simpa using hi)] at q; cases q
  · rw [List.getElem?_set_ne hj] at q
    obtain ⟨u, h1, h2⟩ := h.at_ j c q
    exact ⟨u, by rw [List.getElem?_set_ne hj]; exact h1, h2⟩
theorem RepEnv.wipe {ρ : DL.Env} {σ : L2.St} : ∀ (vs : List Nat), RepEnv G ι H ρ σ → RepEnv G ι H (DL.wipeE ρ vs) (L2.wipe σ vs)
  | [], h => h
  | v :: vs, h => (RepEnv.wipe vs h).unset

theorem RepL.length : ∀ {ds : List D} {vs : List V}, RepL G ι H ds vs → ds.length = vs.length
  | [], _, h => by cases h; rfl
  | d :: ds, _, ⟨v, r, h1, _, h3⟩ => by subst h1; simp [RepL.length h3]
theorem RepL.get : ∀ {ds : List D} {vs : List V} {i : Nat} {d : D}, RepL G ι H ds vs → ds[i]? = some d → ∃ v, vs[i]? = some v ∧ Rep G ι H d v
  | [], _, i, d, h, e => by simp at e
  | x :: ds, _, 0, d, ⟨v, r, h1, h2, _⟩, e => by simp at e; subst e; subst h1; exact ⟨v, rfl, h2⟩
  | x :: ds, _, i + 1, d, ⟨v, r, h1, _, h3⟩, e => by subst h1; simpa using RepL.get (i := i) h3 (by simpa using e)
theorem RepL.get' : ∀ {ds : List D} {vs : List V} {i : Nat} {v : V}, RepL G ι H ds vs → vs[i]? = some v → ∃ d, ds[i]? = some d ∧ Rep G ι H d v
  | [], _, i, v, h, e => by cases h; simp at e
  | x :: ds, _, 0, d, ⟨v, r, h1, h2, _⟩, e => by subst h1; simp at e; subst e; exact ⟨x, rfl, h2⟩
  | x :: ds, _, i + 1, d, ⟨v, r, h1, _, h3⟩, e => by subst h1; simpa using RepL.get' (i := i) h3 (by simpa using e)
theorem RepL.append : ∀ {ds es : List D} {vs us : List V}, RepL G ι H ds vs → RepL G ι H es us → RepL G ι H (ds ++ es) (vs ++ us)
  | [], _, _, _, h, g => by cases h; exact g
  | d :: ds, _, _, _, ⟨v, r, h1, h2, h3⟩, g => by subst h1; exact ⟨v, _, rfl, h2, RepL.append h3 g⟩
theorem RepL.single {d : D} {v : V} (h : Rep G ι H d v) : RepL G ι H [d] [v] := ⟨v, [], rfl, h, rfl⟩
theorem RepL.take : ∀ (n : Nat) {ds : List D} {vs : List V}, RepL G ι H ds vs → RepL G ι H (ds.take n) (vs.take n)
  | 0, _, _, _ => by simp [RepL]
  | n + 1, [], _, h => by cases h; simp [RepL]
  | n + 1, d :: ds, _, ⟨v, r, h1, h2, h3⟩ => by subst h1; exact ⟨v, _, rfl, h2, RepL.take n h3⟩
theorem RepL.drop : ∀ (n : Nat) {ds : List D} {vs : List V}, RepL G ι H ds vs → RepL G ι H (ds.drop n) (vs.drop n)
  | 0, _, _, h => h
  | n + 1, [], _, h => by cases h; simp [RepL]
  | n + 1, d :: ds, _, ⟨v, r, h1, h2, h3⟩ => by subst h1; exact RepL.drop n h3
theorem RepL.set : ∀ (i : Nat) {ds : List D} {vs : List V} {d : D} {v : V}, RepL G ι H ds vs → Rep G ι H d v → RepL G ι H (ds.set i d) (vs.set i v)
  | _, [], _, _, _, h, _ => by cases h; simp [RepL]
  | 0, d :: ds, _, _, _, ⟨v, r, h1, h2, h3⟩, g => by subst h1; exact ⟨_, _, rfl, g, h3⟩
  | n + 1, d :: ds, _, _, _, ⟨v, r, h1, h2, h3⟩, g => by subst h1; exact ⟨v, _, rfl, h2, RepL.set n h3 g⟩
theorem RepL.rep {ds : List D} {vs : List V} (h : RepL G ι H ds vs) : ∀ n, RepL G ι H (DL.rep ds n) (List.replicate n vs).flatten
  | 0 => by simp [DL.rep, RepL]
  | n + 1 => by
    rw [List.replicate_succ, List.flatten_cons]
    exact h.append (RepL.rep h n)
theorem RepL.reverse : ∀ {ds : List D} {vs : List V}, RepL G ι H ds vs → RepL G ι H ds.reverse vs.reverse
  | [], _, h => by cases h; simp [RepL]
  | d :: ds, _, ⟨v, r, h1, h2, h3⟩ => by
    subst h1
    rw [List.reverse_cons, List.reverse_cons]
    exact (RepL.reverse h3).append (RepL.single h2)
theorem RepL.ints : ∀ {ns : List Int}, RepL G ι H (ns.map .int) (ns.map V.int)
  | [] => rfl
  | n :: ns => ⟨_, _, rfl, rfl, RepL.ints⟩

/-! ### the heap's steps -/
theorem RS.get (S : RS G ι st H) {c : Cell} (h : st[l]? = some c) (ha : ι[l]? = some a) : CellRep G ι H a c := by
  obtain ⟨b, hb, q⟩ := S.cell l c h
  rw [ha] at hb; cases hb; exact q
theorem RS.lt (S : RS G ι st H) {c : Cell} (h : st[l]? = some c) : l < ι.length := by
  rw [← S.len]; exact (List.getElem?_eq_some_iff.mp h).1
theorem CellRep.mono {c : Cell} (e : Ext ι H ι' H') (h : CellRep G ι H a c) (k : H' a = H a) : CellRep G ι' H' a c := by
  cases c with
  | lst ds => obtain ⟨vs, h1, h2⟩ := h; exact ⟨vs, k.trans h1, h2.mono e⟩
  | dic tk kvs =>
    cases tk with
    | false => obtain ⟨vs, h1, h2⟩ := h; exact ⟨vs, k.trans h1, h2.mono e⟩
    | true => obtain ⟨vs, h1, h2⟩ := h; exact ⟨vs, k.trans h1, h2.mono e⟩
theorem CellRep.some_ {c : Cell} (h : CellRep G ι H a c) : ∃ o, H a = some o ∧ ¬ Imm o := by
  cases c with
  | lst ds => obtain ⟨vs, h1, _⟩ := h; exact ⟨_, h1, fun z => z⟩
  | dic tk kvs =>
    cases tk with
    | false => obtain ⟨vs, h1, _⟩ := h; exact ⟨_, h1, fun z => z⟩
    | true => obtain ⟨vs, h1, _⟩ := h; exact ⟨_, h1, fun z => z⟩
/-- a new address is no label's -/
theorem RS.fresh (S : RS G ι st H) (h : H a = none) : a ∉ ι := fun hm => by
  obtain ⟨l, hl⟩ := List.mem_iff_getElem?.mp hm
  have hlt : l < st.length := by rw [S.len]; exact (List.getElem?_eq_some_iff.mp hl).1
  obtain ⟨o, q, _⟩ := (S.get (List.getElem?_eq_getElem hlt) hl).some_
  rw [h] at q; cases q
/-- a new object that has no label -/
theorem Ext.laid {o : HO} (h : H a = none) : Ext ι H ι (upd H a o) := by
  have k : ∀ b u, H b = some u → upd H a o b = some u := fun b u q => by rw [upd_ne (ne_of_none q h)]; exact q
  refine ⟨⟨[], by simp⟩, fun a h => .inl h, fun b u q _ => k b u q, fun b u q _ => k b u q, fun b q z => ?_⟩
  cases e : H b with
  | none => exact q e
  | some u => rw [k b u e] at z; cases z
theorem RS.laid {o : HO} (S : RS G ι st H) (h : H a = none) : RS G ι st (upd H a o) := by
  refine ⟨S.len, S.nd, fun l c q => ?_⟩
  obtain ⟨b, h1, h2⟩ := S.cell l c q
  obtain ⟨u, h3, _⟩ := h2.some_
  exact ⟨b, h1, h2.mono (Ext.laid h) (upd_ne (ne_of_none h3 h))⟩
/-- a new object with a label -/
theorem Ext.alloc {o : HO} (h : H a = none) : Ext ι H (ι ++ [a]) (upd H a o) := by
  have k : ∀ b u, H b = some u → upd H a o b = some u := fun b u q => by rw [upd_ne (ne_of_none q h)]; exact q
  refine ⟨⟨[a], rfl⟩, fun b hb => ?_, fun b u q _ => k b u q, fun b u q _ => k b u q, fun b q z => ?_⟩
  · rcases List.mem_append.mp hb with hb | hb
    · exact .inl hb
    · rw [List.mem_singleton.mp hb]; exact .inr h
  · cases e : H b with
    | none => exact q e
    | some u => rw [k b u e] at z; cases z
theorem RS.alloc {o : HO} {c : Cell} (S : RS G ι st H) (h : H a = none) (hc : CellRep G (ι ++ [a]) (upd H a o) a c) : RS G (ι ++ [a]) (st ++ [c]) (upd H a o) := by
  refine ⟨by simp [S.len], ?_, fun l c' q => ?_⟩
  · rw [List.nodup_append]
    refine ⟨S.nd, by simp, fun x hx y hy => ?_⟩
    rw [List.mem_singleton.mp hy]
    rintro rfl
    exact S.fresh h hx
  · by_cases hl : l < st.length
    · rw [List.getElem?_append_left hl] at q
      obtain ⟨b, h1, h2⟩ := S.cell l c' q
      obtain ⟨u, h3, _⟩ := h2.some_
      refine ⟨b, ?_, h2.mono (Ext.alloc h) (upd_ne (ne_of_none h3 h))⟩
      rw [List.getElem?_append_left (by rw [← S.len]; exact hl)]
      exact h1
    · have e : l = st.length := by
        have := (List.getElem?_eq_some_iff.mp q).1
        simp at this; omega
      subst e
      rw [List.getElem?_append_right (Nat.le_refl _), Nat.sub_self] at q
      cases q
      refine ⟨a, ?_, hc⟩
      rw [S.len, List.getElem?_append_right (Nat.le_refl _), Nat.sub_self]; rfl
theorem Rep.alloc (S : RS G ι st H) : Rep G (ι ++ [a]) H' (.ref st.length) (.ref a) := ⟨a, rfl, by rw [S.len, List.getElem?_append_right (Nat.le_refl _), Nat.sub_self]; rfl⟩
/-- a labelled object is written -/
theorem Ext.write {o u : HO} (hl : ι[l]? = some a) (h : H a = some o) (hi : ¬ Imm o) : Ext ι H ι (upd H a u) := by
  refine ⟨⟨[], by simp⟩, fun a h => .inl h, fun b v q n => ?_, fun b v q i => ?_, fun b q z => ?_⟩
  · rw [upd_ne fun z => n (by rw [z]; exact List.mem_of_getElem? hl)]; exact q
  · rw [upd_ne fun z => hi (by subst z; rw [h] at q; cases q; exact i)]; exact q
  · by_cases hb : b = a
    · subst hb; rw [upd_same] at z; cases z
    · rw [upd_ne hb] at z; exact q z
theorem RS.write {o u : HO} {c : Cell} (S : RS G ι st H) (hl : ι[l]? = some a) (h : H a = some o) (hi : ¬ Imm o) (hc : CellRep G ι (upd H a u) a c) : RS G ι (st.set l c) (upd H a u) := by
  refine ⟨by simp [S.len], S.nd, fun m c' q => ?_⟩
  by_cases hm : l = m
  · subst hm
    have : l < st.length := by rw [S.len]; exact (List.getElem?_eq_some_iff.mp hl).1
    rw [List.getElem?_set_self this] at q
    cases q
    exact ⟨a, hl, hc⟩
  · rw [List.getElem?_set_ne hm] at q
    obtain ⟨b, h1, h2⟩ := S.cell m c' q
    refine ⟨b, h1, h2.mono (Ext.write hl h hi) (upd_ne fun z => hm ?_)⟩
    subst z
    have hlt := (List.getElem?_eq_some_iff.mp hl)
    have hmt := (List.getElem?_eq_some_iff.mp h1)
    obtain ⟨x1, x2⟩ := hlt
    obtain ⟨y1, y2⟩ := hmt
    exact (List.getElem_inj S.nd).mp (x2.trans y2.symm)
end
end DS

set_option Elab.async false
set_option linter.all false
set_option maxRecDepth 100000
set_option maxHeartbeats 4000000
namespace DS
open PySem PySem.Spec PyProof.Rows L2
open DL (D Cell Store DX Res SRes)

/-- a two-place operation by data -/
def tV2 (G : Gl) (f : D → D → Store → Option (D × Store)) : R2 := fun x y H Q => ∃ ι d1 d2 st d st', Rep G ι H d1 x ∧ Rep G ι H d2 y ∧ RS G ι st H ∧ f d1 d2 st = some (d, st') ∧
  ∀ v H' ι', Ext ι H ι' H' → RS G ι' st' H' → Rep G ι' H' d v → Q v H'

section
variable {G : Gl} {X : Cx} {ι : List Addr} {H : Hp} {st : Store}
theorem sqT_of {xs : List V} {a : Addr} {P : Prop} (hK : X.K = G.K) (h : H a = some (.tup xs) ∨ (KTup G.K a xs ∧ P)) : SqT X.K H a xs := by
  rcases h with h | ⟨h, _⟩
  · exact .inl (.inl h)
  · rw [hK]; exact .inr h
/-- the end of an operation that makes a tuple -/
theorem fin_tup {Q : VK} {ds : List D} {vs : List V} (S : RS G ι st H) (r : RepL G ι H ds vs) (k : ∀ v H' ι', Ext ι H ι' H' → RS G ι' st H' → Rep G ι' H' (.tup ds) v → Q v H') :
    ∀ p, H p = none → Q (.ref p) (upd H p (.tup vs)) := fun p hp =>
  k _ _ ι (Ext.laid hp) (S.laid hp) ⟨p, vs, rfl, .inl upd_same, r.mono (Ext.laid hp)⟩
theorem fin_lst {Q : VK} {ds : List D} {vs : List V} (S : RS G ι st H) (r : RepL G ι H ds vs) (k : ∀ v H' ι', Ext ι H ι' H' → RS G ι' (st ++ [.lst ds]) H' → Rep G ι' H' (.ref st.length) v → Q v H') :
    ∀ p, H p = none → Q (.ref p) (upd H p (.lst vs)) := fun p hp =>
  k _ _ (ι ++ [p]) (Ext.alloc hp) (S.alloc hp ⟨vs, upd_same, r.mono (Ext.alloc hp)⟩) (Rep.alloc S)
theorem RS.lst (S : RS G ι st H) {l : Nat} {a : Addr} {xs : List D} (h : st[l]? = some (.lst xs)) (ha : ι[l]? = some a) : ∃ vs, H a = some (.lst vs) ∧ RepL G ι H xs vs := S.get h ha

theorem rep_len {α : Type} (xs : List α) : ∀ n, (DL.rep xs n).length = xs.length * n
  | 0 => by simp [DL.rep]
  | n + 1 => by rw [DL.rep, List.length_append, rep_len xs n, Nat.mul_succ]; omega
theorem rep_flat {α : Type} (xs : List α) : ∀ n, DL.rep xs n = (List.replicate n xs).flatten
  | 0 => by simp [DL.rep]
  | n + 1 => by rw [DL.rep, List.replicate_succ, List.flatten_cons, rep_flat xs n]

theorem strOk_app {a b : List Nat} (h : PyData.strOk (sS a) = true) (g : PyData.strOk (sS b) = true) : PyData.strOk (sS (a ++ b)) = true := by
  unfold PyData.strOk sS at *
  simp only [List.all_toArray] at *
  rw [List.all_append, h, g]; rfl
theorem strOk_of_sub {a b : List Nat} (h : PyData.strOk (sS a) = true) (hs : ∀ c ∈ b, c ∈ a) : PyData.strOk (sS b) = true := by
  unfold PyData.strOk sS at *
  simp only [List.all_toArray, List.all_eq_true] at *
  exact fun c hc => h c (hs c hc)

theorem op_addD (hK : X.K = G.K) : OpR X (binaryOp .Add) (tV2 G (DL.addD)) := by
  intro pins s σ H x y v u Q I rx ry ⟨ι, d1, d2, st, d, st', r1, r2, S, e, k⟩
  unfold DL.addD at e
  split at e
  · cases e
    exact op_add pins s σ H x y v u Q I rx ry ⟨_, _, r1, r2, k _ _ ι Ext.refl S rfl⟩
  · split at e
    · rename_i a b hok
      cases e
      obtain ⟨rfl, l1, o1⟩ := r1
      obtain ⟨rfl, l2, o2⟩ := r2
      have hl : a.length + b.length ≤ sizeLine := lineM (of_decide_eq_true hok)
      refine op_add_str pins s σ H _ _ v u Q I rx ry ⟨_, _, rfl, rfl, by rw [sS_len, sS_len]; exact hl, k _ _ ι Ext.refl S ⟨by rw [sS_app], by rw [List.length_append]; exact hl, strOk_app o1 o2⟩⟩
    · cases e
  · split at e
    · rename_i a b hok
      cases e
      obtain ⟨p, vs, rfl, h1, q1⟩ := r1
      obtain ⟨p', vs', rfl, h2, q2⟩ := r2
      have hl : vs.length + vs'.length ≤ sizeLine := by rw [← q1.length, ← q2.length]; exact lineM (of_decide_eq_true hok)
      refine op_catA pins s σ H _ _ v u Q I rx ry ⟨p, p', vs, vs', rfl, rfl, sqT_of hK h1, sqT_of hK h2, hl, fun z => ?_, fun z z' => ?_, fun z z' => fin_tup S (q1.append q2) k⟩
      · have : a = [] := by
          have := q1.length; rw [z] at this; exact List.eq_nil_of_length_eq_zero this
        subst this
        exact k _ _ ι Ext.refl S ⟨p', vs', rfl, h2, q2⟩
      · have : b = [] := by
          have := q2.length; rw [z'] at this; exact List.eq_nil_of_length_eq_zero this
        subst this
        exact k _ _ ι Ext.refl S ⟨p, vs, rfl, by rw [List.append_nil]; exact h1, by rw [List.append_nil]; exact q1⟩
    · cases e
  · split at e
    · split at e
      · rename_i l1 l2 xs ys h1 h2 hok
        cases e
        obtain ⟨p, rfl, e1⟩ := r1
        obtain ⟨p', rfl, e2⟩ := r2
        obtain ⟨vs, g1, q1⟩ := S.lst h1 e1
        obtain ⟨vs', g2, q2⟩ := S.lst h2 e2
        have hl : vs.length + vs'.length ≤ sizeLine := by rw [← q1.length, ← q2.length]; exact lineM (of_decide_eq_true hok)
        exact op_cat pins s σ H _ _ v u Q I rx ry ⟨p, p', vs, vs', rfl, rfl, g1, g2, hl, fin_lst S (q1.append q2) k⟩
      · cases e
    · cases e
  · cases e

theorem op_subD : OpR X (binaryOp .Sub) (tV2 G (DL.subD)) := by
  intro pins s σ H x y v u Q I rx ry ⟨ι, d1, d2, st, d, st', r1, r2, S, e, k⟩
  unfold DL.subD at e
  split at e
  · cases e
    exact op_sub pins s σ H x y v u Q I rx ry ⟨_, _, r1, r2, k _ _ ι Ext.refl S rfl⟩
  · cases e
theorem op_fdivD : OpR X (binaryOp .FloorDiv) (tV2 G (DL.fdivD)) := by
  intro pins s σ H x y v u Q I rx ry ⟨ι, d1, d2, st, d, st', r1, r2, S, e, k⟩
  unfold DL.fdivD at e
  split at e
  · split at e
    · rename_i hc
      cases e
      exact op_fdiv pins s σ H x y v u Q I rx ry ⟨_, _, r1, r2, hc, k _ _ ι Ext.refl S rfl⟩
    · cases e
  · cases e
theorem op_modD : OpR X (binaryOp .Mod) (tV2 G (DL.modD)) := by
  intro pins s σ H x y v u Q I rx ry ⟨ι, d1, d2, st, d, st', r1, r2, S, e, k⟩
  unfold DL.modD at e
  split at e
  · split at e
    · rename_i hc
      cases e
      exact op_mod pins s σ H x y v u Q I rx ry ⟨_, _, r1, r2, hc, k _ _ ι Ext.refl S rfl⟩
    · cases e
  · cases e
theorem small64_iff {i : Int} (h : DL.small64 i = true) : -(2 ^ 64) < i ∧ i < 2 ^ 64 := by
  unfold DL.small64 at h
  rw [Bool.and_eq_true, decide_eq_true_eq, decide_eq_true_eq] at h
  exact h
theorem op_powD : OpR X (binaryOp .Pow) (tV2 G (DL.powD)) := by
  intro pins s σ H x y v u Q I rx ry ⟨ι, d1, d2, st, d, st', r1, r2, S, e, k⟩
  unfold DL.powD at e
  split at e
  · split at e
    · rename_i hc
      cases e
      have h := small64_iff hc.2.2
      exact op_pow pins s σ H x y v u Q I rx ry ⟨_, _, r1, r2, ⟨hc.1, by omega, by omega⟩, k _ _ ι Ext.refl S rfl⟩
    · cases e
  · cases e

/-- t * 1 is t -/
theorem tuple_mul1 (l : Addr) (items : Array Value) (n : Nat) (dd : Option Addr) (sl : Array (Option Value)) (u : Tok) :
    Meets (Builtin.«tuple.__mul__» ⟨[.ref l, .int 1 u], []⟩) (fun _ R s => s.heap.get? l = some { cls := .type "tuple", dict := dd, data := .seq items n, slots := sl } ∧ R (.ok (.ret (Value.ref l))) s) :=
  .of_wp fun prog w A R s h => by
    obtain ⟨hp, g, d, tk, os⟩ := s
    obtain ⟨hl, h⟩ := h
    have f1 := AutoSeq1.idx_int
    have c1 : (items.isEmpty || (1 : Int) == 1) = true := by simp
    wp_walk using wpAny_loadPart' hl
    exact ⟨_, rfl, h⟩
theorem op_repT1 {pins : List (Addr × Obj)} {s : Shared} {σ : L2.St} {p : Addr} {xs : List V} {t : Tok} {Q : VK} (I : Inv X pins σ H s) (hT : SqT X.K H p xs) (q : Q (.ref p) H) :
    wpAny (model X.prog X.w) X.A (binaryOp .Mult (.ref p) (.int 1 t)) (EP X pins σ Q) X.xe s := by
  obtain ⟨its, r, ⟨⟨cls, dd, data, sl⟩, ho, hc, n, hd⟩, hs⟩ := I.tuple hT
  simp only at hc hd
  subst hc hd
  refine wpAny_binaryOp_repeat_ref (T := "tuple") (U := "int") (by decide) ⟨_, ho, rfl⟩ (fun s' => typeIs_int s' 1 t) noFill_tuple_mul F.fills_int_mul F.slot_int_rmul repeat_tuple F.slot_int_index.lookup
    (call_meets F.slot_int_rmul (typeIs_int s 1 t) F.entry_int_rmul (F.args_int_rmul_2 _ _) (int_rmul_tuple 1 t p its.toArray n dd sl)
      ⟨ho, rfl, ⟨_, ho, rfl⟩, call_meets F.slot_tuple_mul ⟨_, ho, rfl⟩ F.entry_tuple_mul (F.args_tuple_mul_2 _ _) (tuple_mul1 p its.toArray n dd sl t) ⟨ho, ?_⟩⟩)
  exact ⟨.ref p, H, I, rfl, q⟩

theorem op_mulD (hK : X.K = G.K) : OpR X (binaryOp .Mult) (tV2 G DL.mulD) := by
  intro pins s σ H x y v u Q I rx ry ⟨ι, d1, d2, st, d, st', r1, r2, S, e, k⟩
  unfold DL.mulD at e
  split at e
  · split at e
    · rename_i hc
      cases e
      exact op_mul pins s σ H x y v u Q I rx ry ⟨_, _, r1, r2, hc.imp small64_iff small64_iff, k _ _ ι Ext.refl S rfl⟩
    · cases e
  · split at e
    · rename_i a j hc
      cases e
      obtain ⟨rfl, l1, o1⟩ := r1
      have r2' : y = V.int j := r2
      subst r2'
      obtain ⟨t, rfl⟩ := rx
      obtain ⟨t', rfl⟩ := ry
      have e1 : Txt.mul (sS a) j = sS (DL.rep a j.toNat) := by
        unfold Txt.mul
        rw [if_neg (by omega)]
        by_cases hj : j = 1
        · subst hj
          simp [DL.rep]
        · by_cases ha : a = []
          · subst ha
            have : ∀ n, DL.rep ([] : List Nat) n = [] := fun n => by
              induction n with
              | zero => rfl
              | succ n ih => rw [DL.rep, ih]; rfl
            rw [this]; simp [sS, Str.length]
          · have h0 : ¬ ((j == 1 || (sS a).length == 0) = true) := by
              rw [sS_len]
              simp [hj, ha]
            rw [if_neg h0, rep_flat]
            unfold sS
            congr 1
            have : ∀ (n : Nat) (acc : Array Nat), List.foldl (fun x1 x2 => x1 ++ x2) acc (List.replicate n a.toArray) = acc ++ (List.replicate n a).flatten.toArray := fun n => by
              induction n with
              | zero => intro acc; simp
              | succ n ih => intro acc; rw [List.replicate_succ, List.foldl_cons, ih, List.replicate_succ, List.flatten_cons]; simp
            have h2 := this j.toNat #[]
            simpa using h2
      refine SB.mul (mulOk_of 1000 1000 (by rw [sS_len]; exact hc.1) (by omega) (by omega) (by decide) (by decide)) fun t' kk => ?_
      rw [e1]
      refine ⟨.str _, H, I.tok _, ⟨_, rfl⟩, k _ _ ι Ext.refl S ⟨rfl, ?_, strOk_of_sub o1 fun c hc => ?_⟩⟩
      · rw [rep_len]
        have h3 : a.length * j.toNat ≤ 1000 * 1000 := Nat.mul_le_mul hc.1 (by omega)
        exact lineM h3
      · rw [rep_flat] at hc
        obtain ⟨l, h1, h2⟩ := List.mem_flatten.mp hc
        rw [List.eq_of_mem_replicate h1] at h2
        exact h2
    · cases e
  · split at e
    · rename_i a j hc
      cases e
      obtain ⟨p, vs, rfl, h1, q1⟩ := r1
      have r2' : y = V.int j := r2
      subst r2'
      have hl := q1.length
      by_cases hj : j = 1
      · subst hj
        cases rx
        obtain ⟨t', rfl⟩ := ry
        refine op_repT1 I (sqT_of hK h1) (k _ _ ι Ext.refl S ?_)
        have : DL.rep a (1 : Int).toNat = a := by simp [DL.rep]
        rw [this]
        exact ⟨p, vs, rfl, h1, q1⟩
      · refine op_repT pins s σ H _ _ v u Q I rx ry ⟨p, j, vs, rfl, rfl, sqT_of hK h1, fun z => ?_, by omega, by omega, by omega, fin_tup S (q1.rep _) k⟩
        rw [z, List.length_nil] at hl
        omega
    · cases e
  · split at e
    · split at e
      · rename_i a j _ xs h1 hc
        cases e
        obtain ⟨p, rfl, e1⟩ := r1
        have r2' : y = V.int j := r2
        subst r2'
        obtain ⟨vs, g1, q1⟩ := S.lst h1 e1
        have hl := q1.length
        have h3 : vs.length * j.toNat ≤ 1000 * 1000 := Nat.mul_le_mul (by omega) (by omega)
        exact op_rep pins s σ H _ _ v u Q I rx ry ⟨p, j, vs, rfl, rfl, g1, by omega, by omega, lineM h3, fin_lst S (q1.rep _) k⟩
      · cases e
    · cases e
  · cases e

/-! ### comparisons -/
/-- a comparison by data: nothing is made -/
def tC2 (G : Gl) (f : D → D → Store → Option Bool) : R2 := fun x y H Q => ∃ ι d1 d2 st b, Rep G ι H d1 x ∧ Rep G ι H d2 y ∧ RS G ι st H ∧ f d1 d2 st = some b ∧ Q (.bl b) H

mutual
def pdOf : DL.PD → PyData
  | .non => .none
  | .bl b => .bool b
  | .int i => .int i
  | .str s => .str (sS s)
  | .lst xs => .list (pdOfs xs)
  | .tup xs => .tuple (pdOfs xs)
def pdOfs : List DL.PD → List PyData
  | [] => []
  | x :: xs => pdOf x :: pdOfs xs
end
theorem pd_lst (xs : List DL.PD) : pdOf (.lst xs) = .list (pdOfs xs) := by rw [pdOf]
theorem pd_tup (xs : List DL.PD) : pdOf (.tup xs) = .tuple (pdOfs xs) := by rw [pdOf]
mutual
theorem eqv_pd : ∀ x y : DL.PD, PyData.eqv (pdOf x) (pdOf y) = DL.PD.eqv x y
  | .non, y => by cases y <;> simp [pdOf, PyData.eqv, DL.PD.eqv]
  | .bl a, y => by cases y <;> simp [pdOf, PyData.eqv, DL.PD.eqv]
  | .int a, y => by cases y <;> simp [pdOf, PyData.eqv, DL.PD.eqv]
  | .str a, .str b => by
    simp only [pdOf, PyData.eqv, DL.PD.eqv]
    rw [Bool.eq_iff_iff]
    simp only [beq_iff_eq]
    exact ⟨fun h => sS_inj h, fun h => by rw [h]⟩
  | .str a, .non => by simp [pdOf, PyData.eqv, DL.PD.eqv]
  | .str a, .bl _ => by simp [pdOf, PyData.eqv, DL.PD.eqv]
  | .str a, .int _ => by simp [pdOf, PyData.eqv, DL.PD.eqv]
  | .str a, .lst _ => by simp [pdOf, PyData.eqv, DL.PD.eqv]
  | .str a, .tup _ => by simp [pdOf, PyData.eqv, DL.PD.eqv]
  | .lst xs, .lst ys => by simp only [pdOf, PyData.eqv, DL.PD.eqv]; exact eqvs_pd xs ys
  | .lst xs, .non => by simp [pdOf, PyData.eqv, DL.PD.eqv]
  | .lst xs, .bl _ => by simp [pdOf, PyData.eqv, DL.PD.eqv]
  | .lst xs, .int _ => by simp [pdOf, PyData.eqv, DL.PD.eqv]
  | .lst xs, .str _ => by simp [pdOf, PyData.eqv, DL.PD.eqv]
  | .lst xs, .tup _ => by simp [pdOf, PyData.eqv, DL.PD.eqv]
  | .tup xs, .tup ys => by simp only [pdOf, PyData.eqv, DL.PD.eqv]; exact eqvs_pd xs ys
  | .tup xs, .non => by simp [pdOf, PyData.eqv, DL.PD.eqv]
  | .tup xs, .bl _ => by simp [pdOf, PyData.eqv, DL.PD.eqv]
  | .tup xs, .int _ => by simp [pdOf, PyData.eqv, DL.PD.eqv]
  | .tup xs, .str _ => by simp [pdOf, PyData.eqv, DL.PD.eqv]
  | .tup xs, .lst _ => by simp [pdOf, PyData.eqv, DL.PD.eqv]
theorem eqvs_pd : ∀ xs ys : List DL.PD, PyData.eqvAll (pdOfs xs) (pdOfs ys) = DL.PD.eqvs xs ys
  | [], [] => rfl
  | [], _ :: _ => rfl
  | _ :: _, [] => rfl
  | x :: xs, y :: ys => by
    simp only [pdOfs, PyData.eqvAll, DL.PD.eqvs]
    rw [eqv_pd x y, eqvs_pd xs ys]
end

theorem sqL_of {xs : List V} {a : Addr} (h : H a = some (.lst xs)) : SqL X.K H a xs := .inl (.inl h)
theorem shaped_of {d : PyData} (h1 : d.canLay0 = true) (h2 : d.depth ≤ 64) : SeqAt.shaped d = true := by
  unfold SeqAt.shaped
  rw [h1, decide_eq_true h2]; rfl
mutual
theorem rsv_dp (hK : X.K = G.K) : ∀ {n : Nat} {d : D} {v : V} {p : DL.PD}, Rep G ι H d v → DL.rsv n d = some p → Dp X.K H v (pdOf p) ∧ (pdOf p).canLay0 = true ∧ (pdOf p).depth ≤ n
  | n, .non, v, p, h, e => by
    cases e
    rw [show v = V.non from h]
    exact ⟨.non, by simp [pdOf, PyData.canLay0], by simp [pdOf, PyData.depth]⟩
  | n, .bl b, v, p, h, e => by
    cases e
    rw [show v = V.bl b from h]
    exact ⟨.bl b, by simp [pdOf, PyData.canLay0], by simp [pdOf, PyData.depth]⟩
  | n, .int b, v, p, h, e => by
    cases e
    rw [show v = V.int b from h]
    exact ⟨.int b, by simp [pdOf, PyData.canLay0], by simp [pdOf, PyData.depth]⟩
  | n, .str b, v, p, h, e => by
    cases e
    obtain ⟨rfl, _, h3⟩ := h
    exact ⟨.str _, by simpa [pdOf, PyData.canLay0] using h3, by simp [pdOf, PyData.depth]⟩
  | n, .tup xs, v, p, h, e => by
    obtain ⟨a, vs, rfl, h1, h2⟩ := h
    rw [DL.rsv] at e
    split at e
    · cases e
    · rename_i hn
      obtain ⟨qs, e1, rfl⟩ := Option.map_eq_some_iff.mp e
      obtain ⟨g1, g2, g3⟩ := rsvs_dp hK h2 e1
      rw [pd_tup]
      refine ⟨.tup (sqT_of hK h1) g1, by simpa [PyData.canLay0] using g2, ?_⟩
      simp only [PyData.depth]
      omega
  | n, .ref _, v, p, h, e => by cases e
  | n, .fl _, v, p, h, e => by cases e
  | n, .fn _, v, p, h, e => by cases e
theorem rsvs_dp (hK : X.K = G.K) : ∀ {n : Nat} {ds : List D} {vs : List V} {ps : List DL.PD}, RepL G ι H ds vs → DL.rsvs n ds = some ps → DpAll X.K H vs (pdOfs ps) ∧ PyData.canLayAll0 (pdOfs ps) = true ∧ PyData.depthAll (pdOfs ps) ≤ n
  | n, [], vs, ps, h, e => by
    cases e; cases h
    exact ⟨.nil, by simp [pdOfs, PyData.canLayAll0], by simp [pdOfs, PyData.depthAll]⟩
  | n, d :: ds, vs, ps, h, e => by
    obtain ⟨v, r, rfl, h1, h2⟩ := h
    rw [DL.rsvs] at e
    split at e
    · rename_i a b ea eb
      cases e
      obtain ⟨g1, g2, g3⟩ := rsv_dp hK h1 ea
      obtain ⟨k1, k2, k3⟩ := rsvs_dp hK h2 eb
      refine ⟨.cons g1 k1, by simp [pdOfs, PyData.canLayAll0, g2, k2], ?_⟩
      simp only [pdOfs, PyData.depthAll]
      omega
    · cases e
end
theorem rsv1_dp (hK : X.K = G.K) (S : RS G ι st H) {d : D} {v : V} {p : DL.PD} (h : Rep G ι H d v) (e : DL.rsv1 st d = some p) : Dp X.K H v (pdOf p) ∧ SeqAt.shaped (pdOf p) = true := by
  unfold DL.rsv1 at e
  split at e
  · split at e
    · rename_i l xs hl
      obtain ⟨a, rfl, ha⟩ := h
      obtain ⟨vs, g1, g2⟩ := S.lst hl ha
      obtain ⟨qs, e1, rfl⟩ := Option.map_eq_some_iff.mp e
      obtain ⟨k1, k2, k3⟩ := rsvs_dp hK g2 e1
      rw [pd_lst]
      refine ⟨.lst (sqL_of g1) k1, shaped_of (by simpa [PyData.canLay0] using k2) ?_⟩
      simp only [PyData.depth]
      omega
    · cases e
  · obtain ⟨k1, k2, k3⟩ := rsv_dp hK h e
    exact ⟨k1, shaped_of k2 (by omega)⟩
theorem op_eqDD (hK : X.K = G.K) (hu : X.A.units + 64 < cLine) : OpR X (compareOp .Eq) (tC2 G fun x y st => DL.eqD st x y) := by
  intro pins s σ H x y v u Q I rx ry ⟨ι, d1, d2, st, b, r1, r2, S, e, k⟩
  dsimp only at e
  unfold DL.eqD at e
  split at e
  · rename_i p q e1 e2
    cases e
    obtain ⟨g1, g2⟩ := rsv1_dp hK S r1 e1
    obtain ⟨k1, k2⟩ := rsv1_dp hK S r2 e2
    exact op_eqD hu pins s σ H x y v u Q I rx ry ⟨_, _, g1, k1, g2, k2, by rw [eqv_pd]; exact k⟩
  · cases e
theorem op_neDD (hK : X.K = G.K) (hu : X.A.units + 64 < cLine) : OpR X (compareOp .NotEq) (tC2 G fun x y st => (DL.eqD st x y).map (!·)) := by
  intro pins s σ H x y v u Q I rx ry ⟨ι, d1, d2, st, b, r1, r2, S, e, k⟩
  dsimp only at e
  obtain ⟨c, e, rfl⟩ := Option.map_eq_some_iff.mp e
  unfold DL.eqD at e
  split at e
  · rename_i p q e1 e2
    have ec : DL.PD.eqv p q = c := by simpa using e
    subst ec
    obtain ⟨g1, g2⟩ := rsv1_dp hK S r1 e1
    obtain ⟨k1, k2⟩ := rsv1_dp hK S r2 e2
    exact op_neD hu pins s σ H x y v u Q I rx ry ⟨_, _, g1, k1, g2, k2, by rw [eqv_pd]; exact k⟩
  · cases e
theorem op_ltDD : OpR X (compareOp .Lt) (tC2 G fun x y st => DL.ltD x y) := by
  intro pins s σ H x y v u Q I rx ry ⟨ι, d1, d2, st, b, r1, r2, S, e, k⟩
  dsimp only at e
  unfold DL.ltD at e
  split at e
  · cases e
    exact op_lt pins s σ H x y v u Q I rx ry ⟨_, _, r1, r2, k⟩
  · cases e
    obtain ⟨rfl, _, _⟩ := r1
    obtain ⟨rfl, _, _⟩ := r2
    exact op_lt_str pins s σ H _ _ v u Q I rx ry ⟨_, _, rfl, rfl, by rw [sS_cps, sS_cps]; exact k⟩
  · cases e
theorem op_gtDD : OpR X (compareOp .Gt) (tC2 G fun x y st => DL.ltD y x) := by
  intro pins s σ H x y v u Q I rx ry ⟨ι, d1, d2, st, b, r1, r2, S, e, k⟩
  dsimp only at e
  unfold DL.ltD at e
  split at e
  · cases e
    exact op_gt pins s σ H x y v u Q I rx ry ⟨_, _, r1, r2, k⟩
  · cases e
    obtain ⟨rfl, _, _⟩ := r1
    obtain ⟨rfl, _, _⟩ := r2
    exact op_gt_str pins s σ H _ _ v u Q I rx ry ⟨_, _, rfl, rfl, by rw [sS_cps, sS_cps]; exact k⟩
  · cases e
theorem op_leDD : OpR X (compareOp .LtE) (tC2 G fun x y st => DL.leD x y) := by
  intro pins s σ H x y v u Q I rx ry ⟨ι, d1, d2, st, b, r1, r2, S, e, k⟩
  dsimp only at e
  unfold DL.leD at e
  split at e
  · cases e
    exact op_le pins s σ H x y v u Q I rx ry ⟨_, _, r1, r2, k⟩
  · cases e
theorem op_geDD : OpR X (compareOp .GtE) (tC2 G fun x y st => DL.leD y x) := by
  intro pins s σ H x y v u Q I rx ry ⟨ι, d1, d2, st, b, r1, r2, S, e, k⟩
  dsimp only at e
  unfold DL.leD at e
  split at e
  · cases e
    exact op_ge pins s σ H x y v u Q I rx ry ⟨_, _, r1, r2, k⟩
  · cases e
theorem isNon_rep {d : D} {v : V} (h : Rep G ι H d v) : DL.isNon d = decide (v = .non) := by
  cases d with
  | non => rw [show v = V.non from h]; rfl
  | bl b => rw [show v = V.bl b from h]; rfl
  | int b => rw [show v = V.int b from h]; rfl
  | str b => obtain ⟨rfl, _⟩ := h; rfl
  | tup b => obtain ⟨a, vs, rfl, _⟩ := h; rfl
  | ref b => obtain ⟨a, rfl, _⟩ := h; rfl
  | fl b => obtain ⟨a, rfl, _⟩ := h; rfl
  | fn b => obtain ⟨a, _, rfl⟩ := h; rfl
theorem op_isDD : OpR X (compareOp .Is) (tC2 G fun x y st => if DL.isNon y = true then some (DL.isNon x) else none) := by
  intro pins s σ H x y v u Q I rx ry ⟨ι, d1, d2, st, b, r1, r2, S, e, k⟩
  dsimp only at e
  split at e
  · rename_i hn
    cases e
    rw [isNon_rep r2, decide_eq_true_eq] at hn
    exact op_isN pins s σ H x y v u Q I rx ry ⟨hn, by rw [← isNon_rep r1]; exact k⟩
  · cases e
theorem op_isnotDD : OpR X (compareOp .IsNot) (tC2 G fun x y st => if DL.isNon y = true then some (!DL.isNon x) else none) := by
  intro pins s σ H x y v u Q I rx ry ⟨ι, d1, d2, st, b, r1, r2, S, e, k⟩
  dsimp only at e
  split at e
  · rename_i hn
    cases e
    rw [isNon_rep r2, decide_eq_true_eq] at hn
    exact op_notN pins s σ H x y v u Q I rx ry ⟨hn, by rw [← isNon_rep r1]; exact k⟩
  · cases e

/-! ### in -/
theorem flat_rep {d : D} {v : V} (h : Rep G ι H d v) (hf : DL.flat d = true) : flatV v = true := by
  cases d with
  | non => rw [show v = V.non from h]; rfl
  | bl b => rw [show v = V.bl b from h]; rfl
  | int b => rw [show v = V.int b from h]; rfl
  | str b => obtain ⟨rfl, _⟩ := h; rfl
  | _ => cases hf
theorem eqV_rep {d e : D} {v u : V} {p q : DL.PD} (h : Rep G ι H d v) (h' : Rep G ι H e u) (f : DL.flat d = true) (g : DL.flat e = true) (hp : DL.rsv 40 d = some p) (hq : DL.rsv 40 e = some q) : eqV v u = DL.PD.eqv p q := by
  cases d <;> cases e <;> first
    | (cases f; done)
    | (cases g; done)
    | (simp only [DL.rsv, Option.some.injEq] at hp hq
       subst hp hq
       first
        | (rw [show v = _ from h, show u = _ from h']; simp [eqV, DL.PD.eqv]; done)
        | (obtain ⟨rfl, _⟩ := h; rw [show u = _ from h']; simp [eqV, DL.PD.eqv]; done)
        | (obtain ⟨rfl, _⟩ := h'; rw [show v = _ from h]; simp [eqV, DL.PD.eqv]; done)
        | (obtain ⟨rfl, _⟩ := h; obtain ⟨rfl, _⟩ := h'
           simp only [eqV, DL.PD.eqv]
           rw [Bool.eq_iff_iff]
           simp only [beq_iff_eq]
           exact ⟨fun z => sS_inj z, fun z => by rw [z]⟩))
theorem flats_rep : ∀ {ds : List D} {vs : List V}, RepL G ι H ds vs → DL.flats ds = true → vs.all flatV = true
  | [], _, h, _ => by cases h; rfl
  | d :: ds, _, ⟨v, r, h1, h2, h3⟩, hf => by
    subst h1
    rw [DL.flats, Bool.and_eq_true] at hf
    rw [List.all_cons, flat_rep h2 hf.1, flats_rep h3 hf.2]; rfl
theorem inV_rep {e : D} {u : V} {p : DL.PD} (h' : Rep G ι H e u) (g : DL.flat e = true) (hp : DL.rsv 40 e = some p) : ∀ {ds : List D} {vs : List V} {qs : List DL.PD}, RepL G ι H ds vs → DL.flats ds = true → DL.rsvs 40 ds = some qs → inV u vs = qs.any fun q => DL.PD.eqv q p
  | [], _, qs, h, _, eq => by cases h; cases eq; rfl
  | d :: ds, _, qs, ⟨v, r, h1, h2, h3⟩, hf, eq => by
    subst h1
    rw [DL.flats, Bool.and_eq_true] at hf
    rw [DL.rsvs] at eq
    split at eq
    · rename_i a b ea eb
      cases eq
      have ih := inV_rep h' g hp h3 hf.2 eb
      unfold inV at ih ⊢
      rw [List.any_cons, List.any_cons, ih, eqV_rep h2 h' hf.1 g ea hp]
    · cases eq
theorem keyK_rep {d : D} {v : V} {k : Key} (h : Rep G ι H d v) (e : keyK d = some k) : v = kV k := by
  cases d <;> simp only [keyK, Option.some.injEq] at e <;> first | (cases e; done) | skip
  · subst e; exact h
  · subst e; exact h.1
theorem keysT_rep : ∀ {ds : List D} {vs : List V} {ks : List Key}, RepL G ι H ds vs → keysT ds = some ks → vs = ks.map kV
  | [], _, ks, h, e => by cases h; cases e; rfl
  | d :: ds, _, ks, ⟨v, r, h1, h2, h3⟩, e => by
    subst h1
    rw [keysT] at e
    split at e
    · rename_i k ks' e1 e2
      cases e
      rw [keyK_rep h2 e1, keysT_rep h3 e2]; rfl
    · cases e
end
end DS

set_option Elab.async false
set_option linter.all false
set_option maxRecDepth 100000
set_option maxHeartbeats 4000000
namespace DS
open PySem PySem.Spec PyProof.Rows L2
open DL (D Cell Store DX Res SRes)
section
variable {G : Gl} {X : Cx} {ι : List Addr} {H : Hp} {st : Store}

/-! ### keys -/
theorem same_key {d e : D} {k l : Key} (hd : keyK d = some k) (he : keyK e = some l) : DL.D.same d e = decide (k = l) := by
  cases d <;> simp only [keyK, Option.some.injEq] at hd <;> first | (cases hd; done) | skip
  · cases e <;> simp only [keyK, Option.some.injEq] at he <;> first | (cases he; done) | skip
    · subst hd he
      simp only [DL.D.same]
      rw [key_ll]
    · subst hd he
      simp only [DL.D.same]
      rw [key_lr]
  · cases e <;> simp only [keyK, Option.some.injEq] at he <;> first | (cases he; done) | skip
    · subst hd he
      simp only [DL.D.same]
      rw [key_rl]
    · subst hd he
      simp only [DL.D.same]
      rw [key_rr, Bool.eq_iff_iff]
      simp only [beq_iff_eq, decide_eq_true_eq]
      exact ⟨fun z => by rw [z], fun z => sS_inj z⟩
theorem sames_key : ∀ {ds es : List D} {k l : List Key}, keysT ds = some k → keysT es = some l → DL.D.sames ds es = decide (k = l)
  | [], [], k, l, h, g => by cases h; cases g; rfl
  | [], e :: es, k, l, h, g => by
    cases h
    rw [keysT] at g
    split at g
    · cases g; rfl
    · cases g
  | d :: ds, [], k, l, h, g => by
    cases g
    rw [keysT] at h
    split at h
    · cases h; rfl
    · cases h
  | d :: ds, e :: es, k, l, h, g => by
    rw [keysT] at h g
    split at h
    · rename_i k1 k2 e1 e2
      cases h
      split at g
      · rename_i l1 l2 f1 f2
        cases g
        rw [DL.D.sames, same_key e1 f1, sames_key e2 f2, Bool.eq_iff_iff]
        simp
      · cases g
    · cases h
theorem same_keyT {d e : D} {k l : List Key} (hd : keyT d = some k) (he : keyT e = some l) : DL.D.same d e = decide (k = l) := by
  cases d <;> first | (cases hd; done) | skip
  cases e <;> first | (cases he; done) | skip
  rw [DL.D.same]
  exact sames_key hd he
/-- a dict's look-up by data -/
theorem look_rep {κ : Type} [DecidableEq κ] {f : D → Option κ} (hf : ∀ {d e : D} {k l : κ}, f d = some k → f e = some l → DL.D.same d e = decide (k = l)) {d : D} {k : κ} (hd : f d = some k) :
    ∀ {kvs : List (D × D)} {ks : List (κ × V)}, RepK G f ι H kvs ks → (∀ e, DL.lookD d kvs = some e → ∃ v, valV ks k = some v ∧ Rep G ι H e v) ∧ (kvs.any fun p => DL.D.same p.1 d) = (valV ks k).isSome
  | [], ks, h => by cases h; exact ⟨fun e z => (by cases z), rfl⟩
  | p :: kvs, ks, ⟨k', v, s, h1, h2, h3, h4⟩ => by
    subst h1
    have hs := hf h2 hd
    obtain ⟨i1, i2⟩ := look_rep (κ := κ) hf hd h4
    rw [List.any_cons]
    by_cases e : k' = k
    · rw [decide_eq_true e] at hs
      refine ⟨fun x z => ?_, ?_⟩
      · rw [DL.lookD, if_pos hs] at z
        cases z
        exact ⟨v, valV_pos e, h3⟩
      · rw [hs, valV_pos e]; rfl
    · rw [decide_eq_false e] at hs
      refine ⟨fun x z => ?_, ?_⟩
      · rw [DL.lookD, if_neg (by rw [hs]; exact Bool.false_ne_true)] at z
        rw [valV_neg e]
        exact i1 x z
      · rw [hs, valV_neg e, Bool.false_or]
        exact i2
theorem any_rep {κ : Type} [DecidableEq κ] {f : D → Option κ} (hf : ∀ {d e : D} {k l : κ}, f d = some k → f e = some l → DL.D.same d e = decide (k = l)) {d : D} {k : κ} (hd : f d = some k)
    {kvs : List (D × D)} {ks : List (κ × V)} (h : RepK G f ι H kvs ks) : (kvs.any fun p => DL.D.same p.1 d) = (ks.any fun kv => decide (kv.1 = k)) := by
  rw [valV_any]; exact (look_rep hf hd h).2
theorem RepK.length {κ : Type} {f : D → Option κ} : ∀ {kvs : List (D × D)} {ks : List (κ × V)}, RepK G f ι H kvs ks → kvs.length = ks.length
  | [], _, h => by cases h; rfl
  | p :: r, _, ⟨k, v, s, h1, _, _, h4⟩ => by subst h1; simp [RepK.length h4]
theorem RepK.append {κ : Type} {f : D → Option κ} : ∀ {kvs kvs' : List (D × D)} {ks ks' : List (κ × V)}, RepK G f ι H kvs ks → RepK G f ι H kvs' ks' → RepK G f ι H (kvs ++ kvs') (ks ++ ks')
  | [], _, _, _, h, g => by cases h; exact g
  | p :: r, _, _, _, ⟨k, v, s, h1, h2, h3, h4⟩, g => by subst h1; exact ⟨k, v, _, rfl, h2, h3, h4.append g⟩
theorem repl_rep {κ : Type} [DecidableEq κ] {f : D → Option κ} (hf : ∀ {d e : D} {k l : κ}, f d = some k → f e = some l → DL.D.same d e = decide (k = l)) {d e : D} {k : κ} {v : V} (hd : f d = some k) (he : Rep G ι H e v) :
    ∀ {kvs : List (D × D)} {ks : List (κ × V)}, RepK G f ι H kvs ks → RepK G f ι H (kvs.map fun p => if DL.D.same p.1 d = true then (p.1, e) else p) (ks.map fun kv => if kv.1 = k then (kv.1, v) else kv)
  | [], _, h => by cases h; rfl
  | p :: r, _, ⟨k', v', s, h1, h2, h3, h4⟩ => by
    subst h1
    have hs := hf h2 hd
    by_cases q : k' = k
    · rw [decide_eq_true q] at hs
      rw [List.map_cons, List.map_cons, if_pos hs, if_pos q]
      exact ⟨_, _, _, rfl, h2, he, repl_rep hf hd he h4⟩
    · rw [decide_eq_false q] at hs
      rw [List.map_cons, List.map_cons, if_neg (by rw [hs]; exact Bool.false_ne_true), if_neg q]
      exact ⟨_, _, _, rfl, h2, h3, repl_rep hf hd he h4⟩
theorem put_rep {κ : Type} [DecidableEq κ] {f : D → Option κ} (hf : ∀ {d e : D} {k l : κ}, f d = some k → f e = some l → DL.D.same d e = decide (k = l)) {d e : D} {k : κ} {v : V} (hd : f d = some k) (he : Rep G ι H e v)
    {kvs : List (D × D)} {ks : List (κ × V)} (h : RepK G f ι H kvs ks) : RepK G f ι H (DL.putD d e kvs) (putK ks k v) := by
  unfold DL.putD putK
  rw [any_rep hf hd h]
  by_cases q : (ks.any fun kv => decide (kv.1 = k)) = true
  · rw [if_pos q, if_pos q]; exact repl_rep hf hd he h
  · rw [if_neg q, if_neg q]; exact h.append ⟨k, v, [], rfl, hd, he, rfl⟩

theorem isK_some {d : D} (h : DL.isK d = true) : ∃ k, keyK d = some k := by
  cases d <;> first | (cases h; done) | exact ⟨_, rfl⟩
theorem isKs_some : ∀ {ds : List D}, DL.isKs ds = true → ∃ k, keysT ds = some k
  | [], _ => ⟨_, rfl⟩
  | d :: ds, h => by
    rw [DL.isKs, Bool.and_eq_true] at h
    obtain ⟨k, hk⟩ := isK_some h.1
    obtain ⟨ks, hks⟩ := isKs_some h.2
    exact ⟨k :: ks, by rw [keysT, hk, hks]⟩
theorem keyT_some {d : D} (h : DL.keyOkD true d = true) : ∃ k, keyT d = some k := by
  cases d <;> first | (cases h; done) | exact isKs_some h
/-- a tuple that is a key -/
theorem key_is {pins : List (Addr × Obj)} {σ : L2.St} {s : Shared} (hK : X.K = G.K) (I : Inv X pins σ H s) {b : Addr} {vs : List V} {ks : List Key} {P : Prop} (h : H b = some (.tup vs) ∨ (KTup G.K b vs ∧ P)) (e : vs = ks.map kV) :
    (tupleKind (mixKind X.prog X.w)).is s.heap ks b := by
  subst e
  rcases h with h | ⟨⟨o, its, n, h1, h2, h3, _, r⟩, _⟩
  · exact key_of I.hok h
  · rw [← hK] at h1
    refine ⟨o, its, n, I.kIn _ _ h1, h2, h3, ?_⟩
    simpa using items_are r
/-- d[y], there, by data -/
theorem d_getD {pins : List (Addr × Obj)} {σ : L2.St} {s : Shared} {A : Around} {E : Value → Shared → Prop} {Q : Value → Shared → Prop} {l : Nat} {a : Addr} {tk : Bool} {kvs : List (D × D)} {y e : D} {yv : V} {u : Value}
    (hK : X.K = G.K) (hu : A.units + 1 < cLine) (I : Inv X pins σ H s) (S : RS G ι st H) (h : st[l]? = some (.dic tk kvs)) (ha : ι[l]? = some a) (r : Rep G ι H y yv) (ry : RelV yv u) (hk : DL.keyOkD tk y = true) (he : DL.lookD y kvs = some e)
    (k : ∀ v w' s', Inv X pins σ H s' → RelV v w' → Rep G ι H e v → Q w' s') : s.TypeIs (.ref a) "dict" ∧ wpAny (model X.prog X.w) A (getItem (.ref a) u) Q E s := by
  have hc := S.get h ha
  cases tk with
  | false =>
    obtain ⟨ks, g1, g2⟩ := hc
    obtain ⟨kk, hkk⟩ := isK_some (show DL.isK y = true from hk)
    obtain ⟨v, hv, rv⟩ := (look_rep same_key hkk g2).1 e he
    have eyv := keyK_rep r hkk
    subst eyv
    have g : DGet H a (kV kk) (some v) := by rw [← hv]; exact DGet.k g1
    exact ⟨dict_typeIs I g, d_getItem hu I g ry fun w' s' I' rw' => k v w' s' I' rw' rv⟩
  | true =>
    obtain ⟨ks, g1, g2⟩ := hc
    obtain ⟨kk, hkk⟩ := keyT_some hk
    obtain ⟨v, hv, rv⟩ := (look_rep same_keyT hkk g2).1 e he
    cases y with
    | tup ds =>
      obtain ⟨b, vs, rfl, h1, h2⟩ := r
      have evs := keysT_rep h2 hkk
      cases ry
      obtain ⟨z, hd, xs, rel, dd⟩ := dt_of I.hok g1
      refine ⟨dd.typeIs, ?_⟩
      obtain ⟨w', hw, rw'⟩ := RelO.some_of (v := v) (o := (atKey xs kk).map (·.2)) (by rw [← hv]; exact rel.val kk)
      obtain ⟨p, hp, hp2⟩ := Option.map_eq_some_iff.mp hw
      refine wpAny_getItem_heap (tupleKind_room_in1 hu) (key_is hK I h1 evs) dd hp ?_
      rw [hp2]
      exact k v w' _ (I.tok _) rw' rv
    | _ => cases hkk
/-- y in d, by data -/
theorem d_inD {pins : List (Addr × Obj)} {σ : L2.St} {s : Shared} {A : Around} {E : Value → Shared → Prop} {Q : Value → Shared → Prop} {l : Nat} {a : Addr} {tk : Bool} {kvs : List (D × D)} {y : D} {yv : V} {u : Value}
    (hK : X.K = G.K) (hu : A.units + 1 < cLine) (I : Inv X pins σ H s) (S : RS G ι st H) (h : st[l]? = some (.dic tk kvs)) (ha : ι[l]? = some a) (r : Rep G ι H y yv) (ry : RelV yv u) (hk : DL.keyOkD tk y = true) :
    ((∀ s', Inv X pins σ H s' → Q (.bool (kvs.any fun p => DL.D.same p.1 y)) s') → wpAny (model X.prog X.w) A (compareOp .In u (.ref a)) Q E s) ∧
    ((∀ s', Inv X pins σ H s' → Q (.bool (!kvs.any fun p => DL.D.same p.1 y)) s') → wpAny (model X.prog X.w) A (compareOp .NotIn u (.ref a)) Q E s) := by
  have hc := S.get h ha
  cases tk with
  | false =>
    obtain ⟨ks, g1, g2⟩ := hc
    obtain ⟨kk, hkk⟩ := isK_some (show DL.isK y = true from hk)
    have e := (look_rep same_key hkk g2).2
    have eyv := keyK_rep r hkk
    subst eyv
    rw [e]
    exact ⟨fun k => d_in hu I (DGet.k g1) ry k, fun k => d_notIn hu I (DGet.k g1) ry k⟩
  | true =>
    obtain ⟨ks, g1, g2⟩ := hc
    obtain ⟨kk, hkk⟩ := keyT_some hk
    have e := (look_rep same_keyT hkk g2).2
    cases y with
    | tup ds =>
      obtain ⟨b, vs, rfl, h1, h2⟩ := r
      have evs := keysT_rep h2 hkk
      cases ry
      obtain ⟨z, hd, xs, rel, dd⟩ := dt_of I.hok g1
      have q := (rel.val kk).isSome_eq
      rw [Option.isSome_map] at q
      rw [e]
      constructor
      · intro k
        refine wpAny_in_heap (tupleKind_room_in1 hu) (key_is hK I h1 evs) hd dd ?_
        rw [← q]
        exact k _ (I.tok _)
      · intro k
        refine wpAny_notIn_heap (tupleKind_room_in1 hu) (key_is hK I h1 evs) hd dd ?_
        rw [← q]
        exact k _ (I.tok _)
    | _ => cases hkk
end
end DS

set_option Elab.async false
set_option linter.all false
set_option maxRecDepth 100000
set_option maxHeartbeats 4000000
namespace DS
open PySem PySem.Spec PyProof.Rows L2
open DL (D Cell Store DX Res SRes)
section
variable {G : Gl} {X : Cx} {ι : List Addr} {H : Hp} {st : Store}

theorem op_inGen {f : Value → Value → Sem Value} {neg : Bool} (hK : X.K = G.K) (hu : X.A.units + 65 < cLine)
    (hop : f = if neg then compareOp .NotIn else compareOp .In) : OpR X f (tC2 G fun x y st => (DL.inD x y st).map fun b => if neg then !b else b) := by
  intro pins s σ H x y v u Q I rx ry ⟨ι, d1, d2, st, b, r1, r2, S, e, k⟩
  dsimp only at e
  obtain ⟨c, e0, rfl⟩ := Option.map_eq_some_iff.mp e
  clear e
  revert e0
  intro e
  unfold DL.inD at e
  split at e
  · rename_i bs
    split at e
    · rename_i a
      cases e
      obtain ⟨rfl, _, _⟩ := r1
      obtain ⟨rfl, _, _⟩ := r2
      have hx : sS [a] = (⟨#[a]⟩ : Str) := rfl
      rw [hx] at rx
      cases neg with
      | false => subst hop; exact op_in_sign pins s σ H _ _ v u Q I rx ry ⟨a, sS bs, rfl, rfl, by rw [sS_cps]; exact k⟩
      | true => subst hop; exact op_notIn_sign pins s σ H _ _ v u Q I rx ry ⟨a, sS bs, rfl, rfl, by rw [sS_cps]; exact k⟩
    · cases e
  · rename_i ys
    split at e
    · rename_i hf
      split at e
      · rename_i p qs e1 e2
        cases e
        obtain ⟨a, vs, rfl, h1, h2⟩ := r2
        have q := inV_rep r1 hf.1 e1 h2 hf.2 e2
        have hfx := flat_rep r1 hf.1
        have hfs := flats_rep h2 hf.2
        cases neg with
        | false => subst hop; exact op_in_seq pins s σ H _ _ v u Q I rx ry ⟨a, vs, rfl, .inr (sqT_of hK h1), hfx, hfs, by rw [q]; exact k⟩
        | true => subst hop; exact op_notIn_seq pins s σ H _ _ v u Q I rx ry ⟨a, vs, rfl, .inr (sqT_of hK h1), hfx, hfs, by rw [q]; exact k⟩
      · cases e
    · cases e
  · rename_i l
    split at e
    · rename_i ys hl
      split at e
      · rename_i p qs e1 e2
        cases e
        obtain ⟨a, rfl, ha⟩ := r2
        obtain ⟨vs, g1, g2⟩ := S.lst hl ha
        obtain ⟨k1, k2, k3⟩ := rsv_dp hK r1 e1
        obtain ⟨m1, m2, m3⟩ := rsvs_dp hK g2 e2
        have sh : SeqAt.shaped (.list (pdOfs qs)) = true := shaped_of (by simpa [PyData.canLay0] using m2) (by simp only [PyData.depth]; omega)
        have ea : ((pdOfs qs).any fun z => PyData.eqv z (pdOf p)) = qs.any fun q => DL.PD.eqv q p := by
          have : ∀ l : List DL.PD, ((pdOfs l).any fun z => PyData.eqv z (pdOf p)) = l.any fun q => DL.PD.eqv q p := fun l => by
            induction l with
            | nil => rfl
            | cons z l ih => rw [pdOfs, List.any_cons, List.any_cons, ih, eqv_pd]
          exact this qs
        cases neg with
        | false => subst hop; exact op_inD hu pins s σ H _ _ v u Q I rx ry ⟨_, _, k1, .lst (sqL_of g1) m1, shaped_of k2 (by omega), sh, by rw [ea]; exact k⟩
        | true => subst hop; exact op_notInD hu pins s σ H _ _ v u Q I rx ry ⟨_, _, k1, .lst (sqL_of g1) m1, shaped_of k2 (by omega), sh, by rw [ea]; exact k⟩
      · cases e
    · rename_i tk kvs hl
      split at e
      · rename_i hk
        cases e
        obtain ⟨a, rfl, ha⟩ := r2
        cases ry
        obtain ⟨q1, q2⟩ := d_inD (E := X.xe) (Q := EP X pins σ Q) hK (A := X.A) (by omega) I S hl ha r1 rx hk
        cases neg with
        | false => subst hop; exact q1 fun s' I' => ⟨.bl _, H, I', rfl, k⟩
        | true => subst hop; exact q2 fun s' I' => ⟨.bl _, H, I', rfl, k⟩
      · cases e
    · cases e
  · cases e
theorem op_inDD (hK : X.K = G.K) (hu : X.A.units + 65 < cLine) : OpR X (compareOp .In) (tC2 G DL.inD) := by
  have h := op_inGen (G := G) (f := compareOp .In) (neg := false) hK hu rfl
  intro pins s σ H x y v u Q I rx ry ⟨ι, d1, d2, st, b, r1, r2, S, e, k⟩
  exact h pins s σ H x y v u Q I rx ry ⟨ι, d1, d2, st, b, r1, r2, S, by dsimp only; rw [e]; rfl, k⟩
theorem op_notinDD (hK : X.K = G.K) (hu : X.A.units + 65 < cLine) : OpR X (compareOp .NotIn) (tC2 G fun x y st => (DL.inD x y st).map (!·)) :=
  op_inGen (neg := true) hK hu rfl

/-! ### items -/
theorem atD_get {α : Type} {xs : List α} {i : Int} {d : α} (h : DL.atD xs i = some d) : ∃ j : Nat, xs[j]? = some d ∧ ∀ {β : Type} (ys : List β), ys.length = xs.length → atI ys i = ys[j]? := by
  unfold DL.atD at h
  split at h
  · rename_i h0
    refine ⟨i.toNat, h, fun ys hl => ?_⟩
    have hlt := (List.getElem?_eq_some_iff.mp h).1
    unfold atI ixN
    rw [if_pos h0, if_pos (by omega)]; rfl
  · rename_i h0
    split at h
    · rename_i h1
      refine ⟨_, h, fun ys hl => ?_⟩
      unfold atI ixN
      rw [if_neg h0, if_pos (by omega), hl]; rfl
    · cases h
theorem ix_D (hK : X.K = G.K) (hu : X.A.units + 64 < cLine) : IxR X (tV2 G DL.ixD) := by
  intro value slice pins s σ H x y v u Q I rx ry ⟨ι, d1, d2, st, d, st', r1, r2, S, e, k⟩ hs
  unfold DL.ixD at e
  split at e
  · rename_i xs i
    split at e
    · rename_i d' hd
      cases e
      obtain ⟨a, vs, rfl, h1, h2⟩ := r1
      obtain rfl : y = V.int i := r2
      obtain ⟨j, g1, g2⟩ := atD_get hd
      obtain ⟨w, h3, h4⟩ := h2.get g1
      exact ix_tup value slice pins s σ H _ _ v u Q I rx ry ⟨a, vs, i, w, rfl, rfl, sqT_of hK h1, by rw [g2 vs h2.length.symm]; exact h3, k _ _ ι Ext.refl S h4⟩ hs
    · cases e
  · rename_i xs i
    split at e
    · rename_i c hd
      cases e
      obtain ⟨rfl, l1, o1⟩ := r1
      obtain rfl : y = V.int i := r2
      obtain ⟨j, g1, g2⟩ := atD_get hd
      refine ix_str value slice pins s σ H _ _ v u Q I rx ry ⟨sS xs, i, c, rfl, rfl, by rw [sS_len]; exact l1, by rw [sS_cps, g2 xs rfl]; exact g1, k _ _ ι Ext.refl S ⟨rfl, lineM (by simp), strOk_of_sub o1 fun c' hc => ?_⟩⟩ hs
      rw [List.mem_singleton.mp hc]
      exact List.mem_of_getElem? g1
    · cases e
  · rename_i l kk
    split at e
    · rename_i xs hl
      split at e
      · rename_i i
        split at e
        · rename_i d' hd
          cases e
          obtain ⟨a, rfl, ha⟩ := r1
          obtain rfl : y = V.int i := r2
          obtain ⟨vs, q1, h2⟩ := S.lst hl ha
          obtain ⟨j, g1, g2⟩ := atD_get hd
          obtain ⟨w, h3, h4⟩ := h2.get g1
          exact ix_list value slice pins s σ H _ _ v u Q I rx ry ⟨a, vs, i, w, rfl, rfl, sqL_of q1, by rw [g2 vs h2.length.symm]; exact h3, k _ _ ι Ext.refl S h4⟩ hs
        · cases e
      · cases e
    · rename_i tk kvs hl
      split at e
      · rename_i hk
        split at e
        · rename_i d' hd
          cases e
          obtain ⟨a, rfl, ha⟩ := r1
          cases rx
          obtain ⟨t1, t2⟩ := d_getD (E := X.xe) (Q := EP X pins σ Q) (A := X.A) hK (by omega) I S hl ha r2 ry hk hd fun w w' s' I' rw' rr => ⟨w, H, I', rw', k _ _ ι Ext.refl S rr⟩
          exact tail_any t1 PySem.F.slot_dict_getitem.lookup t2 hs
        · cases e
      · cases e
    · cases e
  · cases e

/-! ### slices -/
theorem sIx_eq (n d : Nat) (o : Option Int) : DL.sIx n d o = HT.sIx n d o := by cases o <;> rfl
/-- a slice by data -/
def tSlD (G : Gl) : V → Option Int → Option Int → Hp → VK → Prop := fun x lo hi H Q => ∃ ι d st d' st', Rep G ι H d x ∧ RS G ι st H ∧ DL.slD d lo hi st = some (d', st') ∧
  ∀ v H' ι', Ext ι H ι' H' → RS G ι' st' H' → Rep G ι' H' d' v → Q v H'
theorem cut_mem {α : Type} {xs : List α} {lo hi : Option Int} {c : α} (h : c ∈ DL.cut xs lo hi) : c ∈ xs := List.mem_of_mem_drop (List.mem_of_mem_take h)
theorem cut_len {α : Type} (xs : List α) (lo hi : Option Int) : (DL.cut xs lo hi).length ≤ xs.length := by
  unfold DL.cut
  rw [List.length_take, List.length_drop]; omega
theorem RepL.cut {ds : List D} {vs : List V} (h : RepL G ι H ds vs) (lo hi : Option Int) : RepL G ι H (DL.cut ds lo hi) (cutV vs lo hi) := by
  unfold DL.cut cutV
  rw [sIx_eq, sIx_eq, h.length]
  exact (h.drop _).take _
theorem sl_D (hK : X.K = G.K) : SlR X (tSlD G) := by
  intro pins s σ H x v vl vu lo hi sl Q I rx hs pl pu ⟨ι, d, st, d', st', r, S, e, k⟩
  unfold DL.slD at e
  split at e
  · rename_i z
    cases e
    obtain ⟨rfl, l1, o1⟩ := r
    refine sl_str pins s σ H _ v vl vu lo hi sl Q I rx hs pl pu ⟨sS z, rfl, by rw [sS_len]; exact l1, k _ _ ι Ext.refl S ⟨?_, Nat.le_trans (cut_len _ _ _) l1, strOk_of_sub o1 fun c hc => cut_mem hc⟩⟩
    unfold cutS DL.cut
    rw [sS_cps, sS_len, sIx_eq, sIx_eq]
    rfl
  · rename_i xs
    cases e
    obtain ⟨a, vs, rfl, h1, h2⟩ := r
    refine sl_tupA pins s σ H _ v vl vu lo hi sl Q I rx hs pl pu ⟨a, vs, rfl, sqT_of hK h1, fun hw => ?_, fun hw => fin_tup S (h2.cut lo hi) k⟩
    refine k _ _ ι Ext.refl S ?_
    have : DL.cut xs lo hi = xs := by
      unfold DL.cut
      rw [sIx_eq, sIx_eq, h2.length, hw.1, hw.2, List.drop_zero, Nat.sub_zero, ← h2.length, List.take_length]
    rw [this]
    exact ⟨a, vs, rfl, h1, h2⟩
  · rename_i l
    split at e
    · rename_i xs hl
      cases e
      obtain ⟨a, rfl, ha⟩ := r
      obtain ⟨vs, q1, h2⟩ := S.lst hl ha
      exact sl_list pins s σ H _ v vl vu lo hi sl Q I rx hs pl pu ⟨a, vs, rfl, sqL_of q1, fin_lst S (h2.cut lo hi) k⟩
    · cases e
  · cases e

/-! ### calls of built-ins -/
def tVN (G : Gl) (f : List D → Store → Option (D × Store)) : List V → Hp → VK → Prop := fun xs H Q => ∃ ι ds st d st', RepL G ι H ds xs ∧ RS G ι st H ∧ f ds st = some (d, st') ∧
  ∀ v H' ι', Ext ι H ι' H' → RS G ι' st' H' → Rep G ι' H' d v → Q v H'
theorem RepL.one {d : D} {vs : List V} (h : RepL G ι H [d] vs) : ∃ v, vs = [v] ∧ Rep G ι H d v := by
  obtain ⟨v, r, h1, h2, h3⟩ := h
  cases h3
  exact ⟨v, h1, h2⟩
/-- the items of a list or a tuple -/
theorem items_rep (hK : X.K = G.K) (S : RS G ι st H) {x : D} {v : V} {ys : List D} (r : Rep G ι H x v) (e : DL.itemsD x st = some ys) :
    ∃ a vs, v = .ref a ∧ RepL G ι H ys vs ∧ ((SqL X.K H a vs) ∨ (SqT X.K H a vs ∧ x = .tup ys)) := by
  unfold DL.itemsD at e
  split at e
  · cases e
    obtain ⟨a, vs, rfl, h1, h2⟩ := r
    exact ⟨a, vs, rfl, h2, .inr ⟨sqT_of hK h1, rfl⟩⟩
  · split at e
    · rename_i l xs hl
      cases e
      obtain ⟨a, rfl, ha⟩ := r
      obtain ⟨vs, q1, h2⟩ := S.lst hl ha
      exact ⟨a, vs, rfl, h2, .inl (sqL_of q1)⟩
    · cases e
  · cases e
theorem lenV_rep (hK : X.K = G.K) (S : RS G ι st H) {x : D} {v : V} {ys : List D} (r : Rep G ι H x v) (e : DL.itemsD x st = some ys) : LenV X.K v H ys.length := by
  obtain ⟨a, vs, rfl, h2, h3⟩ := items_rep hK S r e
  rw [h2.length]
  rcases h3 with h3 | ⟨h3, _⟩
  · exact .inl ⟨vs, h3, rfl⟩
  · exact .inr ⟨vs, h3, rfl⟩
theorem call_lenD (hK : X.K = G.K) : CallR X (.builtin "len") (tVN G DL.lenD) := by
  intro pins s σ H xs us Q I rr ⟨ι, ds, st, d, st', r, S, e, k⟩
  unfold DL.lenD at e
  split at e
  · rename_i z
    cases e
    obtain ⟨v, rfl, rfl, l1, o1⟩ := r.one
    exact call_len pins s σ H _ us Q I rr ⟨_, z.length, rfl, ⟨by rw [sS_len]; exact l1, (sS_len z).symm⟩, k _ _ ι Ext.refl S rfl⟩
  · split at e
    · rename_i x hx ys hys
      cases e
      obtain ⟨v, rfl, r1⟩ := r.one
      exact call_len pins s σ H _ us Q I rr ⟨v, ys.length, rfl, lenV_rep hK S r1 hys, k _ _ ι Ext.refl S rfl⟩
    · cases e
  · cases e
theorem call_intD : CallR X (.type "int") (tVN G DL.intD) := by
  intro pins s σ H xs us Q I rr ⟨ι, ds, st, d, st', r, S, e, k⟩
  unfold DL.intD at e
  split at e
  · rename_i i
    cases e
    obtain ⟨v, rfl, r1⟩ := r.one
    exact call_int1 pins s σ H _ us Q I rr (.inl ⟨i, by rw [show v = V.int i from r1], k _ _ ι Ext.refl S rfl⟩)
  · rename_i i
    cases e
    obtain ⟨v, rfl, r1⟩ := r.one
    exact call_int1 pins s σ H _ us Q I rr (.inr ⟨i, by rw [show v = V.bl i from r1], k _ _ ι Ext.refl S rfl⟩)
  · cases e
theorem ints_rep : ∀ {ds : List D} {vs : List V} {ns : List Int}, RepL G ι H ds vs → DL.ints? ds = some ns → vs = ns.map V.int
  | [], _, ns, h, e => by cases h; cases e; rfl
  | d :: ds, _, ns, ⟨v, r, h1, h2, h3⟩, e => by
    subst h1
    cases d <;> first | (cases e; done) | skip
    simp only [DL.ints?] at e
    split at e
    · rename_i b hb
      cases e
      rw [show v = V.int _ from h2, ints_rep h3 hb]; rfl
    · cases e
theorem bools_rep : ∀ {ds : List D} {vs : List V} {ns : List Bool}, RepL G ι H ds vs → DL.bools? ds = some ns → vs = ns.map V.bl
  | [], _, ns, h, e => by cases h; cases e; rfl
  | d :: ds, _, ns, ⟨v, r, h1, h2, h3⟩, e => by
    subst h1
    cases d <;> first | (cases e; done) | skip
    simp only [DL.bools?] at e
    split at e
    · rename_i b hb
      cases e
      rw [show v = V.bl _ from h2, bools_rep h3 hb]; rfl
    · cases e
theorem strs_rep : ∀ {ds : List D} {vs : List V} {ns : List (List Nat)}, RepL G ι H ds vs → DL.strs? ds = some ns → vs = (ns.map sS).map V.str ∧ ∀ x ∈ ns, PyData.strOk (sS x) = true
  | [], _, ns, h, e => by cases h; cases e; exact ⟨rfl, fun x hx => by simp at hx⟩
  | d :: ds, _, ns, ⟨v, r, h1, h2, h3⟩, e => by
    subst h1
    cases d <;> first | (cases e; done) | skip
    simp only [DL.strs?] at e
    split at e
    · rename_i b hb
      cases e
      obtain ⟨i1, i2⟩ := strs_rep h3 hb
      obtain ⟨rfl, _, o1⟩ := h2
      refine ⟨by rw [i1]; rfl, fun x hx => ?_⟩
      rcases List.mem_cons.mp hx with rfl | hx
      · exact o1
      · exact i2 x hx
    · cases e
theorem minI_spec : ∀ (m : Int) (r : List Int), DL.minI m r ∈ m :: r ∧ ∀ y ∈ m :: r, DL.minI m r ≤ y
  | m, [] => by simp [DL.minI]
  | m, x :: r => by
    rw [DL.minI]
    obtain ⟨h1, h2⟩ := minI_spec (if x < m then x else m) r
    constructor
    · rcases List.mem_cons.mp h1 with h | h
      · rw [h]
        by_cases hx : x < m
        · rw [if_pos hx]; simp
        · rw [if_neg hx]; simp
      · simp [h]
    · intro y hy
      have h0 := h2 _ List.mem_cons_self
      rcases List.mem_cons.mp hy with rfl | hy
      · by_cases hx : x < y
        · rw [if_pos hx] at h0 ⊢; omega
        · rw [if_neg hx] at h0 ⊢; omega
      · rcases List.mem_cons.mp hy with rfl | hy
        · by_cases hx : y < m
          · rw [if_pos hx] at h0 ⊢; omega
          · rw [if_neg hx] at h0 ⊢; omega
        · exact h2 y (List.mem_cons_of_mem _ hy)
theorem call_min3 (hc : X.calm = true) : CallR X (.builtin "min") (fun xs H Q => ∃ a b c : Int, xs = [.int a, .int b, .int c] ∧ Q (.int (DL.minI a [b, c])) H) := by
  intro pins s σ H xs us Q I r h
  obtain ⟨a, b, c, rfl, q⟩ := h
  cases r with
  | cons r1 r2 =>
    cases r2 with
    | cons r2 r3 =>
      cases r3 with
      | cons r3 r4 =>
        cases r4
        obtain ⟨t, rfl⟩ := r1
        obtain ⟨t', rfl⟩ := r2
        obtain ⟨t'', rfl⟩ := r3
        refine min_three_ints (I.ok.hd hc) fun h' tk k => ⟨_, H, I.kept k, ?_, q⟩
        simp only [DL.minI]
        by_cases h1 : b < a
        · by_cases h2 : c < b
          · simp [h1, h2, L2.RelV]
          · simp [h1, h2, L2.RelV]
        · by_cases h2 : c < a
          · simp [h1, h2, L2.RelV]
          · simp [h1, h2, L2.RelV]
theorem call_minD (hK : X.K = G.K) (hc : X.calm = true) : CallR X (.builtin "min") (tVN G fun xs st => if xs.length = 4 then none else DL.minD xs st) := by
  intro pins s σ H xs us Q I rr ⟨ι, ds, st, d, st', r, S, e, k⟩
  dsimp only at e
  split at e
  · cases e
  rename_i h4
  unfold DL.minD at e
  split at e
  · rename_i l
    split at e
    · rename_i ys hl
      split at e
      · rename_i m r' hn
        cases e
        obtain ⟨v, rfl, a, rfl, ha⟩ := r.one
        obtain ⟨vs, q1, h2⟩ := S.lst hl ha
        have := ints_rep h2 hn
        subst this
        obtain ⟨g1, g2⟩ := minI_spec m r'
        refine cr_min hc pins s σ H _ us Q I rr ⟨a, m :: r', rfl, sqL_of q1, by simp, fun m' h1 h3 => k _ _ ι Ext.refl S ?_⟩
        have e1 := g2 m' h1
        have e2 := h3 _ g1
        show V.int m' = V.int _
        rw [show m' = DL.minI m r' by omega]
      · cases e
    · cases e
  · rename_i a b
    cases e
    obtain ⟨v, r', rfl, h1, h2⟩ := r
    obtain ⟨w, rfl, h3⟩ := h2.one
    refine call_min2 hc pins s σ H _ us Q I rr ⟨a, b, by rw [show v = V.int a from h1, show w = V.int b from h3], k _ _ ι Ext.refl S ?_⟩
    show V.int _ = V.int _
    simp [DL.minI]
  · rename_i a b c
    cases e
    obtain ⟨v, r', rfl, h1, h2⟩ := r
    obtain ⟨v2, r'', rfl, h3, h4⟩ := h2
    obtain ⟨w, rfl, h5⟩ := h4.one
    exact call_min3 hc pins s σ H _ us Q I rr ⟨a, b, c, by rw [show v = V.int a from h1, show v2 = V.int b from h3, show w = V.int c from h5], k _ _ ι Ext.refl S rfl⟩
  · simp at h4
  · cases e
theorem call_tupleD (hK : X.K = G.K) : CallR X (.type "tuple") (tVN G DL.tupleD) := by
  intro pins s σ H xs us Q I rr ⟨ι, ds, st, d, st', r, S, e, k⟩
  unfold DL.tupleD at e
  split at e
  · split at e
    · rename_i x ys hys
      cases e
      obtain ⟨v, rfl, r1⟩ := r.one
      obtain ⟨a, vs, rfl, h2, h3⟩ := items_rep hK S r1 hys
      rcases h3 with h3 | ⟨h3, rfl⟩
      · exact call_tuple_of pins s σ H _ us Q I rr ⟨a, vs, rfl, .inl ⟨h3, fin_tup S h2 k⟩⟩
      · exact call_tuple_of pins s σ H _ us Q I rr ⟨a, vs, rfl, .inr ⟨h3, k _ _ ι Ext.refl S r1⟩⟩
    · cases e
  · cases e
theorem call_allD (hK : X.K = G.K) (hc : X.calm = true) : CallR X (.builtin "all") (tVN G DL.allD) := by
  intro pins s σ H xs us Q I rr ⟨ι, ds, st, d, st', r, S, e, k⟩
  unfold DL.allD at e
  split at e
  · split at e
    · rename_i l ys hl
      split at e
      · rename_i bs hb
        cases e
        obtain ⟨v, rfl, a, rfl, ha⟩ := r.one
        obtain ⟨vs, q1, h2⟩ := S.lst hl ha
        have := bools_rep h2 hb
        subst this
        exact cr_all hc pins s σ H _ us Q I rr ⟨a, bs, rfl, sqL_of q1, k _ _ ι Ext.refl S rfl⟩
      · cases e
    · cases e
  · cases e
theorem call_anyD (hK : X.K = G.K) (hc : X.calm = true) : CallR X (.builtin "any") (tVN G DL.anyD) := by
  intro pins s σ H xs us Q I rr ⟨ι, ds, st, d, st', r, S, e, k⟩
  unfold DL.anyD at e
  split at e
  · split at e
    · rename_i l ys hl
      split at e
      · rename_i bs hb
        cases e
        obtain ⟨v, rfl, a, rfl, ha⟩ := r.one
        obtain ⟨vs, q1, h2⟩ := S.lst hl ha
        have := bools_rep h2 hb
        subst this
        exact cr_any hc pins s σ H _ us Q I rr ⟨a, bs, rfl, sqL_of q1, k _ _ ι Ext.refl S rfl⟩
      · cases e
    · cases e
  · cases e
end
end DS

set_option Elab.async false
set_option linter.all false
set_option maxRecDepth 100000
set_option maxHeartbeats 4000000
namespace DS
open PySem PySem.Spec PyProof.Rows L2
open DL (D Cell Store DX Res SRes)
section
variable {G : Gl} {X : Cx} {ι : List Addr} {H : Hp} {st : Store}

/-! ### isinstance -/
def tyN : DL.Ty → String
  | .int => "int" | .bool => "bool" | .str => "str" | .tuple => "tuple" | .list => "list" | .dict => "dict"
def dTy : D → Store → Option String
  | .non, _ => some "NoneType"
  | .bl _, _ => some "bool"
  | .int _, _ => some "int"
  | .str _, _ => some "str"
  | .tup _, _ => some "tuple"
  | .ref l, st => match st[l]? with
    | some (.lst _) => some "list"
    | some (.dic _ _) => some "dict"
    | none => none
  | _, _ => none
theorem kit_all : ∀ T : DL.Ty, kitB "NoneType" (tyN T) = some false ∧ kitB "bool" (tyN T) = some (T == .bool || T == .int) ∧ kitB "int" (tyN T) = some (T == .int) ∧ kitB "str" (tyN T) = some (T == .str) ∧ kitB "tuple" (tyN T) = some (T == .tuple) ∧
    kitB "list" (tyN T) = some (T == .list) ∧ kitB "dict" (tyN T) = some (T == .dict) := by
  intro T
  cases T <;> exact ⟨by decide +kernel, by decide +kernel, by decide +kernel, by decide +kernel, by decide +kernel, by decide +kernel, by decide +kernel⟩
theorem isi_kit {x : D} {T : DL.Ty} {b : Bool} (e : DL.isiD x T st = some b) : ∃ n, dTy x st = some n ∧ kitB n (tyN T) = some b := by
  obtain ⟨k1, k2, k3, k4, k5, k6, k7⟩ := kit_all T
  unfold DL.isiD at e
  split at e
  · cases e; exact ⟨_, rfl, k1⟩
  · cases e; exact ⟨_, rfl, k2⟩
  · cases e; exact ⟨_, rfl, k3⟩
  · cases e; exact ⟨_, rfl, k4⟩
  · cases e; exact ⟨_, rfl, k5⟩
  · split at e
    · rename_i hl
      cases e; exact ⟨"list", by rw [dTy, hl], k6⟩
    · rename_i hl
      cases e; exact ⟨"dict", by rw [dTy, hl], k7⟩
    · cases e
  · cases e
theorem ty_rep (hK : X.K = G.K) (S : RS G ι st H) {x : D} {v : V} {n : String} (r : Rep G ι H x v) (e : dTy x st = some n) : TyX X.K H v (.type n) := by
  cases x with
  | non => cases e; rw [show v = V.non from r]; exact .base .non
  | bl b => cases e; rw [show v = V.bl b from r]; exact .base (.bl b)
  | int b => cases e; rw [show v = V.int b from r]; exact .base (.int b)
  | str b => cases e; obtain ⟨rfl, _⟩ := r; exact .base (.str _)
  | tup b =>
    cases e
    obtain ⟨a, vs, rfl, h1, _⟩ := r
    rcases h1 with h1 | ⟨⟨o, its, n, h1, h2, _⟩, _⟩
    · exact .base (.tup h1)
    · exact .kTuple (by rw [hK]; exact h1) h2
  | ref l =>
    obtain ⟨a, rfl, ha⟩ := r
    simp only [dTy] at e
    split at e
    · rename_i xs hl
      cases e
      obtain ⟨vs, q1, _⟩ := S.lst hl ha
      exact .base (.lst q1)
    · rename_i tk kvs hl
      cases e
      have hc := S.get hl ha
      cases tk with
      | false => obtain ⟨ks, g1, _⟩ := hc; exact .base (.dK g1)
      | true => obtain ⟨ks, g1, _⟩ := hc; exact .base (.dT g1)
    · cases e
  | fl _ => cases e
  | fn _ => cases e
def tIsi (G : Gl) (T : DL.Ty) : List V → Hp → VK → Prop := fun xs H Q => ∃ ι d v st b, xs = [v, .ty (tyN T)] ∧ Rep G ι H d v ∧ RS G ι st H ∧ DL.isiD d T st = some b ∧ Q (.bl b) H
theorem call_isiD (hK : X.K = G.K) (T : DL.Ty) : CallR X (.builtin "isinstance") (tIsi G T) := by
  intro pins s σ H xs us Q I rr h
  obtain ⟨ι, d, v, st, b, rfl, r, S, e, k⟩ := h
  obtain ⟨n, h1, h2⟩ := isi_kit e
  exact call_isi pins s σ H _ us Q I rr ⟨v, .ty (tyN T), .type n, .type (tyN T), b, rfl, .ty _, ty_rep hK S r h1, kit_ty h2, k⟩

/-! ### list(..), append, join -/
theorem fl_seq (hK : X.K = G.K) {ns : List Int} {v : V} (r : Rep G ι H (.fl ns) v) : ∃ a, v = .ref a ∧ SqL X.K H a (ns.map V.int) := by
  obtain ⟨a, rfl, h⟩ := r
  rcases h with ⟨o, h⟩ | h
  · exact ⟨a, rfl, .inl (.inr ⟨o, h⟩)⟩
  · exact ⟨a, rfl, .inr (by rw [hK]; exact h)⟩
theorem call_listD (hK : X.K = G.K) : CallR X (.type "list") (tVN G DL.listD) := by
  intro pins s σ H xs us Q I rr ⟨ι, ds, st, d, st', r, S, e, k⟩
  unfold DL.listD at e
  split at e
  · rename_i ns
    cases e
    obtain ⟨v, rfl, r1⟩ := r.one
    obtain ⟨a, rfl, h⟩ := fl_seq hK r1
    exact call_list_of pins s σ H _ us Q I rr ⟨a, _, rfl, .inl h, fin_lst S RepL.ints k⟩
  · split at e
    · rename_i x _ ys hys
      cases e
      obtain ⟨v, rfl, r1⟩ := r.one
      obtain ⟨a, vs, rfl, h2, h3⟩ := items_rep hK S r1 hys
      exact call_list_of pins s σ H _ us Q I rr ⟨a, vs, rfl, h3.imp id (fun h => h.1), fin_lst S h2 k⟩
    · cases e
  · cases e
/-- a method by data -/
def tMe (G : Gl) (f : D → List D → Store → Option (D × Store)) : V → List V → Hp → VK → Prop := fun x xs H Q => ∃ ι d0 ds st d st', Rep G ι H d0 x ∧ RepL G ι H ds xs ∧ RS G ι st H ∧ f d0 ds st = some (d, st') ∧
  ∀ v H' ι', Ext ι H ι' H' → RS G ι' st' H' → Rep G ι' H' d v → Q v H'
theorem mt_appendD : MtR X "list.append" (tMe G DL.appendD) := by
  intro pins s σ H x xs v us Q I rx rs ⟨ι, d0, ds, st, d, st', r0, r, S, e, k⟩
  unfold DL.appendD at e
  split at e
  · split at e
    · rename_i l y ys hl
      split at e
      · rename_i hz
        cases e
        obtain ⟨a, rfl, ha⟩ := r0
        obtain ⟨w, rfl, r1⟩ := r.one
        obtain ⟨vs, q1, h2⟩ := S.lst hl ha
        have E := Ext.write (u := .lst (vs ++ [w])) ha q1 (fun z => z)
        refine mt_append pins s σ H _ _ v us Q I rx rs ⟨a, vs, w, rfl, rfl, q1, by rw [← h2.length]; exact lineLt (of_decide_eq_true hz), k _ _ ι E (S.write ha q1 (fun z => z) ⟨_, upd_same, ?_⟩) rfl⟩
        exact (h2.append (RepL.single r1)).mono E
      · cases e
    · cases e
  · cases e
theorem glue_fold (sep : List Nat) : ∀ (zs : List (List Nat)) (acc : List Nat), (zs.map sS).foldl (fun (acc : Array Nat) (p : Str) => acc ++ (sS sep).cps ++ p.cps) acc.toArray = (acc ++ (zs.map (sep ++ ·)).flatten).toArray
  | [], acc => by simp
  | z :: zs, acc => by
    rw [List.map_cons, List.foldl_cons]
    have : acc.toArray ++ (sS sep).cps ++ (sS z).cps = (acc ++ (sep ++ z)).toArray := by simp [sS]
    rw [this, glue_fold sep zs]
    simp
theorem join_flat (sep : List Nat) : ∀ (x : List Nat) (r : List (List Nat)), DL.join sep (x :: r) = x ++ (r.map (sep ++ ·)).flatten
  | x, [] => by simp [DL.join]
  | x, y :: r => by
    rw [DL.join, join_flat sep y r]
    simp
theorem glued_eq (sep : List Nat) (zs : List (List Nat)) : Txt.join (sS sep) (zs.map sS) = sS (DL.join sep zs) := by
  cases zs with
  | nil => rfl
  | cons x r =>
    rw [join_flat]
    show (⟨(r.map sS).foldl (fun (acc : Array Nat) (p : Str) => acc ++ (sS sep).cps ++ p.cps) x.toArray⟩ : Str) = _
    rw [glue_fold]
    rfl
theorem joinSize_ge (sep : List Nat) : ∀ zs : List (List Nat), (DL.join sep zs).length ≤ DL.joinSize sep zs ∧ ((zs.map sS).map (·.length)).sum + (zs.map sS).length * (sS sep).length = DL.joinSize sep zs
  | [] => by simp [DL.join, DL.joinSize]
  | [x] => by
    simp [DL.join, DL.joinSize, sS_len]
  | x :: y :: r => by
    obtain ⟨h1, h2⟩ := joinSize_ge sep (y :: r)
    constructor
    · rw [DL.join, DL.joinSize, List.length_append, List.length_append]; omega
    · rw [DL.joinSize, List.map_cons, List.map_cons, List.sum_cons, List.length_cons, Nat.add_mul, ← h2, sS_len, sS_len]
      omega
theorem strOk_join (sep : List Nat) (hs : PyData.strOk (sS sep) = true) : ∀ zs : List (List Nat), (∀ x ∈ zs, PyData.strOk (sS x) = true) → PyData.strOk (sS (DL.join sep zs)) = true
  | [], _ => by simp [DL.join, sS, PyData.strOk]
  | [x], h => h x (by simp)
  | x :: y :: r, h => by
    rw [DL.join]
    exact strOk_app (h x (by simp)) (strOk_app hs (strOk_join sep hs (y :: r) fun z hz => h z (List.mem_cons_of_mem _ hz)))
theorem mt_joinD (hK : X.K = G.K) : MtR X "str.join" (tMe G DL.joinD) := by
  intro pins s σ H x xs v us Q I rx rs ⟨ι, d0, ds, st, d, st', r0, r, S, e, k⟩
  unfold DL.joinD at e
  split at e
  · rename_i sep y
    split at e
    · rename_i ys hys
      split at e
      · rename_i zs hzs
        split at e
        · rename_i hz
          cases e
          obtain ⟨rfl, l1, o1⟩ := r0
          obtain ⟨w, rfl, r1⟩ := r.one
          obtain ⟨a, vs, rfl, h2, h3⟩ := items_rep hK S r1 hys
          obtain ⟨rfl, o2⟩ := strs_rep h2 hzs
          obtain ⟨g1, g2⟩ := joinSize_ge sep zs
          have hz' : DL.joinSize sep zs ≤ 1000000 := of_decide_eq_true hz
          refine mt_join pins s σ H _ _ v us Q I rx rs ⟨sS sep, a, zs.map sS, rfl, rfl, h3.imp id (fun h => h.1), by rw [g2]; omega, k _ _ ι Ext.refl S ⟨by rw [glued_eq], lineM (by omega), strOk_join sep o1 zs o2⟩⟩
        · cases e
      · cases e
    · cases e
  · cases e

/-! ### stores -/
def tSetD (G : Gl) : V → V → V → Hp → (Hp → Prop) → Prop := fun o i v H Q => ∃ ι d0 d1 d2 st st', Rep G ι H d0 o ∧ Rep G ι H d1 i ∧ Rep G ι H d2 v ∧ RS G ι st H ∧ DL.setXD G.kt d0 d1 d2 st = some st' ∧
  ∀ H' ι', Ext ι H ι' H' → RS G ι' st' H' → Q H'
theorem set_D (hK : X.K = G.K) (hu : X.A.units + 64 < cLine) : PSet X (tSetD G) := by
  intro pins s σ H o i v ov iv u Q I ro ri rv ⟨ι, d0, d1, d2, st, st', r0, r1, r2, S, e, k⟩
  unfold DL.setXD at e
  split at e
  · rename_i l
    split at e
    · rename_i xs hl
      split at e
      · rename_i j
        split at e
        · rename_i hj
          cases e
          obtain ⟨a, rfl, ha⟩ := r0
          obtain rfl : i = V.int j := r1
          obtain ⟨vs, q1, h2⟩ := S.lst hl ha
          have E := Ext.write (u := .lst (vs.set j.toNat v)) ha q1 (fun z => z)
          refine set_list pins s σ H _ _ v ov iv u Q I ro ri rv ⟨a, vs, j, j.toNat, rfl, rfl, q1, ?_, k _ ι E (S.write ha q1 (fun z => z) ⟨_, upd_same, (h2.set _ r2).mono E⟩)⟩
          unfold ixN
          rw [if_pos hj.1, if_pos (by rw [← h2.length]; exact hj.2)]
        · cases e
      · cases e
    · rename_i tk kvs hl
      split at e
      · rename_i hc
        obtain ⟨c1, c2, c3⟩ := hc
        cases e
        obtain ⟨a, rfl, ha⟩ := r0
        cases ro
        have hcell := S.get hl ha
        cases tk with
        | false =>
          obtain ⟨ks, g1, g2⟩ := hcell
          obtain ⟨kk, hkk⟩ := isK_some (show DL.isK d1 = true from c2)
          have ei := keyK_rep r1 hkk
          subst ei
          have E := Ext.write (u := .dK (putK ks kk v)) ha g1 (fun z => z)
          refine d_setItem (E := X.xe) (A := X.A) (Q := fun _ s' => ∃ H', Inv X pins σ H' s' ∧ Q H') (by omega) I (DPut.k g1 (by rw [← g2.length]; exact lineLt (of_decide_eq_true c1))) ri rv fun s' I' => ⟨_, I', k _ ι E (S.write ha g1 (fun z => z) ⟨_, upd_same, (put_rep same_key hkk r2 g2).mono E⟩)⟩
        | true =>
          obtain ⟨ks, g1, g2⟩ := hcell
          obtain ⟨kk, hkk⟩ := keyT_some c2
          cases d1 with
          | tup ds =>
            obtain ⟨b, vs, rfl, h1, h2⟩ := r1
            rcases h1 with h1 | ⟨_, d, hd, hs⟩
            · have evs := keysT_rep h2 hkk
              subst evs
              have E := Ext.write (u := .dT (putK ks kk v)) ha g1 (fun z => z)
              refine d_setItem (E := X.xe) (A := X.A) (Q := fun _ s' => ∃ H', Inv X pins σ H' s' ∧ Q H') (by omega) I (DPut.t g1 h1 (by rw [← g2.length]; exact lineLt (of_decide_eq_true c1))) ri rv fun s' I' => ⟨_, I', k _ ι E (S.write ha g1 (fun z => z) ⟨_, upd_same, (put_rep same_keyT hkk r2 g2).mono E⟩)⟩
            · have := List.any_eq_false.mp c3 d hd
              exact absurd hs this
          | _ => cases hkk
      · cases e
    · cases e
  · cases e
end
end DS

set_option Elab.async false
set_option linter.all false
set_option maxRecDepth 100000
set_option maxHeartbeats 4000000
/-! readings by data: the judgements' combinators -/
namespace DS
open PySem PySem.Spec PyProof.Rows L2
open DL (D Cell Store DX Res SRes)

def XRep (G : Gl) (ι : List Addr) (H : Hp) (x : DX) (cls : Value) (dd : Option Addr) : Prop :=
  ∃ C a fs, G.xa x.cls = some C ∧ cls = .ref C ∧ dd = some a ∧ H a = some (.xd fs) ∧ ∀ n d, x.flds.lookup n = some d → ∃ v, fs.lookup (Str.ofString n) = some v ∧ Rep G ι H d v

/-- what is wanted behind: R tells how the answer stands for the data -/
def RPost (G : Gl) {α β : Type} (W : WX) (R : α → β → List Addr → Hp → Prop) (σ : L2.St) (ι : List Addr) (H : Hp) (r : Res α) (Q : β → Hp → Prop) : Prop :=
  match r with
  | .ok d st' => ∀ b H' ι', Ext ι H ι' H' → RS G ι' st' H' → R d b ι' H' → Q b H'
  | .exc x st' => ∀ cls dd H' ι', Ext ι H ι' H' → RS G ι' st' H' → XRep G ι' H' x cls dd → W cls dd σ H'
  | .bad => False
/-- a reading by data -/
def tG (G : Gl) {α β : Type} (W : WX) (R : α → β → List Addr → Hp → Prop) (m : DL.Env → Store → Res α) : L2.St → Hp → (β → Hp → Prop) → Prop := fun σ H Q =>
  ∃ ι ρ st, RepEnv G ι H ρ σ ∧ RS G ι st H ∧ RPost G W R σ ι H (m ρ st) Q
abbrev RD (G : Gl) : D → V → List Addr → Hp → Prop := fun d v ι H => Rep G ι H d v
abbrev RA (G : Gl) : List D → List V → List Addr → Hp → Prop := fun d v ι H => RepL G ι H d v
abbrev RB : Bool → Bool → List Addr → Hp → Prop := fun a b _ _ => b = a
abbrev RO : Option Int → Option Int → List Addr → Hp → Prop := fun a b _ _ => b = a
abbrev tD (G : Gl) (W : WX) (m : DL.Env → Store → Res D) : TE := tG G W (RD G) m
abbrev tDT (G : Gl) (W : WX) (m : DL.Env → Store → Res Bool) : TT := tG G W RB m
abbrev tDA (G : Gl) (W : WX) (m : DL.Env → Store → Res (List D)) : TA := tG G W (RA G) m
abbrev tDO (G : Gl) (W : WX) (m : DL.Env → Store → Res (Option Int)) : TO := tG G W RO m

section
variable {G : Gl} {X : Cx} {ι ι' : List Addr} {H H' : Hp} {st : Store} {W : WX} {α β γ δ : Type} {R : α → β → List Addr → Hp → Prop} {R' : γ → δ → List Addr → Hp → Prop} {σ : L2.St} {ρ : DL.Env}
theorem RPost.ext {r : Res α} {Q : β → Hp → Prop} (h : RPost G W R σ ι H r Q) (e : Ext ι H ι' H') : RPost G W R σ ι' H' r Q := by
  cases r with
  | ok d st' => exact fun b H2 ι2 e2 => h b H2 ι2 (e.trans e2)
  | exc x st' => exact fun c d H2 ι2 e2 => h c d H2 ι2 (e.trans e2)
  | bad => exact h
/-- first this, then that -/
theorem tG_bind {m : DL.Env → Store → Res α} {f : α → Store → Res γ} {K : β → Hp → Prop} {Q : δ → Hp → Prop} (hρ : RepEnv G ι H ρ σ) (S : RS G ι st H) (h : RPost G W R' σ ι H ((m ρ st).bind f) Q)
    (k : ∀ d st1 x H1 ι1, Ext ι H ι1 H1 → RS G ι1 st1 H1 → R d x ι1 H1 → RPost G W R' σ ι1 H1 (f d st1) Q → K x H1) : tG G W R m σ H K := by
  refine ⟨ι, ρ, st, hρ, S, ?_⟩
  cases e : m ρ st with
  | ok d st1 =>
    rw [e] at h
    exact fun b H1 ι1 e1 S1 r1 => k d st1 b H1 ι1 e1 S1 r1 (RPost.ext h e1)
  | exc x st1 => rw [e] at h; exact h
  | bad => rw [e] at h; exact h
theorem tG_imp {m m' : DL.Env → Store → Res α} {Q Q' : β → Hp → Prop} (h : tG G W R m σ H Q) (e : ∀ ρ st, m ρ st = m' ρ st) (q : ∀ b H, Q b H → Q' b H) : tG G W R m' σ H Q' := by
  obtain ⟨ι, ρ, st, hρ, S, h⟩ := h
  refine ⟨ι, ρ, st, hρ, S, ?_⟩
  rw [← e]
  cases e : m ρ st with
  | ok d st1 => rw [e] at h; exact fun b H1 ι1 e1 S1 r1 => q _ _ (h b H1 ι1 e1 S1 r1)
  | exc x st1 => rw [e] at h; exact h
  | bad => rw [e] at h; exact h
theorem PEi {e : Expr} {t t' : TE} (h : PE X e t) (i : ∀ σ H Q, t' σ H Q → t σ H Q) : PE X e t' := ⟨fun pins s σ H Q I q => h.run pins s σ H Q I (i σ H Q q)⟩
theorem PTi {e : Expr} {t t' : TT} (h : PT X e t) (i : ∀ σ H Q, t' σ H Q → t σ H Q) : PT X e t' := ⟨fun pins s σ H Q I q => h.run pins s σ H Q I (i σ H Q q)⟩
theorem PWi {e : Expr} {t t' : TT} (h : PW X e t) (i : ∀ σ H Q, t' σ H Q → t σ H Q) : PW X e t' := ⟨fun wh pins s σ H Q I q => h.run wh pins s σ H Q I (i σ H Q q)⟩
theorem PAi {e : List Expr} {t t' : TA} (h : PA X e t) (i : ∀ σ H Q, t' σ H Q → t σ H Q) : PA X e t' := ⟨fun p pins s σ H Q I q => h.run p pins s σ H Q I (i σ H Q q)⟩
theorem PSi {e : Stmt} {t t' : TS} (h : PS X e t) (i : ∀ D σ H, t' D σ H → t D σ H) : PS X e t' := ⟨fun pins s σ H D I q => h.run pins s σ H D I (i D σ H q)⟩
theorem PSsi {e : List Stmt} {t t' : TS} (h : PSs X e t) (i : ∀ D σ H, t' D σ H → t D σ H) : PSs X e t' := ⟨fun pins s σ H D I q => h.run pins s σ H D I (i D σ H q)⟩
/-- the end of a value-level operation -/
theorem ofV_post {o : Option (D × Store)} {Q : VK} (h : RPost G W (RD G) σ ι H (DL.ofV o) Q) : ∃ d st', o = some (d, st') ∧ ∀ v H' ι', Ext ι H ι' H' → RS G ι' st' H' → Rep G ι' H' d v → Q v H' := by
  cases o with
  | none => exact h.elim
  | some p => exact ⟨p.1, p.2, rfl, h⟩
theorem ofO_post {α' : Type} {o : Option α'} {f : α' → α} {Q : β → Hp → Prop} (h : RPost G W R σ ι H (DL.ofO o st f) Q) : ∃ b, o = some b ∧ ∀ v H' ι', Ext ι H ι' H' → RS G ι' st H' → R (f b) v ι' H' → Q v H' := by
  cases o with
  | none => exact h.elim
  | some p => exact ⟨p, rfl, h⟩

/-! ### the forms -/
variable {a b c : Expr} {pos : Pos} {ma mb mc : DL.Env → Store → Res D}
theorem d_op {op : Operator} {f : D → D → Store → Option (D × Store)} (ho : OpR X (binaryOp op) (tV2 G f)) (ha : PE X a (tD G W ma)) (hb : PE X b (tD G W mb)) :
    PE X (.BinOp a op b pos) (tD G W fun ρ st => (ma ρ st).bind fun x st => (mb ρ st).bind fun y st => DL.ofV (f x y st)) :=
  PEi (pe_op ho ha hb) fun σ H Q ⟨ι, ρ, st, hρ, S, h⟩ => tG_bind hρ S h fun d st1 x H1 ι1 e1 S1 r1 h1 => tG_bind (hρ.mono e1) S1 h1 fun d2 st2 y H2 ι2 e2 S2 r2 h2 =>
    let ⟨d', st', e, k⟩ := ofV_post h2
    ⟨ι2, d, d2, st2, d', st', r1.mono e2, r2, S2, e, k⟩
theorem d_cmp {op : CmpOp} {f : D → D → Store → Option Bool} (ho : OpR X (compareOp op) (tC2 G f)) (ha : PE X a (tD G W ma)) (hb : PE X b (tD G W mb)) (hm : behindInMarks op b = false) :
    PE X (.Compare a [op] [b] pos) (tD G W fun ρ st => (ma ρ st).bind fun x st => (mb ρ st).bind fun y st => DL.ofO (f x y st) st .bl) :=
  PEi (pe_cmpR ho ha hb hm) fun σ H Q ⟨ι, ρ, st, hρ, S, h⟩ => tG_bind hρ S h fun d st1 x H1 ι1 e1 S1 r1 h1 => tG_bind (hρ.mono e1) S1 h1 fun d2 st2 y H2 ι2 e2 S2 r2 h2 =>
    let ⟨c, e, k⟩ := ofO_post h2
    ⟨ι2, d, d2, st2, c, r1.mono e2, r2, S2, e, k _ _ ι2 Ext.refl S2 rfl⟩
theorem d_cmpT {op : CmpOp} {f : D → D → Store → Option Bool} (ho : OpR X (compareOp op) (tC2 G f)) (ha : PE X a (tD G W ma)) (hb : PE X b (tD G W mb)) (hm : behindInMarks op b = false) :
    PT X (.Compare a [op] [b] pos) (tDT G W fun ρ st => (ma ρ st).bind fun x st => (mb ρ st).bind fun y st => DL.ofO (f x y st) st id) :=
  PTi (pt_cmpR ho ha hb hm) fun σ H Q ⟨ι, ρ, st, hρ, S, h⟩ => tG_bind hρ S h fun d st1 x H1 ι1 e1 S1 r1 h1 => tG_bind (hρ.mono e1) S1 h1 fun d2 st2 y H2 ι2 e2 S2 r2 h2 =>
    let ⟨c, e, k⟩ := ofO_post h2
    ⟨ι2, d, d2, st2, c, r1.mono e2, r2, S2, e, c, rfl, k _ _ ι2 Ext.refl S2 rfl⟩
/-- truth -/
theorem tru_rep (hK : X.K = G.K) (S : RS G ι st H) {x : D} {v : V} {k : Bool} (r : Rep G ι H x v) (e : DL.truD x st = some k) : TruV X.K v H k := by
  unfold DL.truD at e
  split at e
  · cases e; rw [show v = V.non from r]; rfl
  · cases e; rw [show v = V.bl _ from r]; rfl
  · cases e; rw [show v = V.int _ from r]; rfl
  · rename_i s
    cases e
    obtain ⟨rfl, l1, _⟩ := r
    refine ⟨by rw [sS_len]; exact l1, ?_⟩
    rw [sS_len]
    cases s with
    | nil => rfl
    | cons _ _ => simp; omega
  · rename_i xs
    cases e
    obtain ⟨a, vs, rfl, h1, h2⟩ := r
    refine .inr (.inl ⟨vs, sqT_of hK h1, ?_⟩)
    have := h2.length
    cases xs <;> cases vs <;> first | rfl | simp at this
  · split at e
    · rename_i l xs hl
      cases e
      obtain ⟨a, rfl, ha⟩ := r
      obtain ⟨vs, q1, h2⟩ := S.lst hl ha
      refine .inl ⟨vs, sqL_of q1, ?_⟩
      have := h2.length
      cases xs <;> cases vs <;> first | rfl | simp at this
    · cases e
  · cases e
/-- any expression as a test -/
theorem d_truth (hK : X.K = G.K) (ha : PE X a (tD G W ma)) (he : ∀ whole, isTrue a X.env whole = (do let v ← whole; standAt a.pos; holding [v] (truthy v))) :
    PT X a (tDT G W fun ρ st => (ma ρ st).bind fun x st => DL.ofO (DL.truD x st) st id) :=
  PTi (pt_truth ha he) fun σ H Q ⟨ι, ρ, st, hρ, S, h⟩ => tG_bind hρ S h fun d st1 x H1 ι1 e1 S1 r1 h1 =>
    let ⟨c, e, k⟩ := ofO_post h1
    ⟨c, tru_rep hK S1 r1 e, k _ _ ι1 Ext.refl S1 rfl⟩
theorem d_not {mt : DL.Env → Store → Res Bool} (ha : PT X a (tDT G W mt)) : PT X (.UnaryOp .Not a pos) (tDT G W fun ρ st => (mt ρ st).bind fun b st => .ok (!b) st) :=
  PTi (pt_not ha) fun σ H Q ⟨ι, ρ, st, hρ, S, h⟩ => tG_bind hρ S h fun d st1 x H1 ι1 e1 S1 r1 h1 => by
    subst r1
    exact h1 _ _ ι1 Ext.refl S1 rfl
/-- not x, as a value -/
theorem d_notV (hK : X.K = G.K) (ha : PE X a (tD G W ma)) : PE X (.UnaryOp .Not a pos) (tD G W fun ρ st => (ma ρ st).bind fun x st => DL.ofO (DL.truD x st) st fun b => .bl (!b)) := by
  refine ⟨fun pins s σ H Q I ⟨ι, ρ, st, hρ, S, h⟩ => ?_⟩
  have hu : UnR X (unaryOp .Not) fun x H Q => ∃ k, TruV X.K x H k ∧ Q (.bl (!k)) H := by
    intro pins s σ H x v Q I rx h
    refine not_of (thn (tru_ok pins s σ H x v (fun k H' => Q (.bl (!k)) H') I rx h) fun b s' ⟨H', I', q⟩ => ⟨.bl (!b), H', I', rfl, q⟩)
  refine (pe_un hu ha).run pins s σ H Q I (tG_bind hρ S h fun d st1 x H1 ι1 e1 S1 r1 h1 => ?_)
  obtain ⟨c, e, k⟩ := ofO_post h1
  exact ⟨c, tru_rep hK S1 r1 e, k _ _ ι1 Ext.refl S1 rfl⟩
theorem d_neg (ha : PE X a (tD G W ma)) : PE X (.UnaryOp .USub a pos) (tD G W fun ρ st => (ma ρ st).bind fun x st => match x with | .int i => .ok (.int (-i)) st | _ => .bad) :=
  PEi (pe_un un_neg ha) fun σ H Q ⟨ι, ρ, st, hρ, S, h⟩ => tG_bind hρ S h fun d st1 x H1 ι1 e1 S1 r1 h1 => by
    cases d <;> first | exact h1.elim | skip
    exact ⟨_, r1, h1 _ _ ι1 Ext.refl S1 rfl⟩
theorem d_ife {mt : DL.Env → Store → Res Bool} (hc : PT X c (tDT G W mt)) (ha : PE X a (tD G W ma)) (hb : PE X b (tD G W mb)) :
    PE X (.IfExp c a b pos) (tD G W fun ρ st => (mt ρ st).bind fun k st => if k = true then ma ρ st else mb ρ st) :=
  PEi (pe_ifExp hc ha hb) fun σ H Q ⟨ι, ρ, st, hρ, S, h⟩ => tG_bind hρ S h fun d st1 x H1 ι1 e1 S1 r1 h1 => by
    subst r1
    cases x with
    | true => exact ⟨ι1, ρ, st1, hρ.mono e1, S1, h1⟩
    | false => exact ⟨ι1, ρ, st1, hρ.mono e1, S1, h1⟩
theorem d_chain {o1 o2 : CmpOp} {f1 f2 : D → D → Store → Option Bool} (h1 : OpR X (compareOp o1) (tC2 G f1)) (h2 : OpR X (compareOp o2) (tC2 G f2)) (ha : PE X a (tD G W ma)) (hb : PE X b (tD G W mb)) (hc : PE X c (tD G W mc))
    (hm : lastMarks [o1, o2] [b, c] = false) : PE X (.Compare a [o1, o2] [b, c] pos) (tD G W fun ρ st => (ma ρ st).bind fun x st => (mb ρ st).bind fun y st => match f1 x y st with
      | some true => (mc ρ st).bind fun z st => DL.ofO (f2 y z st) st .bl
      | some false => .ok (.bl false) st
      | none => .bad) :=
  PEi (pe_chain h1 h2 ha hb hc hm) fun σ H Q ⟨ι, ρ, st, hρ, S, h⟩ => tG_bind hρ S h fun d st1 x H1 ι1 e1 S1 r1 g1 => tG_bind (hρ.mono e1) S1 g1 fun d2 st2 y H2 ι2 e2 S2 r2 g2 => by
    split at g2
    · rename_i e
      refine ⟨ι2, d, d2, st2, true, r1.mono e2, r2, S2, e, true, rfl, ?_⟩
      rw [if_pos rfl]
      refine tG_bind ((hρ.mono e1).mono e2) S2 g2 fun d3 st3 z H3 ι3 e3 S3 r3 g3 => ?_
      obtain ⟨c, e, k⟩ := ofO_post g3
      exact ⟨ι3, d2, d3, st3, c, r2.mono e3, r3, S3, e, k _ _ ι3 Ext.refl S3 rfl⟩
    · rename_i e
      refine ⟨ι2, d, d2, st2, false, r1.mono e2, r2, S2, e, false, rfl, ?_⟩
      rw [if_neg Bool.false_ne_true]
      exact g2 _ _ ι2 Ext.refl S2 rfl
    · exact g2.elim
theorem d_chainT {o1 o2 : CmpOp} {f1 f2 : D → D → Store → Option Bool} (h1 : OpR X (compareOp o1) (tC2 G f1)) (h2 : OpR X (compareOp o2) (tC2 G f2)) (ha : PE X a (tD G W ma)) (hb : PE X b (tD G W mb)) (hc : PE X c (tD G W mc))
    (hm : lastMarks [o1, o2] [b, c] = false) : PT X (.Compare a [o1, o2] [b, c] pos) (tDT G W fun ρ st => (ma ρ st).bind fun x st => (mb ρ st).bind fun y st => match f1 x y st with
      | some true => (mc ρ st).bind fun z st => DL.ofO (f2 y z st) st id
      | some false => .ok false st
      | none => .bad) :=
  PTi (pt_chain h1 h2 ha hb hc hm) fun σ H Q ⟨ι, ρ, st, hρ, S, h⟩ => tG_bind hρ S h fun d st1 x H1 ι1 e1 S1 r1 g1 => tG_bind (hρ.mono e1) S1 g1 fun d2 st2 y H2 ι2 e2 S2 r2 g2 => by
    split at g2
    · rename_i e
      refine ⟨ι2, d, d2, st2, true, r1.mono e2, r2, S2, e, true, rfl, ?_⟩
      rw [if_pos rfl]
      refine tG_bind ((hρ.mono e1).mono e2) S2 g2 fun d3 st3 z H3 ι3 e3 S3 r3 g3 => ?_
      obtain ⟨c, e, k⟩ := ofO_post g3
      exact ⟨ι3, d2, d3, st3, c, r2.mono e3, r3, S3, e, c, rfl, k _ _ ι3 Ext.refl S3 rfl⟩
    · rename_i e
      refine ⟨ι2, d, d2, st2, false, r1.mono e2, r2, S2, e, false, rfl, ?_⟩
      rw [if_neg Bool.false_ne_true]
      exact ⟨false, rfl, g2 _ _ ι2 Ext.refl S2 rfl⟩
    · exact g2.elim

/-! ### argument lists -/
theorem star1 {e : Expr} (es : List Expr) (env : PySem.Env) (h : PySem.W.isStarred e = false) : starEach (e :: es) env = (false, eval e env) :: starEach es env := by
  cases e <;> first | rfl | cases h
theorem d_nil : PA X [] (tDA G W fun ρ st => .ok [] st) := PAi pa_nil fun σ H Q ⟨ι, ρ, st, hρ, S, h⟩ => h [] H ι Ext.refl S rfl
theorem d_cons {es : List Expr} {me : DL.Env → Store → Res (List D)} (hs : PySem.W.isStarred a = false) (ha : PE X a (tD G W ma)) (he : PA X es (tDA G W me)) :
    PA X (a :: es) (tDA G W fun ρ st => (ma ρ st).bind fun x st => (me ρ st).bind fun xs st => .ok (x :: xs) st) :=
  PAi (pa_cons ha he (star1 es _ hs)) fun σ H Q ⟨ι, ρ, st, hρ, S, h⟩ => tG_bind hρ S h fun d st1 x H1 ι1 e1 S1 r1 h1 => tG_bind (hρ.mono e1) S1 h1 fun d2 st2 y H2 ι2 e2 S2 r2 h2 =>
    h2 _ _ ι2 Ext.refl S2 ⟨_, _, rfl, r1.mono e2, r2⟩
theorem d_tup {es : List Expr} {me : DL.Env → Store → Res (List D)} {k : Nat} (he : PA X es (tDA G W me)) : PE X (.Tuple es k pos) (tD G W fun ρ st => (me ρ st).bind fun xs st => if DL.okS xs.length = true then .ok (.tup xs) st else .bad) :=
  PEi (pe_tup he) fun σ H Q ⟨ι, ρ, st, hρ, S, h⟩ => tG_bind hρ S h fun ds st1 xs H1 ι1 e1 S1 r1 h1 => by
    split at h1
    · rename_i hz
      exact ⟨by rw [← RepL.length r1]; exact lineM (of_decide_eq_true hz), fin_tup S1 r1 h1⟩
    · exact h1.elim
theorem d_lst {es : List Expr} {me : DL.Env → Store → Res (List D)} (he : PA X es (tDA G W me)) : PE X (.List es pos) (tD G W fun ρ st => (me ρ st).bind fun xs st => if DL.okS xs.length = true then DL.ofV (DL.newL xs st) else .bad) :=
  PEi (pe_lst he) fun σ H Q ⟨ι, ρ, st, hρ, S, h⟩ => tG_bind hρ S h fun ds st1 xs H1 ι1 e1 S1 r1 h1 => by
    split at h1
    · rename_i hz
      exact ⟨by rw [← RepL.length r1]; exact lineM (of_decide_eq_true hz), fin_lst S1 r1 h1⟩
    · exact h1.elim
theorem d_dic {tk : Bool} : PE X (.Dict [] [] pos) (tD G W fun ρ st => .ok (.ref st.length) (st ++ [.dic tk []])) := by
  cases tk with
  | false =>
    exact PEi pe_dnewK fun σ H Q ⟨ι, ρ, st, hρ, S, h⟩ p hp => h _ _ (ι ++ [p]) (Ext.alloc hp) (S.alloc hp ⟨[], upd_same, rfl⟩) (Rep.alloc S)
  | true =>
    exact PEi pe_dnewT fun σ H Q ⟨ι, ρ, st, hρ, S, h⟩ p hp => h _ _ (ι ++ [p]) (Ext.alloc hp) (S.alloc hp ⟨[], upd_same, rfl⟩) (Rep.alloc S)
theorem d_ix (hK : X.K = G.K) (hu : X.A.units + 64 < cLine) (ha : PE X a (tD G W ma)) (hb : PE X b (tD G W mb)) (hs : PlainIx b) :
    PE X (.Subscript a b pos) (tD G W fun ρ st => (ma ρ st).bind fun x st => (mb ρ st).bind fun y st => DL.ofV (DL.ixD x y st)) :=
  PEi (pe_ix (ix_D hK hu) ha hb hs) fun σ H Q ⟨ι, ρ, st, hρ, S, h⟩ => tG_bind hρ S h fun d st1 x H1 ι1 e1 S1 r1 h1 => tG_bind (hρ.mono e1) S1 h1 fun d2 st2 y H2 ι2 e2 S2 r2 h2 =>
    let ⟨d', st', e, k⟩ := ofV_post h2
    ⟨ι2, d, d2, st2, d', st', r1.mono e2, r2, S2, e, k⟩
/-- a slice's part -/
theorem d_part {e : Expr} {me : DL.Env → Store → Res D} (he : PE X e (tD G W me)) : PO X (some e) (tDO G W fun ρ st => (me ρ st).bind fun x st => match x with | .int i => .ok (some i) st | _ => .bad) := by
  refine ⟨fun pins s σ H Q I ⟨ι, ρ, st, hρ, S, h⟩ => (po_some he).run pins s σ H Q I (tG_bind hρ S h fun d st1 x H1 ι1 e1 S1 r1 h1 => ?_)⟩
  cases d <;> first | exact h1.elim | skip
  exact ⟨_, r1, h1 _ _ ι1 Ext.refl S1 rfl⟩
theorem d_nopart : PO X none (tDO G W fun ρ st => .ok none st) := ⟨fun pins s σ H Q I ⟨ι, ρ, st, hρ, S, h⟩ => po_none.run pins s σ H Q I (h _ _ ι Ext.refl S rfl)⟩
theorem d_sl {lo hi : Option Expr} {ml mh : DL.Env → Store → Res (Option Int)} {p2 : Pos} (hK : X.K = G.K) (ha : PE X a (tD G W ma)) (hl : PO X lo (tDO G W ml)) (hh : PO X hi (tDO G W mh)) :
    PE X (.Subscript a (.Slice lo hi none p2) pos) (tD G W fun ρ st => (ma ρ st).bind fun x st => (ml ρ st).bind fun l st => (mh ρ st).bind fun h st => DL.ofV (DL.slD x l h st)) :=
  PEi (pe_slice (sl_D hK) ha hl hh) fun σ H Q ⟨ι, ρ, st, hρ, S, h⟩ => tG_bind hρ S h fun d st1 x H1 ι1 e1 S1 r1 h1 => tG_bind (hρ.mono e1) S1 h1 fun l st2 y H2 ι2 e2 S2 r2 h2 => tG_bind ((hρ.mono e1).mono e2) S2 h2 fun l' st3 z H3 ι3 e3 S3 r3 h3 => by
    subst r2 r3
    obtain ⟨d', st', e, k⟩ := ofV_post h3
    exact ⟨ι3, d, st3, d', st', (r1.mono e2).mono e3, S3, e, k⟩
/-- a built-in function, a built-in type called -/
theorem d_bi {id : String} {f : List D → Store → Option (D × Store)} {x : Str} {p : Pos} {e : Expr} {es : List Expr} {me : DL.Env → Store → Res (List D)} (hc : CallR X (.builtin id) (tVN G f)) (hg : L2.Gl X x) (hm : X.mg x = none) (hv : bootBuiltins x = some (.builtin id))
    (ha : PA X (e :: es) (tDA G W me)) (hs : PySem.W.isStarred e = false) (hn : x ≠ "__name__") (hdb : (x == ("__debug__" : Str)) = false) (hpl : (backTo pos (starEach es X.env)).any (·.1) = false) :
    PE X (.Call (.Name x p) (e :: es) [] pos) (tD G W fun ρ st => (me ρ st).bind fun xs st => DL.ofV (f xs st)) :=
  PEi (pe_callB hc hg hm hv ha hn hdb (star1 es _ hs) hpl) fun σ H Q ⟨ι, ρ, st, hρ, S, h⟩ => tG_bind hρ S h fun ds st1 xs H1 ι1 e1 S1 r1 h1 =>
    let ⟨d', st', e, k⟩ := ofV_post h1
    ⟨ι1, ds, st1, d', st', r1, S1, e, k⟩
theorem d_biT {id : String} {f : List D → Store → Option (D × Store)} {x : Str} {p : Pos} {e : Expr} {es : List Expr} {me : DL.Env → Store → Res (List D)} (hc : CallR X (.type id) (tVN G f)) (hg : L2.Gl X x) (hm : X.mg x = none) (hv : bootBuiltins x = some (.type id))
    (ha : PA X (e :: es) (tDA G W me)) (hs : PySem.W.isStarred e = false) (hn : x ≠ "__name__") (hdb : (x == ("__debug__" : Str)) = false) (hpl : (backTo pos (starEach es X.env)).any (·.1) = false) :
    PE X (.Call (.Name x p) (e :: es) [] pos) (tD G W fun ρ st => (me ρ st).bind fun xs st => DL.ofV (f xs st)) :=
  PEi (pe_callTy hc hg hm hv ha hn hdb (star1 es _ hs) hpl) fun σ H Q ⟨ι, ρ, st, hρ, S, h⟩ => tG_bind hρ S h fun ds st1 xs H1 ι1 e1 S1 r1 h1 =>
    let ⟨d', st', e, k⟩ := ofV_post h1
    ⟨ι1, ds, st1, d', st', r1, S1, e, k⟩
end
end DS

set_option Elab.async false
set_option linter.all false
set_option maxRecDepth 100000
set_option maxHeartbeats 4000000
namespace DS
open PySem PySem.Spec PyProof.Rows L2
open DL (D Cell Store DX Res SRes)

/-! ### enumerate(a tuple) -/
set_option maxHeartbeats 4000000 in
theorem enum_newB {v : Value} {o : Obj} {P : Heap → Prop} (B : Begins v o P) :
    Meets (Builtin.«enumerate.__new__» ⟨[.type "enumerate", v], []⟩) (fun _ R s => P s.heap ∧
      R (.ok (.ret (.ref (s.heap.push o).objs.size))) { s with heap := (s.heap.push o).push { cls := .type "enumerate", data := .fields #[.none, .bool false, .ref s.heap.objs.size, rawInt 0, .none, .none] } }) :=
  .of_wp fun prog w A R s h => by
    obtain ⟨hp, g, d, tk, os⟩ := s
    obtain ⟨h1, h⟩ := h
    have hsub := sub_enumerate
    have go : ∀ {A' : Around} {E : Value → Shared → Prop} {Q : Value → Shared → Prop}, Q (.ref hp.objs.size) ⟨hp.push o, g, d, tk, os⟩ → wpAny (model prog w) A' (pyIter v) Q E ⟨hp, g, d, tk, os⟩ := fun q => B.iter prog w _ _ ⟨hp, g, d, tk, os⟩ _ h1 q
    wp_walk using go
    refine wpAny_stack_any fun st => wpAny_pure ?_
    split
    · rename_i c _ _ _ _ _
      cases (c == Value.type "enumerate") <;> (wp_walk using go; exact ⟨_, rfl, h⟩)
    · wp_walk using go
      exact ⟨_, rfl, h⟩
theorem enum_begin1 {prog : Program} {w : World} {A : Around} {E : Value → Shared → Prop} {s : Shared} {v : Value} {o : Obj} {P : Heap → Prop} {Q : Value → Shared → Prop} (B : Begins v o P) (h1 : P s.heap)
    (h : ∀ h', IsEnum h' (s.heap.objs.size + 1) s.heap.objs.size 0 .none → h'.get? s.heap.objs.size = some o → (∀ b u, s.heap.get? b = some u → h'.get? b = some u) → Q (.ref (s.heap.objs.size + 1)) { s with heap := h' }) :
    wpAny (model prog w) A (call (.type "enumerate") [v]) Q E s := by
  refine callType_new F.called_enumerate (by decide) (F.typeCall_enumerate_1 _) (F.newCall_enumerate_1 _) (fun ob => F.args_object_init_2 ob _) F.entry_enumerate_new (enum_newB B) ⟨h1, ?_⟩
  have z1 : (s.heap.push o).objs.size = s.heap.objs.size + 1 := Heap.size_push _ _
  have g2 := Heap.get?_push_size (s.heap.push o) (o := { cls := .type "enumerate", data := .fields #[.none, .bool false, .ref s.heap.objs.size, rawInt 0, .none, .none] }) rfl
  show _ ∧ _
  rw [z1] at g2 ⊢
  exact ⟨⟨_, g2, rfl⟩, h _ g2 (Heap.get?_push_of_some _ (Heap.get?_push_size _ B.free)) fun b u e => Heap.get?_push_of_some _ (Heap.get?_push_of_some _ e)⟩

/-- the tuple at a, each item in a new pair -/
def IteT (K : PySem.W.Frag) (a : Addr) : It :=
  ⟨fun i H => ∃ (xs : List V) (x : V), SqT K H a xs ∧ xs[i]? = some x, fun i H v H' => ∃ T x, v = .ref T ∧ H T = none ∧ H' = upd H T (.tup [.int (i : Nat), x]) ∧ ∀ xs, SqT K H a xs → xs[i]? = some x,
    fun i H => ∃ xs : List V, SqT K H a xs ∧ xs.length ≤ i⟩
theorem turn_enumT {P : Program} {w : World} {K : PySem.W.Frag} {elts : List Expr} {kk : Nat} {tpos : Pos} (a e it : Addr) :
    Turn P w K (.Tuple elts kk tpos) (IteT K a) [e, it] e (fun i h => (∃ old, IsEnum h e it ((i : Nat) : Int) old) ∧ h.IsTupleIter it a i ∧ e ≠ it ∧ a ≠ it ∧ a ≠ e) where
  mem := by simp
  obj := fun i h st b hb => by
    obtain ⟨⟨old, he⟩, ⟨o, ho, hc, hd⟩, _⟩ := st
    rcases List.mem_cons.mp hb with z | z
    · exact ⟨_, by rw [z]; exact he, fun v q => (by cases q)⟩
    · rw [List.mem_singleton.mp z]
      exact ⟨o, ho, fun v q => by rw [hd] at q; cases q⟩
  keep := fun i h h' st k => ⟨let ⟨old, he⟩ := st.1; ⟨old, k e (by simp) _ he⟩, st.2.1.at fun o q => k it (by simp) o q, st.2.2⟩
  item := by
    intro X hP hw hK hc i pins s σ H E I hf st hg
    subst hP hw hK
    obtain ⟨⟨old, he⟩, hit, hne, hai, hae⟩ := st
    obtain ⟨xs, x, hq, hx⟩ := hg
    obtain ⟨its, rv, p, hz⟩ := I.tuple hq
    obtain ⟨u, hu, ru⟩ := rv.get hx
    have hlt : i < its.toArray.size := by simpa using (List.getElem?_eq_some_iff.mp hu).1
    have hel : e < s.heap.objs.size := Heap.lt_size he
    have hil : it < s.heap.objs.size := by obtain ⟨_, q, _⟩ := hit; exact Heap.lt_size q
    have DD := Draws.tuple (prog := X.prog) (w := X.w) (A := X.A.in1) (I.ok.hd hc) it a hai its.toArray
    refine wpAny_pyNext_enum_itemD DD he ⟨hit, p⟩ hlt hne (by simp [hne, Ne.symm hae]) fun y h' tk hy ho hit' hT hsz hk => ?_
    have ey : y = u := by
      have : its.toArray[i]? = some u := by simpa using hu
      rw [this] at hy; exact (Option.some.inj hy).symm
    subst ey
    refine ⟨_, rfl, wpAny_letOwnedTupleGo_enum (s := { s with heap := h', toks := tk + 1 }) ho fun h'' he' sb => ?_⟩
    have hT2 : h''.get? s.heap.objs.size = some { cls := .type "tuple", data := .seq #[.int i tk, y] } := (sb.2 _ (Nat.ne_of_gt hel)).trans hT
    have new : ObjOk X.prog X.w (upd H s.heap.objs.size (.tup [.int (i : Nat), x])) h'' s.heap.objs.size (.tup [.int (i : Nat), x]) :=
      ⟨by show 2 ≤ sizeLine; decide, [.int i tk, y], .cons ⟨_, rfl⟩ (.cons ru .nil), ⟨_, hT2, rfl, _, rfl⟩⟩
    have I1 := I.turnedNew (t' := tk + 1) (ch := [e, it]) (fun b ob hb q => (sb.2 b (fun z => hb (by rw [z]; simp))).trans (hk b ob (fun z => hb (by rw [z]; simp)) (fun z => hb (by rw [z]; simp)) q)) hf (Nat.le_refl _) new
    refine ⟨.ref s.heap.objs.size, _, I1, rfl, ⟨_, x, rfl, I.hok.fresh (Nat.le_refl _), rfl, fun ys hy2 => by rw [I.tuple_inj hy2 hq]; exact hx⟩, ⟨⟨y, by rw [Int.natCast_add]; exact he'⟩, hit'.1.at fun o q => (sb.2 it (Ne.symm hne)).trans q, hne, hai, hae⟩, fun b hb => ?_⟩
    have hb' : b < s.heap.objs.size := by
      rcases List.mem_cons.mp hb with z | z
      · rw [z]; exact hel
      · rw [List.mem_singleton.mp z]; exact hil
    rw [upd_ne (Nat.ne_of_lt hb')]
    exact (hf b hb).1
  done := by
    intro X hP hw hK hc i pins s σ H E I hf st hg
    subst hP hw hK
    obtain ⟨⟨old, he⟩, hit, hne, hai, hae⟩ := st
    obtain ⟨xs, hq, hx⟩ := hg
    obtain ⟨its, rv, p, hz⟩ := I.tuple hq
    obtain ⟨f0, f1, f2, f3, f4, f5⟩ := hf it (by simp)
    have hl := rv.length
    -- the iterator stands at its end: one beyond is not met, so i is the length
    unfold pyNext
    have hT : s.TypeIs (.ref e) "enumerate" := ⟨_, he, rfl⟩
    refine wpAny_bind (wpAny_attempt (wpAny_callSpecial?_slot (name := Str.ofString "__next__") hT F.slot_enumerate_next (wpAny_call_entry F.slot_enumerate_next hT F.entry_enumerate_next ?_ (F.args_enumerate_next_1 _))))
    show wpAny _ _ (field (.ref e) 2 >>= _) _ _ _
    refine wpAny_bind (wpAny_field he rfl (x := .ref it) rfl ?_)
    refine wpAny_bind (wpAny_nextOf_tuple_end (I.ok.hd hc) hit p (by simp; omega) fun h' x hx1 hx2 => ?_)
    obtain ⟨o, ho, hcl⟩ := hx2
    refine wpAny_bind (wpAny_isInstance (T := "StopIteration") (b := true) ⟨o, ho, hcl⟩ isSubtype_stop ?_)
    exact wpAny_pure ⟨rfl, I.turned (t' := s.toks) (fun b o hb q => hx1 b o hb q) f0 f1 f3 f4 f5⟩
  self := fun A i s Q E st h => let ⟨⟨_, he⟩, _⟩ := st; wpAny_pyIter_enum he h
theorem pi_enumT {X : Cx} {e : Expr} {ta : TA} {p pos tpos : Pos} {elts : List Expr} {kk : Nat} (hg : L2.Gl X "enumerate") (hm : X.mg "enumerate" = none) (ha : PA X [e] ta) (hs : starEach [e] X.env = [(false, eval e X.env)]) :
    PI X (.Tuple elts kk tpos) (.Call (.Name "enumerate" p) [e] [] pos) (fun σ H R => ta σ H fun vs H1 => ∃ a xs, vs = [.ref a] ∧ SqT X.K H1 a xs ∧ R (IteT X.K a) H1) := by
  refine ⟨fun pins s σ H R I h => ?_⟩
  refine Call_ (ld_blt I hg hm boot_enumerate (PyProof.Rows.callWith_type1 (thn (ha.run pos pins s σ H _ I h) fun us s1 hq => ?_) hs rfl))
  obtain ⟨vs, H1, I1, r1, a, xs, rfl, hq, q⟩ := hq
  obtain ⟨u, rfl, ru⟩ := vals1 r1
  obtain rfl : u = Value.ref a := ru
  obtain ⟨its, rv, p', hz⟩ := I1.tuple hq
  refine enum_begin1 (begins_tuple a its.toArray) p' fun h' he hit hk => wpAny_pyIter_enum he ?_
  have hal : a < s1.heap.objs.size := p'.lt
  refine ⟨s1.heap.objs.size + 1, [s1.heap.objs.size + 1, s1.heap.objs.size], _, _, H1, rfl, I1.kept (t' := s1.toks) hk, turn_enumT a (s1.heap.objs.size + 1) s1.heap.objs.size, ⟨⟨.none, he⟩, ⟨_, hit, rfl, rfl⟩, Nat.succ_ne_self _, Nat.ne_of_lt hal, Nat.ne_of_lt (Nat.lt_succ_of_lt hal)⟩, fun b hb => ?_, q⟩
  have hle : s1.heap.objs.size ≤ b := by
    rcases List.mem_cons.mp hb with z | z
    · rw [z]; exact Nat.le_succ _
    · rw [List.mem_singleton.mp z]; exact Nat.le_refl _
  exact I1.fpOk hle (I1.hok.fresh hle)
end DS

set_option Elab.async false
set_option linter.all false
set_option maxRecDepth 100000
set_option maxHeartbeats 4000000
namespace DS
open PySem PySem.Spec PyProof.Rows L2
open DL (D Cell Store DX Res SRes)

/-- an iterator draws these data (while the guard stands) -/
def JRep (G : Gl) (J : It) (items : List D) (g : DL.Guard) (ι0 : List Addr) (H0 : Hp) : Prop := ∀ (i : Nat) ι st H, Ext ι0 H0 ι H → RS G ι st H → DL.GuardOk g st →
  (∀ d, items[i]? = some d → J.go i H ∧ ∀ x H', J.yld i H x H' → Ext ι H ι H' ∧ RS G ι st H' ∧ Rep G ι H' d x) ∧ (items.length ≤ i → J.stop i H)
abbrev RJ (G : Gl) : (List D × DL.Guard) → It → List Addr → Hp → Prop := fun p J ι H => JRep G J p.1 p.2 ι H
abbrev tI (G : Gl) (W : WX) (m : DL.Env → Store → Res (List D × DL.Guard)) : TI := tG G W (RJ G) m

section
variable {G : Gl} {X : Cx} {ι ι' : List Addr} {H H' : Hp} {st : Store} {W : WX} {σ : L2.St} {ρ : DL.Env} {K : PySem.W.Frag}

theorem sqT_mono {xs : List V} {a : Addr} (e : Ext ι H ι' H') (h : H a = some (.tup xs) ∨ KTup G.K a xs) : H' a = some (.tup xs) ∨ KTup G.K a xs := h.elim (fun h => .inl (e.imm a _ h trivial)) .inr
theorem sqT_K {xs : List V} {a : Addr} (hK : K = G.K) (h : H a = some (.tup xs) ∨ KTup G.K a xs) : SqT K H a xs := by
  rcases h with h | h
  · exact .inl (.inl h)
  · rw [hK]; exact .inr h
theorem tup_of {a : Addr} {xs : List V} {P : Prop} (h : H a = some (.tup xs) ∨ (KTup G.K a xs ∧ P)) : H a = some (.tup xs) ∨ KTup G.K a xs := h.imp id (fun h => h.1)
theorem J_tup (hK : K = G.K) {a : Addr} {vs : List V} {ds : List D} (h : H a = some (.tup vs) ∨ KTup G.K a vs) (r : RepL G ι H ds vs) : JRep G (Itt K a) ds none ι H := by
  intro i ι1 st1 H1 e S _
  have hq : SqT K H1 a vs := sqT_K hK (sqT_mono e h)
  refine ⟨fun d hd => ?_, fun hi => ⟨vs, hq, by rw [← r.length]; exact hi⟩⟩
  obtain ⟨v, hv, rv⟩ := r.get hd
  refine ⟨⟨vs, v, hq, hv⟩, fun x H' y => ?_⟩
  obtain ⟨rfl, y⟩ := y
  have := y vs hq
  rw [hv] at this; cases this
  exact ⟨Ext.refl, S, rv.mono e⟩
theorem J_lst {l : Nat} {a : Addr} {ds : List D} (ha : ι[l]? = some a) : JRep G (Itl K a) ds (some (l, ds)) ι H := by
  intro i ι1 st1 H1 e S g
  obtain ⟨vs, q1, r⟩ := S.lst g (e.get ha)
  have hq : SqL K H1 a vs := .inl (.inl q1)
  refine ⟨fun d hd => ?_, fun hi => ⟨vs, hq, by rw [← r.length]; exact hi⟩⟩
  obtain ⟨v, hv, rv⟩ := r.get hd
  refine ⟨⟨vs, v, hq, hv⟩, fun x H' y => ?_⟩
  obtain ⟨rfl, y⟩ := y
  have := y vs hq
  rw [hv] at this; cases this
  exact ⟨Ext.refl, S, rv⟩
theorem J_str {s : List Nat} (ho : PyData.strOk (sS s) = true) : JRep G (Its (sS s)) (s.map fun c => .str [c]) none ι H := by
  intro i ι1 st1 H1 e S _
  have hsz : (sS s).cps.size = s.length := by simp [sS]
  refine ⟨fun d hd => ?_, fun hi => by show (sS s).cps.size ≤ i; rw [hsz]; simpa using hi⟩
  rw [List.getElem?_map] at hd
  obtain ⟨c, hc, rfl⟩ := Option.map_eq_some_iff.mp hd
  refine ⟨by show i < (sS s).cps.size; rw [hsz]; exact (List.getElem?_eq_some_iff.mp hc).1, fun x H' y => ?_⟩
  obtain ⟨rfl, c', h1, rfl⟩ := y
  have : c' = c := by
    have h2 : (sS s).cps[i]? = s[i]? := by simp [sS]
    rw [h2, hc] at h1; exact (Option.some.inj h1).symm
  subst this
  refine ⟨Ext.refl, S, rfl, lineM (by simp), strOk_of_sub ho fun z hz => ?_⟩
  rw [List.mem_singleton.mp hz]
  exact List.mem_of_getElem? hc
theorem J_rng (lo : Int) (n : Nat) : JRep G (Itr lo n) (DL.rangeL lo n) none ι H := by
  intro i ι1 st1 H1 e S _
  refine ⟨fun d hd => ?_, fun hi => by show n ≤ i; simpa [DL.rangeL] using hi⟩
  unfold DL.rangeL at hd
  rw [List.getElem?_map] at hd
  obtain ⟨k, hk, rfl⟩ := Option.map_eq_some_iff.mp hd
  have hlt : i < n := by simpa using (List.getElem?_eq_some_iff.mp hk).1
  have ek : k = i := by
    rw [List.getElem?_range hlt] at hk; exact (Option.some.inj hk).symm
  subst ek
  refine ⟨hlt, fun x H' y => ?_⟩
  obtain ⟨rfl, rfl⟩ := y
  exact ⟨Ext.refl, S, rfl⟩
theorem J_rngD (lo : Int) (n : Nat) : JRep G (Itc lo (-1) n) (DL.rangeD lo n) none ι H := by
  intro i ι1 st1 H1 e S _
  refine ⟨fun d hd => ?_, fun hi => by show n ≤ i; simpa [DL.rangeD] using hi⟩
  unfold DL.rangeD at hd
  rw [List.getElem?_map] at hd
  obtain ⟨k, hk, rfl⟩ := Option.map_eq_some_iff.mp hd
  have hlt : i < n := by simpa using (List.getElem?_eq_some_iff.mp hk).1
  have ek : k = i := by
    rw [List.getElem?_range hlt] at hk; exact (Option.some.inj hk).symm
  subst ek
  refine ⟨hlt, fun x H' y => ?_⟩
  obtain ⟨rfl, rfl⟩ := y
  refine ⟨Ext.refl, S, ?_⟩
  show V.int _ = V.int _
  rw [Int.mul_neg, Int.mul_one, Int.sub_eq_add_neg]
theorem enumL_get : ∀ (ds : List D) (k i : Nat), (DL.enumL k ds)[i]? = (ds[i]?).map fun d => D.tup [.int ((k + i : Nat) : Int), d]
  | [], k, i => by simp [DL.enumL]
  | d :: ds, k, 0 => by simp [DL.enumL]
  | d :: ds, k, i + 1 => by
    rw [DL.enumL, List.getElem?_cons_succ, enumL_get ds (k + 1) i, List.getElem?_cons_succ]
    have : k + 1 + i = k + (i + 1) := by omega
    rw [this]
theorem enumL_len : ∀ (ds : List D) (k : Nat), (DL.enumL k ds).length = ds.length
  | [], k => rfl
  | d :: ds, k => by rw [DL.enumL, List.length_cons, enumL_len ds (k + 1)]; rfl
theorem J_enumL {l : Nat} {a : Addr} {ds : List D} (ha : ι[l]? = some a) : JRep G (Ite K a) (DL.enumL 0 ds) (some (l, ds)) ι H := by
  intro i ι1 st1 H1 e S g
  obtain ⟨vs, q1, r⟩ := S.lst g (e.get ha)
  have hq : SqL K H1 a vs := .inl (.inl q1)
  refine ⟨fun d hd => ?_, fun hi => ⟨vs, hq, by rw [← r.length]; rw [enumL_len] at hi; exact hi⟩⟩
  rw [enumL_get] at hd
  obtain ⟨d', hd', rfl⟩ := Option.map_eq_some_iff.mp hd
  obtain ⟨v, hv, rv⟩ := r.get hd'
  refine ⟨⟨vs, v, hq, hv⟩, fun x H' y => ?_⟩
  obtain ⟨T, x', rfl, hT, rfl, y⟩ := y
  have := y vs hq
  rw [hv] at this; cases this
  refine ⟨Ext.laid hT, S.laid hT, T, _, rfl, .inl upd_same, ⟨_, _, rfl, by rw [Nat.zero_add]; rfl, RepL.single (rv.mono (Ext.laid hT))⟩⟩
theorem J_enumT (hK : K = G.K) {a : Addr} {vs : List V} {ds : List D} (h : H a = some (.tup vs) ∨ KTup G.K a vs) (r : RepL G ι H ds vs) : JRep G (IteT K a) (DL.enumL 0 ds) none ι H := by
  intro i ι1 st1 H1 e S g
  have hq : SqT K H1 a vs := sqT_K hK (sqT_mono e h)
  refine ⟨fun d hd => ?_, fun hi => ⟨vs, hq, by rw [← r.length]; rw [enumL_len] at hi; exact hi⟩⟩
  rw [enumL_get] at hd
  obtain ⟨d', hd', rfl⟩ := Option.map_eq_some_iff.mp hd
  obtain ⟨v, hv, rv⟩ := r.get hd'
  refine ⟨⟨vs, v, hq, hv⟩, fun x H' y => ?_⟩
  obtain ⟨T, x', rfl, hT, rfl, y⟩ := y
  have := y vs hq
  rw [hv] at this; cases this
  refine ⟨Ext.laid hT, S.laid hT, T, _, rfl, .inl upd_same, ⟨_, _, rfl, by rw [Nat.zero_add]; rfl, RepL.single ((rv.mono e).mono (Ext.laid hT))⟩⟩

theorem PIi {tg e : Expr} {t t' : TI} (h : PI X tg e t) (i : ∀ σ H Q, t' σ H Q → t σ H Q) : PI X tg e t' := ⟨fun pins s σ H Q I q => h.run pins s σ H Q I (i σ H Q q)⟩
/-- a value that is walked -/
theorem d_seq {tg e : Expr} {m : DL.Env → Store → Res D} (hK : X.K = G.K) (he : PE X e (tD G W m)) : PI X tg e (tI G W fun ρ st => (m ρ st).bind fun x st => match x with
    | .tup xs => .ok (xs, none) st
    | .str s => .ok (s.map (fun c => .str [c]), none) st
    | .ref l => match st[l]? with | some (.lst xs) => .ok (xs, some (l, xs)) st | _ => .bad
    | _ => .bad) := by
  refine ⟨fun pins s σ H R I ⟨ι, ρ, st, hρ, S, h⟩ => ?_⟩
  dsimp only at h
  cases em : m ρ st with
  | bad => rw [em] at h; exact h.elim
  | exc x st1 =>
    rw [em] at h
    exact (pi_list he).run pins s σ H R I ⟨ι, ρ, st, hρ, S, by rw [em]; exact h⟩
  | ok d st1 =>
    rw [em] at h
    cases d with
    | tup xs =>
      refine (pi_tup he).run pins s σ H R I ⟨ι, ρ, st, hρ, S, ?_⟩
      rw [em]
      intro v H1 ι1 e1 S1 r1
      obtain ⟨a, vs, rfl, h1, h2⟩ := r1
      exact ⟨a, rfl, ⟨vs, sqT_K hK (tup_of h1)⟩, h _ _ ι1 e1 S1 (J_tup hK (tup_of h1) h2)⟩
    | str s' =>
      refine (pi_str he).run pins s σ H R I ⟨ι, ρ, st, hρ, S, ?_⟩
      rw [em]
      intro v H1 ι1 e1 S1 r1
      obtain ⟨rfl, _, o1⟩ := r1
      exact ⟨sS s', rfl, h _ _ ι1 e1 S1 (J_str o1)⟩
    | ref l =>
      refine (pi_list he).run pins s σ H R I ⟨ι, ρ, st, hρ, S, ?_⟩
      rw [em]
      dsimp only [Res.bind] at h
      split at h
      · rename_i xs hl
        intro v H1 ι1 e1 S1 r1
        obtain ⟨a, rfl, ha⟩ := r1
        obtain ⟨vs, q1, h2⟩ := S1.lst hl ha
        exact ⟨a, rfl, ⟨vs, sqL_of q1⟩, h _ _ ι1 e1 S1 (J_lst ha)⟩
      · exact h.elim
    | _ => exact h.elim
theorem small62_iff {i : Int} (h : DL.small62 i = true) : -(2 ^ 62) ≤ i ∧ i < 2 ^ 62 := by
  unfold DL.small62 at h
  rw [Bool.and_eq_true, decide_eq_true_eq, decide_eq_true_eq] at h
  have h1 : -(2 ^ 60 : Int) ≤ i := h.1
  have h2 : i < 2 ^ 60 := h.2
  omega
/-- range(..) -/
theorem d_rng1 {tg a : Expr} {p pos : Pos} {me : DL.Env → Store → Res (List D)} (hg : L2.Gl X "range") (hm : X.mg "range" = none) (ha : PA X [a] (tDA G W me)) (hs : PySem.W.isStarred a = false)
    (hl : ∀ ρ st ds st', me ρ st = .ok ds st' → ds.length = 1) : PI X tg (.Call (.Name "range" p) [a] [] pos) (tI G W fun ρ st => (me ρ st).bind fun xs st => DL.ofO (DL.rngD xs) st fun r => (r, none)) :=
  PIi (pi_range1 hg hm ha (by rw [star1 _ _ hs]; rfl)) fun σ H Q ⟨ι, ρ, st, hρ, S, h⟩ => by
    dsimp only at h
    cases em : me ρ st with
    | bad => rw [em] at h; exact h.elim
    | exc x st1 => rw [em] at h; exact ⟨ι, ρ, st, hρ, S, by rw [em]; exact h⟩
    | ok ds st1 =>
      rw [em] at h
      refine ⟨ι, ρ, st, hρ, S, ?_⟩
      rw [em]
      intro vs H1 ι1 e1 S1 r1
      obtain ⟨b, eb, k⟩ := ofO_post h
      unfold DL.rngD at eb
      split at eb
      · rename_i j
        split at eb
        · rename_i hj
          cases eb
          obtain ⟨v, rfl, r2⟩ := RepL.one r1
          obtain ⟨b1, b2⟩ := small62_iff hj
          exact ⟨j, by rw [show v = V.int j from r2], b1, b2, k _ _ ι1 e1 S1 (J_rng _ _)⟩
        · cases eb
      · have := hl ρ st _ _ em; simp at this
      · have := hl ρ st _ _ em; simp at this
      · cases eb
theorem d_rng2 {tg a b : Expr} {p pos : Pos} {me : DL.Env → Store → Res (List D)} (hg : L2.Gl X "range") (hm : X.mg "range" = none) (ha : PA X [a, b] (tDA G W me)) (hs : PySem.W.isStarred a = false) (hs2 : PySem.W.isStarred b = false)
    (hl : ∀ ρ st ds st', me ρ st = .ok ds st' → ds.length = 2) : PI X tg (.Call (.Name "range" p) [a, b] [] pos) (tI G W fun ρ st => (me ρ st).bind fun xs st => DL.ofO (DL.rngD xs) st fun r => (r, none)) :=
  PIi (pi_range2 hg hm ha (by rw [star1 _ _ hs, star1 _ _ hs2]; rfl) (by rw [star1 _ _ hs2]; rfl)) fun σ H Q ⟨ι, ρ, st, hρ, S, h⟩ => by
    dsimp only at h
    cases em : me ρ st with
    | bad => rw [em] at h; exact h.elim
    | exc x st1 => rw [em] at h; exact ⟨ι, ρ, st, hρ, S, by rw [em]; exact h⟩
    | ok ds st1 =>
      rw [em] at h
      refine ⟨ι, ρ, st, hρ, S, ?_⟩
      rw [em]
      intro vs H1 ι1 e1 S1 r1
      obtain ⟨b, eb, k⟩ := ofO_post h
      unfold DL.rngD at eb
      split at eb
      · have := hl ρ st _ _ em; simp at this
      · rename_i i j
        split at eb
        · rename_i hj
          cases eb
          obtain ⟨v, r, rfl, r2, r3⟩ := r1
          obtain ⟨v', rfl, r4⟩ := RepL.one r3
          obtain ⟨b1, b2⟩ := small62_iff hj.1
          obtain ⟨b3, b4⟩ := small62_iff hj.2
          exact ⟨i, j, by rw [show v = V.int i from r2, show v' = V.int j from r4], ⟨b1, b2, b3, b4⟩, k _ _ ι1 e1 S1 (J_rng _ _)⟩
        · cases eb
      · have := hl ρ st _ _ em; simp at this
      · cases eb
theorem d_rng3 {tg a b c : Expr} {p pos : Pos} {me : DL.Env → Store → Res (List D)} (hg : L2.Gl X "range") (hm : X.mg "range" = none) (ha : PA X [a, b, c] (tDA G W me)) (hs : PySem.W.isStarred a = false) (hs2 : PySem.W.isStarred b = false) (hs3 : PySem.W.isStarred c = false)
    (hl : ∀ ρ st ds st', me ρ st = .ok ds st' → ds.length = 3) : PI X tg (.Call (.Name "range" p) [a, b, c] [] pos) (tI G W fun ρ st => (me ρ st).bind fun xs st => DL.ofO (DL.rngD xs) st fun r => (r, none)) :=
  PIi (pi_range3 hg hm ha (star1 _ _ hs) (by rw [star1 _ _ hs2, star1 _ _ hs3]; rfl)) fun σ H Q ⟨ι, ρ, st, hρ, S, h⟩ => by
    dsimp only at h
    cases em : me ρ st with
    | bad => rw [em] at h; exact h.elim
    | exc x st1 => rw [em] at h; exact ⟨ι, ρ, st, hρ, S, by rw [em]; exact h⟩
    | ok ds st1 =>
      rw [em] at h
      refine ⟨ι, ρ, st, hρ, S, ?_⟩
      rw [em]
      intro vs H1 ι1 e1 S1 r1
      obtain ⟨b, eb, k⟩ := ofO_post h
      unfold DL.rngD at eb
      split at eb
      · have := hl ρ st _ _ em; simp at this
      · have := hl ρ st _ _ em; simp at this
      · rename_i i j
        split at eb
        · rename_i hj
          cases eb
          obtain ⟨v, r, rfl, r2, r3⟩ := r1
          obtain ⟨v', r', rfl, r4, r5⟩ := r3
          obtain ⟨v'', rfl, r6⟩ := RepL.one r5
          obtain ⟨b1, b2⟩ := small62_iff hj.1
          obtain ⟨b3, b4⟩ := small62_iff hj.2
          exact ⟨i, j, -1, _, by rw [show v = V.int i from r2, show v' = V.int j from r4, show v'' = V.int (-1) from r6], RgC.neg b1 b2 b3 b4, k _ _ ι1 e1 S1 (J_rngD _ _)⟩
        · cases eb
      · cases eb
/-- enumerate(..) -/
theorem d_enum {e : Expr} {p pos tpos : Pos} {elts : List Expr} {kk : Nat} {m : DL.Env → Store → Res D} (hK : X.K = G.K) (hg : L2.Gl X "enumerate") (hm : X.mg "enumerate" = none) (he : PE X e (tD G W m)) (hs : PySem.W.isStarred e = false) :
    PI X (.Tuple elts kk tpos) (.Call (.Name "enumerate" p) [e] [] pos) (tI G W fun ρ st => (m ρ st).bind fun x st => match x with
    | .tup xs => .ok (DL.enumL 0 xs, none) st
    | .ref l => match st[l]? with | some (.lst xs) => .ok (DL.enumL 0 xs, some (l, xs)) st | _ => .bad
    | _ => .bad) := by
  have hss : starEach [e] X.env = [(false, eval e X.env)] := by rw [star1 _ _ hs]; rfl
  have ha : PA X [e] (tCons (tD G W m) tNil) := pa_cons he pa_nil (star1 _ _ hs)
  refine ⟨fun pins s σ H R I ⟨ι, ρ, st, hρ, S, h⟩ => ?_⟩
  dsimp only at h
  cases em : m ρ st with
  | bad => rw [em] at h; exact h.elim
  | exc x st1 =>
    rw [em] at h
    exact (pi_enum hg hm ha hss).run pins s σ H R I ⟨ι, ρ, st, hρ, S, by rw [em]; exact h⟩
  | ok d st1 =>
    rw [em] at h
    cases d with
    | tup xs =>
      refine (pi_enumT hg hm ha hss).run pins s σ H R I ⟨ι, ρ, st, hρ, S, ?_⟩
      rw [em]
      intro v H1 ι1 e1 S1 r1
      obtain ⟨a, vs, rfl, h1, h2⟩ := r1
      exact ⟨a, vs, rfl, sqT_K hK (tup_of h1), h _ _ ι1 e1 S1 (J_enumT hK (tup_of h1) h2)⟩
    | ref l =>
      refine (pi_enum hg hm ha hss).run pins s σ H R I ⟨ι, ρ, st, hρ, S, ?_⟩
      rw [em]
      dsimp only [Res.bind] at h
      split at h
      · rename_i xs hl
        intro v H1 ι1 e1 S1 r1
        obtain ⟨a, rfl, ha⟩ := r1
        obtain ⟨vs, q1, h2⟩ := S1.lst hl ha
        exact ⟨a, vs, rfl, sqL_of q1, h _ _ ι1 e1 S1 (J_enumL ha)⟩
      · exact h.elim
    | _ => exact h.elim

/-! ### targets -/
/-- but for these slots all is as it was -/
def Only (S : List Nat) (σ σ' : L2.St) : Prop := σ'.length = σ.length ∧ ∀ i : Nat, i ∉ S → σ'[i]? = σ[i]?
theorem Only.refl (S : List Nat) (σ : L2.St) : Only S σ σ := ⟨rfl, fun _ _ => rfl⟩
theorem Only.trans {S : List Nat} {a b c : L2.St} (h : Only S a b) (g : Only S b c) : Only S a c := ⟨g.1.trans h.1, fun i hi => (g.2 i hi).trans (h.2 i hi)⟩
theorem Only.mono {S T : List Nat} {a b : L2.St} (h : Only S a b) (k : ∀ i ∈ S, i ∈ T) : Only T a b := ⟨h.1, fun i hi => h.2 i fun z => hi (k i z)⟩
theorem Only.set {σ : L2.St} {i : Nat} {v : Option V} : Only [i] σ (σ.set i v) := ⟨by simp, fun j hj => List.getElem?_set_ne (fun e => hj (by simp [e]))⟩
theorem wipe_in {σ : L2.St} : ∀ {vs : List Nat} {i : Nat}, i ∈ vs → i < σ.length → (L2.wipe σ vs)[i]? = some none
  | v :: vs, i, hi, hl => by
    unfold L2.wipe
    by_cases e : v = i
    · subst e
      exact List.getElem?_set_self (by rw [wipe_length]; exact hl)
    · rw [List.getElem?_set_ne e]
      rcases List.mem_cons.mp hi with z | z
      · exact absurd z.symm e
      · exact wipe_in z hl
theorem Only.wipe {S : List Nat} {σ σ' : L2.St} {vs : List Nat} (h : Only S σ σ') (k : ∀ i ∈ S, i ∈ vs) : L2.wipe σ' vs = L2.wipe σ vs := by
  apply List.ext_getElem?
  intro i
  by_cases hi : i ∈ vs
  · by_cases hl : i < σ.length
    · rw [wipe_in hi hl, wipe_in hi (by rw [h.1]; exact hl)]
    · rw [List.getElem?_eq_none (by rw [wipe_length, h.1]; omega), List.getElem?_eq_none (by rw [wipe_length]; omega)]
  · rw [L2.wipe_out hi, L2.wipe_out hi]
    exact h.2 i fun z => hi (k i z)
theorem wipe_wipe {σ : L2.St} {vs : List Nat} : L2.wipe (L2.wipe σ vs) vs = L2.wipe σ vs := by
  refine Only.wipe (S := vs) ⟨wipe_length σ vs, fun i hi => L2.wipe_out hi⟩ fun _ h => h
/-- a target by data -/
def tT (G : Gl) (S : List Nat) (f : D → DL.Env → Option DL.Env) : TG := fun v σ H Q => ∃ ι ρ ρ' d st, RepEnv G ι H ρ σ ∧ RS G ι st H ∧ Rep G ι H d v ∧ f d ρ = some ρ' ∧
  ∀ σ', RepEnv G ι H ρ' σ' → Only S σ σ' → Q σ' H
def tTs (G : Gl) (S : List Nat) (f : List D → DL.Env → Option DL.Env) : TGs := fun vs σ H Q => ∃ ι ρ ρ' ds st, RepEnv G ι H ρ σ ∧ RS G ι st H ∧ RepL G ι H ds vs ∧ f ds ρ = some ρ' ∧
  ∀ σ', RepEnv G ι H ρ' σ' → Only S σ σ' → Q σ' H
theorem PGi {e : Expr} {t t' : TG} (h : PG X e t) (i : ∀ v σ H Q, t' v σ H Q → t v σ H Q) : PG X e t' := ⟨fun pins s σ H v u Q I r q => h.run pins s σ H v u Q I r (i v σ H Q q)⟩
theorem PGsi {e : List Expr} {t t' : TGs} (h : PGs X e t) (i : ∀ v σ H Q, t' v σ H Q → t v σ H Q) : PGs X e t' := ⟨fun pins s σ H v u Q I r q => h.run pins s σ H v u Q I r (i v σ H Q q)⟩
theorem g_name {i : Nat} {x : Str} {pos : Pos} (hN : X.N.Nodup) (hi : X.N[i]? = some x) (hx : Loc X.env.scope x) (hf : X.fn x = true ∨ X.env.scope.names.lookup x = some .local) : PG X (.Name x pos) (tT G [i] fun d ρ => some (ρ.set i (some d))) :=
  PGi (pg_name hN hi hx hf) fun v σ H Q ⟨ι, ρ, ρ', d, st, hρ, S, r, e, k⟩ => by
    cases e
    exact k _ (hρ.set r) Only.set
theorem asg1 {e : Expr} (es : List Expr) (env : PySem.Env) (h : PySem.W.isStarred e = false) : assignEach (e :: es) env = (false, assign e env) :: assignEach es env := by
  cases e <;> first | rfl | cases h
theorem asg_all : ∀ (es : List Expr) (env : PySem.Env), (es.all fun e => !PySem.W.isStarred e) = true → (assignEach es env).length = es.length ∧ (assignEach es env).findIdx? (·.1) = none
  | [], _, _ => ⟨rfl, rfl⟩
  | e :: es, env, h => by
    rw [List.all_cons, Bool.and_eq_true, Bool.not_eq_true'] at h
    obtain ⟨i1, i2⟩ := asg_all es env h.2
    rw [asg1 es env h.1]
    refine ⟨by simp [i1], ?_⟩
    rw [List.findIdx?_cons, i2]
    rfl
theorem g_tup {es : List Expr} {n : Nat} {pos : Pos} {S : List Nat} {f : List D → DL.Env → Option DL.Env} (hK : X.K = G.K) (hc : X.calm = true) (hs : (es.all fun e => !PySem.W.isStarred e) = true) (h : PGs X es (tTs G S f)) (hl : ∀ ds ρ ρ', f ds ρ = some ρ' → ds.length = es.length) :
    PG X (.Tuple es n pos) (tT G S fun d ρ => match d with | .tup ds => f ds ρ | _ => none) :=
  PGi (pg_tup hc h (asg_all es _ hs).1 (asg_all es _ hs).2) fun v σ H Q ⟨ι, ρ, ρ', d, st, hρ, S, r, e, k⟩ => by
    dsimp only at e
    split at e
    · rename_i ds
      obtain ⟨a, vs, rfl, h1, h2⟩ := r
      refine ⟨a, vs, rfl, sqT_K hK (tup_of h1), ?_, ι, ρ, ρ', ds, st, hρ, S, h2, e, k⟩
      rw [← h2.length, hl _ _ _ e]
    · cases e
theorem g_nil {S : List Nat} : PGs X [] (tTs G S fun ds ρ => match ds with | [] => some ρ | _ => none) :=
  PGsi pgs_nil fun v σ H Q ⟨ι, ρ, ρ', ds, st, hρ, S, r, e, k⟩ => by
    dsimp only at e
    split at e
    · cases e
      cases r
      exact ⟨rfl, k σ hρ (Only.refl _ _)⟩
    · cases e
theorem g_cons {a : Expr} {es : List Expr} {S T : List Nat} {f : D → DL.Env → Option DL.Env} {g : List D → DL.Env → Option DL.Env} (hs : PySem.W.isStarred a = false) (ha : PG X a (tT G S f)) (he : PGs X es (tTs G T g)) :
    PGs X (a :: es) (tTs G (S ++ T) fun ds ρ => match ds with | d :: ds => (match f d ρ with | some ρ => g ds ρ | none => none) | _ => none) :=
  PGsi (pgs_cons ha he (by rw [asg1 es _ hs]; rfl)) fun v σ H Q ⟨ι, ρ, ρ', ds, st, hρ, S, r, e, k⟩ => by
    dsimp only at e
    split at e
    · rename_i d ds
      split at e
      · rename_i ρ1 e1
        obtain ⟨v, vs, rfl, r1, r2⟩ := r
        refine ⟨v, vs, rfl, ι, ρ, ρ1, d, st, hρ, S, r1, e1, fun σ1 h1 o1 => ⟨ι, ρ1, ρ', ds, st, h1, S, r2, e, fun σ2 h2 o2 => k σ2 h2 ?_⟩⟩
        exact (o1.mono fun i hi => List.mem_append_left _ hi).trans (o2.mono fun i hi => List.mem_append_right _ hi)
      · cases e
    · cases e
end
end DS

set_option Elab.async false
set_option linter.all false
set_option maxRecDepth 100000
set_option maxHeartbeats 4000000
namespace DS
open PySem PySem.Spec PyProof.Rows L2
open DL (D Cell Store DX Res SRes)

/-- the heap without what is tracked at D -/
def cutA (H : Hp) (a : Addr) : Hp := fun b => if b = a then none else H b
theorem cutA_ne {H : Hp} {a b : Addr} (h : b ≠ a) : cutA H a b = H b := if_neg h
theorem cutA_same {H : Hp} {a : Addr} : cutA H a a = none := if_pos rfl
theorem cutA_some {H : Hp} {a b : Addr} {o : HO} (h : cutA H a b = some o) : b ≠ a ∧ H b = some o := by
  by_cases e : b = a
  · subst e; rw [cutA_same] at h; cases h
  · rw [cutA_ne e] at h; exact ⟨e, h⟩
theorem cutA_back {H : Hp} {a : Addr} {o : HO} (h : H a = some o) : upd (cutA H a) a o = H := by
  funext b
  by_cases e : b = a
  · subst e; rw [upd_same, h]
  · rw [upd_ne e, cutA_ne e]
theorem cutA_upd {H : Hp} {a : Addr} {o : HO} : cutA (upd H a o) a = cutA H a := by
  funext b
  by_cases e : b = a
  · subst e; rw [cutA_same, cutA_same]
  · rw [cutA_ne e, cutA_ne e, upd_ne e]
theorem cutA_id {H : Hp} {a : Addr} (h : H a = none) : cutA H a = H := by
  funext b
  by_cases e : b = a
  · subst e; rw [cutA_same, h]
  · rw [cutA_ne e]

section
variable {G : Gl} {ι ι' : List Addr} {H H' : Hp} {st : Store} {a : Addr}
theorem Ext.uncut (e : Ext ι H ι' (cutA H' a)) (h : H a = none) : Ext ι H ι' H' :=
  ⟨e.pre, e.new, fun b o q n => (cutA_some (e.keep b o q n)).2, fun b o q i => (cutA_some (e.imm b o q i)).2, fun b q z => by
    have := e.there b q
    cases hb : cutA H' a b with
    | none => exact this hb
    | some o => rw [(cutA_some hb).2] at z; cases z⟩
/-- from the cut heap back: all that it tells is told -/
theorem Ext.ofCut : Ext ι (cutA H a) ι H :=
  ⟨⟨[], by simp⟩, fun b h => .inl h, fun b o q _ => (cutA_some q).2, fun b o q _ => (cutA_some q).2, fun b q z => q (by
    by_cases e : b = a
    · subst e; exact cutA_same
    · rw [cutA_ne e]; exact z)⟩
theorem RS.notMem (S : RS G ι st (cutA H a)) : a ∉ ι := S.fresh cutA_same
theorem RS.uncut (S : RS G ι st (cutA H a)) : RS G ι st H :=
  ⟨S.len, S.nd, fun l c q => by
    obtain ⟨b, h1, h2⟩ := S.cell l c q
    obtain ⟨o, h3, _⟩ := h2.some_
    exact ⟨b, h1, h2.mono Ext.ofCut ((cutA_some h3).2.trans h3.symm)⟩⟩
theorem Ext.cut {xs : List V} (e : Ext ι H ι' H') (h : H a = some (.lst xs)) (n : a ∉ ι) : Ext ι (cutA H a) ι' (cutA H' a) := by
  refine ⟨e.pre, fun b hb => ?_, fun b o q m => ?_, fun b o q i => ?_, fun b q z => ?_⟩
  · rcases e.new b hb with z | z
    · exact .inl z
    · right
      by_cases e1 : b = a
      · subst e1; exact cutA_same
      · rw [cutA_ne e1]; exact z
  · obtain ⟨n1, q1⟩ := cutA_some q
    rw [cutA_ne n1]; exact e.keep b o q1 m
  · obtain ⟨n1, q1⟩ := cutA_some q
    rw [cutA_ne n1]; exact e.imm b o q1 i
  · by_cases e1 : b = a
    · subst e1; exact q cutA_same
    · rw [cutA_ne e1] at q z
      exact e.there b q z
mutual
theorem Rep.cut {xs : List V} (h : H a = some (.lst xs)) : ∀ {d : D} {v : V}, Rep G ι H d v → Rep G ι (cutA H a) d v
  | .non, _, r => r
  | .bl _, _, r => r
  | .int _, _, r => r
  | .str _, _, r => r
  | .tup ds, _, ⟨b, vs, h1, h2, h3⟩ => by
    refine ⟨b, vs, h1, h2.imp (fun q => ?_) id, RepL.cutH h h3⟩
    rw [cutA_ne (fun e => by subst e; rw [h] at q; cases q)]; exact q
  | .ref l, _, r => r
  | .fl ns, _, ⟨b, h1, h2⟩ => by
    refine ⟨b, h1, h2.imp (fun ⟨o, q⟩ => ⟨o, ?_⟩) id⟩
    rw [cutA_ne (fun e => by subst e; rw [h] at q; cases q)]; exact q
  | .fn _, _, r => r
theorem RepL.cutH {xs : List V} (h : H a = some (.lst xs)) : ∀ {ds : List D} {vs : List V}, RepL G ι H ds vs → RepL G ι (cutA H a) ds vs
  | [], _, r => r
  | d :: ds, _, ⟨v, r, h1, h2, h3⟩ => ⟨v, r, h1, Rep.cut h h2, RepL.cutH h h3⟩
end
theorem RepK.cut {xs : List V} {κ : Type} {f : D → Option κ} (h : H a = some (.lst xs)) : ∀ {ds : List (D × D)} {vs : List (κ × V)}, RepK G f ι H ds vs → RepK G f ι (cutA H a) ds vs
  | [], _, r => r
  | p :: ds, _, ⟨k, v, r, h1, h2, h3, h4⟩ => ⟨k, v, r, h1, h2, h3.cut h, RepK.cut h h4⟩
theorem RS.cut {xs : List V} (S : RS G ι st H) (h : H a = some (.lst xs)) (n : a ∉ ι) : RS G ι st (cutA H a) :=
  ⟨S.len, S.nd, fun l c q => by
    obtain ⟨b, h1, h2⟩ := S.cell l c q
    have hb : b ≠ a := fun e => n (by subst e; exact List.mem_of_getElem? h1)
    refine ⟨b, h1, ?_⟩
    cases c with
    | lst ds => obtain ⟨vs, g1, g2⟩ := h2; exact ⟨vs, by rw [cutA_ne hb]; exact g1, g2.cutH h⟩
    | dic tk kvs =>
      cases tk with
      | false => obtain ⟨vs, g1, g2⟩ := h2; exact ⟨vs, by rw [cutA_ne hb]; exact g1, g2.cut h⟩
      | true => obtain ⟨vs, g1, g2⟩ := h2; exact ⟨vs, by rw [cutA_ne hb]; exact g1, g2.cut h⟩⟩
end

/-- no exception is let out -/
abbrev W0 : WX := fun _ _ _ _ => False
/-- a comprehension -/
theorem d_lc {G : Gl} {X : Cx} {W : WX} {elt tg iter : Expr} {ifs : List Expr} {scope : Scope} {own : List (Str × Nat)} {pos : Pos} {S : List Nat} {mi : DL.Env → Store → Res (List D × DL.Guard)} {fg : D → DL.Env → Option DL.Env} {mt : DL.Env → Store → Res Bool} {me : DL.Env → Store → Res D}
    {t : TI → TG → TT → TE → List Nat → TE} (ht : t = tLc)
    (hS : ∀ i ∈ S, i ∈ own.map (·.2)) : ∀ σ H Q, tD G W (fun ρ st => (mi ρ st).bind fun p st => if DL.okS p.1.length = true then
        (DL.lcL (fun x st => match fg x (DL.wipeE ρ (own.map (·.2))) with
          | some ρ' => (mt ρ' st).bind fun b st => if b = true then (me ρ' st).bind fun y st => .ok (some y) st else .ok none st
          | none => .bad) p.2 p.1 st).nox.bind fun ys st => DL.ofV (DL.newL ys st)
      else .bad) σ H Q → t (tI G W mi) (tT G S fg) (tDT G W0 mt) (tD G W0 me) (own.map (·.2)) σ H Q := by
  subst ht
  intro σ H Q ⟨ι, ρ, st, hρ, S0, h⟩
  refine tG_bind hρ S0 h fun p st1 J H1 ι1 e1 S1 hJ h1 => ?_
  intro D0 hD
  split at h1
  rotate_left
  · exact h1.elim
  rename_i hok
  generalize hstep : (fun (x : D) (st : Store) => (match fg x (DL.wipeE ρ (own.map (·.2))) with
          | some ρ' => (mt ρ' st).bind fun b st => if b = true then (me ρ' st).bind fun y st => Res.ok (some y) st else Res.ok none st
          | none => Res.bad)) = step at h1
  obtain ⟨ys, st2, er⟩ : ∃ a s, DL.lcL step p.2 p.1 st1 = Res.ok a s := by
    cases er : DL.lcL step p.2 p.1 st1 with
    | bad => rw [er] at h1; exact h1.elim
    | exc x s => rw [er] at h1; exact h1.elim
    | ok a s => exact ⟨a, s, rfl⟩
  rw [er] at h1
  replace h1 : ∀ v H' ι', Ext ι1 H1 ι' H' → RS G ι' (st2 ++ [.lst ys]) H' → Rep G ι' H' (.ref st2.length) v → Q v H' := h1
  have hlen : p.1.length ≤ 1000000 := of_decide_eq_true hok
  -- the invariant
  refine ⟨fun i m H => m = p.1.length - i ∧ i ≤ p.1.length ∧ ∃ ιi sti yd yr av, Ext ι1 H1 ιi (cutA H D0) ∧ RS G ιi sti (cutA H D0) ∧ H D0 = some (.lst av) ∧ RepL G ιi (cutA H D0) yd av ∧ DL.lcL step p.2 (p.1.drop i) sti = .ok yr st2 ∧ yd ++ yr = ys ∧ yd.length ≤ i,
    ⟨p.1.length, by simp, Nat.zero_le _, ι1, st1, [], ys, [], ?_, ?_, upd_same, rfl, by simpa using er, rfl, Nat.le_refl _⟩, ?_⟩
  · rw [cutA_upd, cutA_id hD]; exact Ext.refl
  · rw [cutA_upd, cutA_id hD]; exact S1
  rintro i m H2 ⟨rfl, hi, ιi, sti, yd, yr, av, ei, Si, hav, rav, hl, hys, hyl⟩
  have Ei : Ext ι1 H1 ιi H2 := ei.uncut hD
  have SiH : RS G ιi sti H2 := Si.uncut
  have nD : D0 ∉ ιi := Si.notMem
  by_cases hlt : i < p.1.length
  · -- a turn
    right
    have hdrop : p.1.drop i = p.1[i] :: p.1.drop (i + 1) := List.drop_eq_getElem_cons hlt
    rw [hdrop, DL.lcL] at hl
    split at hl
    rotate_left
    · cases hl
    rename_i hg
    obtain ⟨hgo, hy⟩ := (hJ i ιi sti H2 Ei SiH hg).1 p.1[i] (List.getElem?_eq_getElem hlt)
    refine ⟨hgo, fun H' => ∃ ιi sti yd yr av, Ext ι1 H1 ιi (cutA H' D0) ∧ RS G ιi sti (cutA H' D0) ∧ H' D0 = some (.lst av) ∧ RepL G ιi (cutA H' D0) yd av ∧ DL.lcL step p.2 (p.1.drop (i + 1)) sti = .ok yr st2 ∧ yd ++ yr = ys ∧ yd.length ≤ i + 1,
      fun H' hN => ⟨p.1.length - (i + 1), by omega, rfl, hlt, hN⟩, fun x H3 y3 => ?_⟩
    obtain ⟨e3, S3, r3⟩ := hy x H3 y3
    -- the step's own computation
    obtain ⟨o, st3, es⟩ : ∃ a s, step p.1[i] sti = Res.ok a s := by
      cases er : step p.1[i] sti with
      | bad => rw [er] at hl; cases hl
      | exc x s => rw [er] at hl; cases hl
      | ok a s => exact ⟨a, s, rfl⟩
    rw [es] at hl
    replace hl : (DL.lcL step p.2 (p.1.drop (i + 1)) st3).bind (fun ys st2 => Res.ok (DL.consO o ys) st2) = .ok yr st2 := hl
    obtain ⟨yr', st4, el⟩ : ∃ a s, DL.lcL step p.2 (p.1.drop (i + 1)) st3 = Res.ok a s := by
      cases er : DL.lcL step p.2 (p.1.drop (i + 1)) st3 with
      | bad => rw [er] at hl; cases hl
      | exc x s => rw [er] at hl; cases hl
      | ok a s => exact ⟨a, s, rfl⟩
    rw [el] at hl
    replace hl : Res.ok (DL.consO o yr') st4 = .ok yr st2 := hl
    injection hl with hl1 hl2
    subst hl2
    rw [← hstep] at es
    dsimp only at es
    split at es
    rotate_left
    · cases es
    rename_i ρ' hρ'
    have hρ1 : RepEnv G ι1 H1 ρ σ := hρ.mono e1
    have hρ2 : RepEnv G ιi H3 (DL.wipeE ρ (own.map (·.2))) (L2.wipe σ (own.map (·.2))) := ((hρ1.mono Ei).wipe _).mono e3
    have hD3 : H3 D0 = some (.lst av) := e3.keep _ _ hav nD
    refine ⟨ιi, _, ρ', p.1[i], sti, hρ2, S3, r3, hρ', fun σ2 h2 o2 => ⟨?_, ?_⟩⟩
    · rw [Only.wipe o2 hS, wipe_wipe]
    refine ⟨ιi, ρ', sti, h2, S3, ?_⟩
    obtain ⟨b, st5, et⟩ : ∃ a s, mt ρ' sti = Res.ok a s := by
      cases er : mt ρ' sti with
      | bad => rw [er] at es; cases es
      | exc x s => rw [er] at es; cases es
      | ok a s => exact ⟨a, s, rfl⟩
    rw [et] at es
    show RPost G W0 RB σ2 ιi H3 (mt ρ' sti) _
    rw [et]
    intro b' H5 ι5 e5 S5 hb'
    obtain rfl : b' = b := hb'
    have hD5 : H5 D0 = some (.lst av) := e5.keep _ _ hD3 nD
    have n5 : D0 ∉ ι5 := fun z => (e5.new _ z).elim nD fun q => by rw [hD3] at q; cases q
    -- the cut heaps
    have c5 : Ext ιi (cutA H2 D0) ι5 (cutA H5 D0) := (e3.trans e5).cut hav nD
    cases b' with
    | false =>
      rw [if_neg Bool.false_ne_true]
      replace es : Res.ok none st5 = Res.ok o st3 := es
      injection es with es1 es2
      subst es1 es2
      exact ⟨ι5, st5, yd, yr', av, ei.trans c5, S5.cut hD5 n5, hD5, rav.mono c5, el, by rw [← hys, ← hl1]; rfl, by omega⟩
    | true =>
      rw [if_pos rfl]
      replace es : (me ρ' st5).bind (fun y st => Res.ok (some y) st) = .ok o st3 := es
      refine ⟨ι5, ρ', st5, h2.mono e5, S5, ?_⟩
      obtain ⟨yd', st6, ee⟩ : ∃ a s, me ρ' st5 = Res.ok a s := by
        cases er : me ρ' st5 with
        | bad => rw [er] at es; cases es
        | exc x s => rw [er] at es; cases es
        | ok a s => exact ⟨a, s, rfl⟩
      rw [ee] at es
      replace es : Res.ok (some yd') st6 = .ok o st3 := es
      injection es with es1 es2
      subst es1 es2
      show RPost G W0 (RD G) σ2 ι5 H5 (me ρ' st5) _
      rw [ee]
      intro y H6 ι6 e6 S6 r6
      have hD6 : H6 D0 = some (.lst av) := e6.keep _ _ hD5 n5
      have n6 : D0 ∉ ι6 := fun z => (e6.new _ z).elim n5 fun q => by rw [hD5] at q; cases q
      have c6 : Ext ιi (cutA H2 D0) ι6 (cutA H6 D0) := ((e3.trans e5).trans e6).cut hav nD
      have hlav : av.length = yd.length := rav.length.symm
      refine ⟨av, hD6, by rw [hlav]; exact lineLt (by omega), ι6, st6, yd ++ [yd'], yr', av ++ [y], ?_, ?_, upd_same, ?_, el, ?_, ?_⟩
      · rw [cutA_upd]; exact ei.trans c6
      · rw [cutA_upd]; exact S6.cut hD6 n6
      · rw [cutA_upd]; exact (rav.mono c6).append (RepL.single (r6.cut hD6))
      · rw [← hys, ← hl1, List.append_assoc]; rfl
      · rw [List.length_append]; simp; omega
  · -- the end
    left
    have hi' : i = p.1.length := by omega
    have hdrop : p.1.drop i = [] := by rw [hi']; simp
    rw [hdrop, DL.lcL] at hl
    split at hl
    rotate_left
    · cases hl
    rename_i hg
    injection hl with hl1 hl2
    subst hl1 hl2
    rw [List.append_nil] at hys
    subst hys
    refine ⟨(hJ i ιi sti H2 Ei SiH hg).2 (by omega), ?_⟩
    have hb := cutA_back hav
    have S' := Si.alloc (a := D0) (o := .lst av) (c := .lst yd) cutA_same ⟨av, upd_same, rav.mono (Ext.alloc cutA_same)⟩
    rw [hb] at S'
    have E' := ei.trans (Ext.alloc (ι := ιi) (a := D0) (o := .lst av) cutA_same)
    rw [hb] at E'
    exact h1 _ _ _ E' S' (Rep.alloc Si)
end DS

set_option Elab.async false
set_option linter.all false
set_option maxRecDepth 100000
set_option maxHeartbeats 4000000
namespace DS
open PySem PySem.Spec PyProof.Rows L2
open DL (D Cell Store DX Res SRes)

/-- what a def promises, by data -/
def spD (G : Gl) (m : List D → Store → Res D) (np : Nat) : Sp := fun vs H Q E => ∃ ι ds st, RepL G ι H ds vs ∧ RS G ι st H ∧ ds.length = np ∧
  RPost G (fun cls dd _ H' => E cls dd H') (RD G) [] ι H (m ds st) Q

section
variable {G : Gl} {X : Cx} {ι ι' : List Addr} {H H' : Hp} {st : Store} {W : WX} {σ : L2.St} {ρ : DL.Env} {a b c e : Expr} {es : List Expr} {pos : Pos} {ma mb mc m : DL.Env → Store → Res D} {me : DL.Env → Store → Res (List D)}

theorem call_post {r : Res D} {Q : VK} (h : RPost G W (RD G) σ ι H r Q) : RPost G (fun cls dd _ H' => WE W σ cls dd H') (RD G) [] ι H r Q := by
  cases r <;> exact h
/-- f(e, ..) -/
theorem d_call {k np : Nat} {fa : Addr} {fd : FuncData} {ps : List Str} {f : List D → Store → Res D} {x : Str} {p : Pos} (F : FnOk X.prog X.w X.K X.mg X.base (L2.CX X.prog X.w) k fa fd ps (spD G f np)) (hr : Room k X.A) (hg : L2.Gl X x) (hm : X.mg x = some (.ref fa))
    (hk : PySem.W.keepIn X.K (.ref fa) = true) (hb : Binds X.K fd ps []) (tk : Takes X W) (hl : ∀ ds st, ds.length ≠ np → f ds st = .bad) (ha : PA X (e :: es) (tDA G W me)) (hs : PySem.W.isStarred e = false) (hdb : (x == ("__debug__" : Str)) = false) (hpl : (backTo pos (starEach es X.env)).any (·.1) = false) :
    PE X (.Call (.Name x p) (e :: es) [] pos) (tD G W fun ρ st => (me ρ st).bind fun xs st => f xs st) :=
  PEi (pe_callS (E := WE W) F hr hg hm hk hb (fun σ => passAt tk σ) ha hdb (star1 es _ hs) hpl) fun σ H Q ⟨ι, ρ, st, hρ, S, h⟩ => tG_bind hρ S h fun ds st1 vs H1 ι1 e1 S1 r1 h1 => by
    refine ⟨ι1, ds, st1, r1, S1, ?_, call_post h1⟩
    by_cases z : ds.length = np
    · exact z
    · rw [hl ds st1 z] at h1; exact h1.elim
/-- f() -/
theorem d_call0 {k np : Nat} {fa : Addr} {fd : FuncData} {ps : List Str} {f : List D → Store → Res D} {x : Str} {p : Pos} (F : FnOk X.prog X.w X.K X.mg X.base (L2.CX X.prog X.w) k fa fd ps (spD G f np)) (hr : Room k X.A) (hg : L2.Gl X x) (hm : X.mg x = some (.ref fa))
    (hk : PySem.W.keepIn X.K (.ref fa) = true) (hb : Binds X.K fd ps []) (tk : Takes X W) (hl : ∀ ds st, ds.length ≠ np → f ds st = .bad) (hdb : (x == ("__debug__" : Str)) = false) :
    PE X (.Call (.Name x p) [] [] pos) (tD G W fun ρ st => (Res.ok ([] : List D) st).bind fun xs st => f xs st) := by
  refine ⟨fun pins s σ H Q I ⟨ι, ρ, st, hρ, S, h⟩ => ?_⟩
  replace h : RPost G W (RD G) σ ι H (f [] st) Q := h
  refine wpAny_Call_Name_kw (ld_glob I hg hm ?_ hdb)
  refine PySem.W.callWith_K0 I.kIn hk (run_fnS (E := WE W) (us := []) (vs := []) F hr hb (passAt tk σ) I .nil ⟨ι, [], st, rfl, S, ?_, call_post h⟩)
  by_cases z : ([] : List D).length = np
  · exact z
  · rw [hl [] st z] at h; exact h.elim

/-! ### methods -/
theorem d_me {apos cpos : Pos} {o : Expr} {T id : String} {name : Str} {f : D → List D → Store → Option (D × Store)} {rc : D → Store → Bool} (pa : PlainAttrs T) (slot : Slot T name id) (hty : typeOf (.builtin id) = pure (.type "method_descriptor")) (hm : MtR X id (tMe G f))
    (hrc : ∀ ι H st d v, Rep G ι H d v → RS G ι st H → rc d st = true → tyV X.K T v H) (ho : PE X o (tD G W ma)) (ha : PA X (e :: es) (tDA G W me)) (hs : PySem.W.isStarred e = false)
    (hbase : attributeBase o name X.env (eval o X.env) = eval o X.env)
    (hfew : ((backTo cpos (starEach (e :: es) X.env)).all (fun x => !x.1) && (backToKw cpos (keywordEach [] X.env)).all (fun x => x.1.isSome) && decide ((e :: es).length + ([] : List Keyword).length + (if ([] : List Keyword).isEmpty then 0 else 1) < 30)) = true)
    (hline : (apos.endLine == cpos.line) = true) (hpl : (backTo cpos (starEach es X.env)).any (·.1) = false) :
    PE X (.Call (.Attribute o name apos) (e :: es) [] cpos) (tD G W fun ρ st => (ma ρ st).bind fun x st => if rc x st = true then (me ρ st).bind fun xs st => DL.ofV (f x xs st) else .bad) :=
  PEi (pe_bm pa slot hty hm ho ha hbase hfew hline (star1 es _ hs) hpl) fun σ H Q ⟨ι, ρ, st, hρ, S, h⟩ => tG_bind hρ S h fun d st1 x H1 ι1 e1 S1 r1 h1 => by
    split at h1
    · rename_i hr
      refine ⟨hrc _ _ _ _ _ r1 S1 hr, tG_bind (hρ.mono e1) S1 h1 fun ds st2 xs H2 ι2 e2 S2 r2 h2 => ?_⟩
      obtain ⟨d', st', e, k⟩ := ofV_post h2
      exact ⟨ι2, d, ds, st2, d', st', r1.mono e2, r2, S2, e, k⟩
    · exact h1.elim
theorem recv_list (hK : X.K = G.K) : ∀ ι H st d v, Rep G ι H d v → RS G ι st H → DL.isL d st = true → tyV X.K "list" v H := by
  intro ι H st d v r S h
  unfold DL.isL at h
  split at h
  · split at h
    · rename_i l _ xs hl
      obtain ⟨a, rfl, ha⟩ := r
      obtain ⟨vs, q1, _⟩ := S.lst hl ha
      exact .inl ⟨rfl, vs, sqL_of q1⟩
    · cases h
  · cases h
theorem recv_str : ∀ ι H (st : Store) d v, Rep G ι H d v → RS G ι st H → DL.isS d = true → tyV X.K "str" v H := by
  intro ι H st d v r S h
  unfold DL.isS at h
  split at h
  · obtain ⟨rfl, _⟩ := r; rfl
  · cases h
/-- isinstance(e, T) -/
theorem d_isi {x : Str} {p p2 : Pos} {y : Str} {T : DL.Ty} (hK : X.K = G.K) (hg : L2.Gl X x) (hm : X.mg x = none) (hx : x = "isinstance") (hg2 : L2.Gl X y) (hm2 : X.mg y = none) (hy : bootBuiltins y = some (.type (tyN T))) (hyn : y ≠ "__name__") (hyd : (y == ("__debug__" : Str)) = false)
    (he : PE X e (tD G W ma)) (hs : PySem.W.isStarred e = false) :
    PE X (.Call (.Name x p) [e, .Name y p2] [] pos) (tD G W fun ρ st => (ma ρ st).bind fun d st => DL.ofO (DL.isiD d T st) st .bl) := by
  subst hx
  have hv : bootBuiltins "isinstance" = some (.builtin "isinstance") := by decide +kernel
  have h2 : PE X (.Name y p2) (tC (.ty (tyN T))) := pe_bltn hg2 hm2 hy rfl hyn hyd
  refine PEi (pe_callB (call_isiD (G := G) hK T) hg hm hv (pa_cons he (pa_cons h2 pa_nil) (star1 _ _ hs)) (by decide) (by decide) (star1 _ _ hs) (by rfl)) fun σ H Q ⟨ι, ρ, st, hρ, S, h⟩ => tG_bind hρ S h fun d st1 v H1 ι1 e1 S1 r1 h1 => ?_
  obtain ⟨b, e, k⟩ := ofO_post h1
  exact ⟨ι1, d, v, st1, b, rfl, r1, S1, e, k _ _ ι1 Ext.refl S1 rfl⟩

/-! ### and, or -/
/-- a bool goes on -/
theorem d_and1 {m : DL.Env → Store → Res D} (ha : PE X a (tD G W m)) : PE X (.BoolOp .And [a] pos) (tD G W fun ρ st => (m ρ st).bind fun x st => match x with | .bl true => .ok (.bl true) st | .bl false => .ok (.bl false) st | _ => .bad) :=
  PEi (pe_one ha) fun σ H Q ⟨ι, ρ, st, hρ, S, h⟩ => tG_bind hρ S h fun d st1 v H1 ι1 e1 S1 r1 h1 => by
    split at h1
    · exact h1 _ _ ι1 Ext.refl S1 r1
    · exact h1 _ _ ι1 Ext.refl S1 r1
    · exact h1.elim
theorem d_or1 {m : DL.Env → Store → Res D} (ha : PE X a (tD G W m)) : PE X (.BoolOp .Or [a] pos) (tD G W fun ρ st => (m ρ st).bind fun x st => match x with | .bl true => .ok (.bl true) st | .bl false => .ok (.bl false) st | _ => .bad) :=
  PEi (pe_one ha) fun σ H Q ⟨ι, ρ, st, hρ, S, h⟩ => tG_bind hρ S h fun d st1 v H1 ι1 e1 S1 r1 h1 => by
    split at h1
    · exact h1 _ _ ι1 Ext.refl S1 r1
    · exact h1 _ _ ι1 Ext.refl S1 r1
    · exact h1.elim
theorem d_andC {rest : List Expr} {m mr : DL.Env → Store → Res D} (ha : PE X a (tD G W m)) (hb : PE X (.BoolOp .And (b :: rest) pos) (tD G W mr)) :
    PE X (.BoolOp .And (a :: b :: rest) pos) (tD G W fun ρ st => (m ρ st).bind fun x st => match x with | .bl true => mr ρ st | .bl false => .ok (.bl false) st | _ => .bad) :=
  PEi (pe_and ha hb) fun σ H Q ⟨ι, ρ, st, hρ, S, h⟩ => tG_bind hρ S h fun d st1 v H1 ι1 e1 S1 r1 h1 => by
    split at h1
    · exact ⟨true, r1, by rw [if_pos rfl]; exact ⟨ι1, ρ, st1, hρ.mono e1, S1, h1⟩⟩
    · exact ⟨false, r1, by rw [if_neg Bool.false_ne_true]; exact h1 _ _ ι1 Ext.refl S1 rfl⟩
    · exact h1.elim
theorem d_orC {rest : List Expr} {m mr : DL.Env → Store → Res D} (ha : PE X a (tD G W m)) (hb : PE X (.BoolOp .Or (b :: rest) pos) (tD G W mr)) :
    PE X (.BoolOp .Or (a :: b :: rest) pos) (tD G W fun ρ st => (m ρ st).bind fun x st => match x with | .bl true => .ok (.bl true) st | .bl false => mr ρ st | _ => .bad) :=
  PEi (pe_or ha hb) fun σ H Q ⟨ι, ρ, st, hρ, S, h⟩ => tG_bind hρ S h fun d st1 v H1 ι1 e1 S1 r1 h1 => by
    split at h1
    · exact ⟨true, r1, by rw [if_pos rfl]; exact h1 _ _ ι1 Ext.refl S1 rfl⟩
    · exact ⟨false, r1, by rw [if_neg Bool.false_ne_true]; exact ⟨ι1, ρ, st1, hρ.mono e1, S1, h1⟩⟩
    · exact h1.elim
/-- the truth of an answer -/
abbrev mT (m : DL.Env → Store → Res D) : DL.Env → Store → Res Bool := fun ρ st => (m ρ st).bind fun x st => DL.ofO (DL.truD x st) st id
theorem d_andT1 {m : DL.Env → Store → Res D} (ha : PT X a (tDT G W (mT m))) : PW X (.BoolOp .And [a] pos) (tDT G W (mT fun ρ st => (m ρ st).bind fun x st => match x with | .bl true => .ok (.bl true) st | .bl false => .ok (.bl false) st | _ => .bad)) :=
  PWi (pw_and1 ha) fun σ H Q ⟨ι, ρ, st, hρ, S, h⟩ => by
    refine ⟨ι, ρ, st, hρ, S, ?_⟩
    dsimp only [mT] at h ⊢
    cases e : m ρ st with
    | bad => rw [e] at h; exact h
    | exc x s => rw [e] at h; exact h
    | ok d s =>
      rw [e] at h
      cases d with
      | bl b => cases b <;> exact h
      | _ => exact h.elim
theorem d_orT1 {m : DL.Env → Store → Res D} (ha : PT X a (tDT G W (mT m))) : PW X (.BoolOp .Or [a] pos) (tDT G W (mT fun ρ st => (m ρ st).bind fun x st => match x with | .bl true => .ok (.bl true) st | .bl false => .ok (.bl false) st | _ => .bad)) :=
  PWi (pw_or1 ha) fun σ H Q ⟨ι, ρ, st, hρ, S, h⟩ => by
    refine ⟨ι, ρ, st, hρ, S, ?_⟩
    dsimp only [mT] at h ⊢
    cases e : m ρ st with
    | bad => rw [e] at h; exact h
    | exc x s => rw [e] at h; exact h
    | ok d s =>
      rw [e] at h
      cases d with
      | bl b => cases b <;> exact h
      | _ => exact h.elim
theorem mT_bl {m : DL.Env → Store → Res D} {ρ : DL.Env} {st : Store} {b : Bool} {s : Store} (e : m ρ st = .ok (.bl b) s) : mT m ρ st = .ok b s := by
  dsimp only [mT]; rw [e]; rfl
theorem d_andTC {rest : List Expr} {m mr : DL.Env → Store → Res D} (ha : PT X a (tDT G W (mT m))) (hb : PW X (.BoolOp .And (b :: rest) pos) (tDT G W (mT mr))) :
    PW X (.BoolOp .And (a :: b :: rest) pos) (tDT G W (mT fun ρ st => (m ρ st).bind fun x st => match x with | .bl true => mr ρ st | .bl false => .ok (.bl false) st | _ => .bad)) :=
  PWi (pw_and ha hb) fun σ H Q ⟨ι, ρ, st, hρ, S, h⟩ => by
    refine ⟨ι, ρ, st, hρ, S, ?_⟩
    dsimp only [mT] at h ⊢
    cases e : m ρ st with
    | bad => rw [e] at h; exact h
    | exc x s => rw [e] at h; exact h
    | ok d s =>
      rw [e] at h
      cases d with
      | bl k =>
        intro k' H1 ι1 e1 S1 hk
        obtain rfl : k' = k := hk
        cases k' with
        | true => rw [if_pos rfl]; exact ⟨ι1, ρ, s, hρ.mono e1, S1, RPost.ext h e1⟩
        | false => rw [if_neg Bool.false_ne_true]; exact h _ _ ι1 e1 S1 rfl
      | _ => exact h.elim
theorem d_orTC {rest : List Expr} {m mr : DL.Env → Store → Res D} (ha : PT X a (tDT G W (mT m))) (hb : PW X (.BoolOp .Or (b :: rest) pos) (tDT G W (mT mr))) :
    PW X (.BoolOp .Or (a :: b :: rest) pos) (tDT G W (mT fun ρ st => (m ρ st).bind fun x st => match x with | .bl true => .ok (.bl true) st | .bl false => mr ρ st | _ => .bad)) :=
  PWi (pw_or ha hb) fun σ H Q ⟨ι, ρ, st, hρ, S, h⟩ => by
    refine ⟨ι, ρ, st, hρ, S, ?_⟩
    dsimp only [mT] at h ⊢
    cases e : m ρ st with
    | bad => rw [e] at h; exact h
    | exc x s => rw [e] at h; exact h
    | ok d s =>
      rw [e] at h
      cases d with
      | bl k =>
        intro k' H1 ι1 e1 S1 hk
        obtain rfl : k' = k := hk
        cases k' with
        | true => rw [if_pos rfl]; exact h _ _ ι1 e1 S1 rfl
        | false => rw [if_neg Bool.false_ne_true]; exact ⟨ι1, ρ, s, hρ.mono e1, S1, RPost.ext h e1⟩
      | _ => exact h.elim
end
end DS

set_option Elab.async false
set_option linter.all false
set_option maxRecDepth 100000
set_option maxHeartbeats 4000000
/-! statements by data -/
namespace DS
open PySem PySem.Spec PyProof.Rows L2
open DL (D Cell Store DX Res SRes)

/-- what is wanted behind a statement, by its outcome -/
def SPost (G : Gl) (W : WX) (ι : List Addr) (H : Hp) (D : Ends) : SRes → Prop
  | .nx ρ st => ∀ σ H' ι', Ext ι H ι' H' → RS G ι' st H' → RepEnv G ι' H' ρ σ → D.nx σ H'
  | .brk ρ st => ∀ σ H' ι', Ext ι H ι' H' → RS G ι' st H' → RepEnv G ι' H' ρ σ → D.bk σ H'
  | .cnt ρ st => ∀ σ H' ι', Ext ι H ι' H' → RS G ι' st H' → RepEnv G ι' H' ρ σ → D.ct σ H'
  | .ret d st => ∀ v H' ι', Ext ι H ι' H' → RS G ι' st H' → Rep G ι' H' d v → D.rt v H'
  | .exc x ρ st => ∀ cls dd σ H' ι', Ext ι H ι' H' → RS G ι' st H' → RepEnv G ι' H' ρ σ → XRep G ι' H' x cls dd → W cls dd σ H'
  | .bad => False
def tS (G : Gl) (W : WX) (m : DL.Env → Store → SRes) : TS := fun D σ H => ∃ ι ρ st, RepEnv G ι H ρ σ ∧ RS G ι st H ∧ SPost G W ι H D (m ρ st)

section
variable {G : Gl} {X : Cx} {ι ι' : List Addr} {H H' : Hp} {st : Store} {W : WX} {σ : L2.St} {ρ : DL.Env} {a b c e : Expr} {pos : Pos} {α β : Type} {R : α → β → List Addr → Hp → Prop} {D D' : Ends} {m ma mb : DL.Env → Store → SRes} {me mi : DL.Env → Store → Res DL.D} {mt : DL.Env → Store → Res Bool} {s : Stmt} {ss : List Stmt}
theorem SPost.ext {r : SRes} (h : SPost G W ι H D r) (e : Ext ι H ι' H') : SPost G W ι' H' D r := by
  cases r with
  | bad => exact h
  | ret d st => exact fun v H2 ι2 e2 => h v H2 ι2 (e.trans e2)
  | exc x ρ st => exact fun c d σ H2 ι2 e2 => h c d σ H2 ι2 (e.trans e2)
  | nx ρ st => exact fun v H2 ι2 e2 => h v H2 ι2 (e.trans e2)
  | brk ρ st => exact fun v H2 ι2 e2 => h v H2 ι2 (e.trans e2)
  | cnt ρ st => exact fun v H2 ι2 e2 => h v H2 ι2 (e.trans e2)
/-- behind an expression -/
theorem s_bind {n : DL.Env → Store → Res α} {f : α → Store → SRes} {K : β → Hp → Prop} (hρ : RepEnv G ι H ρ σ) (S : RS G ι st H) (h : SPost G W ι H D (.of ρ (n ρ st) f))
    (k : ∀ d st1 x H1 ι1, Ext ι H ι1 H1 → RS G ι1 st1 H1 → R d x ι1 H1 → SPost G W ι1 H1 D (f d st1) → K x H1) : tG G W R n σ H K := by
  refine ⟨ι, ρ, st, hρ, S, ?_⟩
  cases e : n ρ st with
  | ok d st1 =>
    rw [e] at h
    exact fun b H1 ι1 e1 S1 r1 => k d st1 b H1 ι1 e1 S1 r1 (SPost.ext h e1)
  | exc x st1 =>
    rw [e] at h
    exact fun cls dd H1 ι1 e1 S1 x1 => h cls dd σ H1 ι1 e1 S1 (hρ.mono e1) x1
  | bad => rw [e] at h; exact h
theorem n_pass : PS X (.Pass pos) (tS G W fun ρ st => .nx ρ st) := PSi ps_pass fun D σ H ⟨ι, ρ, st, hρ, S, h⟩ => h σ H ι Ext.refl S hρ
theorem n_break : PS X (.Break pos) (tS G W fun ρ st => .brk ρ st) := PSi ps_break fun D σ H ⟨ι, ρ, st, hρ, S, h⟩ => h σ H ι Ext.refl S hρ
theorem n_cont : PS X (.Continue pos) (tS G W fun ρ st => .cnt ρ st) := PSi ps_continue fun D σ H ⟨ι, ρ, st, hρ, S, h⟩ => h σ H ι Ext.refl S hρ
theorem n_doc {x j pos'} : PS X (.Expr (.Constant (.str x) j pos) pos') (tS G W fun ρ st => .nx ρ st) := PSi ps_doc fun D σ H ⟨ι, ρ, st, hρ, S, h⟩ => h σ H ι Ext.refl S hρ
theorem n_nil : PSs X [] (tS G W fun ρ st => .nx ρ st) := PSsi pss_nil fun D σ H ⟨ι, ρ, st, hρ, S, h⟩ => h σ H ι Ext.refl S hρ
theorem n_cons (h1 : PS X s (tS G W ma)) (h2 : PSs X ss (tS G W mb)) : PSs X (s :: ss) (tS G W fun ρ st => (ma ρ st).bind fun ρ st => mb ρ st) :=
  PSsi (pss_cons h1 h2) fun D σ H ⟨ι, ρ, st, hρ, S, h⟩ => by
    refine ⟨ι, ρ, st, hρ, S, ?_⟩
    dsimp only at h
    cases e : ma ρ st with
    | nx ρ1 st1 => rw [e] at h; exact fun σ1 H1 ι1 e1 S1 h1 => ⟨ι1, ρ1, st1, h1, S1, SPost.ext h e1⟩
    | brk ρ1 st1 => rw [e] at h; exact h
    | cnt ρ1 st1 => rw [e] at h; exact h
    | ret d st1 => rw [e] at h; exact h
    | exc x ρ1 st1 => rw [e] at h; exact h
    | bad => rw [e] at h; exact h
theorem n_expr (he : PE X e (tD G W me)) (hs : swapsWith e none pos.line X.env = pure false) : PS X (.Expr e pos) (tS G W fun ρ st => .of ρ (me ρ st) fun _ st => .nx ρ st) :=
  PSi (ps_expr he hs) fun D σ H ⟨ι, ρ, st, hρ, S, h⟩ => s_bind hρ S h fun d st1 x H1 ι1 e1 S1 r1 h1 => h1 σ H1 ι1 Ext.refl S1 (hρ.mono e1)
theorem n_ret (he : PE X e (tD G W me)) : PS X (.Return (some e) pos) (tS G W fun ρ st => .of ρ (me ρ st) fun d st => .ret d st) :=
  PSi (ps_ret he) fun D σ H ⟨ι, ρ, st, hρ, S, h⟩ => s_bind hρ S h fun d st1 x H1 ι1 e1 S1 r1 h1 => h1 x H1 ι1 Ext.refl S1 r1
theorem n_retN : PS X (.Return none pos) (tS G W fun ρ st => .ret .non st) := PSi ps_retN fun D σ H ⟨ι, ρ, st, hρ, S, h⟩ => h _ H ι Ext.refl S rfl
theorem n_if {p q : List Stmt} (hc : PT X c (tDT G W mt)) (ha : PSs X p (tS G W ma)) (hb : PSs X q (tS G W mb)) : PS X (.If c p q pos) (tS G W fun ρ st => .of ρ (mt ρ st) fun k st => if k = true then ma ρ st else mb ρ st) :=
  PSi (ps_if hc ha hb) fun D σ H ⟨ι, ρ, st, hρ, S, h⟩ => s_bind (R := RB) hρ S h fun d st1 x H1 ι1 e1 S1 r1 h1 => by
    cases r1
    split
    · rename_i z; rw [if_pos z] at h1; exact ⟨ι1, ρ, st1, hρ.mono e1, S1, h1⟩
    · rename_i z; rw [if_neg z] at h1; exact ⟨ι1, ρ, st1, hρ.mono e1, S1, h1⟩
theorem n_set {i : Nat} {x : Str} {pos' : Pos} (hN : X.N.Nodup) (hi : X.N[i]? = some x) (hx : Loc X.env.scope x) (hf : X.fn x = true ∨ X.env.scope.names.lookup x = some .local) (he : PE X e (tD G W me)) (hs : swapsWith e (some (.Name x pos')) pos.line X.env = pure false) :
    PS X (.Assign [.Name x pos'] e pos) (tS G W fun ρ st => .of ρ (me ρ st) fun d st => .nx (ρ.set i (some d)) st) :=
  PSi (ps_set hN hi hx he hs hf) fun D σ H ⟨ι, ρ, st, hρ, S, h⟩ => s_bind hρ S h fun d st1 x H1 ι1 e1 S1 r1 h1 => h1 _ H1 ι1 Ext.refl S1 ((hρ.mono e1).set r1)
theorem n_asg {t : Expr} {T : List Nat} {f : DL.D → DL.Env → Option DL.Env} (he : PE X e (tD G W me)) (hg : PG X t (tT G T f)) (hs : swapsWithSole [t] e pos.line X.env = pure false) (hw : swappedStores [t] e X.env = pure none) (h1 : (assignEach [t] X.env).map (·.2) = [assign t X.env]) :
    PS X (.Assign [t] e pos) (tS G W fun ρ st => .of ρ (me ρ st) fun d st => match f d ρ with | some ρ => .nx ρ st | none => .bad) :=
  PSi (ps_asg he hg hs hw h1) fun D σ H ⟨ι, ρ, st, hρ, S, h⟩ => s_bind hρ S h fun d st1 x H1 ι1 e1 S1 r1 h1 => by
    split at h1
    · rename_i ρ' eρ
      exact ⟨ι1, ρ, ρ', d, st1, hρ.mono e1, S1, r1, eρ, fun σ' h' o => h1 σ' H1 ι1 Ext.refl S1 h'⟩
    · exact h1.elim
def notSl : Expr → Bool
  | .Slice .. => false
  | _ => true
theorem asg_sub {env : PySem.Env} {tpos : Pos} (h : notSl b = true) : ∀ v, assign (.Subscript a b tpos) env v = (do
      let ov ← holding [v] (eval a env)
      let iv ← holding [v, ov] (eval b env)
      standAt tpos
      holding [v, ov, iv] (setItem ov iv v)
      release [v, ov, iv] []) := by
  intro v
  cases b <;> first | rfl | cases h
theorem n_setX {tpos : Pos} (ha : PE X a (tD G W mi)) (hb : PE X b (tD G W me)) {mv : DL.Env → Store → Res DL.D} (hK : X.K = G.K) (hu : X.A.units + 64 < cLine) (he : PE X e (tD G W mv)) (hs : swapsWithSole [.Subscript a b tpos] e pos.line X.env = pure false) (hn : DS.notSl b = true) :
    PS X (.Assign [.Subscript a b tpos] e pos) (tS G W fun ρ st => .of ρ (mv ρ st) fun d st => .of ρ (mi ρ st) fun x st => .of ρ (me ρ st) fun y st => match DL.setXD G.kt x y d st with | some st => .nx ρ st | none => .bad) :=
  PSi (ps_asg he (pg_sub ha hb (set_D hK hu) (asg_sub hn)) hs) fun D σ H ⟨ι, ρ, st, hρ, S, h⟩ => s_bind hρ S h fun d st1 v H1 ι1 e1 S1 r1 h1 =>
    s_bind (hρ.mono e1) S1 h1 fun d2 st2 x H2 ι2 e2 S2 r2 h2 => s_bind ((hρ.mono e1).mono e2) S2 h2 fun d3 st3 y H3 ι3 e3 S3 r3 h3 => by
      split at h3
      · rename_i st4 e4
        exact ⟨ι3, d2, d3, d, st3, st4, r2.mono e3, r3, (r1.mono e2).mono e3, S3, e4, fun H' ι' e' S' => h3 σ H' ι' e' S' ((((hρ.mono e1).mono e2).mono e3).mono e')⟩
      · exact h3.elim
/-- a, b = x, y with plain local names -/
theorem n_par {i j : Nat} {x y : Str} {px py pt : Pos} {kt k2 pt2} {ms : DL.Env → Store → Res (List DL.D)} (hc : X.calm = true) (hN : X.N.Nodup) (hi : X.N[i]? = some x) (hj : X.N[j]? = some y) (hij : i ≠ j)
    (hx : X.env.scope.names.lookup x = some .local) (hy : X.env.scope.names.lookup y = some .local) (ha : PA X [a, b] (tDA G W ms))
    (hw : swappedStores [.Tuple [.Name x px, .Name y py] kt pt] (.Tuple [a, b] k2 pt2) X.env = pure (some [x, y])) :
    PS X (.Assign [.Tuple [.Name x px, .Name y py] kt pt] (.Tuple [a, b] k2 pt2) pos) (tS G W fun ρ st => .of ρ (ms ρ st) fun xs st => match xs with | [x, y] => .nx ((ρ.set i (some x)).set j (some y)) st | _ => .bad) :=
  PSi (ps_par hc hN hi hj hij hx hy ha hw rfl) fun D σ H ⟨ι, ρ, st, hρ, S, h⟩ => s_bind hρ S h fun ds st1 vs H1 ι1 e1 S1 r1 h1 => by
    split at h1
    · obtain ⟨v, vs, rfl, r1, r2⟩ := r1
      obtain ⟨w, vs, rfl, r2, r3⟩ := r2
      cases r3
      exact ⟨v, w, rfl, h1 _ H1 ι1 Ext.refl S1 (((hρ.mono e1).set r1).set r2)⟩
    · exact h1.elim
theorem n_par3 {i j l : Nat} {x y z : Str} {px py pz pt : Pos} {kt k2 pt2} {ms : DL.Env → Store → Res (List DL.D)} (hc : X.calm = true) (hN : X.N.Nodup) (hi : X.N[i]? = some x) (hj : X.N[j]? = some y) (hl : X.N[l]? = some z) (hij : i ≠ j) (hil : i ≠ l) (hjl : j ≠ l)
    (hx : X.env.scope.names.lookup x = some .local) (hy : X.env.scope.names.lookup y = some .local) (hz : X.env.scope.names.lookup z = some .local) (ha : PA X [a, b, c] (tDA G W ms))
    (hw : swappedStores [.Tuple [.Name x px, .Name y py, .Name z pz] kt pt] (.Tuple [a, b, c] k2 pt2) X.env = pure (some [x, y, z])) :
    PS X (.Assign [.Tuple [.Name x px, .Name y py, .Name z pz] kt pt] (.Tuple [a, b, c] k2 pt2) pos) (tS G W fun ρ st => .of ρ (ms ρ st) fun xs st => match xs with | [x, y, z] => .nx (((ρ.set i (some x)).set j (some y)).set l (some z)) st | _ => .bad) :=
  PSi (ps_par3 hc hN hi hj hl hij hil hjl hx hy hz ha hw rfl) fun D σ H ⟨ι, ρ, st, hρ, S, h⟩ => s_bind hρ S h fun ds st1 vs H1 ι1 e1 S1 r1 h1 => by
    split at h1
    · obtain ⟨v, vs, rfl, r1, r2⟩ := r1
      obtain ⟨w, vs, rfl, r2, r3⟩ := r2
      obtain ⟨u, vs, rfl, r3, r4⟩ := r3
      cases r4
      exact ⟨v, w, u, rfl, h1 _ H1 ι1 Ext.refl S1 ((((hρ.mono e1).set r1).set r2).set r3)⟩
    · exact h1.elim
/-- x += e, ints -/
theorem n_augA {i : Nat} {x : Str} {pos' : Pos} (hN : X.N.Nodup) (hi : X.N[i]? = some x) (hx : Loc X.env.scope x) (hf : X.fn x = true ∨ X.env.scope.names.lookup x = some .local) (he : PE X e (tD G W me)) :
    PS X (.AugAssign (.Name x pos') .Add e pos) (tS G W fun ρ st => match ρ[i]? with
      | some (some x) => .of ρ (me ρ st) fun y st => match x, y with
        | .int _, .int _ => .of ρ (DL.ofV (DL.binD .add x y st)) fun d st => .nx (ρ.set i (some d)) st
        | _, _ => .bad
      | _ => .bad) :=
  PSi (ps_aug hN hi hx he ip_add hf) fun D σ H ⟨ι, ρ, st, hρ, S, h⟩ => by
    dsimp only at h
    split at h
    · rename_i d0 hd0
      obtain ⟨v0, hv0, r0⟩ := hρ.at_ i _ hd0
      refine ⟨v0, hv0, s_bind hρ S h fun d1 st1 y H1 ι1 e1 S1 r1 h1 => ?_⟩
      split at h1
      · rename_i p q
        exact ⟨p, q, r0, r1, h1 _ H1 ι1 Ext.refl S1 ((hρ.mono e1).set rfl)⟩
      · exact h1.elim
    · exact h.elim
end
end DS

set_option Elab.async false
set_option linter.all false
set_option maxRecDepth 100000
set_option maxHeartbeats 4000000
/-! loops by data -/
namespace DS
open PySem PySem.Spec PyProof.Rows L2
open DL (D Cell Store DX Res SRes)

section
variable {G : Gl} {X : Cx} {ι ι' : List Addr} {H H' : Hp} {st : Store} {W : WX} {σ : L2.St} {ρ : DL.Env} {c e : Expr} {pos : Pos} {D D' : Ends}
theorem n_while {body : List Stmt} {mt : DL.Env → Store → Res Bool} {mb : DL.Env → Store → SRes} (hp : PassesOwn (model X.prog X.w) X.A X.env X.xe) (hc : PT X c (tDT G W mt)) (hb : PSs X body (tS G W mb)) :
    PS X (.While c body [] pos) (tS G W fun ρ st => DL.whL mt mb ρ st) :=
  PSi (ps_while hp hc hb) fun D σ H ⟨ι, ρ, st, hρ, S, h⟩ => by
    have ⟨n, hn⟩ : ∃ n, SPost G W ι H D (DL.whN mt mb n ρ st) := by
      replace h : SPost G W ι H D (DL.whL mt mb ρ st) := h
      unfold DL.whL at h
      split at h
      · exact ⟨_, h⟩
      · exact h.elim
    refine ⟨fun m σ H => ∃ ι ρ st, RepEnv G ι H ρ σ ∧ RS G ι st H ∧ SPost G W ι H D (DL.whN mt mb m ρ st), ⟨n, ι, ρ, st, hρ, S, hn⟩, ?_⟩
    rintro m σ1 H1 ⟨ι1, ρ1, st1, hρ1, S1, h1⟩
    cases m with
    | zero => exact h1.elim
    | succ m =>
      refine s_bind (R := RB) hρ1 S1 (by unfold DL.whN at h1; exact h1) fun k st2 b H2 ι2 e2 S2 r2 h2 => ?_
      cases r2
      split
      · rename_i z
        rw [if_pos z] at h2
        refine ⟨fun σ H => ∃ ι ρ st, RepEnv G ι H ρ σ ∧ RS G ι st H ∧ SPost G W ι H D (DL.whN mt mb m ρ st), fun σ' H' q => ⟨m, Nat.lt_succ_self _, q⟩, ι2, ρ1, st2, hρ1.mono e2, S2, ?_⟩
        cases eb : mb ρ1 st2 with
        | nx ρ3 st3 => rw [eb] at h2; exact fun σ3 H3 ι3 e3 S3 h3 => ⟨ι3, ρ3, st3, h3, S3, SPost.ext h2 e3⟩
        | cnt ρ3 st3 => rw [eb] at h2; exact fun σ3 H3 ι3 e3 S3 h3 => ⟨ι3, ρ3, st3, h3, S3, SPost.ext h2 e3⟩
        | brk ρ3 st3 => rw [eb] at h2; exact h2
        | ret d st3 => rw [eb] at h2; exact h2
        | exc x ρ3 st3 => rw [eb] at h2; exact h2
        | bad => rw [eb] at h2; exact h2
      · rename_i z
        rw [if_neg z] at h2
        exact h2 σ1 H2 ι2 Ext.refl S2 (hρ1.mono e2)
theorem n_for {tg iter : Expr} {body : List Stmt} {T : List Nat} {mi : DL.Env → Store → Res (List DL.D × DL.Guard)} {f : DL.D → DL.Env → Option DL.Env} {mb : DL.Env → Store → SRes} (hp : PassesOwn (model X.prog X.w) X.A X.env X.xe) (hc : X.calm = true)
    (hi : PI X tg iter (tI G W mi)) (hg : PG X tg (tT G T f)) (hb : PSs X body (tS G W mb)) (hs : ∀ x, foldedSetIterable iter X.env x = pure x) :
    PS X (.For tg iter body [] pos) (tS G W fun ρ st => .of ρ (mi ρ st) fun p st => DL.forL (fun x ρ st => match f x ρ with | some ρ => mb ρ st | none => .bad) p.2 p.1 ρ st) :=
  PSi (ps_for hp hc hi hg hb hs) fun D σ H ⟨ι, ρ, st, hρ, S, h⟩ => s_bind hρ S h fun p st1 J H1 ι1 e1 S1 hJ h1 => by
    generalize hstep : (fun (x : DL.D) (ρ : DL.Env) (st : Store) => (match f x ρ with | some ρ => mb ρ st | none => SRes.bad)) = step at h1
    let Inv := fun (i : Nat) (σ : L2.St) (H : Hp) => ∃ ι ρ st, Ext ι1 H1 ι H ∧ RepEnv G ι H ρ σ ∧ RS G ι st H ∧ SPost G W ι H D (DL.forL step p.2 (p.1.drop i) ρ st)
    refine ⟨fun i m σ H => m = p.1.length - i ∧ i ≤ p.1.length ∧ Inv i σ H, ⟨p.1.length, by simp, Nat.zero_le _, ι1, ρ, st1, Ext.refl, hρ.mono e1, S1, by simpa using h1⟩, ?_⟩
    rintro i m σ2 H2 ⟨rfl, hle, ι2, ρ2, st2, e2, hρ2, S2, h2⟩
    have hg : DL.GuardOk p.2 st2 := by
      cases hd : p.1.drop i with
      | nil =>
        rw [hd] at h2
        unfold DL.forL at h2
        split at h2
        · assumption
        · exact h2.elim
      | cons x xs =>
        rw [hd] at h2
        unfold DL.forL at h2
        split at h2
        · assumption
        · exact h2.elim
    obtain ⟨j1, j2⟩ := hJ i ι2 st2 H2 e2 S2 hg
    by_cases hlt : i < p.1.length
    · right
      obtain ⟨x, hx⟩ : ∃ x, p.1[i]? = some x := ⟨p.1[i], List.getElem?_eq_getElem hlt⟩
      obtain ⟨g1, g2⟩ := j1 x hx
      refine ⟨g1, Inv (i + 1), fun σ' H' q => ⟨p.1.length - (i + 1), by omega, rfl, hlt, q⟩, fun xv H3 y => ?_⟩
      obtain ⟨e3, S3, r3⟩ := g2 xv H3 y
      have hd : p.1.drop i = x :: p.1.drop (i + 1) := by
        rw [List.drop_eq_getElem_cons hlt]
        congr 1
        rw [List.getElem?_eq_getElem hlt] at hx
        exact Option.some.inj hx
      rw [hd] at h2
      unfold DL.forL at h2
      rw [if_pos hg, ← hstep] at h2
      dsimp only at h2
      cases ef : f x ρ2 with
      | none => rw [ef] at h2; exact h2.elim
      | some ρ3 =>
        rw [ef] at h2
        dsimp only at h2
        refine ⟨ι2, ρ2, ρ3, x, st2, hρ2.mono e3, S3, r3, ef, fun σ3 h3 o3 => ⟨ι2, ρ3, st2, h3, S3, ?_⟩⟩
        rw [hstep] at h2
        replace h2 := SPost.ext h2 e3
        cases eb : mb ρ3 st2 with
        | nx ρ4 st4 => rw [eb] at h2; exact fun σ4 H4 ι4 e4 S4 h4 => ⟨ι4, ρ4, st4, (e2.trans e3).trans e4, h4, S4, SPost.ext h2 e4⟩
        | cnt ρ4 st4 => rw [eb] at h2; exact fun σ4 H4 ι4 e4 S4 h4 => ⟨ι4, ρ4, st4, (e2.trans e3).trans e4, h4, S4, SPost.ext h2 e4⟩
        | brk ρ3 st3 => rw [eb] at h2; exact h2
        | ret d st3 => rw [eb] at h2; exact h2
        | exc x ρ3 st3 => rw [eb] at h2; exact h2
        | bad => rw [eb] at h2; exact h2
    · left
      refine ⟨j2 (Nat.le_of_not_lt hlt), ?_⟩
      rw [List.drop_of_length_le (Nat.le_of_not_lt hlt)] at h2
      unfold DL.forL at h2
      rw [if_pos hg] at h2
      exact h2 σ2 H2 ι2 Ext.refl S2 hρ2
end
end DS

set_option Elab.async false
set_option linter.all false
set_option maxRecDepth 100000
set_option maxHeartbeats 4000000
/-! what is checked of a written expression against its IR -/
namespace DS
open PySem PySem.Spec PyProof.Rows L2
open DL (D Cell Store DX Res SRes E)

structure Tb where
  N : List Str
  fns : List (Str × Nat)
  cst : List (Str × D)
  xs : List Str

def visB (sc : Scope) (x : Str) : Bool := decide (sc.names.lookup x = some .local) || (decide (sc.names.lookup x = some .cell) || decide (sc.names.lookup x = some .free))
def locB (sc : Scope) (x : Str) : Bool := decide (sc.names.lookup x = some .local) || decide (sc.names.lookup x = some .cell)
def glB (sc : Scope) (x : Str) : Bool := decide (sc.names.lookup x = some .globalImplicit)
def nmOk (x : Str) : Bool := !(x == ("__debug__" : Str)) && (!(x == ("__classdict__" : Str)) && decide (x ≠ ("__name__" : Str)))
def ckC : D → Const → Bool
  | .non, .none => true
  | .bl a, .bool b => decide (a = b)
  | .int i, .int j => decide (i = j)
  | .str s, .str t => decide (sS s = t) && (DL.okS s.length && PyData.strOk t)
  | _, _ => false
def opM : DL.Bop → Operator → Bool
  | .add, .Add => true
  | .sub, .Sub => true
  | .mul, .Mult => true
  | .fdiv, .FloorDiv => true
  | .mod, .Mod => true
  | .pow, .Pow => true
  | _, _ => false
def copM : DL.Cop → CmpOp → Bool
  | .eq, .Eq => true
  | .ne, .NotEq => true
  | .lt, .Lt => true
  | .le, .LtE => true
  | .gt, .Gt => true
  | .ge, .GtE => true
  | .isin, .In => true
  | .notin, .NotIn => true
  | .is, .Is => true
  | .isnot, .IsNot => true
  | _, _ => false
/-- its truth is asked plainly -/
def plainT : Expr → Bool
  | .UnaryOp .Not _ _ => false
  | .BoolOp .. => false
  | .IfExp .. => false
  | .Compare .. => false
  | _ => true
def plainB : Expr → Bool
  | .Call (.Name _ _) [] [] _ => false
  | _ => true
def noSet : Expr → Bool
  | .Set .. => false
  | _ => true
def noSl : Expr → Bool
  | .Slice .. => false
  | _ => true
def noSt : Expr → Bool := fun e => !PySem.W.isStarred e
def biN : DL.Bi → Option Str
  | .len => some "len"
  | .int => some "int"
  | .min => some "min"
  | .tuple => some "tuple"
  | .list => some "list"
  | .all => some "all"
  | .any => some "any"
  | _ => none
def meN : DL.Me → Option Str
  | .append => some "append"
  | .join => some "join"
  | _ => none
def bltNames : List Str := ["len", "int", "min", "tuple", "list", "all", "any", "range", "enumerate", "isinstance", "str", "bool", "dict", "sorted", "sum", "set", "abs", "max", "zip"]
def ownS (own : List (String × Nat)) : List (Str × Nat) := own.map fun p => (Str.ofString p.1, p.2)
def blkB (N : List Str) (sc scope : Scope) (own : List (String × Nat)) : Bool :=
  decide (scope.kind = .function) && (scope.names.all (fun y => decide (scope.names.lookup y.1 = some y.2)) &&
  ((ownS own).all (fun p => decide (N[p.2]? = some p.1)) && (scope.names.all (fun y => decide (y.2 = .free → sc.names.lookup y.1 = some .cell ∨ sc.names.lookup y.1 = some .free)) &&
  scope.names.all (fun y => decide ((y.2 = .local ∨ y.2 = .cell) → y.1 ∈ (ownS own).map (·.1) ∨ y.1 ∉ N)))))

mutual
/-- a target of names -/
def ckG (N : List Str) (ss : Scope) : E → Expr → Bool
  | .var i, e => match e with
    | .Name x _ => decide (N[i]? = some x) && locB ss x
    | _ => false
  | .tup ts, e => match e with
    | .Tuple es _ _ => ckGs N ss ts es
    | _ => false
  | _, _ => false
def ckGs (N : List Str) (ss : Scope) : List E → List Expr → Bool
  | [], es => match es with
    | [] => true
    | _ => false
  | t :: ts, es => match es with
    | e :: es => noSt e && (ckG N ss t e && ckGs N ss ts es)
    | _ => false
end
def isTup : Expr → Bool
  | .Tuple .. => true
  | _ => false
/-- a global name -/
def gnm (sc : Scope) (x y : Str) : Bool := decide (x = y) && glB sc x
def tyS (T : DL.Ty) : Str := Str.ofString (tyN T)

mutual
def ck (tb : Tb) : Scope → Bool → E → Expr → Bool
  | sc, t, .var i, e => match e with
    | .Name x _ => decide (tb.N[i]? = some x) && (visB sc x && nmOk x)
    | _ => false
  | sc, t, .cst d, e => match e with
    | .Constant c _ _ => ckC d c
    | .Name x _ => glB sc x && (nmOk x && (match tb.cst.lookup x with | some d' => DL.D.same d' d | none => false))
    | _ => false
  | sc, t, .bin o a b, e => match e with
    | .BinOp x p y _ => opM o p && (ck tb sc false a x && ck tb sc false b y)
    | _ => false
  | sc, t, .cmp o a b, e => match e with
    | .Compare x [p] [y] _ => copM o p && (!behindInMarks p y && (ck tb sc false a x && ck tb sc false b y))
    | _ => false
  | sc, t, .chain o1 o2 a b c, e => match e with
    | .Compare x [p, q] [y, z] _ => copM o1 p && (copM o2 q && (!lastMarks [p, q] [y, z] && (ck tb sc false a x && (ck tb sc false b y && ck tb sc false c z))))
    | _ => false
  | sc, t, .and es, e => match e with
    | .BoolOp .And xs _ => !xs.isEmpty && ckN tb sc t es xs
    | _ => false
  | sc, t, .or es, e => match e with
    | .BoolOp .Or xs _ => !xs.isEmpty && ckN tb sc t es xs
    | _ => false
  | sc, t, .not a, e => match e with
    | .UnaryOp .Not x _ => ck tb sc t a x
    | _ => false
  | sc, t, .neg a, e => match e with
    | .UnaryOp .USub x _ => ck tb sc false a x
    | _ => false
  | sc, t, .ife c a b, e => match e with
    | .IfExp x y z _ => !t && (ck tb sc true c x && (ck tb sc false a y && ck tb sc false b z))
    | _ => false
  | sc, t, .tup es, e => match e with
    | .Tuple xs _ _ => ckEs tb sc es xs
    | _ => false
  | sc, t, .lst es, e => match e with
    | .List xs _ => ckEs tb sc es xs
    | _ => false
  | sc, t, .dic tk, e => match e with
    | .Dict [] [] _ => true
    | _ => false
  | sc, t, .ix a b, e => match e with
    | .Subscript x y _ => noSl y && (ck tb sc false a x && ck tb sc false b y)
    | _ => false
  | sc, t, .sl a lo hi, e => match e with
    | .Subscript x (.Slice l h none _) _ => ck tb sc false a x && ((match lo, l with
        | .nop, none => true
        | .nop, some _ => false
        | _, some e' => ck tb sc false lo e'
        | _, none => false) && (match hi, h with
        | .nop, none => true
        | .nop, some _ => false
        | _, some e' => ck tb sc false hi e'
        | _, none => false))
    | _ => false
  | sc, t, .call f es, e => match e with
    | .Call (.Name x _) xs [] _ => glB sc x && (nmOk x && (decide (tb.fns[f]? = some (x, xs.length)) && ckEs tb sc es xs))
    | _ => false
  | sc, t, .bi b es, e => match e with
    | .Call (.Name x _) xs [] _ => glB sc x && (decide (biN b = some x) && (!xs.isEmpty && (decide (b ≠ .min ∨ xs.length ≠ 4) && ckEs tb sc es xs)))
    | _ => false
  | sc, t, .isi a T, e => match e with
    | .Call (.Name x _) [y, .Name z _] [] _ => gnm sc x "isinstance" && (gnm sc z (tyS T) && (noSt y && ck tb sc false a y))
    | _ => false
  | sc, t, .me m a es, e => match e with
    | .Call (.Attribute o x ap) xs [] cp => decide (meN m = some x) && (plainB o && (decide (ap.endLine = cp.line) && (!xs.isEmpty && (decide (xs.length < 30) && (ck tb sc false a o && ckEs tb sc es xs)))))
    | _ => false
  | sc, t, .lc elt tg src ifs own, e => match e with
    | .ListComp x [⟨tg', it, ifs', 0⟩] scope _ => blkB tb.N sc scope own && (ckG tb.N scope tg tg' && ((DL.tgSlots tg).all (fun i => own.any fun p => p.2 == i) && (noSet it && ((match src with
        | .rng es => (match it with
          | .Call (.Name y _) ys [] _ => gnm sc y "range" && (decide (1 ≤ ys.length ∧ ys.length ≤ 3) && ckEs tb sc es ys)
          | _ => false)
        | .enum a => (match it with
          | .Call (.Name y _) [z] [] _ => gnm sc y "enumerate" && (isTup tg' && (noSt z && ck tb sc false a z))
          | _ => false)
        | _ => ck tb sc false src it) && (decide (ifs'.length ≤ 1) && (ckN tb (relS scope sc) true ifs ifs' && ck tb (relS scope sc) false elt x))))))
    | _ => false
  | _, _, _, _ => false
def ckEs (tb : Tb) : Scope → List E → List Expr → Bool
  | sc, [], es => match es with
    | [] => true
    | _ => false
  | sc, t :: ts, es => match es with
    | e :: es => noSt e && (ck tb sc false t e && ckEs tb sc ts es)
    | _ => false
def ckN (tb : Tb) : Scope → Bool → List E → List Expr → Bool
  | sc, t, [], es => match es with
    | [] => true
    | _ => false
  | sc, t, a :: ts, es => match es with
    | e :: es => ck tb sc t a e && ckN tb sc t ts es
    | _ => false
end
end DS

set_option Elab.async false
set_option linter.all false
set_option maxRecDepth 100000
set_option maxHeartbeats 4000000
/-! what is checked is so: expressions -/
namespace DS
open PySem PySem.Spec PyProof.Rows L2
open DL (D Cell Store DX Res SRes E)

theorem nmOk_iff {x : Str} (h : nmOk x = true) : (x == ("__debug__" : Str)) = false ∧ (x == ("__classdict__" : Str)) = false ∧ x ≠ ("__name__" : Str) := by
  unfold nmOk at h
  rw [Bool.and_eq_true, Bool.and_eq_true, Bool.not_eq_true', Bool.not_eq_true'] at h
  exact ⟨h.1, h.2.1, of_decide_eq_true h.2.2⟩
mutual
theorem same_eq : ∀ {a b : D}, DL.D.same a b = true → a = b := by
  intro a b h
  cases a <;> cases b <;> first | (simp [DL.D.same] at h; done) | rfl | skip
  all_goals first | (simp [DL.D.same] at h; subst h; rfl) | skip
  rename_i xs ys
  simp only [DL.D.same] at h
  rw [sames_eq h]
theorem sames_eq : ∀ {a b : List D}, DL.D.sames a b = true → a = b := by
  intro a b h
  cases a with
  | nil => cases b with | nil => rfl | cons _ _ => simp [DL.D.sames] at h
  | cons x xs =>
    cases b with
    | nil => simp [DL.D.sames] at h
    | cons y ys =>
      simp only [DL.D.sames, Bool.and_eq_true] at h
      rw [same_eq h.1, sames_eq h.2]
end

structure FnFact (G : Gl) (X : Cx) (k : Nat) (x : Str) (np : Nat) (f : List D → Store → Res D) : Prop where
  ex : ∃ fa fd ps, FnOk X.prog X.w X.K X.mg X.base (L2.CX X.prog X.w) k fa fd ps (spD G f np) ∧ X.mg x = some (.ref fa) ∧ PySem.W.keepIn X.K (.ref fa) = true ∧ Binds X.K fd ps []
  hl : ∀ ds st, ds.length ≠ np → f ds st = .bad
structure CtxOk (G : Gl) (tb : Tb) (C : DL.Ctx) (k : Nat) (W : WX) (sc ss : Scope) (X : Cx) : Prop where
  K : X.K = G.K
  N : X.N = tb.N
  nd : X.N.Nodup
  calm : X.calm = true
  room : Room k X.A
  sc : X.env.scope = sc
  tk : Takes X W
  fns : ∀ f x np, tb.fns[f]? = some (x, np) → FnFact G X k x np (C.call f)
  bl : ∀ x ∈ bltNames, X.mg x = none
  cst : ∀ x d, tb.cst.lookup x = some d → ∃ u v, X.mg x = some u ∧ RelV v u ∧ ∀ ι H, Rep G ι H d v
  st : ∀ x, locB ss x = true → Loc X.env.scope x ∧ (X.fn x = true ∨ X.env.scope.names.lookup x = some .local)

section
variable {G : Gl} {tb : Tb} {C : DL.Ctx} {k : Nat} {W : WX} {sc ss : Scope} {X : Cx} {e : Expr}
theorem CtxOk.hu (c : CtxOk G tb C k W sc ss X) : X.A.units + 64 < cLine := by have := c.room.un; omega
theorem CtxOk.hu2 (c : CtxOk G tb C k W sc ss X) : X.A.units + 65 < cLine := by have := c.room.un; omega
theorem CtxOk.glb (c : CtxOk G tb C k W sc ss X) {x : Str} (h : glB sc x = true) : L2.Gl X x := by
  have := of_decide_eq_true h
  rw [← c.sc] at this
  exact this
theorem CtxOk.vis (c : CtxOk G tb C k W sc ss X) {x : Str} (h : visB sc x = true) : Vis X.env.scope x := by
  rw [c.sc]
  unfold visB at h
  rw [Bool.or_eq_true, Bool.or_eq_true] at h
  exact h.imp of_decide_eq_true fun h => h.imp of_decide_eq_true of_decide_eq_true
theorem CtxOk.gnm (c : CtxOk G tb C k W sc ss X) {x y : Str} (h : gnm sc x y = true) (hy : y ∈ bltNames) : x = y ∧ L2.Gl X y ∧ X.mg y = none := by
  unfold DS.gnm at h
  rw [Bool.and_eq_true] at h
  obtain rfl := of_decide_eq_true h.1
  exact ⟨rfl, c.glb h.2, c.bl _ hy⟩
theorem pe_eq {m m' : DL.Env → Store → Res D} (h : ∀ ρ st, m ρ st = m' ρ st) (p : PE X e (tD G W m)) : PE X e (tD G W m') := by rw [show m' = m from funext fun ρ => funext fun st => (h ρ st).symm]; exact p
theorem pt_eq {m m' : DL.Env → Store → Res Bool} (h : ∀ ρ st, m ρ st = m' ρ st) (p : PT X e (tDT G W m)) : PT X e (tDT G W m') := by rw [show m' = m from funext fun ρ => funext fun st => (h ρ st).symm]; exact p
theorem pw_eq {m m' : DL.Env → Store → Res Bool} (h : ∀ ρ st, m ρ st = m' ρ st) (p : PW X e (tDT G W m)) : PW X e (tDT G W m') := by rw [show m' = m from funext fun ρ => funext fun st => (h ρ st).symm]; exact p
theorem pa_eq {es : List Expr} {m m' : DL.Env → Store → Res (List D)} (h : ∀ ρ st, m ρ st = m' ρ st) (p : PA X es (tDA G W m)) : PA X es (tDA G W m') := by rw [show m' = m from funext fun ρ => funext fun st => (h ρ st).symm]; exact p
theorem po_eq {es : Option Expr} {m m' : DL.Env → Store → Res (Option Int)} (h : ∀ ρ st, m ρ st = m' ρ st) (p : PO X es (tDO G W m)) : PO X es (tDO G W m') := by rw [show m' = m from funext fun ρ => funext fun st => (h ρ st).symm]; exact p
theorem pi_eq {tg : Expr} {m m' : DL.Env → Store → Res (List D × DL.Guard)} (h : ∀ ρ st, m ρ st = m' ρ st) (p : PI X tg e (tI G W m)) : PI X tg e (tI G W m') := by rw [show m' = m from funext fun ρ => funext fun st => (h ρ st).symm]; exact p
/-- both readings from the value's, where truth is asked plainly -/
theorem leaf {t : Bool} {m : DL.Env → Store → Res D} (hK : X.K = G.K) (p : PE X e (tD G W m)) (he : ∀ whole, isTrue e X.env whole = (do let v ← whole; standAt e.pos; holding [v] (truthy v))) :
    (t = false → PE X e (tD G W m)) ∧ (t = true → PT X e (tDT G W (mT m))) := ⟨fun _ => p, fun _ => d_truth hK p he⟩
theorem opM_ok {o : DL.Bop} {p : Operator} (hK : X.K = G.K) (h : opM o p = true) : OpR X (binaryOp p) (tV2 G (DL.binD o)) := by
  cases o <;> cases p <;> first | (cases h; done) | skip
  · exact op_addD hK
  · exact op_subD
  · exact op_mulD hK
  · exact op_fdivD
  · exact op_modD
  · exact op_powD
theorem copM_ok {o : DL.Cop} {p : CmpOp} (hK : X.K = G.K) (hu : X.A.units + 65 < cLine) (h : copM o p = true) : OpR X (compareOp p) (tC2 G (DL.cmpD o)) := by
  have hu' : X.A.units + 64 < cLine := by omega
  cases o <;> cases p <;> first | (cases h; done) | skip
  · exact op_eqDD hK hu'
  · exact op_neDD hK hu'
  · exact op_ltDD
  · exact op_leDD
  · exact op_gtDD
  · exact op_geDD
  · exact op_inDD hK hu
  · exact op_notinDD hK hu
  · exact op_isDD
  · exact op_isnotDD
theorem cst_pe {d : D} {v : V} (p : PE X e (tC v)) (r : ∀ ι H, Rep G ι H d v) : PE X e (tD G W fun ρ st => .ok d st) :=
  PEi p fun σ H Q ⟨ι, ρ, st, hρ, S, h⟩ => h v H ι Ext.refl S (r ι H)
theorem ckC_ok {d : D} {c : Const} {j : Nat} {pos : Pos} (h : ckC d c = true) : PE X (.Constant c j pos) (tD G W fun ρ st => .ok d st) := by
  cases d <;> cases c <;> first | (cases h; done) | skip
  · exact cst_pe pe_non fun _ _ => rfl
  · obtain rfl := of_decide_eq_true h
    exact cst_pe pe_bl fun _ _ => rfl
  · obtain rfl := of_decide_eq_true h
    exact cst_pe pe_int fun _ _ => rfl
  · unfold ckC at h
    rw [Bool.and_eq_true, Bool.and_eq_true] at h
    obtain ⟨h1, h2, h3⟩ := h
    obtain rfl := of_decide_eq_true h1
    exact cst_pe pe_str fun _ _ => ⟨rfl, lineM (of_decide_eq_true h2), h3⟩
theorem var_pe {i : Nat} {x : Str} {pos : Pos} (hi : X.N[i]? = some x) (hv : Vis X.env.scope x) (h1 : (x == ("__debug__" : Str)) = false) (h2 : (x == ("__classdict__" : Str)) = false) :
    PE X (.Name x pos) (tD G W fun ρ st => match ρ[i]? with | some (some d) => .ok d st | _ => .bad) :=
  PEi (pe_var hi hv h1 h2) fun σ H Q ⟨ι, ρ, st, hρ, S, h⟩ => by
    dsimp only at h
    split at h
    · rename_i d hd
      obtain ⟨v, hv, r⟩ := hρ.at_ i d hd
      exact ⟨v, hv, h v H ι Ext.refl S r⟩
    · exact h.elim
theorem plainIx_of {b : Expr} (h : noSl b = true) : PlainIx b := by
  intro o i
  cases b <;> first | rfl | cases h
theorem base_of {o : Expr} {a : Str} {env : PySem.Env} (h : plainB o = true) : attributeBase o a env (eval o env) = eval o env := by
  cases o <;> first | rfl | skip
  rename_i f as ks pos
  cases f <;> first | rfl | skip
  cases as <;> cases ks <;> first | rfl | cases h
theorem folded_of {it : Expr} {env : PySem.Env} (h : noSet it = true) : ∀ x, foldedSetIterable it env x = pure x := by
  intro x
  cases it <;> first | rfl | cases h
theorem back_of {es : List Expr} {pos : Pos} {env : PySem.Env} (h : es.all noSt = true) : (backTo pos (starEach es env)).any (·.1) = false ∧ (backTo pos (starEach es env)).all (fun x => !x.1) = true := by
  induction es with
  | nil => exact ⟨rfl, rfl⟩
  | cons e es ih =>
    rw [List.all_cons, Bool.and_eq_true] at h
    have hs : PySem.W.isStarred e = false := by have := h.1; unfold noSt at this; rwa [Bool.not_eq_true'] at this
    obtain ⟨i1, i2⟩ := ih h.2
    rw [star1 es env hs]
    unfold backTo at i1 i2 ⊢
    exact ⟨by rw [List.map_cons, List.any_cons, i1]; rfl, by rw [List.map_cons, List.all_cons, i2]; rfl⟩
end
end DS

set_option Elab.async false
set_option linter.all false
set_option maxRecDepth 100000
set_option maxHeartbeats 8000000
/-! what is checked is so: expressions, all together -/
namespace DS
open PySem PySem.Spec PyProof.Rows L2
open DL (D Cell Store DX Res SRes E)

section
variable {G : Gl} {tb : Tb} {C : DL.Ctx} {k : Nat} {W : WX} {sc ss : Scope} {X : Cx} {e : Expr}
theorem lookup_relS' {scope sc : Scope} {x : Str} {j : NameKind} (hj : j ≠ .free) (h : scope.names.lookup x = some j) : (relS scope sc).names.lookup x = some j := lookup_relS_keep hj h
theorem CtxOk.blk {scope : Scope} {own : List (String × Nat)} (c : CtxOk G tb C k W sc ss X) (h : blkB tb.N sc scope own = true) (s : Shared) (H : Hp) (A : Addr) (cl : List (Str × Addr)) (fp : List Addr) :
    CtxOk G tb C k W0 (relS scope sc) scope (X.blk s H scope (compEnvC scope cl A X.env) fp) where
  K := c.K
  N := c.N
  nd := c.nd
  calm := c.calm
  room := c.room
  sc := by rw [← c.sc]; rfl
  tk := fun u s' ⟨a, B, sI, pins, σ, H, cls, d, e, I, nb, up, sky, na, os, ag, w⟩ => w.elim
  fns := fun f x np hf => ⟨(c.fns f x np hf).ex, (c.fns f x np hf).hl⟩
  bl := c.bl
  cst := c.cst
  st := fun x hx => by
    have e : (compEnvC scope cl A X.env).scope = relS scope X.env.scope := rfl
    unfold locB at hx
    rw [Bool.or_eq_true] at hx
    rcases hx with h | h
    · have := lookup_relS' (sc := X.env.scope) (by intro z; cases z) (of_decide_eq_true h)
      exact ⟨.inl this, .inr this⟩
    · have := lookup_relS' (sc := X.env.scope) (by intro z; cases z) (of_decide_eq_true h)
      exact ⟨.inr this, .inl (by show (scope.names.lookup x == some .cell) = true; rw [of_decide_eq_true h]; try rfl)⟩
theorem own_map (own : List (String × Nat)) : (ownS own).map (·.2) = own.map (·.2) := by
  unfold ownS
  rw [List.map_map]
  rfl
theorem blkB_ok {N : List Str} {scope : Scope} {own : List (String × Nat)} (h : blkB N sc scope own = true) : BlkOk N sc scope (ownS own) := by
  unfold blkB at h
  simp only [Bool.and_eq_true, List.all_eq_true, decide_eq_true_eq] at h
  obtain ⟨h1, h2, h3, h4, h5⟩ := h
  exact ⟨h1, h2, h3, h4, h5⟩
mutual
theorem ckG_ok (c : CtxOk G tb C k W sc ss X) : ∀ (t : E) (e : Expr), ckG tb.N ss t e = true → PG X e (tT G (DL.tgSlots t) (DL.putT t))
  | .var i, e, h => by
    cases e <;> first | (cases h; done) | skip
    rename_i x pos
    simp only [ckG, Bool.and_eq_true] at h
    obtain ⟨h1, h2⟩ := c.st x h.2
    have := g_name (G := G) (pos := pos) c.nd (by rw [c.N]; exact of_decide_eq_true h.1) h1 h2
    rw [show DL.tgSlots (.var i) = [i] by rw [DL.tgSlots], show DL.putT (.var i) = (fun d ρ => some (ρ.set i (some d))) from funext fun d => funext fun ρ => by rw [DL.putT]]
    exact this
  | .tup ts, e, h => by
    cases e <;> first | (cases h; done) | skip
    rename_i es n pos
    simp only [ckG] at h
    obtain ⟨h1, h2, h3⟩ := ckGs_ok c ts es h
    have := g_tup (n := n) (pos := pos) c.K c.calm h2 h1 h3
    rw [show DL.tgSlots (.tup ts) = DL.tgSlotss ts by rw [DL.tgSlots], show DL.putT (.tup ts) = (fun d ρ => match d with | .tup ds => DL.putTs ts ds ρ | _ => none) from funext fun d => funext fun ρ => by cases d <;> rw [DL.putT] <;> (intros; simp_all)]
    exact this
  | .nop, e, h | .cst _, e, h | .bin _ _ _, e, h | .cmp _ _ _, e, h | .chain _ _ _ _ _, e, h | .and _, e, h | .or _, e, h | .not _, e, h | .neg _, e, h | .ife _ _ _, e, h | .lst _, e, h | .dic _, e, h | .ix _ _, e, h | .sl _ _ _, e, h | .rev _, e, h | .call _ _, e, h | .bi _ _, e, h | .isi _ _, e, h | .me _ _ _, e, h | .lc _ _ _ _ _, e, h | .rng _, e, h | .enum _, e, h | .zip _ _, e, h => by
    simp [ckG] at h
theorem ckGs_ok (c : CtxOk G tb C k W sc ss X) : ∀ (ts : List E) (es : List Expr), ckGs tb.N ss ts es = true → PGs X es (tTs G (DL.tgSlotss ts) (DL.putTs ts)) ∧ (es.all fun e => !PySem.W.isStarred e) = true ∧ ∀ ds ρ ρ', DL.putTs ts ds ρ = some ρ' → ds.length = es.length
  | [], es, h => by
    cases es with
    | cons _ _ => simp [ckGs] at h
    | nil =>
      refine ⟨?_, rfl, fun ds ρ ρ' h => ?_⟩
      · have := g_nil (G := G) (X := X) (S := [])
        rw [show DL.tgSlotss [] = [] by rw [DL.tgSlotss], show DL.putTs [] = (fun ds ρ => match ds with | [] => some ρ | _ => none) from funext fun ds => funext fun ρ => by cases ds <;> rw [DL.putTs] <;> (intros; simp_all)]
        exact this
      · cases ds with
        | nil => rfl
        | cons _ _ => simp [DL.putTs] at h
  | t :: ts, es, h => by
    cases es with
    | nil => simp [ckGs] at h
    | cons e es =>
      simp only [ckGs, Bool.and_eq_true] at h
      obtain ⟨h0, h1, h2⟩ := h
      have p1 := ckG_ok c t e h1
      obtain ⟨p2, p3, p4⟩ := ckGs_ok c ts es h2
      have hs : PySem.W.isStarred e = false := by unfold noSt at h0; rwa [Bool.not_eq_true'] at h0
      refine ⟨?_, by rw [List.all_cons, p3, hs]; rfl, fun ds ρ ρ' h => ?_⟩
      · have := g_cons hs p1 p2
        rw [show DL.tgSlotss (t :: ts) = DL.tgSlots t ++ DL.tgSlotss ts by rw [DL.tgSlotss], show DL.putTs (t :: ts) = (fun ds ρ => match ds with | d :: ds => (match DL.putT t d ρ with | some ρ => DL.putTs ts ds ρ | none => none) | _ => none) from funext fun ds => funext fun ρ => by
          cases ds with
          | nil => simp [DL.putTs]
          | cons d ds =>
            rw [DL.putTs]
            try rfl]
        exact this
      · cases ds with
        | nil => simp [DL.putTs] at h
        | cons d ds =>
          rw [DL.putTs] at h
          split at h
          · rw [List.length_cons, List.length_cons, p4 _ _ _ h]
          · cases h
end
end
end DS

set_option Elab.async false
set_option linter.all false
set_option maxRecDepth 100000
set_option maxHeartbeats 8000000
namespace DS
open PySem PySem.Spec PyProof.Rows L2
open DL (D Cell Store DX Res SRes E)

section
variable {G : Gl} {tb : Tb} {C : DL.Ctx} {k : Nat} {W : WX} {sc ss : Scope} {X : Cx} {e : Expr}
theorem evEs_len {C : DL.Ctx} {ρ : DL.Env} : ∀ {es : List E} {st : Store} {ds : List D} {st' : Store}, DL.evEs C ρ es st = .ok ds st' → ds.length = es.length
  | [], st, ds, st', h => by rw [DL.evEs] at h; cases h; rfl
  | e :: es, st, ds, st', h => by
    rw [DL.evEs] at h
    cases e1 : DL.evE C ρ e st with
    | bad => rw [e1] at h; cases h
    | exc _ _ => rw [e1] at h; cases h
    | ok x s1 =>
      rw [e1] at h
      dsimp only [DL.Res.bind] at h
      cases e2 : DL.evEs C ρ es s1 with
      | bad => rw [e2] at h; cases h
      | exc _ _ => rw [e2] at h; cases h
      | ok xs s2 =>
        rw [e2] at h
        cases h
        rw [List.length_cons, List.length_cons, evEs_len e2]
/-- what the reading of a value gives a test -/
abbrev Jd (G : Gl) (W : WX) (X : Cx) (t : Bool) (e : Expr) (m : DL.Env → Store → Res D) : Prop := (t = false → PE X e (tD G W m)) ∧ (t = true → PT X e (tDT G W (mT m)))
theorem Jd.eq {t : Bool} {m m' : DL.Env → Store → Res D} (h : ∀ ρ st, m ρ st = m' ρ st) (p : Jd G W X t e m) : Jd G W X t e m' := by rw [show m' = m from funext fun ρ => funext fun st => (h ρ st).symm]; exact p
theorem mT_not {r : Res D} : (r.bind fun x st => DL.ofO (DL.truD x st) st id).bind (fun b st => .ok (!b) st) = (r.bind fun x st => DL.ofO (DL.truD x st) st fun b => D.bl (!b)).bind fun x st => DL.ofO (DL.truD x st) st id := by
  cases r with
  | bad => rfl
  | exc _ _ => rfl
  | ok x st =>
    dsimp only [DL.Res.bind]
    cases e : DL.truD x st with
    | none => rfl
    | some b => rfl
theorem mT_cmp {r : Res D} {f : D → Store → Res D} {o : D → D → Store → Option Bool} : (r.bind fun x st => (f x st).bind fun y st => DL.ofO (o x y st) st id) = ((r.bind fun x st => (f x st).bind fun y st => DL.ofO (o x y st) st .bl).bind fun x st => DL.ofO (DL.truD x st) st id) := by
  cases r with
  | bad => rfl
  | exc _ _ => rfl
  | ok x st =>
    dsimp only [DL.Res.bind]
    cases f x st with
    | bad => rfl
    | exc _ _ => rfl
    | ok y st1 =>
      dsimp only [DL.Res.bind]
      cases o x y st1 with
      | none => rfl
      | some b => rfl
theorem evIfs1 {C : DL.Ctx} {ρ : DL.Env} {a : E} {st : Store} : DL.evIfs C ρ [a] st = (DL.evE C ρ a st).bind fun x st => DL.ofO (DL.truD x st) st id := by
  rw [DL.evIfs]
  cases DL.evE C ρ a st with
  | bad => rfl
  | exc _ _ => rfl
  | ok x s =>
    dsimp only [DL.Res.bind]
    cases DL.truD x s with
    | none => rfl
    | some b =>
      cases b
      · rfl
      · dsimp only
        rw [DL.evIfs]
        rfl
theorem evAnd1 {C : DL.Ctx} {ρ : DL.Env} {a : E} {st : Store} : DL.evAnd C ρ [a] st = (DL.evE C ρ a st).bind fun x st => match x with | .bl true => .ok (.bl true) st | .bl false => .ok (.bl false) st | _ => .bad := by
  rw [DL.evAnd]
  cases DL.evE C ρ a st with
  | bad => rfl
  | exc _ _ => rfl
  | ok x s =>
    dsimp only [DL.Res.bind]
    cases x with
    | bl b =>
      cases b
      · rfl
      · dsimp only; rw [DL.evAnd]
    | _ => rfl
theorem evOr1 {C : DL.Ctx} {ρ : DL.Env} {a : E} {st : Store} : DL.evOr C ρ [a] st = (DL.evE C ρ a st).bind fun x st => match x with | .bl true => .ok (.bl true) st | .bl false => .ok (.bl false) st | _ => .bad := by
  rw [DL.evOr]
  cases DL.evE C ρ a st with
  | bad => rfl
  | exc _ _ => rfl
  | ok x s =>
    dsimp only [DL.Res.bind]
    cases x with
    | bl b =>
      cases b
      · dsimp only; rw [DL.evOr]
      · rfl
    | _ => rfl
theorem evP_ne {C : DL.Ctx} {ρ : DL.Env} {a : E} {st : Store} (h : a ≠ .nop) : DL.evP C ρ a st = (DL.evE C ρ a st).bind fun x st => match x with | .int i => .ok (some i) st | _ => .bad := by
  cases a <;> first | exact absurd rfl h | (rw [DL.evP] <;> first | rfl | (intro z; cases z))
def srcV : E → Bool
  | .rng _ => false
  | .enum _ => false
  | _ => true
theorem evI_ne {C : DL.Ctx} {ρ : DL.Env} {a : E} {st : Store} (h : srcV a = true) : DL.evI C ρ a st = (DL.evE C ρ a st).bind fun x st => match x with
    | .tup xs => .ok (xs, none) st
    | .str s => .ok (s.map (fun c => .str [c]), none) st
    | .ref l => match st[l]? with | some (.lst xs) => .ok (xs, some (l, xs)) st | _ => .bad
    | _ => .bad := by
  cases a <;> first | (cases h; done) | (rw [DL.evI] <;> first | rfl | (intro z; intros; simp_all))
/-- calls of defs -/
theorem call_pe {x : Str} {p pos : Pos} {es : List Expr} {f : Nat} {me : DL.Env → Store → Res (List D)} (c : CtxOk G tb C k W sc ss X) (hg : glB sc x = true) (hn : nmOk x = true) (hf : tb.fns[f]? = some (x, es.length)) (ha : PA X es (tDA G W me)) (hs : es.all noSt = true)
    (h0 : es = [] → ∀ ρ st, me ρ st = .ok [] st) : PE X (.Call (.Name x p) es [] pos) (tD G W fun ρ st => (me ρ st).bind fun xs st => C.call f xs st) := by
  obtain ⟨⟨fa, fd, ps, F, hm, hk, hb⟩, hl⟩ := c.fns f x _ hf
  obtain ⟨n1, n2, n3⟩ := nmOk_iff hn
  cases es with
  | nil => exact pe_eq (fun ρ st => by rw [h0 rfl]) (d_call0 F c.room (c.glb hg) hm hk hb c.tk hl n1)
  | cons e es =>
    rw [List.all_cons, Bool.and_eq_true] at hs
    have hs1 : PySem.W.isStarred e = false := by have := hs.1; unfold noSt at this; rwa [Bool.not_eq_true'] at this
    exact d_call F c.room (c.glb hg) hm hk hb c.tk hl ha hs1 n1 (back_of hs.2).1
theorem bi_pe {x : Str} {p pos : Pos} {es : List Expr} {b : DL.Bi} {me : DL.Env → Store → Res (List D)} (c : CtxOk G tb C k W sc ss X) (hg : glB sc x = true) (hb : biN b = some x) (hne : es.isEmpty = false) (h4 : b ≠ .min ∨ es.length ≠ 4) (hl : ∀ ρ st ds st', me ρ st = .ok ds st' → ds.length = es.length)
    (ha : PA X es (tDA G W me)) (hs : es.all noSt = true) : PE X (.Call (.Name x p) es [] pos) (tD G W fun ρ st => (me ρ st).bind fun xs st => DL.ofV (DL.biD b xs st)) := by
  cases es with
  | nil => cases hne
  | cons e es =>
    rw [List.all_cons, Bool.and_eq_true] at hs
    have hs1 : PySem.W.isStarred e = false := by have := hs.1; unfold noSt at this; rwa [Bool.not_eq_true'] at this
    have hp := (back_of (pos := pos) (env := X.env) hs.2).1
    have hG := c.glb hg
    cases b <;> first | (cases hb; done) | (cases hb)
    · exact d_bi (call_lenD c.K) hG (c.bl _ (by decide)) (by decide +kernel) ha hs1 (by decide) (by decide) hp
    · exact d_biT call_intD hG (c.bl _ (by decide)) (by decide +kernel) ha hs1 (by decide) (by decide) hp
    · refine pe_eq (fun ρ st => ?_) (d_bi (call_minD c.K c.calm) hG (c.bl _ (by decide)) (by decide +kernel) ha hs1 (by decide) (by decide) hp)
      cases q : me ρ st with
      | bad => rfl
      | exc _ _ => rfl
      | ok ds st1 =>
        dsimp only [DL.Res.bind, DL.biD]
        rw [if_neg]
        rw [hl _ _ _ _ q]
        exact h4.resolve_left fun z => z rfl
    · exact d_biT (call_tupleD c.K) hG (c.bl _ (by decide)) (by decide +kernel) ha hs1 (by decide) (by decide) hp
    · exact d_biT (call_listD c.K) hG (c.bl _ (by decide)) (by decide +kernel) ha hs1 (by decide) (by decide) hp
    · exact d_bi (call_allD c.K c.calm) hG (c.bl _ (by decide)) (by decide +kernel) ha hs1 (by decide) (by decide) hp
    · exact d_bi (call_anyD c.K c.calm) hG (c.bl _ (by decide)) (by decide +kernel) ha hs1 (by decide) (by decide) hp
theorem isi_pe {x z : Str} {p p2 pos : Pos} {T : DL.Ty} {m : DL.Env → Store → Res D} (c : CtxOk G tb C k W sc ss X) (h1 : gnm sc x "isinstance" = true) (h2 : gnm sc z (tyS T) = true) (hs : noSt e = true) (he : PE X e (tD G W m)) :
    PE X (.Call (.Name x p) [e, .Name z p2] [] pos) (tD G W fun ρ st => (m ρ st).bind fun d st => DL.ofO (DL.isiD d T st) st .bl) := by
  obtain ⟨rfl, g1, m1⟩ := c.gnm h1 (by decide)
  have ht : tyS T ∈ bltNames := by cases T <;> decide +kernel
  obtain ⟨rfl, g2, m2⟩ := c.gnm h2 ht
  have hs1 : PySem.W.isStarred e = false := by unfold noSt at hs; rwa [Bool.not_eq_true'] at hs
  exact d_isi c.K g1 m1 rfl g2 m2 (by cases T <;> decide +kernel) (by cases T <;> decide +kernel) (by cases T <;> decide +kernel) he hs1
theorem me_pe {o : Expr} {x : Str} {ap cp : Pos} {es : List Expr} {q : DL.Me} {m : DL.Env → Store → Res D} {me : DL.Env → Store → Res (List D)} (c : CtxOk G tb C k W sc ss X) (h1 : meN q = some x) (h2 : plainB o = true) (h3 : ap.endLine = cp.line) (h4 : es.isEmpty = false) (h5 : es.length < 30)
    (ho : PE X o (tD G W m)) (ha : PA X es (tDA G W me)) (hs : es.all noSt = true) :
    PE X (.Call (.Attribute o x ap) es [] cp) (tD G W fun ρ st => (m ρ st).bind fun d st => if DL.recv q d st = true then (me ρ st).bind fun xs st => DL.ofV (DL.meD q d xs st) else .bad) := by
  cases es with
  | nil => cases h4
  | cons e es =>
    have hb := back_of (pos := cp) (env := X.env) hs
    rw [List.all_cons, Bool.and_eq_true] at hs
    have hs1 : PySem.W.isStarred e = false := by have := hs.1; unfold noSt at this; rwa [Bool.not_eq_true'] at this
    have hp := (back_of (pos := cp) (env := X.env) hs.2).1
    have hfew : ((backTo cp (starEach (e :: es) X.env)).all (fun x => !x.1) && (backToKw cp (keywordEach [] X.env)).all (fun x => x.1.isSome) && decide ((e :: es).length + ([] : List Keyword).length + (if ([] : List Keyword).isEmpty then 0 else 1) < 30)) = true := by
      rw [hb.2, decide_eq_true (by simpa using h5)]
      rfl
    have hl : (ap.endLine == cp.line) = true := by rw [h3]; exact beq_self_eq_true _
    cases q <;> first | (cases h1; done) | (cases h1)
    · exact d_me PySem.F.plainAttrs_list PySem.F.slot_list_append PySem.F.type_list_append mt_appendD (recv_list c.K) ho ha hs1 (base_of h2) hfew hl hp
    · exact d_me PySem.F.plainAttrs_str PySem.F.slot_str_join PySem.F.type_str_join (mt_joinD c.K) recv_str ho ha hs1 (base_of h2) hfew hl hp
/-- for's sources -/
theorem rng_pi {tg : Expr} {p pos : Pos} {y : Str} {es : List Expr} {me : DL.Env → Store → Res (List D)} (c : CtxOk G tb C k W sc ss X) (h : gnm sc y "range" = true) (hn : 1 ≤ es.length ∧ es.length ≤ 3) (hl : ∀ ρ st ds st', me ρ st = .ok ds st' → ds.length = es.length) (ha : PA X es (tDA G W me)) (hs : es.all noSt = true) :
    PI X tg (.Call (.Name y p) es [] pos) (tI G W fun ρ st => (me ρ st).bind fun xs st => DL.ofO (DL.rngD xs) st fun r => (r, none)) := by
  obtain ⟨rfl, g, m⟩ := c.gnm h (by decide)
  have st1 : ∀ e ∈ es, PySem.W.isStarred e = false := fun e he => by have := List.all_eq_true.mp hs e he; unfold noSt at this; rwa [Bool.not_eq_true'] at this
  match es, hn, hl, ha, st1 with
  | [a], _, hl, ha, st1 => exact d_rng1 g m ha (st1 _ (by simp)) hl
  | [a, b], _, hl, ha, st1 => exact d_rng2 g m ha (st1 _ (by simp)) (st1 _ (by simp)) hl
  | [a, b, d], _, hl, ha, st1 => exact d_rng3 g m ha (st1 _ (by simp)) (st1 _ (by simp)) (st1 _ (by simp)) hl
  | [], hn, _, _, _ => exact absurd hn.1 (by decide)
  | _ :: _ :: _ :: _ :: _, hn, _, _, _ => exact absurd hn.2 (by simp)
end
end DS

set_option Elab.async false
set_option linter.all false
set_option maxRecDepth 100000
set_option maxHeartbeats 8000000
namespace DS
open PySem PySem.Spec PyProof.Rows L2
open DL (D Cell Store DX Res SRes E)

section
variable {G : Gl} {tb : Tb} {C : DL.Ctx} {k : Nat}
theorem not_star {e : Expr} (h : noSt e = true) : PySem.W.isStarred e = false := by unfold noSt at h; rwa [Bool.not_eq_true'] at h
mutual
theorem ok_ck : ∀ (ir : E) (sc : Scope) (t : Bool) (e : Expr) (ss : Scope) (W : WX) (X : Cx), ck tb sc t ir e = true → CtxOk G tb C k W sc ss X → Jd G W X t e fun ρ st => DL.evE C ρ ir st
  | .var i, sc, t, e, ss, W, X, h, c => by
    cases e <;> first | (simp [ck] at h; done) | skip
    simp only [ck, Bool.and_eq_true] at h
    obtain ⟨h1, h2, h3⟩ := h
    obtain ⟨n1, n2, n3⟩ := nmOk_iff h3
    exact Jd.eq (fun ρ st => by rw [DL.evE]; try rfl) (leaf c.K (var_pe (i := i) (by rw [c.N]; exact of_decide_eq_true h1) (c.vis h2) n1 n2) fun _ => rfl)
  | .cst d, sc, t, e, ss, W, X, h, c => by
    cases e <;> first | (simp [ck] at h; done) | skip
    · simp only [ck] at h
      exact Jd.eq (fun ρ st => by rw [DL.evE]) (leaf c.K (ckC_ok h) fun _ => rfl)
    · simp only [ck, Bool.and_eq_true] at h
      obtain ⟨h1, h2, h3⟩ := h
      obtain ⟨n1, n2, n3⟩ := nmOk_iff h2
      split at h3
      · rename_i d' hd
        obtain rfl := same_eq h3
        obtain ⟨u, v, hm, r, hr⟩ := c.cst _ _ hd
        exact Jd.eq (fun ρ st => by rw [DL.evE]) (leaf c.K (cst_pe (pe_glob (c.glb h1) hm r n1) hr) fun _ => rfl)
      · cases h3
  | .bin o a b, sc, t, e, ss, W, X, h, c => by
    cases e <;> first | (simp [ck] at h; done) | skip
    simp only [ck, Bool.and_eq_true] at h
    obtain ⟨h1, h2, h3⟩ := h
    exact Jd.eq (fun ρ st => by rw [DL.evE]) (leaf c.K (d_op (opM_ok c.K h1) ((ok_ck a sc false _ ss W X h2 c).1 rfl) ((ok_ck b sc false _ ss W X h3 c).1 rfl)) fun _ => rfl)
  | .cmp o a b, sc, t, e, ss, W, X, h, c => by
    cases e <;> first | (simp [ck] at h; done) | skip
    rename_i x ps ys pos
    match ps, ys, h with
    | [p], [y], h =>
      simp only [ck, Bool.and_eq_true, Bool.not_eq_true'] at h
      obtain ⟨h1, h2, h3, h4⟩ := h
      have ha := (ok_ck a sc false _ ss W X h3 c).1 rfl
      have hb := (ok_ck b sc false _ ss W X h4 c).1 rfl
      refine ⟨fun _ => pe_eq (fun ρ st => by rw [DL.evE]) (d_cmp (copM_ok c.K c.hu2 h1) ha hb h2), fun _ => pt_eq (fun ρ st => ?_) (d_cmpT (copM_ok c.K c.hu2 h1) ha hb h2)⟩
      dsimp only [mT]
      rw [DL.evE]
      exact mT_cmp (f := fun x st => DL.evE C ρ b st)
    | [], _, h | _ :: _ :: _, _, h | [_], [], h | [_], _ :: _ :: _, h => simp [ck] at h
  | .chain o1 o2 a b d, sc, t, e, ss, W, X, h, c => by
    cases e <;> first | (simp [ck] at h; done) | skip
    rename_i x ps ys pos
    match ps, ys, h with
    | [p, q], [y, z], h =>
      simp only [ck, Bool.and_eq_true, Bool.not_eq_true'] at h
      obtain ⟨h1, h2, h3, h4, h5, h6⟩ := h
      have ha := (ok_ck a sc false _ ss W X h4 c).1 rfl
      have hb := (ok_ck b sc false _ ss W X h5 c).1 rfl
      have hd := (ok_ck d sc false _ ss W X h6 c).1 rfl
      refine ⟨fun _ => pe_eq (fun ρ st => ?_) (d_chain (copM_ok c.K c.hu2 h1) (copM_ok c.K c.hu2 h2) ha hb hd h3), fun _ => pt_eq (fun ρ st => ?_) (d_chainT (copM_ok c.K c.hu2 h1) (copM_ok c.K c.hu2 h2) ha hb hd h3)⟩
      · rw [DL.evE]
        try rfl
      · dsimp only [mT]
        rw [DL.evE]
        cases DL.evE C ρ a st with
        | bad => rfl
        | exc _ _ => rfl
        | ok x st1 =>
          dsimp only [DL.Res.bind]
          cases DL.evE C ρ b st1 with
          | bad => rfl
          | exc _ _ => rfl
          | ok y st2 =>
            dsimp only [DL.Res.bind]
            cases DL.cmpD o1 x y st2 with
            | none => rfl
            | some k =>
              cases k with
              | false => rfl
              | true =>
                dsimp only
                cases DL.evE C ρ d st2 with
                | bad => rfl
                | exc _ _ => rfl
                | ok z st3 =>
                  dsimp only [DL.Res.bind]
                  cases DL.cmpD o2 y z st3 <;> rfl
    | [], _, h | [_], _, h | _ :: _ :: _ :: _, _, h | [_, _], [], h | [_, _], [_], h | [_, _], _ :: _ :: _ :: _, h => simp [ck] at h
  | .and es, sc, t, e, ss, W, X, h, c => by
    cases e <;> first | (simp [ck] at h; done) | skip
    rename_i op xs pos
    cases op <;> first | (simp [ck] at h; done) | skip
    simp only [ck, Bool.and_eq_true] at h
    obtain ⟨h0, h1⟩ := h
    have := ok_and es sc t xs pos ss W X (by intro z; subst z; cases h0) h1 c
    exact ⟨fun ht => pe_eq (fun ρ st => by rw [DL.evE]) (this.1 ht), fun ht => pt_eq (fun ρ st => by dsimp only [mT]; rw [DL.evE]) (this.2 ht).pt⟩
  | .or es, sc, t, e, ss, W, X, h, c => by
    cases e <;> first | (simp [ck] at h; done) | skip
    rename_i op xs pos
    cases op <;> first | (simp [ck] at h; done) | skip
    simp only [ck, Bool.and_eq_true] at h
    obtain ⟨h0, h1⟩ := h
    have := ok_or es sc t xs pos ss W X (by intro z; subst z; cases h0) h1 c
    exact ⟨fun ht => pe_eq (fun ρ st => by rw [DL.evE]) (this.1 ht), fun ht => pt_eq (fun ρ st => by dsimp only [mT]; rw [DL.evE]) (this.2 ht).pt⟩
  | .not a, sc, t, e, ss, W, X, h, c => by
    cases e <;> first | (simp [ck] at h; done) | skip
    rename_i op x pos
    cases op <;> first | (simp [ck] at h; done) | skip
    simp only [ck] at h
    have := ok_ck a sc t _ ss W X h c
    refine ⟨fun ht => pe_eq (fun ρ st => by rw [DL.evE]) (d_notV c.K (this.1 ht)), fun ht => pt_eq (fun ρ st => ?_) (d_not (this.2 ht))⟩
    dsimp only [mT]
    rw [DL.evE]
    exact mT_not
  | .neg a, sc, t, e, ss, W, X, h, c => by
    cases e <;> first | (simp [ck] at h; done) | skip
    rename_i op x pos
    cases op <;> first | (simp [ck] at h; done) | skip
    simp only [ck] at h
    exact Jd.eq (fun ρ st => by rw [DL.evE]; try rfl) (leaf c.K (d_neg ((ok_ck a sc false _ ss W X h c).1 rfl)) fun _ => rfl)
  | .ife d a b, sc, t, e, ss, W, X, h, c => by
    cases e <;> first | (simp [ck] at h; done) | skip
    simp only [ck, Bool.and_eq_true, Bool.not_eq_true'] at h
    obtain ⟨h0, h1, h2, h3⟩ := h
    refine ⟨fun ht => pe_eq (fun ρ st => ?_) (d_ife ((ok_ck d sc true _ ss W X h1 c).2 rfl) ((ok_ck a sc false _ ss W X h2 c).1 rfl) ((ok_ck b sc false _ ss W X h3 c).1 rfl)), fun ht => by rw [h0] at ht; cases ht⟩
    rw [DL.evE]
    dsimp only [mT]
    cases DL.evE C ρ d st with
    | bad => rfl
    | exc _ _ => rfl
    | ok x st1 =>
      dsimp only [DL.Res.bind]
      cases DL.truD x st1 with
      | none => rfl
      | some k => cases k <;> rfl
  | .tup es, sc, t, e, ss, W, X, h, c => by
    cases e <;> first | (simp [ck] at h; done) | skip
    simp only [ck] at h
    exact Jd.eq (fun ρ st => by rw [DL.evE]) (leaf c.K (d_tup (ok_es es sc _ ss W X h c).1) fun _ => rfl)
  | .lst es, sc, t, e, ss, W, X, h, c => by
    cases e <;> first | (simp [ck] at h; done) | skip
    simp only [ck] at h
    exact Jd.eq (fun ρ st => by rw [DL.evE]) (leaf c.K (d_lst (ok_es es sc _ ss W X h c).1) fun _ => rfl)
  | .dic tk, sc, t, e, ss, W, X, h, c => by
    cases e <;> first | (simp [ck] at h; done) | skip
    rename_i ks vs pos
    cases ks <;> cases vs <;> first | (simp [ck] at h; done) | skip
    exact Jd.eq (fun ρ st => by rw [DL.evE]) (leaf c.K d_dic fun _ => rfl)
  | .ix a b, sc, t, e, ss, W, X, h, c => by
    cases e <;> first | (simp [ck] at h; done) | skip
    simp only [ck, Bool.and_eq_true] at h
    obtain ⟨h1, h2, h3⟩ := h
    exact Jd.eq (fun ρ st => by rw [DL.evE]) (leaf c.K (d_ix c.K c.hu ((ok_ck a sc false _ ss W X h2 c).1 rfl) ((ok_ck b sc false _ ss W X h3 c).1 rfl) (plainIx_of h1)) fun _ => rfl)
  | .sl a lo hi, sc, t, e, ss, W, X, h, c => by
    cases e <;> first | (simp [ck] at h; done) | skip
    rename_i x y pos
    cases y <;> first | (simp [ck] at h; done) | skip
    rename_i l h' s p2
    cases s <;> first | (simp [ck] at h; done) | skip
    have part : ∀ (f : E), (∀ e' ss W X, ck tb sc false f e' = true → CtxOk G tb C k W sc ss X → Jd G W X false e' fun ρ st => DL.evE C ρ f st) → ∀ (o : Option Expr), (match f, o with
        | .nop, none => true
        | .nop, some _ => false
        | _, some e' => ck tb sc false f e'
        | _, none => false) = true → PO X o (tDO G W fun ρ st => DL.evP C ρ f st) := by
      intro f ih o ho
      by_cases hf : f = .nop
      · subst hf
        cases o with
        | none => exact po_eq (fun ρ st => by rw [DL.evP]) d_nopart
        | some _ => cases ho
      · cases o with
        | none => cases f <;> first | exact absurd rfl hf | cases ho
        | some e' =>
          have ho' : ck tb sc false f e' = true := by cases f <;> first | exact absurd rfl hf | exact ho
          exact po_eq (fun ρ st => (evP_ne hf).symm) (d_part ((ih e' ss W X ho' c).1 rfl))
    rw [ck.eq_def] at h
    dsimp only at h
    rw [Bool.and_eq_true, Bool.and_eq_true] at h
    obtain ⟨h1, h2, h3⟩ := h
    exact Jd.eq (fun ρ st => by rw [DL.evE]) (leaf c.K (d_sl c.K ((ok_ck a sc false _ ss W X h1 c).1 rfl) (part lo (fun e' ss W X => ok_ck lo sc false e' ss W X) _ h2) (part hi (fun e' ss W X => ok_ck hi sc false e' ss W X) _ h3)) fun _ => rfl)
  | .call f es, sc, t, e, ss, W, X, h, c => by
    cases e <;> first | (simp [ck] at h; done) | skip
    rename_i fn as ks pos
    cases fn <;> first | (simp [ck] at h; done) | skip
    cases ks <;> first | (simp [ck] at h; done) | skip
    simp only [ck, Bool.and_eq_true] at h
    obtain ⟨h1, h2, h3, h4⟩ := h
    obtain ⟨p1, p2, p3⟩ := ok_es es sc _ ss W X h4 c
    refine Jd.eq (fun ρ st => by rw [DL.evE]) (leaf c.K (call_pe c h1 h2 (of_decide_eq_true h3) p1 p2 fun z ρ st => ?_) fun _ => rfl)
    subst z
    cases es with
    | nil => rw [DL.evEs]
    | cons _ _ => cases p3
  | .bi b es, sc, t, e, ss, W, X, h, c => by
    cases e <;> first | (simp [ck] at h; done) | skip
    rename_i fn as ks pos
    cases fn <;> first | (simp [ck] at h; done) | skip
    cases ks <;> first | (simp [ck] at h; done) | skip
    simp only [ck, Bool.and_eq_true, Bool.not_eq_true'] at h
    obtain ⟨h1, h2, h3, h4, h5⟩ := h
    obtain ⟨p1, p2, p3⟩ := ok_es es sc _ ss W X h5 c
    exact Jd.eq (fun ρ st => by rw [DL.evE]) (leaf c.K (bi_pe c h1 (of_decide_eq_true h2) h3 (of_decide_eq_true h4) (fun ρ st ds st' q => by rw [evEs_len q, p3]) p1 p2) fun _ => rfl)
  | .isi a T, sc, t, e, ss, W, X, h, c => by
    cases e <;> first | (simp [ck] at h; done) | skip
    rename_i fn as ks pos
    cases fn <;> first | (simp [ck] at h; done) | skip
    cases ks <;> first | (simp [ck] at h; done) | skip
    match as, h with
    | [y, .Name z p2], h =>
      simp only [ck, Bool.and_eq_true] at h
      obtain ⟨h1, h2, h3, h4⟩ := h
      exact Jd.eq (fun ρ st => by rw [DL.evE]) (leaf c.K (isi_pe c h1 h2 h3 ((ok_ck a sc false _ ss W X h4 c).1 rfl)) fun _ => rfl)
    | [], h | [_], h | _ :: _ :: _ :: _, h => simp [ck] at h
    | [y, w], h =>
      cases w <;> first | (simp [ck] at h; done) | skip
      simp only [ck, Bool.and_eq_true] at h
      obtain ⟨h1, h2, h3, h4⟩ := h
      exact Jd.eq (fun ρ st => by rw [DL.evE]) (leaf c.K (isi_pe c h1 h2 h3 ((ok_ck a sc false _ ss W X h4 c).1 rfl)) fun _ => rfl)
  | .me m a es, sc, t, e, ss, W, X, h, c => by
    cases e <;> first | (simp [ck] at h; done) | skip
    rename_i fn as ks pos
    cases fn <;> first | (simp [ck] at h; done) | skip
    cases ks <;> first | (simp [ck] at h; done) | skip
    simp only [ck, Bool.and_eq_true, Bool.not_eq_true'] at h
    obtain ⟨h1, h2, h3, h4, h5, h6, h7⟩ := h
    obtain ⟨p1, p2, p3⟩ := ok_es es sc _ ss W X h7 c
    exact Jd.eq (fun ρ st => by rw [DL.evE]) (leaf c.K (me_pe c (of_decide_eq_true h1) h2 (of_decide_eq_true h3) h4 (of_decide_eq_true h5) ((ok_ck a sc false _ ss W X h6 c).1 rfl) p1 p2) fun _ => rfl)
  | .lc elt tg src ifs own, sc, t, e, ss, W, X, h, c => by
    cases e <;> first | (simp [ck] at h; done) | skip
    rename_i x gs scope pos
    match gs, h with
    | [⟨tg', it, ifs', q⟩], h =>
      have hq : q = 0 := by
        by_cases hq : q = 0
        · exact hq
        · simp [ck, hq] at h
      subst hq
      rw [ck.eq_def] at h
      dsimp only at h
      simp only [Bool.and_eq_true] at h
      obtain ⟨hB, hG, hS, hF, hI, hL, hT, hE⟩ := h
      have hi : PI X tg' it (tI G W fun ρ st => DL.evI C ρ src st) := by
        clear hT hE hL hF hS hG hB
        match src, hI with
        | .rng es, hI =>
          cases it <;> first | (cases hI; done) | skip
          rename_i fn as ks pos _
          cases fn <;> first | (cases hI; done) | skip
          cases ks <;> first | (cases hI; done) | skip
          simp only [Bool.and_eq_true] at hI
          obtain ⟨h1, h2, h3⟩ := hI
          obtain ⟨p1, p2, p3⟩ := ok_es es sc _ ss W X h3 c
          exact pi_eq (fun ρ st => by rw [DL.evI]) (rng_pi c h1 (of_decide_eq_true h2) (fun ρ st ds st' q => by rw [evEs_len q, p3]) p1 p2)
        | .enum a, hI =>
          cases it <;> first | (cases hI; done) | skip
          rename_i fn as ks pos _
          cases fn <;> first | (cases hI; done) | skip
          match as, ks, hI with
          | [z], [], hI =>
            simp only [Bool.and_eq_true] at hI
            obtain ⟨h1, h2, h3, h4⟩ := hI
            obtain ⟨rfl, g, m⟩ := c.gnm h1 (by decide)
            cases tg' <;> first | (cases h2; done) | skip
            exact pi_eq (fun ρ st => by rw [DL.evI]; try rfl) (d_enum c.K g m ((ok_ck a sc false _ ss W X h4 c).1 rfl) (not_star h3))
          | [], _, hI | [_], _ :: _, hI | _ :: _ :: _, _, hI => cases hI
        | .nop, hI | .var _, hI | .cst _, hI | .bin _ _ _, hI | .cmp _ _ _, hI | .chain _ _ _ _ _, hI | .and _, hI | .or _, hI | .not _, hI | .neg _, hI | .ife _ _ _, hI | .tup _, hI | .lst _, hI | .dic _, hI | .ix _ _, hI | .sl _ _ _, hI | .rev _, hI | .call _ _, hI | .bi _ _, hI | .isi _ _, hI | .me _ _ _, hI | .lc _ _ _ _ _, hI | .zip _ _, hI =>
          exact pi_eq (fun ρ st => (evI_ne rfl).symm) (d_seq c.K ((ok_ck _ sc false _ ss W X hI c).1 rfl))
      have hg := fun s H A cl fp => ckG_ok (c.blk hB s H A cl fp) tg tg' hG
      have ht := fun s H A cl fp => ok_ifs ifs (relS scope sc) ifs' scope W0 _ hT (of_decide_eq_true hL) (c.blk hB s H A cl fp)
      have he := fun s H A cl fp => (ok_ck elt (relS scope sc) false x scope W0 _ hE (c.blk hB s H A cl fp)).1 rfl
      have p := pe_lc c.calm c.nd hi (by rw [c.N, c.sc]; exact blkB_ok hB) hg ht he (folded_of hF) (pos := pos)
      refine Jd.eq (fun ρ st => ?_) (leaf c.K (PEi p (d_lc (X := X) (elt := x) (tg := tg') (iter := it) (ifs := ifs') (scope := scope) (pos := pos) rfl fun i hi => ?_)) fun _ => rfl)
      · rw [DL.evE, own_map]
        try rfl
      · rw [own_map]
        have := List.all_eq_true.mp hS i hi
        rw [List.any_eq_true] at this
        obtain ⟨q, hq, e⟩ := this
        exact List.mem_map.mpr ⟨q, hq, by simpa using e⟩
    | [], h | _ :: _ :: _, h => simp [ck] at h
  | .nop, sc, t, e, ss, W, X, h, c | .rev _, sc, t, e, ss, W, X, h, c | .rng _, sc, t, e, ss, W, X, h, c | .enum _, sc, t, e, ss, W, X, h, c | .zip _ _, sc, t, e, ss, W, X, h, c => by simp [ck] at h
theorem ok_es : ∀ (irs : List E) (sc : Scope) (es : List Expr) (ss : Scope) (W : WX) (X : Cx), ckEs tb sc irs es = true → CtxOk G tb C k W sc ss X → PA X es (tDA G W fun ρ st => DL.evEs C ρ irs st) ∧ es.all noSt = true ∧ irs.length = es.length
  | [], sc, es, ss, W, X, h, c => by
    cases es with
    | nil => exact ⟨pa_eq (fun ρ st => by rw [DL.evEs]) d_nil, rfl, rfl⟩
    | cons _ _ => simp [ckEs] at h
  | a :: irs, sc, es, ss, W, X, h, c => by
    cases es with
    | nil => simp [ckEs] at h
    | cons e es =>
      simp only [ckEs, Bool.and_eq_true] at h
      obtain ⟨h0, h1, h2⟩ := h
      obtain ⟨p1, p2, p3⟩ := ok_es irs sc es ss W X h2 c
      exact ⟨pa_eq (fun ρ st => by rw [DL.evEs]) (d_cons (not_star h0) ((ok_ck a sc false e ss W X h1 c).1 rfl) p1), by rw [List.all_cons, h0, p2]; rfl, by rw [List.length_cons, List.length_cons, p3]⟩
theorem ok_and : ∀ (irs : List E) (sc : Scope) (t : Bool) (es : List Expr) (pos : Pos) (ss : Scope) (W : WX) (X : Cx), es ≠ [] → ckN tb sc t irs es = true → CtxOk G tb C k W sc ss X →
    (t = false → PE X (.BoolOp .And es pos) (tD G W fun ρ st => DL.evAnd C ρ irs st)) ∧ (t = true → PW X (.BoolOp .And es pos) (tDT G W (mT fun ρ st => DL.evAnd C ρ irs st)))
  | [], sc, t, es, pos, ss, W, X, hne, h, c => by
    cases es with
    | nil => exact absurd rfl hne
    | cons _ _ => simp [ckN] at h
  | a :: irs, sc, t, es, pos, ss, W, X, hne, h, c => by
    cases es with
    | nil => exact absurd rfl hne
    | cons e es =>
      simp only [ckN, Bool.and_eq_true] at h
      obtain ⟨h1, h2⟩ := h
      have ha := ok_ck a sc t e ss W X h1 c
      cases es with
      | nil =>
        cases irs with
        | cons _ _ => simp [ckN] at h2
        | nil => exact ⟨fun ht => pe_eq (fun ρ st => evAnd1.symm) (d_and1 (ha.1 ht)), fun ht => pw_eq (fun ρ st => by dsimp only [mT]; rw [evAnd1]; try rfl) (d_andT1 (ha.2 ht))⟩
      | cons e2 es =>
        have ih := ok_and irs sc t (e2 :: es) pos ss W X (by simp) h2 c
        exact ⟨fun ht => pe_eq (fun ρ st => by rw [DL.evAnd]; try rfl) (d_andC (ha.1 ht) (ih.1 ht)), fun ht => pw_eq (fun ρ st => by dsimp only [mT]; rw [DL.evAnd]; try rfl) (d_andTC (ha.2 ht) (ih.2 ht))⟩
theorem ok_or : ∀ (irs : List E) (sc : Scope) (t : Bool) (es : List Expr) (pos : Pos) (ss : Scope) (W : WX) (X : Cx), es ≠ [] → ckN tb sc t irs es = true → CtxOk G tb C k W sc ss X →
    (t = false → PE X (.BoolOp .Or es pos) (tD G W fun ρ st => DL.evOr C ρ irs st)) ∧ (t = true → PW X (.BoolOp .Or es pos) (tDT G W (mT fun ρ st => DL.evOr C ρ irs st)))
  | [], sc, t, es, pos, ss, W, X, hne, h, c => by
    cases es with
    | nil => exact absurd rfl hne
    | cons _ _ => simp [ckN] at h
  | a :: irs, sc, t, es, pos, ss, W, X, hne, h, c => by
    cases es with
    | nil => exact absurd rfl hne
    | cons e es =>
      simp only [ckN, Bool.and_eq_true] at h
      obtain ⟨h1, h2⟩ := h
      have ha := ok_ck a sc t e ss W X h1 c
      cases es with
      | nil =>
        cases irs with
        | cons _ _ => simp [ckN] at h2
        | nil => exact ⟨fun ht => pe_eq (fun ρ st => evOr1.symm) (d_or1 (ha.1 ht)), fun ht => pw_eq (fun ρ st => by dsimp only [mT]; rw [evOr1]; try rfl) (d_orT1 (ha.2 ht))⟩
      | cons e2 es =>
        have ih := ok_or irs sc t (e2 :: es) pos ss W X (by simp) h2 c
        exact ⟨fun ht => pe_eq (fun ρ st => by rw [DL.evOr]; try rfl) (d_orC (ha.1 ht) (ih.1 ht)), fun ht => pw_eq (fun ρ st => by dsimp only [mT]; rw [DL.evOr]; try rfl) (d_orTC (ha.2 ht) (ih.2 ht))⟩
theorem ok_ifs : ∀ (irs : List E) (sc : Scope) (es : List Expr) (ss : Scope) (W : WX) (X : Cx), ckN tb sc true irs es = true → es.length ≤ 1 → CtxOk G tb C k W sc ss X → PTs X es (tDT G W fun ρ st => DL.evIfs C ρ irs st)
  | [], sc, es, ss, W, X, h, hl, c => by
    cases es with
    | cons _ _ => simp [ckN] at h
    | nil =>
      refine ⟨fun pins s σ H Q I ⟨ι, ρ, st, hρ, S, h⟩ => pts_nil.run pins s σ H Q I ?_⟩
      dsimp only at h
      rw [DL.evIfs] at h
      exact h true H ι Ext.refl S rfl
  | a :: irs, sc, es, ss, W, X, h, hl, c => by
    cases es with
    | nil => simp [ckN] at h
    | cons e es =>
      cases es with
      | cons _ _ => simp at hl
      | nil =>
        simp only [ckN, Bool.and_eq_true] at h
        obtain ⟨h1, h2⟩ := h
        cases irs with
        | cons _ _ => simp [ckN] at h2
        | nil =>
          have := pts_one (pt_eq (fun ρ st => evIfs1.symm) ((ok_ck a sc true e ss W X h1 c).2 rfl))
          exact this
end
/-- a loop's source -/
def ckI (tb : Tb) (sc : Scope) (src : E) (tg' it : Expr) : Bool := match src with
        | .rng es => (match it with
          | .Call (.Name y _) ys [] _ => gnm sc y "range" && (decide (1 ≤ ys.length ∧ ys.length ≤ 3) && ckEs tb sc es ys)
          | _ => false)
        | .enum a => (match it with
          | .Call (.Name y _) [z] [] _ => gnm sc y "enumerate" && (isTup tg' && (noSt z && ck tb sc false a z))
          | _ => false)
        | _ => ck tb sc false src it
theorem ckI_ok {sc ss : Scope} {W : WX} {X : Cx} {src : E} {tg' it : Expr} (c : CtxOk G tb C k W sc ss X) (hI : ckI tb sc src tg' it = true) : PI X tg' it (tI G W fun ρ st => DL.evI C ρ src st) := by
  unfold ckI at hI
  match src, hI with
  | .rng es, hI =>
    cases it <;> first | (cases hI; done) | skip
    rename_i fn as ks pos _
    cases fn <;> first | (cases hI; done) | skip
    cases ks <;> first | (cases hI; done) | skip
    simp only [Bool.and_eq_true] at hI
    obtain ⟨h1, h2, h3⟩ := hI
    obtain ⟨p1, p2, p3⟩ := ok_es es sc _ ss W X h3 c
    exact pi_eq (fun ρ st => by rw [DL.evI]) (rng_pi c h1 (of_decide_eq_true h2) (fun ρ st ds st' q => by rw [evEs_len q, p3]) p1 p2)
  | .enum a, hI =>
    cases it <;> first | (cases hI; done) | skip
    rename_i fn as ks pos _
    cases fn <;> first | (cases hI; done) | skip
    match as, ks, hI with
    | [z], [], hI =>
      simp only [Bool.and_eq_true] at hI
      obtain ⟨h1, h2, h3, h4⟩ := hI
      obtain ⟨rfl, g, m⟩ := c.gnm h1 (by decide)
      cases tg' <;> first | (cases h2; done) | skip
      exact pi_eq (fun ρ st => by rw [DL.evI]; try rfl) (d_enum c.K g m ((ok_ck a sc false _ ss W X h4 c).1 rfl) (not_star h3))
    | [], _, hI | [_], _ :: _, hI | _ :: _ :: _, _, hI => cases hI
  | .nop, hI | .var _, hI | .cst _, hI | .bin _ _ _, hI | .cmp _ _ _, hI | .chain _ _ _ _ _, hI | .and _, hI | .or _, hI | .not _, hI | .neg _, hI | .ife _ _ _, hI | .tup _, hI | .lst _, hI | .dic _, hI | .ix _ _, hI | .sl _ _ _, hI | .rev _, hI | .call _ _, hI | .bi _ _, hI | .isi _ _, hI | .me _ _ _, hI | .lc _ _ _ _ _, hI | .zip _ _, hI =>
    exact pi_eq (fun ρ st => (evI_ne rfl).symm) (d_seq c.K ((ok_ck _ sc false _ ss W X hI c).1 rfl))
end
end DS

set_option Elab.async false
set_option linter.all false
set_option maxRecDepth 100000
set_option maxHeartbeats 8000000
/-! own errors by data: made, raised -/
namespace DS
open PySem PySem.Spec PyProof.Rows L2
open DL (D Cell Store DX Res SRes E)

/-- a class over ValueError whose __init__ is ValueError's, as a place to call it from -/
structure BaseX (K : PySem.W.Frag) (S : Addr) : Prop where
  ty : PySem.W.typeIn K (.ref S) = some (.type "type")
  ga : PySem.W.specialIn K (.ref S) "__getattribute__" = some (some (.builtin "type.__getattribute__"))
  rd : PySem.W.readsIn K S (.type "type") = true
  fi : PySem.W.findCls K (.ref S) (.type "type") "__init__" = some (.val (.builtin "ValueError.__init__"))
section
variable {X : Cx} {e : Expr} {es : List Expr} {ta : TA} {p1 p2 pos : Pos}
theorem pe_owninit {x : Str} {S : Addr} {pl : Sem Bool} (hg : L2.Gl X x) (hm : X.mg x = some (.ref S)) (B : BaseX X.K S) (hd : (x == ("__debug__" : Str)) = false) (ha : PA X (e :: es) ta)
    (hc : eval (.Call (.Attribute (.Name x p1) "__init__" p2) (e :: es) [] pos) X.env = (do
      let ov ← eval (.Name x p1) X.env
      standAt p2.atName
      let (f, first) ← holding [ov] (getMethod ov "__init__" pl)
      callWith pos f first (backTo pos (starEach (e :: es) X.env)) (backToKw pos (keywordEach [] X.env))) := by rfl)
    (he : starEach (e :: es) X.env = (false, eval e X.env) :: starEach es X.env := by rfl) (hpl : (backTo pos (starEach es X.env)).any (·.1) = false := by rfl) :
    PE X (.Call (.Attribute (.Name x p1) "__init__" p2) (e :: es) [] pos) (tVeI X.K ta) := by
  refine ⟨fun pins s σ H Q I h => ?_⟩
  refine PySem.W.methodCall_KW (ld_glob I hg hm ?_ hd) hc
  refine PySem.W.method_cls I.kIn B.ga (PySem.W.cls_value I.kIn B.rd B.fi (by decide +kernel) ?_)
  show wpAny _ _ (callWith pos (Value.builtin "ValueError.__init__") [] (backTo pos (starEach (e :: es) X.env)) []) _ _ _
  refine PyProof.Rows.callWith_method1 (thn (ha.run pos pins _ σ H _ (I.tok _) h) fun us s1 ⟨vs, H1, I1, r1, a, C, ws, ev, hl, T, ea, q⟩ => ?_) he hpl
  subst ev
  cases r1 with
  | @cons _ u0 _ ur ra rw' =>
    obtain rfl : u0 = Value.ref a := ra
    have hlen : ur.length ≤ sizeLine := by
      rw [← Paired.length rw', sizeLine_eq]
      omega
    exact oinit_ok T I1 ea hlen fun s' J => ⟨.non, H1, J, rfl, q⟩
end

/-- what the __init__ of such a class does: the fields stand -/
def spInit (K : PySem.W.Frag) (C : Addr) (fl : List Str) : Sp := fun vs H Q _ => ∃ a ws, vs = .ref a :: ws ∧ ws.length = fl.length ∧ H a = some (exo a C none) ∧
  ∀ dx H2, H dx = none → dx ≠ a → H2 a = some (exo a C (some dx)) → H2 dx = some (exd dx (fl.zip ws).reverse) → (∀ b, b ≠ a → b ≠ dx → H2 b = H b) → Q .non H2
section
variable {P : Program} {w : World} {K : PySem.W.Frag} {mg : Str → Option Value} {base : Heap}
theorem init1 {x qual f1 : Str} {st : Stmt} {f C S : Addr} {fd : FuncData} {k : Nat} (F : Fun K "__init__" qual st f fd) (Sc : FnScope ["self", f1] ["self", f1] (defScope st)) (T : OexC K C) (B : BaseX K S) (hno : PySem.W.findIn K (.ref C) f1 = some none)
    (hg : (defScope st).names.lookup x = some .globalImplicit) (hm : mg x = some (.ref S)) (hd : (x == ("__debug__" : Str)) = false) (hd1 : (f1 == ("__debug__" : Str)) = false) (hd2 : (f1 == ("__classdict__" : Str)) = false)
    {p1 p2 p3 p4 p5 p6 p7 p8 p9 p10 : Pos}
    (hc : ∀ env, ∃ pl, eval (.Call (.Attribute (.Name x p1) "__init__" p2) [.Name "self" p3, .Name f1 p4] [] p5) env = (do
      let ov ← eval (.Name x p1) env
      standAt p2.atName
      let (f, first) ← holding [ov] (getMethod ov "__init__" pl)
      callWith p5 f first (backTo p5 (starEach [.Name "self" p3, .Name f1 p4] env)) (backToKw p5 (keywordEach [] env))))
    (hb : defBody st = [.Expr (.Call (.Attribute (.Name x p1) "__init__" p2) [.Name "self" p3, .Name f1 p4] [] p5) p6, .Assign [.Attribute (.Name "self" p7) f1 p8] (.Name f1 p9) p10]) :
    FnOk P w K mg base (L2.CX P w) (k + 1) f fd ["self", f1] (spInit K C [f1]) := by
  have v1 : Vis (defScope st) "self" := (Sc.par "self" (by simp)).imp id .inl
  have v2 : Vis (defScope st) f1 := (Sc.par f1 (by simp)).imp id .inl
  refine F.okX Sc (fun vs H Q E h => ?_) (fun cdv A outer s H vs Q E hr h => ?_)
  · obtain ⟨a, ws, rfl, hl, _⟩ := h
    simp only [List.length_cons, List.length_nil] at hl ⊢
    omega
  · obtain ⟨a, ws, rfl, hl, ha, q⟩ := h
    obtain ⟨y, rfl⟩ : ∃ y, ws = [y] := by
      cases ws with
      | nil => cases hl
      | cons y r => cases r with | nil => exact ⟨y, rfl⟩ | cons _ _ => simp at hl
    rw [hb]
    obtain ⟨pl, hc⟩ := hc (envOfC qual (defScope st) s.heap.objs.size f cdv)
    refine ⟨_, pss_cons (ps_expr (pe_owninit (S := S) hg hm B hd (pa_cons (pe_var (i := 0) rfl v1) (pa_cons (pe_var (i := 1) rfl v2 hd1 hd2) pa_nil)) hc)) (pss_one (ps_ost (pe_var (i := 0) rfl v1) (pe_var (i := 1) rfl v2 hd1 hd2))), ?_⟩
    · refine ⟨.ref a, rfl, y, rfl, a, C, [y], rfl, by simp, T, ha, y, rfl, .ref a, rfl, a, C, rfl, T, hno, .inl ⟨ha, fun dx n ne => ?_⟩⟩
      exact q dx _ n ne upd_same (by rw [upd_ne ne, upd_same]; rfl) fun b h1 h2 => by rw [upd_ne h1, upd_ne h2]
theorem init2 {x qual f1 f2 : Str} {st : Stmt} {f C S : Addr} {fd : FuncData} {k : Nat} (F : Fun K "__init__" qual st f fd) (Sc : FnScope ["self", f1, f2] ["self", f1, f2] (defScope st)) (T : OexC K C) (B : BaseX K S) (hno : PySem.W.findIn K (.ref C) f1 = some none) (hno2 : PySem.W.findIn K (.ref C) f2 = some none)
    (hg : (defScope st).names.lookup x = some .globalImplicit) (hm : mg x = some (.ref S)) (hd : (x == ("__debug__" : Str)) = false) (hd1 : (f1 == ("__debug__" : Str)) = false) (hd2 : (f1 == ("__classdict__" : Str)) = false) (hd3 : (f2 == ("__debug__" : Str)) = false) (hd4 : (f2 == ("__classdict__" : Str)) = false)
    {p1 p2 p3 p4 p5 p6 p7 p8 p9 p10 p11 p12 p13 p14 p15 : Pos}
    (hc : ∀ env, ∃ pl, eval (.Call (.Attribute (.Name x p1) "__init__" p2) [.Name "self" p3, .Name f1 p4, .Name f2 p11] [] p5) env = (do
      let ov ← eval (.Name x p1) env
      standAt p2.atName
      let (f, first) ← holding [ov] (getMethod ov "__init__" pl)
      callWith p5 f first (backTo p5 (starEach [.Name "self" p3, .Name f1 p4, .Name f2 p11] env)) (backToKw p5 (keywordEach [] env))))
    (hb : defBody st = [.Expr (.Call (.Attribute (.Name x p1) "__init__" p2) [.Name "self" p3, .Name f1 p4, .Name f2 p11] [] p5) p6, .Assign [.Attribute (.Name "self" p7) f1 p8] (.Name f1 p9) p10, .Assign [.Attribute (.Name "self" p12) f2 p13] (.Name f2 p14) p15]) :
    FnOk P w K mg base (L2.CX P w) (k + 1) f fd ["self", f1, f2] (spInit K C [f1, f2]) := by
  have v1 : Vis (defScope st) "self" := (Sc.par "self" (by simp)).imp id .inl
  have v2 : Vis (defScope st) f1 := (Sc.par f1 (by simp)).imp id .inl
  have v3 : Vis (defScope st) f2 := (Sc.par f2 (by simp)).imp id .inl
  refine F.okX Sc (fun vs H Q E h => ?_) (fun cdv A outer s H vs Q E hr h => ?_)
  · obtain ⟨a, ws, rfl, hl, _⟩ := h
    simp only [List.length_cons, List.length_nil] at hl ⊢
    omega
  · obtain ⟨a, ws, rfl, hl, ha, q⟩ := h
    obtain ⟨y, z, rfl⟩ : ∃ y z, ws = [y, z] := by
      match ws, hl with
      | [y, z], _ => exact ⟨y, z, rfl⟩
    rw [hb]
    obtain ⟨pl, hc⟩ := hc (envOfC qual (defScope st) s.heap.objs.size f cdv)
    refine ⟨_, pss_cons (ps_expr (pe_owninit (S := S) hg hm B hd (pa_cons (pe_var (i := 0) rfl v1) (pa_cons (pe_var (i := 1) rfl v2 hd1 hd2) (pa_cons (pe_var (i := 2) rfl v3 hd3 hd4) pa_nil))) hc))
        (pss_cons (ps_ost (pe_var (i := 0) rfl v1) (pe_var (i := 1) rfl v2 hd1 hd2)) (pss_one (ps_ost (pe_var (i := 0) rfl v1) (pe_var (i := 2) rfl v3 hd3 hd4)))), ?_⟩
    · refine ⟨.ref a, rfl, y, rfl, z, rfl, a, C, [y, z], rfl, by simp, T, ha, y, rfl, .ref a, rfl, a, C, rfl, T, hno, .inl ⟨ha, fun dx n ne => ?_⟩⟩
      refine ⟨z, rfl, .ref a, rfl, a, C, rfl, T, hno2, .inr ⟨dx, [(f1, y)], upd_same, by rw [upd_ne ne, upd_same], by simp, ?_⟩⟩
      exact q dx _ n ne (by rw [upd_ne (fun z => ne z.symm), upd_same]) upd_same fun b h1 h2 => by rw [upd_ne h2, upd_ne h1, upd_ne h2]
end

/-- what is known of an own error class: its index in the data, its fields -/
structure XFact (G : Gl) (X : Cx) (k : Nat) (x : Str) (c : Nat) (fl : List String) : Prop where
  ex : ∃ (C fI : Addr) (fd : FuncData), G.xa c = some C ∧ X.mg x = some (.ref C) ∧ OexC X.K C ∧ PySem.W.findIn X.K (.ref C) "__init__" = some (some (.ref fI)) ∧ PySem.W.typeIn X.K (.ref fI) = some (.type "function") ∧
    FnOk X.prog X.w X.K X.mg X.base (L2.CX X.prog X.w) k fI fd ("self" :: fl.map Str.ofString) (spInit X.K C (fl.map Str.ofString)) ∧ Binds X.K fd ("self" :: fl.map Str.ofString) []
  nd : (fl.map Str.ofString).Nodup
  le : fl.length ≤ 1000

theorem ofString_eq {a b : String} (h : a = b) : Str.ofString a = Str.ofString b := by rw [h]
theorem zip_look {G : Gl} {ι : List Addr} {H : Hp} : ∀ {fl : List String} {ds : List D} {vs : List V}, (fl.map Str.ofString).Nodup → RepL G ι H ds vs → ∀ n d, (fl.zip ds).lookup n = some d → ∃ v, ((fl.map Str.ofString).zip vs).reverse.lookup (Str.ofString n) = some v ∧ Rep G ι H d v
  | [], ds, vs, _, _, n, d, h => by cases h
  | f :: fl, [], vs, _, _, n, d, h => by cases h
  | f :: fl, e :: ds, vs, hn, r, n, d, h => by
    obtain ⟨v, vs, rfl, r1, r2⟩ := r
    rw [List.map_cons, List.nodup_cons] at hn
    rw [List.zip_cons_cons, List.lookup_cons] at h
    rw [List.map_cons, List.zip_cons_cons, List.reverse_cons]
    split at h
    · rename_i he
      cases h
      obtain rfl : n = f := by simpa using he
      refine ⟨v, ?_, r1⟩
      have none_ : ((fl.map Str.ofString).zip vs).reverse.lookup (Str.ofString n) = none := by
        rw [List.lookup_eq_none_iff]
        intro p hp
        rw [List.mem_reverse] at hp
        have := (List.of_mem_zip hp).1
        simp only [beq_eq_false_iff_ne, ne_eq, bne_iff_ne]
        intro z
        rw [z] at hn
        exact hn.1 this
      rw [List.lookup_append, none_]
      simp
    · obtain ⟨v', h1, h2⟩ := zip_look hn.2 r2 n d h
      exact ⟨v', by rw [List.lookup_append, h1]; rfl, h2⟩
section
variable {G : Gl} {X : Cx} {W : WX} {p p' : Pos} {e : Expr} {es : List Expr} {me : DL.Env → Store → Res (List D)}
/-- raise C(e, ..) -/
theorem n_rais {x : Str} {c k : Nat} {fl : List String} (F : XFact G X k x c fl) (hc : X.calm = true) (tk : Takes X W) (hr : Room (k + 1) X.A) (hg : L2.Gl X x) (hd : (x == ("__debug__" : Str)) = false) (ha : PA X (e :: es) (tDA G W me))
    (hs : PySem.W.isStarred e = false) (hp : (backTo p (starEach es X.env)).any (·.1) = false) {q : Pos} :
    PS X (.Raise (some (.Call (.Name x q) (e :: es) [] p)) none p') (tS G W fun ρ st => .of ρ (me ρ st) fun ds st => if ds.length = fl.length then .exc ⟨c, fl.zip ds⟩ ρ st else .bad) := by
  obtain ⟨C, fI, fd, hxa, hm, T, iC, tI, F1, hb⟩ := F.ex
  refine PSi (ps_raise hc tk (pmk_oex T iC tI F1 hr hb .nil passL hg hm ha hd (star1 _ _ hs) hp)) fun D σ H ⟨ι, ρ, st, hρ, S, h⟩ => s_bind hρ S h fun ds st1 vs H1 ι1 e1 S1 r1 h1 => ?_
  split at h1
  rotate_left
  · exact h1.elim
  rename_i hl
  have hlv : vs.length = fl.length := by rw [← r1.length, hl]
  refine ⟨?_, fun a ha => ⟨a, vs ++ [], rfl, by simp [hlv], upd_same, fun dx H2 n ne ea ed oth => ⟨rfl, dx, _, ea, ed, ?_, ?_⟩⟩⟩
  · rw [hlv]; exact F.le
  · rwa [upd_ne ne] at n
  · rw [upd_ne ne] at n
    have eH : upd (del H2 a) dx (.xd ((fl.map Str.ofString).zip (vs ++ [])).reverse) = upd H1 dx (.xd ((fl.map Str.ofString).zip vs).reverse) := by
      rw [List.append_nil]
      funext b
      by_cases h1 : b = dx
      · rw [h1, upd_same, upd_same]
      · rw [upd_ne h1, upd_ne h1]
        by_cases h2 : b = a
        · rw [h2, del_same, ha]
        · rw [del_ne h2, oth b h2 h1, upd_ne h2]
    rw [eH]
    refine h1 (.ref C) (some dx) σ _ ι1 (Ext.laid n) (S1.laid n) ((hρ.mono e1).mono (Ext.laid n)) ⟨C, dx, _, hxa, rfl, rfl, upd_same, fun n' d hd => ?_⟩
    exact zip_look F.nd (r1.mono (Ext.laid n)) n' d hd
end
end DS

set_option Elab.async false
set_option linter.all false
set_option maxRecDepth 100000
set_option maxHeartbeats 8000000
/-! own errors by data: caught -/
namespace DS
open PySem PySem.Spec PyProof.Rows L2
open DL (D Cell Store DX Res SRes E XE Hs XCls)

/-- what the written part says of a class that is caught -/
structure HCls (K : PySem.W.Frag) (C : Addr) : Prop where
  xf : XfC K C
  cl : (PySem.W.clsIn K C).isSome = true
  ty : PySem.W.typeIn K (.ref C) = some (.type "type")
  sb : PySem.W.subIn K (.ref C) (.ref C) = some true
  ca : PySem.W.findIn K (.ref C) "__class__" = some (some (.builtin "object.__class__"))
  cn : PySem.W.specialIn K (.builtin "object.__class__") "__get__" = some (some (.builtin "getset_descriptor.__get__"))
  ct : PySem.W.takesIn K (.builtin "object.__class__") = some true
  cm : PySem.W.mroIn K C (.type "object") = some true
structure HFact (G : Gl) (X : Cx) (xc : List XCls) (xs : List Str) (c : Nat) (C : Addr) : Prop where
  xa : G.xa c = some C
  nm : ∃ x, xs[c]? = some x ∧ X.mg x = some (.ref C)
  h : HCls X.K C
  fl : ∀ n k, xc[c]? = some k → n ∈ k.flds → PySem.W.findIn X.K (.ref C) (Str.ofString n) = some none
  up : ∀ j k, xc[c]? = some k → k.up.contains j = true → ∃ y S, xs[j]? = some y ∧ X.mg y = some (.ref S) ∧ PySem.W.kitOne X.K (.ref C) (.ref S) = some true

/-- isinstance(e, c), e the error that the suite holds, with its dict -/
def rIsD (K : PySem.W.Frag) (D a : Addr) (dd : Option Addr) : List V → Hp → VK → Prop := fun xs H Q => ∃ (c : V) (cv : Value) (b : Bool) (d : Addr) (fs : List (Str × V)), xs = [.ref a, c] ∧ (∀ u, RelV c u → u = cv) ∧ PySem.W.kitOne K (.ref D) cv = some b ∧ dd = some d ∧ H d = some (.xd fs) ∧ Q (.bl b) H
theorem call_isD {X : Cx} {a C : Addr} {oe : Obj} {dd : Option Addr} {pn : List (Addr × Obj)} (T : HCls X.K C) (hz : Zc (.ref C) dd oe) (hf : ∃ vs, oe.data = .fields vs) : CallR (X.suite a ((a, oe) :: pn)) (.builtin "isinstance") (rIsD X.K C a dd) := by
  intro pins s σ H xs us Q I r ⟨c, cv, b, d, fs, exs, hcv, e, ed, ea, q⟩
  subst exs
  subst ed
  obtain ⟨u1, u2, rfl, rx, rt⟩ : ∃ u1 u2, us = [u1, u2] ∧ RelV (.ref a) u1 ∧ RelV c u2 := by
    cases r with
    | cons p q =>
      cases q with
      | cons p' q' =>
        cases q'
        exact ⟨_, _, rfl, p, p'⟩
  obtain rfl : u1 = Value.ref a := rx
  obtain rfl := hcv _ rt
  have hget := (I.pin (a, oe) (List.mem_append_left _ List.mem_cons_self)).1
  obtain ⟨mA, hns, hr⟩ : ObjOk X.prog X.w H s.heap d (.xd fs) := I.hok d _ ea
  obtain ⟨od, ho, hl⟩ := lookIn_ns hns
  have J : PySem.W.InstAt s.heap a oe C (some od) := ⟨hget, hz.1, by obtain ⟨vs, hv⟩ := hf; unfold PySem.W.notCls; rw [hv] <;> rfl, by rw [hz.2]; exact ho⟩
  exact PySem.W.kia_one (PySem.W.kitx_exc T.cl T.xf.ga T.xf.gg T.xf.exC T.ca T.cn T.ct T.cm) I.kIn J e (fun z => nomatch z) fun tk => ⟨.bl b, H, I.kept (t' := tk) fun _ _ z => z, rfl, q⟩

/-- an answer out of the caught error -/
def tX (G : Gl) (i a : Nat) (cls : Value) (dd : Option Addr) (m : DX → Option D) (c0 : Nat) : TE := fun σ H Q => ∃ ι x d, σ[i]? = some (some (.ref a)) ∧ XRep G ι H x cls dd ∧ x.cls = c0 ∧ m x = some d ∧ ∀ v, Rep G ι H d v → Q v H
def ckX (xs : List Str) (sc : Scope) (n : Str) (fl : List String) : XE → Expr → Bool
  | .fld f, e => match e with
    | .Attribute (.Name y _) g _ => decide (y = n) && (decide (g = Str.ofString f) && decide (f ∈ fl))
    | _ => false
  | .str s, e => match e with
    | .Constant (.str t) _ _ => decide (sS s = t) && PyData.strOk t
    | _ => false
  | .isf k a b, e => match e with
    | .IfExp (.Call (.Name z _) [.Name y _, .Name w _] [] _) u v _ => gnm sc z "isinstance" && (decide (y = n) && (decide (xs[k]? = some w) && (glB sc w && (nmOk w && (ckX xs sc n fl a u && match v with | .Constant .. => true | _ => false)))))
    | _ => false
section
variable {G : Gl} {X : Cx} {xc : List XCls} {xs : List Str} {c0 : Nat} {C : Addr} {i a : Nat} {n : Str} {oe : Obj} {cls : Value} {dd : Option Addr} {pn : List (Addr × Obj)} {sc : Scope}
theorem XRep.cls_eq {ι : List Addr} {H : Hp} {x : DX} (r : XRep G ι H x cls dd) (h : x.cls = c0) (hxa : G.xa c0 = some C) : cls = .ref C := by
  obtain ⟨C', d, fs, e1, e2, _⟩ := r
  rw [h, hxa] at e1
  cases e1
  exact e2
theorem ckX_ok {kx : XCls} (F : HFact G X xc xs c0 C) (hkx : xc[c0]? = some kx) (hz : Zc cls dd oe) (hf : ∃ vs, oe.data = .fields vs) (hec : cls = .ref C) (hsc : X.env.scope = sc) (hi : X.N[i]? = some n) (hv : Vis X.env.scope n) (hn : nmOk n = true) (hbl : X.mg "isinstance" = none) :
    ∀ (m : XE) (e : Expr), ckX xs sc n kx.flds m e = true → PE (X.suite a ((a, oe) :: pn)) e (tX G i a cls dd (fun x => DL.evXE xc x m) c0)
  | .fld f, e, h => by
    unfold ckX at h
    split at h
    · rename_i y p1 g p2
      rw [Bool.and_eq_true, Bool.and_eq_true] at h
      obtain ⟨h1, h2, h3⟩ := h
      obtain rfl := of_decide_eq_true h1
      obtain rfl := of_decide_eq_true h2
      obtain ⟨n1, n2, n3⟩ := nmOk_iff hn
      refine ⟨fun pins s σ H Q I ⟨ι, x, d, hσ, r, ec, em, q⟩ => ?_⟩
      refine (pe_xf F.h.xf (F.fl f kx hkx (of_decide_eq_true h3)) hz hf (pe_var hi hv n1 n2) (base_of rfl)).run pins s σ H Q I ?_
      obtain ⟨C', d', fs, e1, e2, e3, e4, e5⟩ := r
      obtain ⟨v, l, rv⟩ := e5 f d em
      exact ⟨.ref a, hσ, rfl, hec, d', fs, v, e3, e4, l, q v rv⟩
    · cases h
  | .str s, e, h => by
    unfold ckX at h
    split at h
    · rename_i t j p
      rw [Bool.and_eq_true] at h
      obtain ⟨h1, h2⟩ := h
      obtain rfl := of_decide_eq_true h1
      refine ⟨fun pins s' σ H Q I ⟨ι, x, d, hσ, r, ec, em, q⟩ => pe_str.run pins s' σ H Q I ?_⟩
      dsimp only at em
      rw [DL.evXE] at em
      split at em
      · cases em
        rename_i ho
        exact q _ ⟨rfl, lineM (of_decide_eq_true ho), h2⟩
      · cases em
    · cases h
  | .isf k u v, e, h => by
    unfold ckX at h
    split at h
    · rename_i z p1 y p2 w p3 p4 eu ev p5
      rw [Bool.and_eq_true, Bool.and_eq_true, Bool.and_eq_true, Bool.and_eq_true, Bool.and_eq_true, Bool.and_eq_true] at h
      obtain ⟨h1, h2, h3, h4, h5, h6, h7⟩ := h
      have ih := ckX_ok F hkx hz hf hec hsc hi hv hn hbl u eu h6
      obtain rfl := of_decide_eq_true h2
      unfold gnm at h1
      rw [Bool.and_eq_true] at h1
      obtain rfl := of_decide_eq_true h1.1
      have hG : L2.Gl X "isinstance" := by have := of_decide_eq_true h1.2; rw [← hsc] at this; exact this
      have hW : L2.Gl X w := by have := of_decide_eq_true h4; rw [← hsc] at this; exact this
      obtain ⟨n1, n2, n3⟩ := nmOk_iff hn
      obtain ⟨w1, w2, w3⟩ := nmOk_iff h5
      refine ⟨fun pins s σ H Q I ⟨ι, x, d, hσ, r, ec, em, q⟩ => ?_⟩
      dsimp only at em
      rw [DL.evXE, ec, hkx] at em
      dsimp only at em
      split at em
      rotate_left
      · cases em
      rename_i hup
      obtain ⟨y', S, hy', hm, kit⟩ := F.up k kx hkx hup
      have : y' = w := by have := of_decide_eq_true h3; rw [hy'] at this; exact Option.some.inj this
      subst this
      have pW : PE (X.suite a ((a, oe) :: pn)) (.Name y' p3) (tC (.ref S)) := pe_glob hW hm rfl w1
      have pN : PE (X.suite a ((a, oe) :: pn)) (.Name y p2) (tVar i) := pe_var hi hv n1 n2
      have pI := pe_callB (pos := p4) (p := p1) (call_isD (pn := pn) (a := a) F.h (by rw [← hec]; exact hz) hf) hG hbl (show bootBuiltins "isinstance" = some (.builtin "isinstance") by decide +kernel) (pa_cons pN (pa_cons pW pa_nil) (star1 _ _ rfl)) (by decide) (by decide) (star1 _ _ rfl) (by rfl)
      have pT := pt_truth pI fun _ => rfl
      have pv : PE (X.suite a ((a, oe) :: pn)) ev (fun _ _ _ => False) := ⟨fun _ _ _ _ _ _ h => h.elim⟩
      refine (pe_ifExp pT ih pv).run pins s σ H Q I ?_
      have r' := r
      obtain ⟨C', d', fs, e1, e2, e3, e4, e5⟩ := r'
      exact ⟨.ref a, hσ, .ref S, .ref S, true, d', fs, rfl, fun u hu => hu, kit, e3, e4, true, rfl, by dsimp only; rw [if_pos rfl]; exact ⟨ι, x, d, hσ, r, ec, em, q⟩⟩
    · cases h

/-! ### the suite -/
def ckHs (N : List Str) (xs : List Str) (sc : Scope) (n : Str) (fl : List String) : Hs → List Stmt → Bool
  | .app j m, [.Expr (.Call (.Attribute (.Name y _) z ap) [e] [] cp) _] => decide (N[j]? = some y) && (visB sc y && (nmOk y && (decide (z = "append") && (decide (ap.endLine = cp.line) && (noSt e && ckX xs sc n fl m e)))))
  | .ret m, [.Return (some e) _] => ckX xs sc n fl m e
  | .cnt, [.Continue _] => true
  | _, _ => false
theorem evHs_brk {h : Hs} {x : DX} {ρ : DL.Env} {st : Store} {i : Nat} {ρ' : DL.Env} {st' : Store} : DL.evHs xc h x ρ st i ≠ .brk ρ' st' := by
  intro z
  unfold DL.evHs at z
  repeat' split at z
  all_goals cases z
theorem evHs_exc {h : Hs} {x : DX} {ρ : DL.Env} {st : Store} {i : Nat} {y : DX} {ρ' : DL.Env} {st' : Store} : DL.evHs xc h x ρ st i ≠ .exc y ρ' st' := by
  intro z
  unfold DL.evHs at z
  repeat' split at z
  all_goals cases z
/-- behind the suite -/
def HPost (G : Gl) (i : Nat) (ι : List Addr) (H : Hp) (D : Ends) : SRes → Prop
  | .nx ρ st => ∀ σ H' ι', Ext ι H ι' H' → RS G ι' st H' → RepEnv G ι' H' ρ (σ.set i none) → D.nx σ H'
  | .cnt ρ st => ∀ σ H' ι', Ext ι H ι' H' → RS G ι' st H' → RepEnv G ι' H' ρ (σ.set i none) → D.ct σ H'
  | .ret d st => ∀ v H' ι', Ext ι H ι' H' → RS G ι' st H' → Rep G ι' H' d v → D.rt v H'
  | _ => False
def tH (G : Gl) (xc : List XCls) (c0 i : Nat) (h : Hs) (a : Nat) (cls : Value) (dd : Option Addr) : TS := fun D σ H => ∃ ι ρ st x, σ[i]? = some (some (.ref a)) ∧ RepEnv G ι H (ρ.set i none) σ ∧ RS G ι st H ∧ XRep G ι H x cls dd ∧ x.cls = c0 ∧ HPost G i ι H D (DL.evHs xc h x ρ st i)
theorem hs_ok {kx : XCls} (hK : X.K = G.K) (F : HFact G X xc xs c0 C) (hkx : xc[c0]? = some kx) (hz : Zc cls dd oe) (hf : ∃ vs, oe.data = .fields vs) (hec : cls = .ref C) (hsc : X.env.scope = sc) (hi : X.N[i]? = some n) (hv : Vis X.env.scope n) (hn : nmOk n = true) (hbl : X.mg "isinstance" = none)
    (hvis : ∀ y, visB sc y = true → Vis X.env.scope y) : ∀ (h : Hs) (ss : List Stmt), ckHs X.N xs sc n kx.flds h ss = true → PSs (X.suite a ((a, oe) :: pn)) ss (tH G xc c0 i h a cls dd) := by
  intro h ss hc
  unfold ckHs at hc
  split at hc
  · rename_i j m y p1 z ap e cp p2
    simp only [Bool.and_eq_true] at hc
    obtain ⟨h1, h2, h3, h4, h5, h6, h7⟩ := hc
    obtain rfl := of_decide_eq_true h4
    obtain ⟨n1, n2, n3⟩ := nmOk_iff h3
    have pe := ckX_ok (a := a) (pn := pn) F hkx hz hf hec hsc hi hv hn hbl m e h7
    have pN : PE (X.suite a ((a, oe) :: pn)) (.Name y p1) (tVar j) := pe_var (of_decide_eq_true h1) (hvis _ h2) n1 n2
    have ps := ps_expr (pos := p2) (pe_bm (cpos := cp) (apos := ap) PySem.F.plainAttrs_list PySem.F.slot_list_append PySem.F.type_list_append (mt_appendD (G := G)) pN (pa_cons pe pa_nil (star1 _ _ (not_star h6))) (base_of rfl) (by rw [star1 _ _ (not_star h6)]; rfl) (by rw [of_decide_eq_true h5]; exact beq_self_eq_true _) (star1 _ _ (not_star h6)) rfl) rfl
    refine PSsi (pss_one ps) fun D σ H ⟨ι, ρ, st, x, hσ, hρ, S, hx, ec, q⟩ => ?_
    dsimp only [DL.evHs] at q
    split at q
    · rename_i d l em el
      split at q
      · rename_i ys hl
        split at q
        · rename_i ho
          obtain ⟨ho, hij⟩ := ho
          have ej : (ρ.set i none)[j]? = some (some (.ref l)) := by rw [List.getElem?_set_ne hij, el]
          obtain ⟨v, hv', r⟩ := hρ.at_ j _ ej
          have tl : DL.isL (.ref l) st = true := by unfold DL.isL; dsimp only; rw [hl]
          refine ⟨v, hv', recv_list (X := X) hK ι H st _ v r S tl, ι, x, d, hσ, hx, ec, em, fun w rw' => ⟨ι, .ref l, [d], st, .non, st.set l (.lst (ys ++ [d])), r, ⟨w, [], rfl, rw', rfl⟩, S, ?_, ?_⟩⟩
          · unfold DL.appendD
            dsimp only
            rw [hl]
            dsimp only
            rw [if_pos ho]
          · intro v' H' ι' e' S' r'
            refine q σ H' ι' e' S' ?_
            have := (hρ.mono e').unset (i := i)
            rwa [List.set_set] at this
        · exact q.elim
      · exact q.elim
    · exact q.elim
  · rename_i m e p
    have pe := ckX_ok (a := a) (pn := pn) F hkx hz hf hec hsc hi hv hn hbl m e hc
    refine PSsi (pss_one (ps_ret pe)) fun D σ H ⟨ι, ρ, st, x, hσ, hρ, S, hx, ec, q⟩ => ?_
    dsimp only [DL.evHs] at q
    split at q
    · rename_i d em
      exact ⟨ι, x, d, hσ, hx, ec, em, fun v r => q v H ι Ext.refl S r⟩
    · exact q.elim
  · refine PSsi (pss_one ps_continue) fun D σ H ⟨ι, ρ, st, x, hσ, hρ, S, hx, ec, q⟩ => ?_
    refine q σ H ι Ext.refl S ?_
    have := hρ.unset (i := i)
    rwa [List.set_set] at this
  · cases hc
/-- try: .. except C as n: .. -/
theorem n_try {W : WX} {kx : XCls} {x : Str} {np pos pos' : Pos} {body suite : List Stmt} {b₀ : Stmt} {h : Hs} {mb : DL.Env → Store → SRes} (hK : X.K = G.K) (hs : X.stack = X.env :: X.outer) (hfr : X.env.frame = some X.env.locals) (hN : X.N.Nodup) (hi : X.N[i]? = some n) (hln : X.env.kindOf n = some .local)
    (F : HFact G X xc xs c0 C) (hkx : xc[c0]? = some kx) (hx0 : xs[c0]? = some x) (hg : L2.Gl X x) (hxn : nmOk x = true) (tk : Takes X W) (hsc : X.env.scope = sc) (hn : nmOk n = true) (hbl : X.mg "isinstance" = none) (hvis : ∀ y, visB sc y = true → Vis X.env.scope y)
    (hb : ∀ (W : WX) (pn : List (Addr × Obj)) (xe : Value → Shared → Prop), Takes (X.tr pn xe) W → PassesOwn (model X.prog X.w) X.A X.env xe → PSs (X.tr pn xe) body (tS G W mb))
    (hck : ckHs X.N xs sc n kx.flds h (b₀ :: suite) = true) :
    PS X (.Try body [.ExceptHandler (some (.Name x np)) (some n) (b₀ :: suite) pos'] [] [] pos) (tS G W fun ρ st => match mb ρ st with | .exc y ρ st => if y.cls = c0 ∧ i < ρ.length then DL.evHs xc h y ρ st i else .bad | r => r) := by
  obtain ⟨x', hx', hm⟩ := F.nm
  obtain rfl : x' = x := by rw [hx0] at hx'; exact (Option.some.inj hx').symm
  have hvn : Vis X.env.scope n := .inl hln
  have hc : Names X x' (.ref C) := ⟨hg, (nmOk_iff hxn).1, .inl hm⟩
  have hdct : PySem.W.hasDictIn X.K C = true := F.h.xf.hdC
  refine PSi (ps_try_as (tb := fun W => tS G W mb) (ts := fun a cls dd D σ H => cls = .ref C ∧ tH G xc c0 i h a cls dd D σ H) hs hfr hN hi hln hc tk hb fun a oe cls dd pn hz hf => ?_) fun D σ H ⟨ι, ρ, st, hρ, S, q⟩ => ⟨ι, ρ, st, hρ, S, ?_⟩
  · refine ⟨fun pins s σ H D I ⟨ec, q⟩ => ?_⟩
    exact (hs_ok hK F hkx hz hf ec hsc hi hvn hn hbl hvis h (b₀ :: suite) hck).run pins s σ H D I q
  · dsimp only at q
    cases e : mb ρ st with
    | nx ρ1 st1 => rw [e] at q; exact q
    | brk ρ1 st1 => rw [e] at q; exact q
    | cnt ρ1 st1 => rw [e] at q; exact q
    | ret d st1 => rw [e] at q; exact q
    | bad => rw [e] at q; exact q
    | exc y ρ1 st1 =>
      rw [e] at q
      dsimp only at q
      split at q
      rotate_left
      · exact q.elim
      rename_i ey
      obtain ⟨ey, hlt⟩ := ey
      intro cls dd σ' H' ι' e' S' hρ' rx
      have ec := rx.cls_eq ey F.xa
      refine ⟨true, by rw [ec]; exact PySem.W.exm_ref F.h.xf.exC hdct F.h.ty F.h.sb, fun _ a ha => ⟨ec, ι', ρ1, st1, y, ?_, ?_, S', rx, ey, ?_⟩, fun z => by cases z⟩
      · have hlt : i < σ'.length := by rw [← hρ'.len]; exact hlt
        rw [List.getElem?_set_self hlt]
      · refine ⟨by simpa using hρ'.len, fun j d hj => ?_⟩
        by_cases hij : i = j
        · subst hij
          rw [List.getElem?_set] at hj
          split at hj
          · first | (cases hj; done) | (split at hj <;> cases hj)
          · exact absurd rfl ‹_›
        · rw [List.getElem?_set_ne hij] at hj ⊢
          exact hρ'.at_ j d hj
      · cases eh : DL.evHs xc h y ρ1 st1 i with
        | nx ρ2 st2 => rw [eh] at q; exact fun σ2 H2 ι2 e2 S2 h2 => q _ H2 ι2 (e'.trans e2) S2 h2
        | cnt ρ2 st2 => rw [eh] at q; exact fun σ2 H2 ι2 e2 S2 h2 => q _ H2 ι2 (e'.trans e2) S2 h2
        | ret d st2 => rw [eh] at q; exact fun v2 H2 ι2 e2 S2 h2 => q _ H2 ι2 (e'.trans e2) S2 h2
        | brk _ _ => exact absurd eh evHs_brk
        | bad => rw [eh] at q; exact q.elim
        | exc _ _ _ => exact absurd eh evHs_exc
end
end DS

set_option Elab.async false
set_option linter.all false
set_option maxRecDepth 100000
set_option maxHeartbeats 8000000
/-! statements: what is checked, and that it is so -/
namespace DS
open PySem PySem.Spec PyProof.Rows L2
open DL (D Cell Store DX Res SRes E XE Hs XCls S)

def noComp : Expr → Bool
  | .ListComp .. => false
  | .SetComp .. => false
  | .DictComp .. => false
  | _ => true
/-- what swapsWith says of a list comprehension stored in a name -/
def swB (sc scope : Scope) (y : Str) (py pos : Pos) : Bool := decide (sc.names.lookup y = some .local) && (py.line == pos.line && !(scope.names.any fun p => p.1 == y && (p.2 == .local || p.2 == .cell)))
/-- which stores of a pair of names are swapped: none: the model says nothing -/
def swN (sc : Scope) (ts : List Expr) (v : Expr) : Option (Option (List Str)) :=
  match v with
  | .Tuple vs _ _ =>
    if (!(ts.length == 2 || ts.length == 3) || vs.length != ts.length || sc.kind != .function) = true then some none else
    if (vs.any fun | .Starred .. => true | _ => false) = true then some none else
    let line := (ts.head?.map (·.pos.line)).getD 0
    let names := ts.filterMap fun
      | .Name id pos => if (sc.names.lookup id == some .local && pos.line == line) = true then some id else none
      | _ => none
    if (names.length != ts.length || names.eraseDups.length != names.length) = true then some none else
    if vs.all (foldedForSure 8) = true then some none else
    if vs.all (constantsAlone 8) = true then none else some (some names)
  | _ => some none
section
variable {env : PySem.Env} {sc : Scope}
theorem swE {v : Expr} {t : Option Expr} {l : Nat} (h : noComp v = true) : swapsWith v t l env = pure false := by
  cases v <;> first | rfl | cases h
theorem swSole {v t : Expr} {l : Nat} (h : noComp v = true ∨ ∀ x p, t ≠ .Name x p) : swapsWithSole [t] v l env = pure false := by
  show swapsWith v (some t) l env = pure false
  rcases h with h | h
  · exact swE h
  · cases v <;> first | rfl | (cases t <;> first | exact absurd rfl (h _ _) | rfl)
theorem swLc {elt : Expr} {gs : List Comprehension} {scope : Scope} {pos py : Pos} {y : Str} {l : Nat} (hk : env.scope.kind = .function) : swapsWith (.ListComp elt gs scope pos) (some (.Name y py)) l env = pure (swB env.scope scope y py pos) := by
  have hb : env.blockKind = .function := by unfold Env.blockKind; rw [hk]; rfl
  have e1 : (env.kindOf y == some .local) = decide (env.scope.names.lookup y = some .local) := by
    show (env.scope.names.lookup y == some .local) = _
    by_cases h : env.scope.names.lookup y = some .local
    · rw [h]; rfl
    · rw [decide_eq_false h]; exact beq_false_of_ne h
  unfold swapsWith swB
  simp only [hb, e1, Expr.pos, beq_self_eq_true, Bool.true_and]
  simp only [Bool.and_assoc]
theorem swN_ok {ts : List Expr} {k : Nat} {p : Pos} {v : Expr} {r : Option (List Str)} (hk : env.scope.kind = .function) (h : swN env.scope ts v = some r) : swappedStores [.Tuple ts k p] v env = pure r := by
  have hb : env.blockKind = .function := by unfold Env.blockKind; rw [hk]; rfl
  cases v <;> first | (cases h; rfl) | skip
  rename_i vs k2 p2
  unfold swN at h
  unfold swappedStores
  rw [hb]
  dsimp only at h ⊢
  rw [hk] at h
  split at h
  · rename_i z
    cases h
    rw [if_pos z]
  · rename_i z
    rw [if_neg z]
    split at h
    · rename_i z1
      cases h
      erw [if_pos z1]
    · rename_i z1
      erw [if_neg z1]
      split at h
      · rename_i z2
        cases h
        erw [if_pos z2]
      · rename_i z2
        erw [if_neg z2]
        split at h
        · rename_i z3
          cases h
          erw [if_pos z3]
        · rename_i z3
          erw [if_neg z3]
          split at h
          · cases h
          · rename_i z4
            cases h
            erw [if_neg z4]
            rfl
end

/-! ### the check -/
def isLc : Expr → Option (Scope × Pos)
  | .ListComp _ _ s p => some (s, p)
  | _ => none
def locO (sc : Scope) (x : Str) : Bool := decide (sc.names.lookup x = some .local)
/-- swapped stores of two or three names -/
def parB (N : List Str) (sc : Scope) (tg e : E) (ts : List Expr) (v : Expr) (names : List Str) : Bool :=
  match tg, e, ts, v with
  | .tup [.var i, .var j], .tup [_, _], [.Name x _, .Name y _], .Tuple [_, _] _ _ => decide (names = [x, y]) && (decide (i ≠ j) && (decide (N[i]? = some x) && (decide (N[j]? = some y) && (locO sc x && locO sc y))))
  | .tup [.var i, .var j, .var l], .tup [_, _, _], [.Name x _, .Name y _, .Name z _], .Tuple [_, _, _] _ _ =>
    decide (names = [x, y, z]) && (decide (i ≠ j) && (decide (i ≠ l) && (decide (j ≠ l) && (decide (N[i]? = some x) && (decide (N[j]? = some y) && (decide (N[l]? = some z) && (locO sc x && (locO sc y && locO sc z))))))))
  | _, _, _, _ => false
mutual
def ckS (tb : Tb) (xc : List XCls) (sc : Scope) : S → Stmt → Bool
  | .set i e, s => match s with
    | .Assign [.Name x py] v pos => decide (tb.N[i]? = some x) && (locB sc x && ((match isLc v with
        | some (scope, p) => !swB sc scope x py p || locO sc x
        | none => noComp v) && ck tb sc false e v))
    | _ => false
  | .setT tg e, s => match s with
    | .Assign [.Tuple ts k p] v pos => ckG tb.N sc tg (.Tuple ts k p) && (ck tb sc false e v && (match swN sc ts v with
        | some none => true
        | some (some names) => parB tb.N sc tg e ts v names
        | none => false))
    | _ => false
  | .setX a b e, s => match s with
    | .Assign [.Subscript x y p] v pos => notSl y && (ck tb sc false a x && (ck tb sc false b y && ck tb sc false e v))
    | _ => false
  | .aug i o e, s => match s with
    | .AugAssign (.Name x p) .Add v pos => decide (o = .add) && (decide (tb.N[i]? = some x) && (locB sc x && ck tb sc false e v))
    | _ => false
  | .ex e, s => match s with
    | .Expr v pos => noComp v && ck tb sc false e v
    | _ => false
  | .ret e, s => match s with
    | .Return (some v) _ => ck tb sc false e v
    | _ => false
  | .retN, s => match s with
    | .Return none _ => true
    | _ => false
  | .ifs c a b, s => match s with
    | .If t p q _ => ck tb sc true c t && (ckSs tb xc sc a p && ckSs tb xc sc b q)
    | _ => false
  | .whl c b, s => match s with
    | .While t p [] _ => ck tb sc true c t && ckSs tb xc sc b p
    | _ => false
  | .for tg src b, s => match s with
    | .For t it p [] _ => ckG tb.N sc tg t && (ckI tb sc src t it && (noSet it && ckSs tb xc sc b p))
    | _ => false
  | .brk, s => match s with
    | .Break _ => true
    | _ => false
  | .cnt, s => match s with
    | .Continue _ => true
    | _ => false
  | .pas, s => match s with
    | .Pass _ => true
    | .Expr (.Constant (.str _) _ _) _ => true
    | _ => false
  | .rais c es, s => match s with
    | .Raise (some (.Call (.Name x _) (v :: vs) [] _)) none _ => decide (tb.xs[c]? = some x) && (glB sc x && (nmOk x && ((match xc[c]? with | some kx => !kx.flds.isEmpty | none => false) && ckEs tb sc es (v :: vs))))
    | _ => false
  | .tryA b c i h, s => match s with
    | .Try body [.ExceptHandler (some (.Name x _)) (some n) (b₀ :: suite) _] [] [] _ => decide (tb.xs[c]? = some x) && (glB sc x && (nmOk x && (decide (tb.N[i]? = some n) && (locO sc n && (nmOk n && ((match xc[c]? with
        | some kx => !kx.flds.isEmpty && ckHs tb.N tb.xs sc n kx.flds h (b₀ :: suite)
        | none => false) && ckSs tb xc sc b body))))))
    | _ => false
def ckSs (tb : Tb) (xc : List XCls) (sc : Scope) : List S → List Stmt → Bool
  | [], ss => match ss with
    | [] => true
    | _ => false
  | a :: r, ss => match ss with
    | s :: ss => ckS tb xc sc a s && ckSs tb xc sc r ss
    | _ => false
end

/-! ### it is so -/
structure StOk (G : Gl) (tb : Tb) (C : DL.Ctx) (k : Nat) (W : WX) (sc : Scope) (X : Cx) : Prop where
  c : CtxOk G tb C k W sc sc X
  kind : X.env.scope.kind = .function
  ps : PassesOwn (model X.prog X.w) X.A X.env X.xe
  hs : X.stack = X.env :: X.outer
  hf : X.env.frame = some X.env.locals
  kt : C.kt = G.kt
  xf : ∀ c x kx, tb.xs[c]? = some x → C.xc[c]? = some kx → ∃ j, j + 1 ≤ k ∧ (kx.flds = [] ∨ XFact G X j x c kx.flds)
  hx : ∀ c kx, C.xc[c]? = some kx → kx.flds = [] ∨ ∃ A, HFact G X C.xc tb.xs c A
theorem StOk.tr {G : Gl} {tb : Tb} {C : DL.Ctx} {k : Nat} {W W' : WX} {sc : Scope} {X : Cx} (h : StOk G tb C k W sc X) {pn : List (Addr × Obj)} {xe : Value → Shared → Prop} (tk : Takes (X.tr pn xe) W') (ps : PassesOwn (model X.prog X.w) X.A X.env xe) : StOk G tb C k W' sc (X.tr pn xe) where
  c := { K := h.c.K, N := h.c.N, nd := h.c.nd, calm := h.c.calm, room := h.c.room, sc := h.c.sc, tk := tk, fns := fun f x np hf => ⟨(h.c.fns f x np hf).ex, (h.c.fns f x np hf).hl⟩, bl := h.c.bl, cst := h.c.cst, st := h.c.st }
  kind := h.kind
  ps := ps
  hs := h.hs
  hf := h.hf
  kt := h.kt
  xf := fun c x kx h1 h2 => by
    obtain ⟨j, hj, z⟩ := h.xf c x kx h1 h2
    exact ⟨j, hj, z.imp id fun F => ⟨F.ex, F.nd, F.le⟩⟩
  hx := fun c kx h1 => (h.hx c kx h1).imp id fun ⟨A, F⟩ => ⟨A, F.xa, F.nm, F.h, F.fl, F.up⟩
end DS

set_option Elab.async false
set_option linter.all false
set_option maxRecDepth 100000
set_option maxHeartbeats 8000000
/-! statements: it is so -/
namespace DS
open PySem PySem.Spec PyProof.Rows L2
open DL (D Cell Store DX Res SRes E XE Hs XCls S)

section
variable {G : Gl} {tb : Tb} {C : DL.Ctx} {k : Nat} {sc : Scope}
theorem ps_eq {X : Cx} {W : WX} {s : Stmt} {m m' : DL.Env → Store → SRes} (h : ∀ ρ st, m ρ st = m' ρ st) (p : PS X s (tS G W m)) : PS X s (tS G W m') := by rw [show m' = m from funext fun ρ => funext fun st => (h ρ st).symm]; exact p
theorem pss_eq {X : Cx} {W : WX} {s : List Stmt} {m m' : DL.Env → Store → SRes} (h : ∀ ρ st, m ρ st = m' ρ st) (p : PSs X s (tS G W m)) : PSs X s (tS G W m') := by rw [show m' = m from funext fun ρ => funext fun st => (h ρ st).symm]; exact p
theorem locO_iff {x : Str} (h : locO sc x = true) : sc.names.lookup x = some .local := of_decide_eq_true h
/-- name = [..], the comprehension's list going straight to the name -/
theorem setLc {W : WX} {X : Cx} {i : Nat} {y : Str} {py spos pos : Pos} {elt tg src : E} {ifs : List E} {own : List (String × Nat)} {x : Expr} {gs : List Comprehension} {scope : Scope} (c : CtxOk G tb C k W sc sc X) (hk : X.env.scope.kind = .function) (hi : X.N[i]? = some y) (hl : locO sc y = true)
    (hsw : swB sc scope y py pos = true) (h : ck tb sc false (.lc elt tg src ifs own) (.ListComp x gs scope pos) = true) :
    PS X (.Assign [.Name y py] (.ListComp x gs scope pos) spos) (tS G W fun ρ st => .of ρ (DL.evE C ρ (.lc elt tg src ifs own) st) fun d st => .nx (ρ.set i (some d)) st) := by
  match gs, h with
  | [⟨tg', it, ifs', q⟩], h =>
    have hq : q = 0 := by
      by_cases hq : q = 0
      · exact hq
      · simp [ck, hq] at h
    subst hq
    rw [ck.eq_def] at h
    dsimp only at h
    simp only [Bool.and_eq_true] at h
    obtain ⟨hB, hG, hS, hF, hI, hL, hT, hE⟩ := h
    have hi' : PI X tg' it (tI G W fun ρ st => DL.evI C ρ src st) := ckI_ok c hI
    have hg := fun s H A cl fp => ckG_ok (c.blk hB s H A cl fp) tg tg' hG
    have ht := fun s H A cl fp => ok_ifs ifs (relS scope sc) ifs' scope W0 _ hT (of_decide_eq_true hL) (c.blk hB s H A cl fp)
    have he := fun s H A cl fp => (ok_ck elt (relS scope sc) false x scope W0 _ hE (c.blk hB s H A cl fp)).1 rfl
    have hsw' := swLc (env := X.env) (elt := x) (gs := [⟨tg', it, ifs', 0⟩]) (scope := scope) (pos := pos) (py := py) (y := y) (l := spos.line) hk
    rw [c.sc, hsw] at hsw'
    have hy : X.env.scope.names.lookup y = some .local := by rw [c.sc]; exact locO_iff hl
    have p := ps_setLc (spos := spos) (py := py) c.calm c.nd hi hy hsw' hi' (by rw [c.N, c.sc]; exact blkB_ok hB) hg ht he (folded_of hF)
    refine PSi p fun D σ H ⟨ι, ρ, st, hρ, S0, h⟩ => ?_
    refine d_lc (X := X) (elt := x) (tg := tg') (iter := it) (ifs := ifs') (scope := scope) (pos := pos) rfl (fun i hi => ?_) σ H _ ?_
    · rw [own_map]
      have := List.all_eq_true.mp hS i hi
      rw [List.any_eq_true] at this
      obtain ⟨q, hq, e⟩ := this
      exact List.mem_map.mpr ⟨q, hq, by simpa using e⟩
    · refine s_bind (G := G) (R := RD G) (W := W) (D := D) (f := fun d st => .nx (ρ.set i (some d)) st) hρ S0 ?_ fun d st1 v H1 ι1 e1 S1 r1 h1 => h1 _ H1 ι1 Ext.refl S1 ((hρ.mono e1).set r1)
      dsimp only at h
      rw [DL.evE] at h
      rw [own_map]
      exact h
  | [], h | _ :: _ :: _, h => simp [ck] at h
theorem par_ok {W : WX} {X : Cx} {tg e : E} {ts : List Expr} {kk : Nat} {p pos : Pos} {v : Expr} {names : List Str} (c : CtxOk G tb C k W sc sc X) (hk : X.env.scope.kind = .function) (hv : ck tb sc false e v = true) (hn : swN sc ts v = some (some names)) (hp : parB tb.N sc tg e ts v names = true) :
    PS X (.Assign [.Tuple ts kk p] v pos) (tS G W fun ρ st => DL.evS C (.setT tg e) ρ st) := by
  have hw := swN_ok (env := X.env) (k := kk) (p := p) hk (by rw [c.sc]; exact hn)
  unfold parB at hp
  split at hp
  · rename_i i j ea eb x p1 y p2 a b k2 p3
    simp only [Bool.and_eq_true, decide_eq_true_eq] at hp
    obtain ⟨rfl, h2, h3, h4, h5, h6⟩ := hp
    simp only [ck] at hv
    obtain ⟨q1, q2, q3⟩ := ok_es _ sc _ sc W X hv c
    refine ps_eq (fun ρ st => ?_) (n_par (pos := pos) c.calm c.nd (by rw [c.N]; exact h3) (by rw [c.N]; exact h4) h2 (by rw [c.sc]; exact locO_iff h5) (by rw [c.sc]; exact locO_iff h6) q1 hw)
    rw [DL.evS, DL.evE]
    cases q : DL.evEs C ρ [ea, eb] st with
    | bad => rfl
    | exc _ _ => rfl
    | ok ds st1 =>
      have hl := evEs_len q
      match ds, hl with
      | [d1, d2], _ => simp [DL.okS, DL.putT, DL.putTs]
  · rename_i i j l ea eb ec x p1 y p2 z p3 a b d k2 p4
    simp only [Bool.and_eq_true, decide_eq_true_eq] at hp
    obtain ⟨rfl, h2, h3, h4, h5, h6, h7, h8, h9, h10⟩ := hp
    simp only [ck] at hv
    obtain ⟨q1, q2, q3⟩ := ok_es _ sc _ sc W X hv c
    refine ps_eq (fun ρ st => ?_) (n_par3 (pos := pos) c.calm c.nd (by rw [c.N]; exact h5) (by rw [c.N]; exact h6) (by rw [c.N]; exact h7) h2 h3 h4 (by rw [c.sc]; exact locO_iff h8) (by rw [c.sc]; exact locO_iff h9) (by rw [c.sc]; exact locO_iff h10) q1 hw)
    rw [DL.evS, DL.evE]
    cases q : DL.evEs C ρ [ea, eb, ec] st with
    | bad => rfl
    | exc _ _ => rfl
    | ok ds st1 =>
      have hl := evEs_len q
      match ds, hl with
      | [d1, d2, d3], _ => simp [DL.okS, DL.putT, DL.putTs]
  · cases hp
theorem whl_eq {c : E} {b : List S} {ρ : DL.Env} {st : Store} : DL.evS C (.whl c b) ρ st = DL.whL (mT fun ρ st => DL.evE C ρ c st) (DL.evSs C b) ρ st := by
  rw [DL.evS]
  try rfl
mutual
theorem ok_s : ∀ (ir : S) (W : WX) (X : Cx) (s : Stmt), ckS tb C.xc sc ir s = true → StOk G tb C k W sc X → PS X s (tS G W fun ρ st => DL.evS C ir ρ st)
  | .set i e, W, X, s, h, o => by
    unfold ckS at h
    split at h
    · rename_i x py v pos
      simp only [Bool.and_eq_true] at h
      obtain ⟨h1, h2, h3, h4⟩ := h
      have hi : X.N[i]? = some x := by rw [o.c.N]; exact of_decide_eq_true h1
      obtain ⟨l1, l2⟩ := o.c.st x h2
      have pv := (ok_ck e sc false v sc W X h4 o.c).1 rfl
      by_cases hn : noComp v = true
      · exact ps_eq (fun ρ st => by rw [DL.evS]) (n_set o.c.nd hi l1 l2 pv (swE hn))
      · cases v <;> first | exact absurd rfl hn | skip
        · rename_i x' gs scope p
          dsimp only [isLc] at h3
          by_cases hs : swB sc scope x py p = true
          · have hl : locO sc x = true := by rw [hs] at h3; exact h3
            cases e <;> first | (simp [ck] at h4; done) | skip
            exact ps_eq (fun ρ st => by rw [DL.evS]) (setLc o.c o.kind hi hl hs h4)
          · have hs' : swB sc scope x py p = false := by cases q : swB sc scope x py p with | true => exact absurd q hs | false => rfl
            exact ps_eq (fun ρ st => by rw [DL.evS]) (n_set o.c.nd hi l1 l2 pv (by rw [swLc o.kind, o.c.sc, hs']))
        · cases h3
        · cases h3
    · cases h
  | .setT tg e, W, X, s, h, o => by
    unfold ckS at h
    split at h
    · rename_i ts kk p v pos
      simp only [Bool.and_eq_true] at h
      obtain ⟨h1, h2, h3⟩ := h
      split at h3
      · rename_i hn
        have hw := swN_ok (env := X.env) (k := kk) (p := p) o.kind (by rw [o.c.sc]; exact hn)
        exact ps_eq (fun ρ st => by rw [DL.evS]; try rfl) (n_asg ((ok_ck e sc false v sc W X h2 o.c).1 rfl) (ckG_ok o.c tg _ h1) (swSole (.inr fun x p z => by cases z)) hw rfl)
      · rename_i names hn
        exact par_ok o.c o.kind h2 hn h3
      · cases h3
    · cases h
  | .setX a b e, W, X, s, h, o => by
    unfold ckS at h
    split at h
    · rename_i x y p v pos
      simp only [Bool.and_eq_true] at h
      obtain ⟨h1, h2, h3, h4⟩ := h
      exact ps_eq (fun ρ st => by rw [DL.evS, o.kt]; try rfl) (n_setX ((ok_ck a sc false x sc W X h2 o.c).1 rfl) ((ok_ck b sc false y sc W X h3 o.c).1 rfl) o.c.K o.c.hu ((ok_ck e sc false v sc W X h4 o.c).1 rfl) (swSole (.inr fun x p z => by cases z)) h1)
    · cases h
  | .aug i op e, W, X, s, h, o => by
    unfold ckS at h
    split at h
    · rename_i x p v pos
      simp only [Bool.and_eq_true] at h
      obtain ⟨h0, h1, h2, h3⟩ := h
      obtain rfl := of_decide_eq_true h0
      obtain ⟨l1, l2⟩ := o.c.st x h2
      exact ps_eq (fun ρ st => by rw [DL.evS]; try rfl) (n_augA (i := i) o.c.nd (by rw [o.c.N]; exact of_decide_eq_true h1) l1 l2 ((ok_ck e sc false v sc W X h3 o.c).1 rfl))
    · cases h
  | .ex e, W, X, s, h, o => by
    unfold ckS at h
    split at h
    · rename_i v pos
      simp only [Bool.and_eq_true] at h
      obtain ⟨h1, h2⟩ := h
      exact ps_eq (fun ρ st => by rw [DL.evS]) (n_expr ((ok_ck e sc false v sc W X h2 o.c).1 rfl) (swE h1))
    · cases h
  | .ret e, W, X, s, h, o => by
    unfold ckS at h
    split at h
    · rename_i v pos
      exact ps_eq (fun ρ st => by rw [DL.evS]) (n_ret ((ok_ck e sc false v sc W X h o.c).1 rfl))
    · cases h
  | .retN, W, X, s, h, o => by
    unfold ckS at h
    split at h
    · exact ps_eq (fun ρ st => by rw [DL.evS]) n_retN
    · cases h
  | .ifs c a b, W, X, s, h, o => by
    unfold ckS at h
    split at h
    · rename_i t p q pos
      simp only [Bool.and_eq_true] at h
      obtain ⟨h1, h2, h3⟩ := h
      exact ps_eq (fun ρ st => by rw [DL.evS]; try rfl) (n_if ((ok_ck c sc true t sc W X h1 o.c).2 rfl) (ok_ss a W X p h2 o) (ok_ss b W X q h3 o))
    · cases h
  | .whl c b, W, X, s, h, o => by
    unfold ckS at h
    split at h
    · rename_i t p pos
      simp only [Bool.and_eq_true] at h
      obtain ⟨h1, h2⟩ := h
      exact ps_eq (fun ρ st => whl_eq.symm) (n_while o.ps ((ok_ck c sc true t sc W X h1 o.c).2 rfl) (ok_ss b W X p h2 o))
    · cases h
  | .for tg src b, W, X, s, h, o => by
    unfold ckS at h
    split at h
    · rename_i t it p pos
      simp only [Bool.and_eq_true] at h
      obtain ⟨h1, h2, h3, h4⟩ := h
      exact ps_eq (fun ρ st => by rw [DL.evS]; try rfl) (n_for o.ps o.c.calm (ckI_ok o.c h2) (ckG_ok o.c tg t h1) (ok_ss b W X p h4 o) (folded_of h3))
    · cases h
  | .brk, W, X, s, h, o => by
    unfold ckS at h
    split at h
    · exact ps_eq (fun ρ st => by rw [DL.evS]) n_break
    · cases h
  | .cnt, W, X, s, h, o => by
    unfold ckS at h
    split at h
    · exact ps_eq (fun ρ st => by rw [DL.evS]) n_cont
    · cases h
  | .pas, W, X, s, h, o => by
    unfold ckS at h
    split at h
    · exact ps_eq (fun ρ st => by rw [DL.evS]) n_pass
    · exact ps_eq (fun ρ st => by rw [DL.evS]) n_doc
    · cases h
  | .rais c es, W, X, s, h, o => by
    unfold ckS at h
    split at h
    · rename_i x q v vs p p'
      simp only [Bool.and_eq_true] at h
      obtain ⟨h1, h2, h3, h4, h5⟩ := h
      obtain ⟨q1, q2, q3⟩ := ok_es es sc _ sc W X h5 o.c
      rw [List.all_cons, Bool.and_eq_true] at q2
      split at h4
      · rename_i kx hkx
        obtain ⟨j, hj, F⟩ := o.xf c x kx (of_decide_eq_true h1) hkx
        rcases F with F | F
        · rw [F] at h4; cases h4
        · refine ps_eq (fun ρ st => ?_) (n_rais F o.c.calm o.c.tk (o.c.room.mono hj) (o.c.glb h2) (nmOk_iff h3).1 q1 (not_star q2.1) (back_of q2.2).1)
          rw [DL.evS, hkx]
      · cases h4
    · cases h
  | .tryA b c i hd, W, X, s, h, o => by
    unfold ckS at h
    split at h
    · rename_i body x np n b₀ suite p1 p2
      simp only [Bool.and_eq_true] at h
      obtain ⟨h1, h2, h3, h4, h5, h6, h7, h8⟩ := h
      split at h7
      · rename_i kx hkx
        rw [Bool.and_eq_true] at h7
        rcases o.hx c kx hkx with F | ⟨A, F⟩
        · rw [F] at h7; cases h7.1
        · refine ps_eq (fun ρ st => ?_) (n_try (mb := fun ρ st => DL.evSs C b ρ st) (sc := sc) o.c.K o.hs o.hf o.c.nd (by rw [o.c.N]; exact of_decide_eq_true h4) (by show X.env.scope.names.lookup n = _; rw [o.c.sc]; exact locO_iff h5) F hkx (of_decide_eq_true h1) (o.c.glb h2) h3 o.c.tk o.c.sc h6 (o.c.bl _ (by decide)) (fun y hy => o.c.vis hy)
            (fun W' pn xe tk ps => ok_ss b W' _ body h8 (o.tr tk ps)) (by rw [o.c.N]; exact h7.2))
          rw [DL.evS]
          try rfl
      · cases h7
    · cases h
theorem ok_ss : ∀ (ir : List S) (W : WX) (X : Cx) (ss : List Stmt), ckSs tb C.xc sc ir ss = true → StOk G tb C k W sc X → PSs X ss (tS G W fun ρ st => DL.evSs C ir ρ st)
  | [], W, X, ss, h, o => by
    cases ss with
    | nil => exact pss_eq (fun ρ st => by rw [DL.evSs]) n_nil
    | cons _ _ => simp [ckSs] at h
  | a :: r, W, X, ss, h, o => by
    cases ss with
    | nil => simp [ckSs] at h
    | cons s ss =>
      simp only [ckSs, Bool.and_eq_true] at h
      exact pss_eq (fun ρ st => by rw [DL.evSs]) (n_cons (ok_s a W X s h.1 o) (ok_ss r W X ss h.2 o))
end
end
end DS

set_option Elab.async false
set_option linter.all false
set_option maxRecDepth 100000
set_option maxHeartbeats 8000000
/-! defs: by induction over the depth -/
namespace DS
open PySem PySem.Spec PyProof.Rows L2
open DL (D Cell Store DX Res SRes E XE Hs XCls S)

/-! ### labels that go -/
section
variable {G : Gl} {ι : List Addr} {H H' : Hp} {r : List Addr}
mutual
theorem Rep.wf : ∀ {d : D} {v : V}, Rep G ι H d v → DL.wfD ι.length d = true
  | .ref l, v, ⟨a, _, h⟩ => by
    rw [DL.wfD]
    exact decide_eq_true (List.getElem?_eq_some_iff.mp h).1
  | .tup ds, v, ⟨a, vs, _, _, h⟩ => by rw [DL.wfD]; exact RepL.wf h
  | .non, _, _ | .bl _, _, _ | .int _, _, _ | .str _, _, _ | .fl _, _, _ | .fn _, _, _ => by rw [DL.wfD] <;> (intros; rename_i z; cases z)
theorem RepL.wf : ∀ {ds : List D} {vs : List V}, RepL G ι H ds vs → DL.wfDs ι.length ds = true
  | [], _, _ => by rw [DL.wfDs]
  | d :: ds, vs, ⟨v, r, _, h1, h2⟩ => by rw [DL.wfDs, Rep.wf h1, RepL.wf h2]; rfl
end
mutual
theorem Rep.low : ∀ {d : D} {v : V}, DL.wfD ι.length d = true → Rep G (ι ++ r) H d v → Rep G ι H d v
  | .ref l, v, w, ⟨a, e, h⟩ => by
    rw [DL.wfD] at w
    rw [List.getElem?_append_left (of_decide_eq_true w)] at h
    exact ⟨a, e, h⟩
  | .tup ds, v, w, ⟨a, vs, e, k, h⟩ => by
    rw [DL.wfD] at w
    exact ⟨a, vs, e, k, RepL.low w h⟩
  | .non, _, _, h | .bl _, _, _, h | .int _, _, _, h | .str _, _, _, h | .fl _, _, _, h | .fn _, _, _, h => h
theorem RepL.low : ∀ {ds : List D} {vs : List V}, DL.wfDs ι.length ds = true → RepL G (ι ++ r) H ds vs → RepL G ι H ds vs
  | [], _, _, h => h
  | d :: ds, vs, w, ⟨v, s, e, h1, h2⟩ => by
    rw [DL.wfDs, Bool.and_eq_true] at w
    exact ⟨v, s, e, Rep.low w.1 h1, RepL.low w.2 h2⟩
end
theorem RepK.wf {κ : Type} {f : D → Option κ} (hf : ∀ d k n, f d = some k → DL.wfD n d = true) : ∀ {kvs : List (D × D)} {ks : List (κ × V)}, RepK G f ι H kvs ks → ∀ p ∈ kvs, DL.wfD ι.length p.1 = true ∧ DL.wfD ι.length p.2 = true
  | [], _, _, p, hp => by cases hp
  | q :: kvs, ks, ⟨k, v, s, e, h1, h2, h3⟩, p, hp => by
    rcases List.mem_cons.mp hp with rfl | hp
    · exact ⟨hf _ _ _ h1, Rep.wf h2⟩
    · exact RepK.wf hf h3 p hp
theorem RepK.low {κ : Type} {f : D → Option κ} : ∀ {kvs : List (D × D)} {ks : List (κ × V)}, (∀ p ∈ kvs, DL.wfD ι.length p.1 = true ∧ DL.wfD ι.length p.2 = true) → RepK G f (ι ++ r) H kvs ks → RepK G f ι H kvs ks
  | [], _, _, h => h
  | q :: kvs, ks, w, ⟨k, v, s, e, h1, h2, h3⟩ => ⟨k, v, s, e, h1, Rep.low (w q (by simp)).2 h2, RepK.low (fun p hp => w p (by simp [hp])) h3⟩
theorem keyK_wf (d : D) (k : Key) (n : Nat) (h : keyK d = some k) : DL.wfD n d = true := by cases d <;> first | (cases h; done) | (rw [DL.wfD] <;> (intros; rename_i z; cases z))
theorem keysT_wf : ∀ (ds : List D) (ks : List Key) (n : Nat), keysT ds = some ks → DL.wfDs n ds = true
  | [], _, _, _ => by rw [DL.wfDs]
  | d :: ds, ks, n, h => by
    unfold keysT at h
    split at h
    · rename_i k ks' h1 h2
      rw [DL.wfDs, keyK_wf d k n h1, keysT_wf ds ks' n h2]
      rfl
    · cases h
theorem keyT_wf (d : D) (ks : List Key) (n : Nat) (h : keyT d = some ks) : DL.wfD n d = true := by
  cases d <;> first | (cases h; done) | skip
  rw [DL.wfD]
  exact keysT_wf _ ks n h
theorem CellRep.wf {a : Addr} {c : Cell} (h : CellRep G ι H a c) : DL.wfC ι.length c := by
  cases c with
  | lst ds => obtain ⟨vs, _, h⟩ := h; exact RepL.wf h
  | dic tk kvs =>
    cases tk with
    | false => obtain ⟨ks, _, h⟩ := h; exact RepK.wf keyK_wf h
    | true => obtain ⟨ks, _, h⟩ := h; exact RepK.wf keyT_wf h
theorem CellRep.low {a : Addr} {c : Cell} (w : DL.wfC ι.length c) (h : CellRep G (ι ++ r) H a c) : CellRep G ι H a c := by
  cases c with
  | lst ds => obtain ⟨vs, e, h⟩ := h; exact ⟨vs, e, RepL.low w h⟩
  | dic tk kvs =>
    cases tk with
    | false => obtain ⟨ks, e, h⟩ := h; exact ⟨ks, e, RepK.low w h⟩
    | true => obtain ⟨ks, e, h⟩ := h; exact ⟨ks, e, RepK.low w h⟩
/-- the labels behind a call -/
theorem settle_ok {ι' : List Addr} {st st' : Store} {ds : List D} (S : RS G ι st H) (e : Ext ι H ι' H') (S' : RS G ι' st' H') :
    ∃ ι'', Ext ι H ι'' H' ∧ RS G ι'' (DL.settle st st' ds) H' ∧ ∀ d ∈ ds, ∀ v, Rep G ι' H' d v → Rep G ι'' H' d v := by
  unfold DL.settle
  split
  rotate_left
  · exact ⟨ι', e, S', fun _ _ _ h => h⟩
  rename_i T
  obtain ⟨r, rfl⟩ := e.pre
  obtain ⟨t1, t2, t3⟩ := T
  refine ⟨ι, ⟨⟨[], by simp⟩, fun a h => .inl h, e.keep, e.imm, e.there⟩, ⟨?_, S.nd, fun l c hl => ?_⟩, fun d hd v h => Rep.low (by rw [← S.len]; exact t2 d hd) h⟩
  · rw [List.length_take, Nat.min_eq_left t1, S.len]
  · have hlt : l < st.length := by
      have := (List.getElem?_eq_some_iff.mp hl).1
      rw [List.length_take] at this
      omega
    rw [List.getElem?_take_of_lt hlt] at hl
    obtain ⟨a, ha, hc⟩ := S'.cell l c hl
    rw [List.getElem?_append_left (by rw [← S.len]; exact hlt)] at ha
    refine ⟨a, ha, CellRep.low ?_ hc⟩
    rcases t3 l c hlt hl with h | h
    · obtain ⟨a', _, hc'⟩ := S.cell l c h
      exact hc'.wf
    · rw [← S.len]; exact h
end

/-! ### a program's defs -/
structure Df where
  x : Str
  st : Stmt
  N : List Str
  fn : DL.Fn
structure Pr where
  fs : List Df
  cst : List (Str × D)
  xs : List Str
  xc : List XCls
  kt : List D
abbrev Pr.T (pr : Pr) : List DL.Fn := pr.fs.map (·.fn)
abbrev Pr.tb (pr : Pr) (d : Df) : Tb := ⟨d.N, pr.fs.map fun d => (d.x, d.fn.np), pr.cst, pr.xs⟩
noncomputable abbrev Pr.call (pr : Pr) : Nat → Nat → List D → Store → Res D := DL.callF pr.xc pr.kt pr.T
def fsB (N ps : List Str) (sc : Scope) : Bool := decide (sc.kind = .function) && (!sc.isCoroutine && (!sc.isGenerator && (decide N.Nodup && (decide (N.take ps.length = ps) && (ps.all (fun x => locB sc x) && sc.names.all fun y => decide (y.2 ≠ .free))))))
def okDf (pr : Pr) (d : Df) : Bool := decide (d.fn.ns = d.N.length) && (decide (d.fn.np ≤ d.N.length) && (fsB d.N (d.N.take d.fn.np) (defScope d.st) && ckSs (pr.tb d) pr.xc (defScope d.st) d.fn.body (defBody d.st)))
theorem fsB_ok {N ps : List Str} {sc : Scope} (h : fsB N ps sc = true) : FnScope N ps sc := by
  unfold fsB at h
  simp only [Bool.and_eq_true, Bool.not_eq_true', decide_eq_true_eq, List.all_eq_true] at h
  obtain ⟨h1, h2, h3, h4, h5, h6, h7⟩ := h
  refine ⟨h1, h2, h3, h4, h5, fun x hx => ?_, h7⟩
  have := h6 x hx
  unfold locB at this
  rw [Bool.or_eq_true] at this
  exact this.imp of_decide_eq_true of_decide_eq_true

structure Facts (G : Gl) (pr : Pr) (P : Program) (w : World) (K : PySem.W.Frag) (mg : Str → Option Value) (base : Heap) : Prop where
  eK : K = G.K
  kt : G.kt = pr.kt
  fs : ∀ (f : Nat) (d : Df), pr.fs[f]? = some d → ∃ fa fd, Fun K d.x d.x d.st fa fd ∧ mg d.x = some (.ref fa) ∧ Binds K fd (d.N.take d.fn.np) []
  bl : ∀ x ∈ bltNames, mg x = none
  cst : ∀ x d, pr.cst.lookup x = some d → ∃ u v, mg x = some u ∧ RelV v u ∧ ∀ ι H, Rep G ι H d v
  xf : ∀ c x kx, pr.xs[c]? = some x → pr.xc[c]? = some kx → kx.flds = [] ∨ ((∃ (C fI : Addr) (fd : FuncData), G.xa c = some C ∧ mg x = some (.ref C) ∧ OexC K C ∧ PySem.W.findIn K (.ref C) "__init__" = some (some (.ref fI)) ∧ PySem.W.typeIn K (.ref fI) = some (.type "function") ∧
    FnOk P w K mg base (L2.CX P w) 1 fI fd ("self" :: kx.flds.map Str.ofString) (spInit K C (kx.flds.map Str.ofString)) ∧ Binds K fd ("self" :: kx.flds.map Str.ofString) []) ∧ (kx.flds.map Str.ofString).Nodup ∧ kx.flds.length ≤ 1000)
  hx : ∀ c kx, pr.xc[c]? = some kx → kx.flds = [] ∨ ∃ A, G.xa c = some A ∧ (∃ x, pr.xs[c]? = some x ∧ mg x = some (.ref A)) ∧ HCls K A ∧ (∀ n ∈ kx.flds, PySem.W.findIn K (.ref A) (Str.ofString n) = some none) ∧
    ∀ j, kx.up.contains j = true → ∃ y S, pr.xs[j]? = some y ∧ mg y = some (.ref S) ∧ PySem.W.kitOne K (.ref A) (.ref S) = some true

section
variable {G : Gl} {pr : Pr} {P : Program} {w : World} {K : PySem.W.Frag} {mg : Str → Option Value} {base : Heap}
theorem call_len {k f : Nat} {d : Df} (hf : pr.fs[f]? = some d) (ds : List D) (st : Store) (h : ds.length ≠ d.fn.np) : pr.call k f ds st = .bad := by
  cases k with
  | zero => rfl
  | succ k =>
    show DL.callF pr.xc pr.kt pr.T (k + 1) f ds st = .bad
    unfold DL.callF
    have : pr.T[f]? = some d.fn := by show (pr.fs.map (·.fn))[f]? = _; rw [List.getElem?_map, hf]; rfl
    rw [this]
    dsimp only
    rw [if_neg h]
theorem start_rep {ι : List Addr} {H : Hp} {N : List Str} {ds : List D} {vs : List V} {ns np : Nat} (r : RepL G ι H ds vs) (hn : ns = N.length) (hp : ds.length = np) : RepEnv G ι H (ds.map some ++ List.replicate (ns - np) none) (L2.start N vs) := by
  subst hn hp
  have hl := r.length
  refine ⟨by simp [L2.start, hl], fun i d hd => ?_⟩
  unfold L2.start
  by_cases hi : i < ds.length
  · rw [List.getElem?_append_left (by simpa using hi), List.getElem?_map] at hd
    cases e : ds[i]? with
    | none => rw [e] at hd; cases hd
    | some d' =>
      rw [e] at hd
      obtain rfl : d' = d := by simpa using hd
      obtain ⟨v, hv, rv⟩ := r.get e
      refine ⟨v, ?_, rv⟩
      rw [List.getElem?_append_left (by rw [List.length_map, ← hl]; exact hi), List.getElem?_map, hv]
      rfl
  · rw [List.getElem?_append_right (by simpa using Nat.le_of_not_lt hi)] at hd
    rw [List.getElem?_replicate] at hd
    split at hd <;> cases hd
theorem lookup_mem {n : String} {d : D} : ∀ {l : List (String × D)}, l.lookup n = some d → d ∈ l.map (·.2)
  | [], h => by cases h
  | p :: l, h => by
    rw [List.lookup_cons] at h
    split at h
    · cases h; simp
    · have := lookup_mem h
      rw [List.map_cons]
      exact List.mem_cons_of_mem _ this
theorem all_ok (F : Facts G pr P w K mg base) (hck : ∀ d ∈ pr.fs, okDf pr d = true) : ∀ (n f : Nat) (d : Df) (fa : Addr) (fd : FuncData), pr.fs[f]? = some d → Fun K d.x d.x d.st fa fd →
    FnOk P w K mg base (L2.CX P w) (n + 2) fa fd (d.N.take d.fn.np) (spD G (pr.call n f) d.fn.np)
  | 0, f, d, fa, fd, hf, FF => ⟨fun vs H Q E ⟨ι, ds, st, _, _, _, h⟩ => h.elim, fun A outer s H args us vs Q E hr h0 hb hv ⟨ι, ds, st, _, _, _, h⟩ => h.elim⟩
  | n + 1, f, d, fa, fd, hf, FF => by
    have ih := all_ok F hck n
    have hc := hck d (List.mem_of_getElem? hf)
    unfold okDf at hc
    simp only [Bool.and_eq_true, decide_eq_true_eq] at hc
    obtain ⟨hns, hnp, hfs, hss⟩ := hc
    have Sc := fsB_ok hfs
    have hplen : (d.N.take d.fn.np).length = d.fn.np := by rw [List.length_take, Nat.min_eq_left hnp]
    refine FF.okX Sc (fun vs H Q E ⟨ι, ds, st, r, _, hl, _⟩ => by rw [hplen, ← hl, r.length]) (fun cdv A outer s H vs Q E hr ⟨ι, ds, st, r, S, hl, h⟩ => ?_)
    have o : StOk G (pr.tb d) ⟨pr.xc, pr.kt, pr.call n⟩ (n + 2) (fun cls dd _ H' => E cls dd H') (defScope d.st) (cxOf (L2.CX P w) P w K mg base d.N d.x (defScope d.st) fa cdv A outer s H E) := {
      c := { K := F.eK, N := rfl, nd := Sc.nd, calm := rfl, room := hr, sc := rfl, tk := takes_of rfl rfl rfl rfl
             fns := fun g x np hg => by
               have hg : (pr.fs.map fun d => (d.x, d.fn.np))[g]? = some (x, np) := hg
               rw [List.getElem?_map] at hg
               cases e : pr.fs[g]? with
               | none => rw [e] at hg; cases hg
               | some d' =>
                 rw [e] at hg
                 obtain ⟨rfl, rfl⟩ : d'.x = x ∧ d'.fn.np = np := by simpa using hg
                 obtain ⟨fa', fd', F1, hm, hb⟩ := F.fs g d' e
                 exact ⟨⟨fa', fd', _, ih g d' fa' fd' e F1, hm, F1.kp, hb⟩, fun ds st h => call_len e ds st h⟩
             bl := F.bl, cst := F.cst
             st := fun x hx => ⟨by
               unfold locB at hx
               rw [Bool.or_eq_true] at hx
               exact hx.imp of_decide_eq_true of_decide_eq_true, .inl rfl⟩ }
      kind := Sc.kind, ps := passes_of rfl, hs := rfl, hf := rfl, kt := F.kt.symm
      xf := fun c x kx h1 h2 => ⟨1, by omega, (F.xf c x kx h1 h2).imp id fun ⟨h, nd, le⟩ => ⟨h, nd, le⟩⟩
      hx := fun c kx h1 => (F.hx c kx h1).imp id fun ⟨A, e1, e2, e3, e4, e5⟩ => ⟨A, e1, e2, e3, fun n k hk hn => e4 n (by rw [h1] at hk; cases hk; exact hn), fun j k hk hj => e5 j (by rw [h1] at hk; cases hk; exact hj)⟩ }
    refine ⟨_, ok_ss d.fn.body _ _ _ hss o, ι, ds.map some ++ List.replicate (d.fn.ns - d.fn.np) none, st, start_rep r hns hl, S, ?_⟩
    have hT : pr.T[f]? = some d.fn := by show (pr.fs.map (·.fn))[f]? = _; rw [List.getElem?_map, hf]; rfl
    replace h : RPost G (fun cls dd _ H' => E cls dd H') (RD G) [] ι H (DL.callF pr.xc pr.kt pr.T (n + 1) f ds st) Q := h
    unfold DL.callF at h
    rw [hT] at h
    dsimp only at h
    rw [if_pos hl] at h
    show SPost G _ ι H _ (DL.evSs ⟨pr.xc, pr.kt, DL.callF pr.xc pr.kt pr.T n⟩ d.fn.body (ds.map some ++ List.replicate (d.fn.ns - d.fn.np) none) st)
    cases e : DL.evSs ⟨pr.xc, pr.kt, DL.callF pr.xc pr.kt pr.T n⟩ d.fn.body (ds.map some ++ List.replicate (d.fn.ns - d.fn.np) none) st with
    | bad => rw [e] at h; exact h
    | brk _ _ => rw [e] at h; exact h.elim
    | cnt _ _ => rw [e] at h; exact h.elim
    | nx ρ' st' =>
      rw [e] at h
      intro σ' H' ι' e' S' _
      obtain ⟨ι2, e2, S2, _⟩ := settle_ok (ds := []) S e' S'
      exact h .non H' ι2 e2 S2 rfl
    | ret d' st' =>
      rw [e] at h
      intro v H' ι' e' S' rv
      obtain ⟨ι2, e2, S2, k2⟩ := settle_ok (ds := [d']) S e' S'
      exact h v H' ι2 e2 S2 (k2 d' (by simp) v rv)
    | exc x ρ' st' =>
      rw [e] at h
      intro cls dd σ' H' ι' e' S' _ rx
      obtain ⟨C, a, fs, x1, x2, x3, x4, x5⟩ := rx
      obtain ⟨ι2, e2, S2, k2⟩ := settle_ok (ds := x.flds.map (·.2)) S e' S'
      exact h cls dd H' ι2 e2 S2 ⟨C, a, fs, x1, x2, x3, x4, fun n d hn => by
        obtain ⟨v, hv, rv⟩ := x5 n d hn
        exact ⟨v, hv, k2 d (lookup_mem hn) v rv⟩⟩
end
end DS

set_option Elab.async false
set_option linter.all false
set_option maxRecDepth 100000
set_option maxHeartbeats 8000000
/-! what the written part says, gathered; the law's end -/
namespace DS
open PySem PySem.Spec PyProof.Rows L2
open DL (D Cell Store DX Res SRes E XE Hs XCls S)

section
variable {K : PySem.W.Frag}
def FnK (K : PySem.W.Frag) (x : Str) (st : Stmt) : Prop := ∃ f fd, PySem.W.nsIn K mainGlobals x = some (some (.ref f)) ∧ Fun K x x st f fd
theorem FnK.mk {x : Str} {st : Stmt} {f : Addr} {oc : Value} {od an : Option Addr} {sl : Array (Option Value)} {kV dc pm cd ct : Value} (a : PySem.W.nsIn K mainGlobals x = some (some (.ref f)))
    (l : K.lookup f = some ⟨oc, od, .func (PySem.W.fnOf x x (defArgs st) (defBody st) (defScope st) .none kV dc pm an cd ct), sl⟩) (c : PySem.W.codeIn K cd x = true) (k : PySem.W.keepIn K (.ref f) = true) : FnK K x st := ⟨f, _, a, fun_mk l c k⟩
structure ExcB (K : PySem.W.Frag) (y qual : Str) (fl : List Str) (st : Stmt) (C S fI : Addr) (fd : FuncData) : Prop where
  aS : PySem.W.nsIn K mainGlobals y = some (some (.ref S))
  ox : OexC K C
  hc : HCls K C
  iC : PySem.W.findIn K (.ref C) "__init__" = some (some (.ref fI))
  tI : PySem.W.typeIn K (.ref fI) = some (.type "function")
  fn : Fun K "__init__" qual st fI fd
  no : ∀ n ∈ fl, PySem.W.findIn K (.ref C) n = some none
  kS : PySem.W.kitOne K (.ref C) (.ref S) = some true
  bx : BaseX K S
def ExcK (K : PySem.W.Frag) (x y qual : Str) (fl : List Str) (st : Stmt) : Prop := ∃ C S fI fd, PySem.W.nsIn K mainGlobals x = some (some (.ref C)) ∧ ExcB K y qual fl st C S fI fd
theorem ExcK.mk {x y qual : Str} {fl : List Str} {st : Stmt} {C S fI : Addr} {nm q : Str} {N : Addr} {bs bm : List Value} {sn : List Str} {sub : List Value} {ab : Bool} {col : Option Bool} {dd : Option Addr} {m0 m1 m2 m3 m5 : Option Value} {od an : Option Addr} {sl : Array (Option Value)} {oc kV dc pm cd ct : Value}
    (aC : PySem.W.nsIn K mainGlobals x = some (some (.ref C))) (aS : PySem.W.nsIn K mainGlobals y = some (some (.ref S)))
    (xL : K.lookup C = some (excClassObj nm q C N bs bm true sn sub ab col dd m0 m1 m2 m3 m5 "ValueError.__new__")) (hbm : PySem.HandSPX.refsVE bm = true)
    (sa : PySem.W.findIn K (.ref C) "__setattr__" = some (some (.builtin "object.__setattr__"))) (ga : PySem.W.findIn K (.ref C) "__getattribute__" = some (some (.builtin "BaseException.__getattribute__"))) (gg : PySem.W.findIn K (.ref C) "__getattr__" = some none)
    (no : ∀ n ∈ fl, PySem.W.findIn K (.ref C) n = some none)
    (i1 : PySem.W.findIn K (.ref C) "__init__" = some (some (.ref fI))) (t1 : PySem.W.typeIn K (.ref fI) = some (.type "function"))
    (l1 : K.lookup fI = some ⟨oc, od, .func (PySem.W.fnOf "__init__" qual (defArgs st) (defBody st) (defScope st) .none kV dc pm an cd ct), sl⟩) (c1 : PySem.W.codeIn K cd qual = true) (k1 : PySem.W.keepIn K (.ref fI) = true)
    (kC : PySem.W.keepIn K (.ref C) = true) (eC : PySem.W.subIn K (.ref C) (.type "BaseException") = some true) (tC : PySem.W.typeIn K (.ref C) = some (.type "type")) (hC : PySem.W.hasDictIn K C = true) (cl : (PySem.W.clsIn K C).isSome = true) (sC : PySem.W.subIn K (.ref C) (.ref C) = some true)
    (ca : PySem.W.findIn K (.ref C) "__class__" = some (some (.builtin "object.__class__"))) (cn : PySem.W.specialIn K (.builtin "object.__class__") "__get__" = some (some (.builtin "getset_descriptor.__get__"))) (ct' : PySem.W.takesIn K (.builtin "object.__class__") = some true) (cm : PySem.W.mroIn K C (.type "object") = some true)
    (kS : PySem.W.kitOne K (.ref C) (.ref S) = some true)
    (b1 : PySem.W.typeIn K (.ref S) = some (.type "type")) (b2 : PySem.W.specialIn K (.ref S) "__getattribute__" = some (some (.builtin "type.__getattribute__"))) (b3 : PySem.W.readsIn K S (.type "type") = true) (b4 : PySem.W.findCls K (.ref S) (.type "type") "__init__" = some (.val (.builtin "ValueError.__init__"))) :
    ExcK K x y qual fl st :=
  ⟨C, S, fI, _, aC, aS, ⟨⟨nm, q, N, bs, bm, sn, sub, ab, col, dd, m0, m1, m2, m3, m5, xL, hbm⟩, sa, eC, tC, kC⟩, ⟨⟨ga, gg, eC, hC⟩, cl, tC, sC, ca, cn, ct', cm⟩, i1, t1, fun_mk l1 c1 k1, no, kS, ⟨b1, b2, b3, b4⟩⟩

/-! ### constants -/
def CstK (K : PySem.W.Frag) (kt : List D) (x : Str) (d : D) : Prop := ∃ u v, PySem.W.nsIn K mainGlobals x = some (some u) ∧ RelV v u ∧ ∀ G : Gl, G.K = K → G.kt = kt → ∀ ι H, Rep G ι H d v
def valB : D → Value → Bool
  | .non, .none => true
  | .bl a, .bool b => decide (a = b)
  | .int i, .int j _ => decide (i = j)
  | .str s, .str t _ => decide (sS s = t) && (DL.okS s.length && PyData.strOk t)
  | _, _ => false
def valsB : List D → List Value → Bool
  | [], [] => true
  | d :: ds, u :: us => valB d u && valsB ds us
  | _, _ => false
theorem valB_ok {d : D} {u : Value} (h : valB d u = true) : ∃ v, RelV v u ∧ ∀ (G : Gl) ι H, Rep G ι H d v := by
  cases d <;> cases u <;> first | (cases h; done) | skip
  · exact ⟨.non, rfl, fun _ _ _ => rfl⟩
  · obtain rfl := of_decide_eq_true h
    exact ⟨.bl _, rfl, fun _ _ _ => rfl⟩
  · obtain rfl := of_decide_eq_true h
    exact ⟨.int _, ⟨_, rfl⟩, fun _ _ _ => rfl⟩
  · unfold valB at h
    rw [Bool.and_eq_true, Bool.and_eq_true] at h
    obtain ⟨h1, h2, h3⟩ := h
    obtain rfl := of_decide_eq_true h1
    exact ⟨.str _, ⟨_, rfl⟩, fun _ _ _ => ⟨rfl, lineM (of_decide_eq_true h2), h3⟩⟩
theorem valsB_ok : ∀ {ds : List D} {us : List Value}, valsB ds us = true → ∃ vs, Vals vs us ∧ ∀ (G : Gl) ι H, RepL G ι H ds vs
  | [], [], _ => ⟨[], .nil, fun _ _ _ => rfl⟩
  | d :: ds, u :: us, h => by
    unfold valsB at h
    rw [Bool.and_eq_true] at h
    obtain ⟨v, r, p⟩ := valB_ok h.1
    obtain ⟨vs, rs, ps⟩ := valsB_ok h.2
    exact ⟨v :: vs, .cons r rs, fun G ι H => ⟨v, vs, rfl, p G ι H, ps G ι H⟩⟩
  | [], _ :: _, h | _ :: _, [], h => by cases h
theorem CstK.one {kt : List D} {x : Str} {d : D} {u : Value} (a : PySem.W.nsIn K mainGlobals x = some (some u)) (h : valB d u = true) : CstK K kt x d := by
  obtain ⟨v, r, p⟩ := valB_ok h
  exact ⟨u, v, a, r, fun G _ _ => p G⟩
theorem CstK.tup {kt : List D} {x : Str} {ds : List D} {p : Addr} {od : Option Addr} {its : Array Value} {n : Nat} {sl : Array (Option Value)} (a : PySem.W.nsIn K mainGlobals x = some (some (.ref p))) (l : K.lookup p = some ⟨.type "tuple", od, .seq its n, sl⟩) (h : valsB ds its.toList = true) (hz : its.size ≤ 1000) (hk : (kt.any fun d => DL.D.same d (.tup ds)) = true) : CstK K kt x (.tup ds) := by
  obtain ⟨vs, r, q⟩ := valsB_ok h
  refine ⟨.ref p, .ref p, a, rfl, fun G e1 e2 ι H => ⟨p, vs, rfl, .inr ⟨⟨_, its, n, by rw [e1]; exact l, rfl, rfl, Nat.le_of_lt (small1000 hz), r⟩, ?_⟩, q G ι H⟩⟩
  rw [List.any_eq_true] at hk
  obtain ⟨d, hd, e⟩ := hk
  exact ⟨d, by rw [e2]; exact hd, e⟩
theorem look_all {α β : Type} [BEq α] [LawfulBEq α] {Q : α → β → Prop} : ∀ {l : List (α × β)}, (∀ p ∈ l, Q p.1 p.2) → ∀ x d, l.lookup x = some d → Q x d
  | [], _, x, d, h => by cases h
  | p :: l, q, x, d, h => by
    rw [List.lookup_cons] at h
    split at h
    · rename_i e
      cases h
      have : x = p.1 := by simpa using e
      rw [this]
      exact q p (by simp)
    · exact look_all (fun p hp => q p (by simp [hp])) x d h
end

/-! ### the end -/
def spL (K : PySem.W.Frag) (kt : List D) (m : List D → Store → Res D) : Sp := fun vs H Q E => ∀ G : Gl, G.K = K → G.kt = kt → spD G m 1 vs H Q E
theorem spL_law {K : PySem.W.Frag} {kt : List D} {m : List D → Store → Res D} {n : Nat} (h : ∀ ns : List Int, ns.length ≤ n → ∃ st, m [.fl ns] [] = .ok (.bl true) st) (H : Hp) (a : Addr) (ns : List Int) (hl : ns.length ≤ n) (hO : L2.Only H) (hS : SqL K H a (ns.map V.int)) :
    spL K kt m [.ref a] H (fun v _ => v = .bl true) fun _ _ _ => False := by
  intro G e1 e2
  obtain ⟨st, e⟩ := h ns hl
  refine ⟨[], [.fl ns], [], ⟨.ref a, [], rfl, ⟨a, rfl, ?_⟩, rfl⟩, ⟨rfl, List.nodup_nil, fun l c hc => by cases hc⟩, rfl, ?_⟩
  · rcases hS with (h | ⟨o, h⟩) | h
    · rcases hO a with z | ⟨o, xs, z⟩
      · rw [z] at h; cases h
      · rw [z] at h; cases h
    · exact .inl ⟨o, h⟩
    · exact .inr (by rw [e1]; exact h)
  · rw [e]
    exact fun b H' ι' _ _ r => r
end DS

set_option linter.all false
set_option maxRecDepth 100000
namespace K58
open DL (D E S Fn XE Hs XCls)
def c_SMALL : D := .str [97, 98, 99, 100, 101, 102, 103, 104, 105, 106, 107, 108, 109, 110, 111, 112, 113, 114, 115, 116, 117, 118, 119, 120, 121, 122]
def c_GREAT : D := .str [65, 66, 67, 68, 69, 70, 71, 72, 73, 74, 75, 76, 77, 78, 79, 80, 81, 82, 83, 84, 85, 86, 87, 88, 89, 90]
def c_DIGITS : D := .str [48, 49, 50, 51, 52, 53, 54, 55, 56, 57]
def c_RUNS : D := .str [97, 98, 99, 100, 101, 102, 103, 104, 105, 106, 107, 108, 109, 110, 111, 112, 113, 114, 115, 116, 117, 118, 119, 120, 121, 122, 65, 66, 67, 68, 69, 70, 71, 72, 73, 74, 75, 76, 77, 78, 79, 80, 81, 82, 83, 84, 85, 86, 87, 88, 89, 90, 48, 49, 50, 51, 52, 53, 54, 55, 56, 57]
def c_MOST_WORD : D := .int (24)
def c_STEPS : D := .tup [.str [107, 101, 101, 112], .str [99, 104, 97, 110, 103, 101], .str [108, 101, 97, 118, 101], .str [112, 117, 116]]
/-- is_word(value): 0:value 1:sign -/
def f_is_word : Fn := ⟨1, 2, [
  .ret (.and [(.isi (.var 0) .str), (.chain .lt .le (.cst (.int (0))) (.bi .len [(.var 0)]) (.cst c_MOST_WORD)), (.bi .all [(.lc (.cmp .isin (.var 1) (.cst c_RUNS)) (.var 1) (.var 0) [] [("sign", 1)])])])]⟩
/-- look_at_word(value): 0:value -/
def f_look_at_word : Fn := ⟨1, 1, [
  .ifs (.not (.call 0 [(.var 0)])) [
    .rais 1 [(.cst (.str [119, 111, 114, 100]))]] []]⟩
/-- rest_rows(one, two): 0:one 1:two 2:rows 3:_ 4:at 5:place 6:found -/
def f_rest_rows : Fn := ⟨2, 7, [
  .set 2 (.lc (.bin .mul (.lst [(.cst (.int (0)))]) (.bin .add (.bi .len [(.var 1)]) (.cst (.int (1))))) (.var 3) (.rng [(.bin .add (.bi .len [(.var 0)]) (.cst (.int (1))))]) [] [("_", 3)]),
  .for (.var 4) (.rng [(.bi .len [(.var 0)]), (.neg (.cst (.int (1)))), (.neg (.cst (.int (1))))]) [
    .for (.var 5) (.rng [(.bi .len [(.var 1)]), (.neg (.cst (.int (1)))), (.neg (.cst (.int (1))))]) [
      .set 6 (.ife (.or [(.cmp .lt (.var 4) (.bi .len [(.var 0)])), (.cmp .lt (.var 5) (.bi .len [(.var 1)]))]) (.lst []) (.lst [(.cst (.int (0)))])),
      .ifs (.cmp .lt (.var 4) (.bi .len [(.var 0)])) [
        .ex (.me .append (.var 6) [(.bin .add (.ix (.ix (.var 2) (.bin .add (.var 4) (.cst (.int (1))))) (.var 5)) (.cst (.int (1))))])] [],
      .ifs (.cmp .lt (.var 5) (.bi .len [(.var 1)])) [
        .ex (.me .append (.var 6) [(.bin .add (.ix (.ix (.var 2) (.var 4)) (.bin .add (.var 5) (.cst (.int (1))))) (.cst (.int (1))))])] [],
      .ifs (.and [(.cmp .lt (.var 4) (.bi .len [(.var 0)])), (.cmp .lt (.var 5) (.bi .len [(.var 1)]))]) [
        .ex (.me .append (.var 6) [(.bin .add (.ix (.ix (.var 2) (.bin .add (.var 4) (.cst (.int (1))))) (.bin .add (.var 5) (.cst (.int (1))))) (.bi .int [(.cmp .ne (.ix (.var 0) (.var 4)) (.ix (.var 1) (.var 5)))]))])] [],
      .setX (.ix (.var 2) (.var 4)) (.var 5) (.bi .min [(.var 6)])]],
  .ret (.var 2)]⟩
/-- script_of(one, two): 0:one 1:two 2:rows 3:at 4:place 5:found 6:name 7:more 8:other 9:cost -/
def f_script_of : Fn := ⟨2, 10, [
  .ex (.call 1 [(.var 0)]),
  .ex (.call 1 [(.var 1)]),
  .setT (.tup [.var 2, .var 3, .var 4, .var 5]) (.tup [(.call 2 [(.var 0), (.var 1)]), (.cst (.int (0))), (.cst (.int (0))), (.lst [])]),
  .whl (.or [(.cmp .lt (.var 3) (.bi .len [(.var 0)])), (.cmp .lt (.var 4) (.bi .len [(.var 1)]))]) [
    .for (.var 6) (.cst c_STEPS) [
      .setT (.tup [.var 7, .var 8]) (.call 4 [(.var 6)]),
      .set 9 (.call 5 [(.var 0), (.var 1), (.var 3), (.var 4), (.var 6)]),
      .ifs (.and [(.cmp .isnot (.var 9) (.cst (.non))), (.cmp .eq (.bin .add (.ix (.ix (.var 2) (.bin .add (.var 3) (.var 7))) (.bin .add (.var 4) (.var 8))) (.var 9)) (.ix (.ix (.var 2) (.var 3)) (.var 4)))]) [
        .ex (.me .append (.var 5) [(.var 6)]),
        .setT (.tup [.var 3, .var 4]) (.tup [(.bin .add (.var 3) (.var 7)), (.bin .add (.var 4) (.var 8))]),
        .brk] []]],
  .ret (.bi .tuple [(.var 5)])]⟩
/-- moved_by(name): 0:name -/
def f_moved_by : Fn := ⟨1, 1, [
  .ret (.tup [(.bi .int [(.cmp .ne (.var 0) (.cst (.str [112, 117, 116])))]), (.bi .int [(.cmp .ne (.var 0) (.cst (.str [108, 101, 97, 118, 101])))])])]⟩
/-- step_cost(one, two, at, place, name): 0:one 1:two 2:at 3:place 4:name 5:more 6:other -/
def f_step_cost : Fn := ⟨5, 7, [
  .setT (.tup [.var 5, .var 6]) (.call 4 [(.var 4)]),
  .ifs (.or [(.cmp .gt (.bin .add (.var 2) (.var 5)) (.bi .len [(.var 0)])), (.cmp .gt (.bin .add (.var 3) (.var 6)) (.bi .len [(.var 1)]))]) [
    .ret (.cst (.non))] [],
  .ifs (.cmp .isin (.var 4) (.tup [(.cst (.str [107, 101, 101, 112])), (.cst (.str [99, 104, 97, 110, 103, 101]))])) [
    .ret (.ife (.cmp .ne (.cmp .eq (.ix (.var 0) (.var 2)) (.ix (.var 1) (.var 3))) (.cmp .eq (.var 4) (.cst (.str [107, 101, 101, 112])))) (.cst (.non)) (.bi .int [(.cmp .eq (.var 4) (.cst (.str [99, 104, 97, 110, 103, 101])))]))] [],
  .ret (.cst (.int (1)))]⟩
/-- script_cost(script): 0:script 1:name -/
def f_script_cost : Fn := ⟨1, 2, [
  .ret (.bi .len [(.lc (.var 1) (.var 1) (.var 0) [(.cmp .ne (.var 1) (.cst (.str [107, 101, 101, 112])))] [("name", 1)])])]⟩
/-- script_fault(one, two, value): 0:one 1:two 2:value 3:name 4:at 5:place 6:number 7:more 8:other -/
def f_script_fault : Fn := ⟨3, 9, [
  .ex (.call 1 [(.var 0)]),
  .ex (.call 1 [(.var 1)]),
  .ifs (.or [(.not (.isi (.var 2) .tuple)), (.not (.bi .all [(.lc (.and [(.isi (.var 3) .str), (.cmp .isin (.var 3) (.cst c_STEPS))]) (.var 3) (.var 2) [] [("name", 3)])]))]) [
    .ret (.tup [(.cst (.str [102, 111, 114, 109]))])] [],
  .setT (.tup [.var 4, .var 5]) (.tup [(.cst (.int (0))), (.cst (.int (0)))]),
  .for (.tup [.var 6, .var 3]) (.enum (.var 2)) [
    .ifs (.cmp .is (.call 5 [(.var 0), (.var 1), (.var 4), (.var 5), (.var 3)]) (.cst (.non))) [
      .ret (.tup [(.cst (.str [115, 116, 101, 112])), (.var 6)])] [],
    .setT (.tup [.var 7, .var 8]) (.call 4 [(.var 3)]),
    .setT (.tup [.var 4, .var 5]) (.tup [(.bin .add (.var 4) (.var 7)), (.bin .add (.var 5) (.var 8))])],
  .ret (.ife (.cmp .eq (.tup [(.var 4), (.var 5)]) (.tup [(.bi .len [(.var 0)]), (.bi .len [(.var 1)])])) (.cst (.non)) (.tup [(.cst (.str [101, 110, 100]))]))]⟩
/-- _law_draws(script): 0:script -/
def f__law_draws : Fn := ⟨1, 1, [
  .ret (.lst [(.bi .list [(.var 0)]), (.cst (.int (0))), (.cst (.int (0))), (.cst (.int (1)))])]⟩
/-- _law_draw(draws, limit): 0:draws 1:limit 2:cell 3:value -/
def f__law_draw : Fn := ⟨2, 4, [
  .ifs (.and [(.cmp .eq (.ix (.var 0) (.cst (.int (2)))) (.cst (.int (0)))), (.cmp .lt (.ix (.var 0) (.cst (.int (1)))) (.bi .len [(.ix (.var 0) (.cst (.int (0))))]))]) [
    .set 2 (.ix (.ix (.var 0) (.cst (.int (0)))) (.ix (.var 0) (.cst (.int (1))))),
    .setX (.var 0) (.cst (.int (1))) (.bin .add (.ix (.var 0) (.cst (.int (1)))) (.cst (.int (1)))),
    .ifs (.cmp .ge (.var 2) (.bin .pow (.cst (.int (10))) (.cst (.int (18))))) [
      .setX (.var 0) (.cst (.int (2))) (.var 2)] [],
    .setX (.var 0) (.cst (.int (3))) (.bin .mod (.bi .int [(.bin .add (.bin .add (.bin .mul (.ix (.var 0) (.cst (.int (3)))) (.cst (.int (48271)))) (.var 2)) (.cst (.int (13))))]) (.cst (.int (2147483647))))] [],
  .ifs (.cmp .gt (.ix (.var 0) (.cst (.int (2)))) (.cst (.int (0)))) [
    .set 3 (.bin .mod (.bi .int [(.ix (.var 0) (.cst (.int (2))))]) (.var 1)),
    .setX (.var 0) (.cst (.int (2))) (.bin .fdiv (.ix (.var 0) (.cst (.int (2)))) (.var 1)),
    .ret (.var 3)] [],
  .setX (.var 0) (.cst (.int (3))) (.bin .mod (.bi .int [(.bin .add (.bin .mul (.ix (.var 0) (.cst (.int (3)))) (.cst (.int (69621)))) (.cst (.int (7))))]) (.cst (.int (2147483629)))),
  .ret (.bin .mod (.bi .int [(.bin .fdiv (.ix (.var 0) (.cst (.int (3)))) (.cst (.int (11))))]) (.var 1))]⟩
/-- _law_pick(draws, row): 0:draws 1:row -/
def f__law_pick : Fn := ⟨2, 2, [
  .ret (.ix (.var 1) (.call 9 [(.var 0), (.bi .len [(.var 1)])]))]⟩
/-- _law_same(actual, expected): 0:actual 1:expected 2:k -/
def f__law_same : Fn := ⟨2, 3, [
  .ifs (.or [(.isi (.var 1) .tuple), (.isi (.var 1) .list)]) [
    .ifs (.or [(.cmp .ne (.isi (.var 0) .tuple) (.isi (.var 1) .tuple)), (.cmp .ne (.isi (.var 0) .list) (.isi (.var 1) .list))]) [
      .ret (.cst (.bl false))] [],
    .ifs (.cmp .ne (.bi .len [(.var 0)]) (.bi .len [(.var 1)])) [
      .ret (.cst (.bl false))] [],
    .ret (.cmp .eq (.bi .len [(.lc (.var 2) (.var 2) (.rng [(.bi .len [(.var 1)])]) [(.not (.call 11 [(.ix (.var 0) (.var 2)), (.ix (.var 1) (.var 2))]))] [("k", 2)])]) (.cst (.int (0))))] [],
  .ifs (.or [(.isi (.var 1) .bool), (.isi (.var 0) .bool)]) [
    .ret (.and [(.isi (.var 1) .bool), (.isi (.var 0) .bool), (.cmp .eq (.var 0) (.var 1))])] [],
  .ifs (.or [(.cmp .is (.var 1) (.cst (.non))), (.cmp .is (.var 0) (.cst (.non)))]) [
    .ret (.and [(.cmp .is (.var 1) (.cst (.non))), (.cmp .is (.var 0) (.cst (.non)))])] [],
  .ifs (.or [(.isi (.var 1) .str), (.isi (.var 0) .str)]) [
    .ret (.and [(.isi (.var 1) .str), (.isi (.var 0) .str), (.cmp .eq (.var 0) (.var 1))])] [],
  .ret (.and [(.isi (.var 0) .int), (.isi (.var 1) .int), (.cmp .eq (.var 0) (.var 1))])]⟩
/-- _law_far(one, two): 0:one 1:two 2:column 3:k 4:sign 5:above -/
def f__law_far : Fn := ⟨2, 6, [
  .set 2 (.lc (.var 3) (.var 3) (.rng [(.bin .add (.bi .len [(.var 0)]) (.cst (.int (1))))]) [] [("k", 3)]),
  .for (.var 4) (.var 1) [
    .set 5 (.lst [(.bin .add (.ix (.var 2) (.cst (.int (0)))) (.cst (.int (1))))]),
    .for (.var 3) (.rng [(.bi .len [(.var 0)])]) [
      .ex (.me .append (.var 5) [(.bi .min [(.bi .int [(.bin .add (.ix (.var 5) (.var 3)) (.cst (.int (1))))]), (.bi .int [(.bin .add (.ix (.var 2) (.bin .add (.var 3) (.cst (.int (1))))) (.cst (.int (1))))]), (.bi .int [(.bin .add (.ix (.var 2) (.var 3)) (.ife (.cmp .eq (.ix (.var 0) (.var 3)) (.var 4)) (.cst (.int (0))) (.cst (.int (1)))))])])])],
    .set 2 (.var 5)],
  .ret (.ix (.var 2) (.neg (.cst (.int (1)))))]⟩
/-- _law_all(one, two): 0:one 1:two 2:known 3:at 4:to 5:rows 6:word 7:least 8:row -/
def f__law_all : Fn := ⟨2, 9, [
  .set 2 (.dic true),
  .for (.var 3) (.rng [(.bi .len [(.var 0)]), (.neg (.cst (.int (1)))), (.neg (.cst (.int (1))))]) [
    .for (.var 4) (.rng [(.bi .len [(.var 1)]), (.neg (.cst (.int (1)))), (.neg (.cst (.int (1))))]) [
      .set 5 (.ife (.or [(.cmp .lt (.var 3) (.bi .len [(.var 0)])), (.cmp .lt (.var 4) (.bi .len [(.var 1)]))]) (.lst []) (.lst [(.tup [(.cst (.int (0))), (.tup [])])])),
      .ifs (.and [(.cmp .lt (.var 3) (.bi .len [(.var 0)])), (.cmp .lt (.var 4) (.bi .len [(.var 1)]))]) [
        .set 6 (.ife (.cmp .eq (.ix (.var 0) (.var 3)) (.ix (.var 1) (.var 4))) (.cst (.str [107, 101, 101, 112])) (.cst (.str [99, 104, 97, 110, 103, 101]))),
        .ex (.me .append (.var 5) [(.tup [(.bin .add (.ix (.ix (.var 2) (.tup [(.bin .add (.var 3) (.cst (.int (1)))), (.bin .add (.var 4) (.cst (.int (1))))])) (.cst (.int (0)))) (.bi .int [(.cmp .eq (.var 6) (.cst (.str [99, 104, 97, 110, 103, 101])))])), (.bin .add (.tup [(.var 6)]) (.ix (.ix (.var 2) (.tup [(.bin .add (.var 3) (.cst (.int (1)))), (.bin .add (.var 4) (.cst (.int (1))))])) (.cst (.int (1)))))])])] [],
      .ifs (.cmp .lt (.var 3) (.bi .len [(.var 0)])) [
        .ex (.me .append (.var 5) [(.tup [(.bin .add (.ix (.ix (.var 2) (.tup [(.bin .add (.var 3) (.cst (.int (1)))), (.var 4)])) (.cst (.int (0)))) (.cst (.int (1)))), (.bin .add (.tup [(.cst (.str [108, 101, 97, 118, 101]))]) (.ix (.ix (.var 2) (.tup [(.bin .add (.var 3) (.cst (.int (1)))), (.var 4)])) (.cst (.int (1)))))])])] [],
      .ifs (.cmp .lt (.var 4) (.bi .len [(.var 1)])) [
        .ex (.me .append (.var 5) [(.tup [(.bin .add (.ix (.ix (.var 2) (.tup [(.var 3), (.bin .add (.var 4) (.cst (.int (1))))])) (.cst (.int (0)))) (.cst (.int (1)))), (.bin .add (.tup [(.cst (.str [112, 117, 116]))]) (.ix (.ix (.var 2) (.tup [(.var 3), (.bin .add (.var 4) (.cst (.int (1))))])) (.cst (.int (1)))))])])] [],
      .set 7 (.bi .min [(.lc (.ix (.var 8) (.cst (.int (0)))) (.var 8) (.var 5) [] [("row", 8)])]),
      .setX (.var 2) (.tup [(.var 3), (.var 4)]) (.ix (.lc (.var 8) (.var 8) (.var 5) [(.cmp .eq (.ix (.var 8) (.cst (.int (0)))) (.var 7))] [("row", 8)]) (.cst (.int (0))))]],
  .ret (.ix (.var 2) (.tup [(.cst (.int (0))), (.cst (.int (0)))]))]⟩
/-- _law_fault(one, two, value): 0:one 1:two 2:value 3:name 4:at 5:to 6:k -/
def f__law_fault : Fn := ⟨3, 7, [
  .ifs (.or [(.not (.isi (.var 2) .tuple)), (.cmp .ne (.lc (.var 3) (.var 3) (.var 2) [(.or [(.not (.isi (.var 3) .str)), (.cmp .notin (.var 3) (.tup [(.cst (.str [107, 101, 101, 112])), (.cst (.str [99, 104, 97, 110, 103, 101])), (.cst (.str [108, 101, 97, 118, 101])), (.cst (.str [112, 117, 116]))]))])] [("name", 3)]) (.lst []))]) [
    .ret (.tup [(.cst (.str [102, 111, 114, 109]))])] [],
  .setT (.tup [.var 4, .var 5]) (.tup [(.cst (.int (0))), (.cst (.int (0)))]),
  .for (.var 6) (.rng [(.bi .len [(.var 2)])]) [
    .set 3 (.ix (.var 2) (.var 6)),
    .ifs (.or [(.and [(.cmp .ne (.var 3) (.cst (.str [112, 117, 116]))), (.cmp .ge (.var 4) (.bi .len [(.var 0)]))]), (.and [(.cmp .ne (.var 3) (.cst (.str [108, 101, 97, 118, 101]))), (.cmp .ge (.var 5) (.bi .len [(.var 1)]))])]) [
      .ret (.tup [(.cst (.str [115, 116, 101, 112])), (.var 6)])] [],
    .ifs (.and [(.cmp .isin (.var 3) (.tup [(.cst (.str [107, 101, 101, 112])), (.cst (.str [99, 104, 97, 110, 103, 101]))])), (.cmp .ne (.cmp .eq (.ix (.var 0) (.var 4)) (.ix (.var 1) (.var 5))) (.cmp .eq (.var 3) (.cst (.str [107, 101, 101, 112]))))]) [
      .ret (.tup [(.cst (.str [115, 116, 101, 112])), (.var 6)])] [],
    .setT (.tup [.var 4, .var 5]) (.tup [(.bin .add (.var 4) (.bi .int [(.cmp .ne (.var 3) (.cst (.str [112, 117, 116])))])), (.bin .add (.var 5) (.bi .int [(.cmp .ne (.var 3) (.cst (.str [108, 101, 97, 118, 101])))]))])],
  .ret (.ife (.and [(.cmp .eq (.var 4) (.bi .len [(.var 0)])), (.cmp .eq (.var 5) (.bi .len [(.var 1)]))]) (.cst (.non)) (.tup [(.cst (.str [101, 110, 100]))]))]⟩
/-- _law_drawn(draws): 0:draws 1:k -/
def f__law_drawn : Fn := ⟨1, 2, [
  .ret (.me .join (.cst (.str [])) [(.lc (.call 10 [(.var 0), (.lst [(.cst (.str [97])), (.cst (.str [98])), (.cst (.str [99])), (.cst (.str [97])), (.cst (.str [90])), (.cst (.str [48]))])]) (.var 1) (.rng [(.bin .add (.cst (.int (1))) (.call 9 [(.var 0), (.cst (.int (8)))]))]) [] [("k", 1)])])]⟩
/-- law(script): 0:script 1:draws 2:turn 3:one 4:at 5:two 6:cost 7:due 8:told 9:k 10:place 11:other 12:rows 13:bent 14:words 15:bad 16:error -/
def f_law : Fn := ⟨1, 17, [
  .set 1 (.call 8 [(.var 0)]),
  .for (.var 2) (.rng [(.cst (.int (14)))]) [
    .set 3 (.call 15 [(.var 1)]),
    .set 4 (.call 9 [(.var 1), (.bi .len [(.var 3)])]),
    .set 5 (.ife (.cmp .eq (.call 9 [(.var 1), (.cst (.int (2)))]) (.cst (.int (0)))) (.call 15 [(.var 1)]) (.sl (.bin .add (.bin .add (.sl (.var 3) .nop (.var 4)) (.sl (.call 15 [(.var 1)]) .nop (.cst (.int (1))))) (.sl (.var 3) (.bin .add (.var 4) (.call 9 [(.var 1), (.cst (.int (2)))])) .nop)) .nop (.cst (.int (12))))),
    .setT (.tup [.var 6, .var 7]) (.call 13 [(.var 3), (.var 5)]),
    .set 8 (.call 3 [(.var 3), (.var 5)]),
    .ifs (.or [(.not (.call 11 [(.var 8), (.var 7)])), (.not (.call 11 [(.call 6 [(.var 8)]), (.var 6)])), (.cmp .ne (.var 6) (.call 12 [(.var 3), (.var 5)]))]) [
      .ret (.cst (.bl false))] [],
    .for (.var 9) (.rng [(.cst (.int (6)))]) [
      .set 10 (.call 9 [(.var 1), (.bi .len [(.var 8)])]),
      .set 11 (.bin .add (.bin .add (.sl (.var 8) .nop (.var 10)) (.tup [(.call 10 [(.var 1), (.lst [(.cst (.str [107, 101, 101, 112])), (.cst (.str [99, 104, 97, 110, 103, 101])), (.cst (.str [108, 101, 97, 118, 101])), (.cst (.str [112, 117, 116]))])])])) (.sl (.var 8) (.bin .add (.var 10) (.cst (.int (1)))) .nop)),
      .set 12 (.lst [(.var 8), (.bin .add (.sl (.var 8) .nop (.var 10)) (.sl (.var 8) (.bin .add (.var 10) (.cst (.int (1)))) .nop)), (.var 11), (.var 11), (.bin .add (.var 8) (.tup [(.cst (.str [112, 117, 116]))])), (.bin .add (.var 8) (.tup [(.cst (.str [107, 101, 101, 112]))])), (.bi .list [(.var 8)]), (.bin .add (.sl (.var 8) .nop (.var 10)) (.tup [(.cst (.non))]))]),
      .set 13 (.call 10 [(.var 1), (.bin .add (.var 12) (.lst [(.bin .add (.bin .mul (.tup [(.cst (.str [108, 101, 97, 118, 101]))]) (.bi .len [(.var 3)])) (.bin .mul (.tup [(.cst (.str [112, 117, 116]))]) (.bi .len [(.var 5)])))]))]),
      .ifs (.not (.call 11 [(.call 7 [(.var 3), (.var 5), (.var 13)]), (.call 14 [(.var 3), (.var 5), (.var 13)])])) [
        .ret (.cst (.bl false))] []]],
  .set 14 (.lst []),
  .for (.var 15) (.tup [(.cst (.non)), (.cst (.str [])), (.cst (.str [97, 32, 98])), (.bin .mul (.cst (.str [97])) (.cst (.int (25)))), (.cst (.int (7)))]) [
    .tryA [
      .ex (.call 3 [(.var 15), (.cst (.str [97]))])] 1 16 (.app 14 (.isf 0 (.fld "why") (.str [])))],
  .ret (.cmp .eq (.var 14) (.bin .mul (.lst [(.cst (.str [119, 111, 114, 100]))]) (.cst (.int (5)))))]⟩
def xcs : List XCls := [⟨[], [0]⟩, ⟨["why"], [1, 0]⟩]
def fns : List Fn := [f_is_word, f_look_at_word, f_rest_rows, f_script_of, f_moved_by, f_step_cost, f_script_cost, f_script_fault, f__law_draws, f__law_draw, f__law_pick, f__law_same, f__law_far, f__law_all, f__law_fault, f__law_drawn, f_law]
def kts : List D := [c_STEPS]
end K58

set_option Elab.async false
set_option linter.all false
set_option maxRecDepth 100000
set_option maxHeartbeats 4000000
namespace K58
open PySem PySem.Spec PyProof.Rows L2
def topS (i : Nat) : Stmt := PySem.Challenge.pw_seekwright_k58_whole_scripts_of_changes.main.body.getD i (.Pass ⟨0, 0, 0, 0⟩)
abbrev s_is_word : Stmt := topS 9
def d_is_word : DS.Df := ⟨"is_word", s_is_word, ["value", "sign"], f_is_word⟩
abbrev s_look_at_word : Stmt := topS 12
def d_look_at_word : DS.Df := ⟨"look_at_word", s_look_at_word, ["value"], f_look_at_word⟩
abbrev s_rest_rows : Stmt := topS 13
def d_rest_rows : DS.Df := ⟨"rest_rows", s_rest_rows, ["one", "two", "rows", "_", "at", "place", "found"], f_rest_rows⟩
abbrev s_script_of : Stmt := topS 14
def d_script_of : DS.Df := ⟨"script_of", s_script_of, ["one", "two", "rows", "at", "place", "found", "name", "more", "other", "cost"], f_script_of⟩
abbrev s_moved_by : Stmt := topS 15
def d_moved_by : DS.Df := ⟨"moved_by", s_moved_by, ["name"], f_moved_by⟩
abbrev s_step_cost : Stmt := topS 16
def d_step_cost : DS.Df := ⟨"step_cost", s_step_cost, ["one", "two", "at", "place", "name", "more", "other"], f_step_cost⟩
abbrev s_script_cost : Stmt := topS 17
def d_script_cost : DS.Df := ⟨"script_cost", s_script_cost, ["script", "name"], f_script_cost⟩
abbrev s_script_fault : Stmt := topS 18
def d_script_fault : DS.Df := ⟨"script_fault", s_script_fault, ["one", "two", "value", "name", "at", "place", "number", "more", "other"], f_script_fault⟩
abbrev s__law_draws : Stmt := topS 20
def d__law_draws : DS.Df := ⟨"_law_draws", s__law_draws, ["script"], f__law_draws⟩
abbrev s__law_draw : Stmt := topS 21
def d__law_draw : DS.Df := ⟨"_law_draw", s__law_draw, ["draws", "limit", "cell", "value"], f__law_draw⟩
abbrev s__law_pick : Stmt := topS 22
def d__law_pick : DS.Df := ⟨"_law_pick", s__law_pick, ["draws", "row"], f__law_pick⟩
abbrev s__law_same : Stmt := topS 23
def d__law_same : DS.Df := ⟨"_law_same", s__law_same, ["actual", "expected", "k"], f__law_same⟩
abbrev s__law_far : Stmt := topS 24
def d__law_far : DS.Df := ⟨"_law_far", s__law_far, ["one", "two", "column", "k", "sign", "above"], f__law_far⟩
abbrev s__law_all : Stmt := topS 25
def d__law_all : DS.Df := ⟨"_law_all", s__law_all, ["one", "two", "known", "at", "to", "rows", "word", "least", "row"], f__law_all⟩
abbrev s__law_fault : Stmt := topS 26
def d__law_fault : DS.Df := ⟨"_law_fault", s__law_fault, ["one", "two", "value", "name", "at", "to", "k"], f__law_fault⟩
abbrev s__law_drawn : Stmt := topS 27
def d__law_drawn : DS.Df := ⟨"_law_drawn", s__law_drawn, ["draws", "k"], f__law_drawn⟩
abbrev s_law : Stmt := topS 28
def d_law : DS.Df := ⟨"law", s_law, ["script", "draws", "turn", "one", "at", "two", "cost", "due", "told", "k", "place", "other", "rows", "bent", "words", "bad", "error"], f_law⟩
def pr : DS.Pr := ⟨[d_is_word, d_look_at_word, d_rest_rows, d_script_of, d_moved_by, d_step_cost, d_script_cost, d_script_fault, d__law_draws, d__law_draw, d__law_pick, d__law_same, d__law_far, d__law_all, d__law_fault, d__law_drawn, d_law], [("SMALL", c_SMALL), ("GREAT", c_GREAT), ("DIGITS", c_DIGITS), ("RUNS", c_RUNS), ("MOST_WORD", c_MOST_WORD), ("STEPS", c_STEPS)], ["SeekError", "BadPlan"], xcs, kts⟩
theorem ck_is_word : DS.okDf pr d_is_word = true := by decide +kernel
theorem ck_look_at_word : DS.okDf pr d_look_at_word = true := by decide +kernel
theorem ck_rest_rows : DS.okDf pr d_rest_rows = true := by decide +kernel
theorem ck_script_of : DS.okDf pr d_script_of = true := by decide +kernel
theorem ck_moved_by : DS.okDf pr d_moved_by = true := by decide +kernel
theorem ck_step_cost : DS.okDf pr d_step_cost = true := by decide +kernel
theorem ck_script_cost : DS.okDf pr d_script_cost = true := by decide +kernel
theorem ck_script_fault : DS.okDf pr d_script_fault = true := by decide +kernel
theorem ck__law_draws : DS.okDf pr d__law_draws = true := by decide +kernel
theorem ck__law_draw : DS.okDf pr d__law_draw = true := by decide +kernel
theorem ck__law_pick : DS.okDf pr d__law_pick = true := by decide +kernel
theorem ck__law_same : DS.okDf pr d__law_same = true := by decide +kernel
theorem ck__law_far : DS.okDf pr d__law_far = true := by decide +kernel
theorem ck__law_all : DS.okDf pr d__law_all = true := by decide +kernel
theorem ck__law_fault : DS.okDf pr d__law_fault = true := by decide +kernel
theorem ck__law_drawn : DS.okDf pr d__law_drawn = true := by decide +kernel
theorem ck_law : DS.okDf pr d_law = true := by decide +kernel
theorem ck_all : ∀ d ∈ pr.fs, DS.okDf pr d = true := by
  intro d hd
  simp only [pr, List.mem_cons, List.not_mem_nil, or_false] at hd
  rcases hd with rfl | rfl | rfl | rfl | rfl | rfl | rfl | rfl | rfl | rfl | rfl | rfl | rfl | rfl | rfl | rfl | rfl
  · exact ck_is_word
  · exact ck_look_at_word
  · exact ck_rest_rows
  · exact ck_script_of
  · exact ck_moved_by
  · exact ck_step_cost
  · exact ck_script_cost
  · exact ck_script_fault
  · exact ck__law_draws
  · exact ck__law_draw
  · exact ck__law_pick
  · exact ck__law_same
  · exact ck__law_far
  · exact ck__law_all
  · exact ck__law_fault
  · exact ck__law_drawn
  · exact ck_law
theorem facts {K : PySem.W.Frag} {h : Heap} {mg : Str → Option Value} (X : K.In h) (GN : h.Ns mainGlobals mg)
    (h_is_word : DS.FnK K "is_word" s_is_word)
    (h_look_at_word : DS.FnK K "look_at_word" s_look_at_word)
    (h_rest_rows : DS.FnK K "rest_rows" s_rest_rows)
    (h_script_of : DS.FnK K "script_of" s_script_of)
    (h_moved_by : DS.FnK K "moved_by" s_moved_by)
    (h_step_cost : DS.FnK K "step_cost" s_step_cost)
    (h_script_cost : DS.FnK K "script_cost" s_script_cost)
    (h_script_fault : DS.FnK K "script_fault" s_script_fault)
    (h__law_draws : DS.FnK K "_law_draws" s__law_draws)
    (h__law_draw : DS.FnK K "_law_draw" s__law_draw)
    (h__law_pick : DS.FnK K "_law_pick" s__law_pick)
    (h__law_same : DS.FnK K "_law_same" s__law_same)
    (h__law_far : DS.FnK K "_law_far" s__law_far)
    (h__law_all : DS.FnK K "_law_all" s__law_all)
    (h__law_fault : DS.FnK K "_law_fault" s__law_fault)
    (h__law_drawn : DS.FnK K "_law_drawn" s__law_drawn)
    (h_law : DS.FnK K "law" s_law)
    (x_BadPlan : DS.ExcK K "BadPlan" "SeekError" "BadPlan.__init__" ["why"] (inClass (topS 2) 0))
    (c_SMALL : DS.CstK K kts "SMALL" c_SMALL)
    (c_GREAT : DS.CstK K kts "GREAT" c_GREAT)
    (c_DIGITS : DS.CstK K kts "DIGITS" c_DIGITS)
    (c_RUNS : DS.CstK K kts "RUNS" c_RUNS)
    (c_MOST_WORD : DS.CstK K kts "MOST_WORD" c_MOST_WORD)
    (c_STEPS : DS.CstK K kts "STEPS" c_STEPS)
    (b_len : PySem.W.nsIn K mainGlobals "len" = some none)
    (b_int : PySem.W.nsIn K mainGlobals "int" = some none)
    (b_min : PySem.W.nsIn K mainGlobals "min" = some none)
    (b_tuple : PySem.W.nsIn K mainGlobals "tuple" = some none)
    (b_list : PySem.W.nsIn K mainGlobals "list" = some none)
    (b_all : PySem.W.nsIn K mainGlobals "all" = some none)
    (b_any : PySem.W.nsIn K mainGlobals "any" = some none)
    (b_range : PySem.W.nsIn K mainGlobals "range" = some none)
    (b_enumerate : PySem.W.nsIn K mainGlobals "enumerate" = some none)
    (b_isinstance : PySem.W.nsIn K mainGlobals "isinstance" = some none)
    (b_str : PySem.W.nsIn K mainGlobals "str" = some none)
    (b_bool : PySem.W.nsIn K mainGlobals "bool" = some none)
    (b_dict : PySem.W.nsIn K mainGlobals "dict" = some none)
    (b_sorted : PySem.W.nsIn K mainGlobals "sorted" = some none)
    (b_sum : PySem.W.nsIn K mainGlobals "sum" = some none)
    (b_set : PySem.W.nsIn K mainGlobals "set" = some none)
    (b_abs : PySem.W.nsIn K mainGlobals "abs" = some none)
    (b_max : PySem.W.nsIn K mainGlobals "max" = some none)
    (b_zip : PySem.W.nsIn K mainGlobals "zip" = some none) :
    ∃ G : DS.Gl, G.K = K ∧ G.kt = kts ∧ ∀ (P : Program) (w : World) (base : Heap), DS.Facts G pr P w K mg base := by
  obtain ⟨C_BadPlan, S_BadPlan, I_BadPlan, D_BadPlan, a_BadPlan, e_BadPlan⟩ := x_BadPlan
  refine ⟨⟨K, fun _ => none, fun c => match c with | 1 => some C_BadPlan | _ => none, kts⟩, rfl, rfl, fun P w base => ⟨rfl, rfl, fun f d hf => ?_, fun x hx => ?_, fun x d hx => ?_, fun c x kx hx hk => ?_, fun c kx hk => ?_⟩⟩
  · match f, hf with
    | 0, hf =>
      cases hf
      obtain ⟨fa, fd, a, F⟩ := h_is_word
      exact ⟨fa, fd, F, PySem.W.mg_of X GN a, F.binds (ps := ["value"]) fun _ _ _ _ _ _ us hl => match us, hl with | [_], _ => rfl⟩
    | 1, hf =>
      cases hf
      obtain ⟨fa, fd, a, F⟩ := h_look_at_word
      exact ⟨fa, fd, F, PySem.W.mg_of X GN a, F.binds (ps := ["value"]) fun _ _ _ _ _ _ us hl => match us, hl with | [_], _ => rfl⟩
    | 2, hf =>
      cases hf
      obtain ⟨fa, fd, a, F⟩ := h_rest_rows
      exact ⟨fa, fd, F, PySem.W.mg_of X GN a, F.binds (ps := ["one", "two"]) fun _ _ _ _ _ _ us hl => match us, hl with | [_, _], _ => rfl⟩
    | 3, hf =>
      cases hf
      obtain ⟨fa, fd, a, F⟩ := h_script_of
      exact ⟨fa, fd, F, PySem.W.mg_of X GN a, F.binds (ps := ["one", "two"]) fun _ _ _ _ _ _ us hl => match us, hl with | [_, _], _ => rfl⟩
    | 4, hf =>
      cases hf
      obtain ⟨fa, fd, a, F⟩ := h_moved_by
      exact ⟨fa, fd, F, PySem.W.mg_of X GN a, F.binds (ps := ["name"]) fun _ _ _ _ _ _ us hl => match us, hl with | [_], _ => rfl⟩
    | 5, hf =>
      cases hf
      obtain ⟨fa, fd, a, F⟩ := h_step_cost
      exact ⟨fa, fd, F, PySem.W.mg_of X GN a, F.binds (ps := ["one", "two", "at", "place", "name"]) fun _ _ _ _ _ _ us hl => match us, hl with | [_, _, _, _, _], _ => rfl⟩
    | 6, hf =>
      cases hf
      obtain ⟨fa, fd, a, F⟩ := h_script_cost
      exact ⟨fa, fd, F, PySem.W.mg_of X GN a, F.binds (ps := ["script"]) fun _ _ _ _ _ _ us hl => match us, hl with | [_], _ => rfl⟩
    | 7, hf =>
      cases hf
      obtain ⟨fa, fd, a, F⟩ := h_script_fault
      exact ⟨fa, fd, F, PySem.W.mg_of X GN a, F.binds (ps := ["one", "two", "value"]) fun _ _ _ _ _ _ us hl => match us, hl with | [_, _, _], _ => rfl⟩
    | 8, hf =>
      cases hf
      obtain ⟨fa, fd, a, F⟩ := h__law_draws
      exact ⟨fa, fd, F, PySem.W.mg_of X GN a, F.binds (ps := ["script"]) fun _ _ _ _ _ _ us hl => match us, hl with | [_], _ => rfl⟩
    | 9, hf =>
      cases hf
      obtain ⟨fa, fd, a, F⟩ := h__law_draw
      exact ⟨fa, fd, F, PySem.W.mg_of X GN a, F.binds (ps := ["draws", "limit"]) fun _ _ _ _ _ _ us hl => match us, hl with | [_, _], _ => rfl⟩
    | 10, hf =>
      cases hf
      obtain ⟨fa, fd, a, F⟩ := h__law_pick
      exact ⟨fa, fd, F, PySem.W.mg_of X GN a, F.binds (ps := ["draws", "row"]) fun _ _ _ _ _ _ us hl => match us, hl with | [_, _], _ => rfl⟩
    | 11, hf =>
      cases hf
      obtain ⟨fa, fd, a, F⟩ := h__law_same
      exact ⟨fa, fd, F, PySem.W.mg_of X GN a, F.binds (ps := ["actual", "expected"]) fun _ _ _ _ _ _ us hl => match us, hl with | [_, _], _ => rfl⟩
    | 12, hf =>
      cases hf
      obtain ⟨fa, fd, a, F⟩ := h__law_far
      exact ⟨fa, fd, F, PySem.W.mg_of X GN a, F.binds (ps := ["one", "two"]) fun _ _ _ _ _ _ us hl => match us, hl with | [_, _], _ => rfl⟩
    | 13, hf =>
      cases hf
      obtain ⟨fa, fd, a, F⟩ := h__law_all
      exact ⟨fa, fd, F, PySem.W.mg_of X GN a, F.binds (ps := ["one", "two"]) fun _ _ _ _ _ _ us hl => match us, hl with | [_, _], _ => rfl⟩
    | 14, hf =>
      cases hf
      obtain ⟨fa, fd, a, F⟩ := h__law_fault
      exact ⟨fa, fd, F, PySem.W.mg_of X GN a, F.binds (ps := ["one", "two", "value"]) fun _ _ _ _ _ _ us hl => match us, hl with | [_, _, _], _ => rfl⟩
    | 15, hf =>
      cases hf
      obtain ⟨fa, fd, a, F⟩ := h__law_drawn
      exact ⟨fa, fd, F, PySem.W.mg_of X GN a, F.binds (ps := ["draws"]) fun _ _ _ _ _ _ us hl => match us, hl with | [_], _ => rfl⟩
    | 16, hf =>
      cases hf
      obtain ⟨fa, fd, a, F⟩ := h_law
      exact ⟨fa, fd, F, PySem.W.mg_of X GN a, F.binds (ps := ["script"]) fun _ _ _ _ _ _ us hl => match us, hl with | [_], _ => rfl⟩
    | n + 17, hf => cases hf
  · simp only [DS.bltNames, List.mem_cons, List.not_mem_nil, or_false] at hx
    rcases hx with rfl | rfl | rfl | rfl | rfl | rfl | rfl | rfl | rfl | rfl | rfl | rfl | rfl | rfl | rfl | rfl | rfl | rfl | rfl
    · exact PySem.W.mg_none_of X GN b_len
    · exact PySem.W.mg_none_of X GN b_int
    · exact PySem.W.mg_none_of X GN b_min
    · exact PySem.W.mg_none_of X GN b_tuple
    · exact PySem.W.mg_none_of X GN b_list
    · exact PySem.W.mg_none_of X GN b_all
    · exact PySem.W.mg_none_of X GN b_any
    · exact PySem.W.mg_none_of X GN b_range
    · exact PySem.W.mg_none_of X GN b_enumerate
    · exact PySem.W.mg_none_of X GN b_isinstance
    · exact PySem.W.mg_none_of X GN b_str
    · exact PySem.W.mg_none_of X GN b_bool
    · exact PySem.W.mg_none_of X GN b_dict
    · exact PySem.W.mg_none_of X GN b_sorted
    · exact PySem.W.mg_none_of X GN b_sum
    · exact PySem.W.mg_none_of X GN b_set
    · exact PySem.W.mg_none_of X GN b_abs
    · exact PySem.W.mg_none_of X GN b_max
    · exact PySem.W.mg_none_of X GN b_zip
  · have all : ∀ p ∈ pr.cst, DS.CstK K kts p.1 p.2 := by
      intro p hp
      simp only [pr, List.mem_cons, List.not_mem_nil, or_false] at hp
      rcases hp with rfl | rfl | rfl | rfl | rfl | rfl
      · exact c_SMALL
      · exact c_GREAT
      · exact c_DIGITS
      · exact c_RUNS
      · exact c_MOST_WORD
      · exact c_STEPS
    obtain ⟨u, v, a, r, p⟩ := DS.look_all (Q := DS.CstK K kts) all x d hx
    exact ⟨u, v, PySem.W.mg_of X GN a, r, p _ rfl rfl⟩
  · match c, hx, hk with
    | 0, hx, hk => cases hk; exact .inl rfl
    | 1, hx, hk =>
      cases hx
      cases hk
      refine .inr ⟨⟨C_BadPlan, I_BadPlan, D_BadPlan, rfl, PySem.W.mg_of X GN a_BadPlan, e_BadPlan.ox, e_BadPlan.iC, e_BadPlan.tI, ?_, e_BadPlan.fn.binds (ps := ["self", "why"]) fun _ _ _ _ _ _ us hl => match us, hl with | [_, _], _ => rfl⟩, by decide, by decide⟩
      exact DS.init1 (k := 0) e_BadPlan.fn (DS.fsB_ok (by decide +kernel)) e_BadPlan.ox e_BadPlan.bx (e_BadPlan.no _ (by simp)) (by decide +kernel) (PySem.W.mg_of X GN e_BadPlan.aS) (by decide +kernel) (by decide +kernel) (by decide +kernel) (fun _ => ⟨_, rfl⟩) rfl
    | n + 2, hx, hk => cases hk
  · match c, hk with
    | 0, hk => cases hk; exact .inl rfl
    | 1, hk =>
      cases hk
      refine .inr ⟨C_BadPlan, rfl, ⟨"BadPlan", rfl, PySem.W.mg_of X GN a_BadPlan⟩, e_BadPlan.hc, fun n hn => e_BadPlan.no _ (List.mem_map_of_mem (f := Str.ofString) hn), fun j hj => ?_⟩
      have hj : j = 1 ∨ j = 0 := by simpa using hj
      rcases hj with rfl | rfl
      · exact ⟨"BadPlan", C_BadPlan, rfl, PySem.W.mg_of X GN a_BadPlan, by unfold PySem.W.kitOne; rw [if_pos (beq_self_eq_true _)]⟩
      · exact ⟨"SeekError", S_BadPlan, rfl, PySem.W.mg_of X GN e_BadPlan.aS, e_BadPlan.kS⟩
    | n + 2, hk => cases hk
theorem all_mk {P : Program} {w : World} {K : PySem.W.Frag} {h : Heap} {mg : Str → Option Value} {fa : Addr} (lv : Nat) (X : K.In h) (GN : h.Ns mainGlobals mg) (hfa : mg "law" = some (.ref fa))
    (h_is_word : DS.FnK K "is_word" s_is_word)
    (h_look_at_word : DS.FnK K "look_at_word" s_look_at_word)
    (h_rest_rows : DS.FnK K "rest_rows" s_rest_rows)
    (h_script_of : DS.FnK K "script_of" s_script_of)
    (h_moved_by : DS.FnK K "moved_by" s_moved_by)
    (h_step_cost : DS.FnK K "step_cost" s_step_cost)
    (h_script_cost : DS.FnK K "script_cost" s_script_cost)
    (h_script_fault : DS.FnK K "script_fault" s_script_fault)
    (h__law_draws : DS.FnK K "_law_draws" s__law_draws)
    (h__law_draw : DS.FnK K "_law_draw" s__law_draw)
    (h__law_pick : DS.FnK K "_law_pick" s__law_pick)
    (h__law_same : DS.FnK K "_law_same" s__law_same)
    (h__law_far : DS.FnK K "_law_far" s__law_far)
    (h__law_all : DS.FnK K "_law_all" s__law_all)
    (h__law_fault : DS.FnK K "_law_fault" s__law_fault)
    (h__law_drawn : DS.FnK K "_law_drawn" s__law_drawn)
    (h_law : DS.FnK K "law" s_law)
    (x_BadPlan : DS.ExcK K "BadPlan" "SeekError" "BadPlan.__init__" ["why"] (inClass (topS 2) 0))
    (c_SMALL : DS.CstK K kts "SMALL" c_SMALL)
    (c_GREAT : DS.CstK K kts "GREAT" c_GREAT)
    (c_DIGITS : DS.CstK K kts "DIGITS" c_DIGITS)
    (c_RUNS : DS.CstK K kts "RUNS" c_RUNS)
    (c_MOST_WORD : DS.CstK K kts "MOST_WORD" c_MOST_WORD)
    (c_STEPS : DS.CstK K kts "STEPS" c_STEPS)
    (b_len : PySem.W.nsIn K mainGlobals "len" = some none)
    (b_int : PySem.W.nsIn K mainGlobals "int" = some none)
    (b_min : PySem.W.nsIn K mainGlobals "min" = some none)
    (b_tuple : PySem.W.nsIn K mainGlobals "tuple" = some none)
    (b_list : PySem.W.nsIn K mainGlobals "list" = some none)
    (b_all : PySem.W.nsIn K mainGlobals "all" = some none)
    (b_any : PySem.W.nsIn K mainGlobals "any" = some none)
    (b_range : PySem.W.nsIn K mainGlobals "range" = some none)
    (b_enumerate : PySem.W.nsIn K mainGlobals "enumerate" = some none)
    (b_isinstance : PySem.W.nsIn K mainGlobals "isinstance" = some none)
    (b_str : PySem.W.nsIn K mainGlobals "str" = some none)
    (b_bool : PySem.W.nsIn K mainGlobals "bool" = some none)
    (b_dict : PySem.W.nsIn K mainGlobals "dict" = some none)
    (b_sorted : PySem.W.nsIn K mainGlobals "sorted" = some none)
    (b_sum : PySem.W.nsIn K mainGlobals "sum" = some none)
    (b_set : PySem.W.nsIn K mainGlobals "set" = some none)
    (b_abs : PySem.W.nsIn K mainGlobals "abs" = some none)
    (b_max : PySem.W.nsIn K mainGlobals "max" = some none)
    (b_zip : PySem.W.nsIn K mainGlobals "zip" = some none) :
    ∃ fd : FuncData, (∀ (s : Shared) (v : Value), BindsTo s fd ⟨[v], []⟩ [("script", v)]) ∧ ∀ base : Heap, K.In base → base.Ns mainGlobals mg → FnOk P w K mg base (L2.CX P w) (lv + 2) fa fd ["script"] (DS.spL K kts (pr.call lv 16)) := by
  obtain ⟨G, e1, e2, FF⟩ := facts X GN h_is_word h_look_at_word h_rest_rows h_script_of h_moved_by h_step_cost h_script_cost h_script_fault h__law_draws h__law_draw h__law_pick h__law_same h__law_far h__law_all h__law_fault h__law_drawn h_law x_BadPlan c_SMALL c_GREAT c_DIGITS c_RUNS c_MOST_WORD c_STEPS b_len b_int b_min b_tuple b_list b_all b_any b_range b_enumerate b_isinstance b_str b_bool b_dict b_sorted b_sum b_set b_abs b_max b_zip
  obtain ⟨f, fd, a, F⟩ := h_law
  obtain rfl : f = fa := by
    have := (PySem.W.mg_of X GN a).symm.trans hfa
    cases this
    rfl
  have ok := fun base => DS.all_ok (FF P w base) ck_all lv 16 d_law f fd rfl F
  refine ⟨fd, fun s v => ?_, fun base _ _ => (ok base).imp fun vs H Q E q => q G e1 e2⟩
  obtain ⟨oc, od, kV, doc, pm, an, cdv, ct, osl, rfl, _, _⟩ := F.ex
  exact .of_eq rfl
end K58

set_option linter.all false
set_option maxRecDepth 100000
set_option maxHeartbeats 1000000
/-! pure: running the evaluator by rewriting; draws -/
namespace DL

/-! ### rewriting -/
@[simp ↓] theorem Res.bind_match {α β : Type} {r : Res α} {f : α → Store → Res β} : r.bind f = match r with | .ok a st => f a st | .exc x st => .exc x st | .bad => .bad := by cases r <;> rfl
@[simp ↓] theorem SRes.of_match {α : Type} {ρ : Env} {r : Res α} {f : α → Store → SRes} : SRes.of ρ r f = match r with | .ok a st => f a st | .exc x st => .exc x ρ st | .bad => .bad := by cases r <;> rfl
@[simp ↓] theorem SRes.bind_match {r : SRes} {f : Env → Store → SRes} : r.bind f = match r with | .nx ρ st => f ρ st | r => r := by cases r <;> rfl
theorem bind_ok {α β : Type} {a : α} {st : Store} {f : α → Store → Res β} : (Res.ok a st).bind f = f a st := rfl
theorem bind_exc {α β : Type} {a : DX} {st : Store} {f : α → Store → Res β} : (Res.exc a st : Res α).bind f = .exc a st := rfl
theorem of_ok {α : Type} {a : α} {ρ : Env} {st : Store} {f : α → Store → SRes} : SRes.of ρ (Res.ok a st) f = f a st := rfl
theorem of_exc {α : Type} {a : DX} {ρ : Env} {st : Store} {f : α → Store → SRes} : SRes.of ρ (Res.exc a st : Res α) f = .exc a ρ st := rfl
theorem sb_nx {ρ : Env} {st : Store} {f : Env → Store → SRes} : (SRes.nx ρ st).bind f = f ρ st := rfl
theorem sb_ret {d : D} {st : Store} {f : Env → Store → SRes} : (SRes.ret d st).bind f = .ret d st := rfl
theorem sb_exc {x : DX} {ρ : Env} {st : Store} {f : Env → Store → SRes} : (SRes.exc x ρ st).bind f = .exc x ρ st := rfl
theorem sb_brk {ρ : Env} {st : Store} {f : Env → Store → SRes} : (SRes.brk ρ st).bind f = .brk ρ st := rfl
theorem sb_cnt {ρ : Env} {st : Store} {f : Env → Store → SRes} : (SRes.cnt ρ st).bind f = .cnt ρ st := rfl

theorem evSs_nx {C : Ctx} {s : S} {r : List S} {ρ ρ' : Env} {st st' : Store} (h : evS C s ρ st = .nx ρ' st') : evSs C (s :: r) ρ st = evSs C r ρ' st' := by rw [evSs, h]; rfl
theorem evSs_ret {C : Ctx} {s : S} {r : List S} {ρ : Env} {st st' : Store} {d : D} (h : evS C s ρ st = .ret d st') : evSs C (s :: r) ρ st = .ret d st' := by rw [evSs, h]; rfl
theorem evSs_nil {C : Ctx} {ρ : Env} {st : Store} : evSs C [] ρ st = .nx ρ st := by rw [evSs]

theorem settle_same {st st' : Store} {ds : List D} (h : st'.length = st.length) : settle st st' ds = st' := by
  unfold settle
  split
  · rw [← h, List.take_length]
  · rfl
/-- a call by what its body does -/
theorem call_of {XC : List XCls} {KT : List D} {T : List Fn} {k f : Nat} {fn : Fn} {args : List D} {st : Store} (hf : T[f]? = some fn) (ha : args.length = fn.np) :
    callF XC KT T (k + 1) f args st = match evSs ⟨XC, KT, callF XC KT T k⟩ fn.body (args.map some ++ List.replicate (fn.ns - fn.np) none) st with
        | .ret d st' => .ok d (settle st st' [d])
        | .nx _ st' => .ok .non (settle st st' [])
        | .exc x _ st' => .exc x (settle st st' (x.flds.map (·.2)))
        | _ => .bad := by
  rw [callF, hf]
  dsimp only
  rw [if_pos ha]
  try rfl
theorem call_ret {XC : List XCls} {KT : List D} {T : List Fn} {k f : Nat} {fn : Fn} {args : List D} {st st' : Store} {d : D} (hf : T[f]? = some fn) (ha : args.length = fn.np)
    (h : evSs ⟨XC, KT, callF XC KT T k⟩ fn.body (args.map some ++ List.replicate (fn.ns - fn.np) none) st = .ret d st') : callF XC KT T (k + 1) f args st = .ok d (settle st st' [d]) := by
  rw [call_of hf ha, h]

/-! ### the draws -/
def drawFn : Fn := ⟨2, 4, [
  .ifs (.and [(.cmp .eq (.ix (.var 0) (.cst (.int (2)))) (.cst (.int (0)))), (.cmp .lt (.ix (.var 0) (.cst (.int (1)))) (.bi .len [(.ix (.var 0) (.cst (.int (0))))]))]) [
    .set 2 (.ix (.ix (.var 0) (.cst (.int (0)))) (.ix (.var 0) (.cst (.int (1))))),
    .setX (.var 0) (.cst (.int (1))) (.bin .add (.ix (.var 0) (.cst (.int (1)))) (.cst (.int (1)))),
    .ifs (.cmp .ge (.var 2) (.bin .pow (.cst (.int (10))) (.cst (.int (18))))) [
      .setX (.var 0) (.cst (.int (2))) (.var 2)] [],
    .setX (.var 0) (.cst (.int (3))) (.bin .mod (.bi .int [(.bin .add (.bin .add (.bin .mul (.ix (.var 0) (.cst (.int (3)))) (.cst (.int (48271)))) (.var 2)) (.cst (.int (13))))]) (.cst (.int (2147483647))))] [],
  .ifs (.cmp .gt (.ix (.var 0) (.cst (.int (2)))) (.cst (.int (0)))) [
    .set 3 (.bin .mod (.bi .int [(.ix (.var 0) (.cst (.int (2))))]) (.var 1)),
    .setX (.var 0) (.cst (.int (2))) (.bin .fdiv (.ix (.var 0) (.cst (.int (2)))) (.var 1)),
    .ret (.var 3)] [],
  .setX (.var 0) (.cst (.int (3))) (.bin .mod (.bi .int [(.bin .add (.bin .mul (.ix (.var 0) (.cst (.int (3)))) (.cst (.int (69621)))) (.cst (.int (7))))]) (.cst (.int (2147483629)))),
  .ret (.bin .mod (.bi .int [(.bin .fdiv (.ix (.var 0) (.cst (.int (3)))) (.cst (.int (11))))]) (.var 1))]⟩

def dcell (l0 : Nat) (a b c : Int) : Cell := .lst [.ref l0, .int a, .int b, .int c]
theorem ix_cell {st : Store} {l : Nat} {xs : List D} {i : Int} {d : D} (h : st[l]? = some (.lst xs)) (h0 : 0 ≤ i) (hi : xs[i.toNat]? = some d) : ixD (.ref l) (.int i) st = some (d, st) := by
  unfold ixD
  dsimp only
  rw [h]
  dsimp only
  unfold atD
  rw [if_pos h0, hi]
theorem set_cell {KT : List D} {st : Store} {l : Nat} {xs : List D} {i : Int} {d : D} (h : st[l]? = some (.lst xs)) (h0 : 0 ≤ i) (hi : i < xs.length) : setXD KT (.ref l) (.int i) d st = some (st.set l (.lst (xs.set i.toNat d))) := by
  unfold setXD
  dsimp only
  rw [h]
  dsimp only
  rw [if_pos ⟨h0, hi⟩]
theorem set_get {st : Store} {l : Nat} {c c' : Cell} (h : st[l]? = some c) : (st.set l c')[l]? = some c' := by
  rw [List.getElem?_set_self (List.getElem?_eq_some_iff.mp h).1]
theorem set_get_ne {st : Store} {l j : Nat} {c' : Cell} (h : l ≠ j) : (st.set l c')[j]? = st[j]? := List.getElem?_set_ne h

theorem ix_set {st : Store} {l : Nat} {xs : List D} {i : Int} (hl : l < st.length) (h0 : 0 ≤ i) : ixD (.ref l) (.int i) (st.set l (.lst xs)) = match xs[i.toNat]? with | some d => some (d, st.set l (.lst xs)) | none => none := by
  unfold ixD
  dsimp only
  rw [List.getElem?_set_self hl]
  dsimp only
  unfold atD
  rw [if_pos h0]
  all_goals (cases xs[i.toNat]? <;> try rfl)
theorem setX_set {KT : List D} {st : Store} {l : Nat} {xs : List D} {i : Int} {d : D} (hl : l < st.length) : setXD KT (.ref l) (.int i) d (st.set l (.lst xs)) = if 0 ≤ i ∧ i < xs.length then some (st.set l (.lst (xs.set i.toNat d))) else none := by
  unfold setXD
  dsimp only
  rw [List.getElem?_set_self hl]
  dsimp only
  rw [List.set_set]
theorem draw2 {C : Ctx} {st : Store} {l l0 : Nat} {a b c n : Int} {x y : Option D} (h : st[l]? = some (dcell l0 a b c)) (hb : 0 < b) (h1 : 1 ≤ n) (h2 : n < 1073741824) :
    evSs C (drawFn.body.drop 1) [some (.ref l), some (.int n), x, y] st = .ret (.int (b % n)) (st.set l (dcell l0 a (b / n) c)) := by
  unfold drawFn dcell at *
  have e2 := ix_cell (i := 2) (d := .int b) h (by decide) rfl
  have s2 := set_cell (KT := C.kt) (i := 2) (d := .int (b / n)) h (by decide) (by simp)
  simp [evSs, evS, evT, evE, evEs, cmpD, ltD, truD, biD, intD, binD, modD, fdivD, e2, s2, hb, h1, h2, show (0:Int) < n by omega]

/-- only the draws' own cell may have changed -/
def Kp (st st' : Store) : Prop := st.length ≤ st'.length ∧ ∀ j, j ≠ 1 → j < st.length → st'[j]? = st[j]?
theorem Kp.refl (st : Store) : Kp st st := ⟨Nat.le_refl _, fun _ _ _ => rfl⟩
theorem Kp.trans {a b c : Store} (h : Kp a b) (g : Kp b c) : Kp a c := ⟨Nat.le_trans h.1 g.1, fun j h1 h2 => (g.2 j h1 (Nat.lt_of_lt_of_le h2 h.1)).trans (h.2 j h1 h2)⟩
theorem Kp.get {a b : Store} (h : Kp a b) {j : Nat} {c : Cell} (h1 : j ≠ 1) (e : a[j]? = some c) : b[j]? = some c := by rw [h.2 j h1 (List.getElem?_eq_some_iff.mp e).1, e]
theorem Kp.app {st : Store} {cs : List Cell} : Kp st (st ++ cs) := ⟨by simp, fun j _ h => List.getElem?_append_left h⟩
theorem Kp.set1 {st : Store} {c : Cell} : Kp st (st.set 1 c) := ⟨by simp, fun j h1 _ => List.getElem?_set_ne (Ne.symm h1)⟩
/-- a new cell is written -/
theorem Kp.setNew {a b : Store} {l : Nat} {c : Cell} (h : Kp a b) (hl : a.length ≤ l) : Kp a (b.set l c) := ⟨by simpa using h.1, fun j h1 h2 => by rw [List.getElem?_set_ne (by omega)]; exact h.2 j h1 h2⟩
structure Dr (ns : List Int) (st : Store) : Prop where
  at0 : st[0]? = some (.lst (ns.map .int))
  at1 : ∃ a b c, st[1]? = some (dcell 0 a b c) ∧ 0 ≤ a ∧ a ≤ ns.length ∧ 0 ≤ b ∧ 0 ≤ c
  le : ns.length ≤ 63
theorem Dr.two {ns : List Int} {st : Store} (h : Dr ns st) : 2 ≤ st.length := by
  obtain ⟨a, b, c, e, _⟩ := h.at1
  exact (List.getElem?_eq_some_iff.mp e).1
theorem Dr.app {ns : List Int} {st : Store} (h : Dr ns st) {cs : List Cell} : Dr ns (st ++ cs) := by
  have := h.two
  exact ⟨by rw [List.getElem?_append_left (by omega)]; exact h.at0, by rw [List.getElem?_append_left (by omega)]; exact h.at1, h.le⟩
theorem Dr.setNew {ns : List Int} {st : Store} (h : Dr ns st) {l : Nat} {c : Cell} (hl : 2 ≤ l) : Dr ns (st.set l c) := 
  ⟨by rw [List.getElem?_set_ne (by omega)]; exact h.at0, by rw [List.getElem?_set_ne (by omega)]; exact h.at1, h.le⟩
theorem emod_nn {a b : Int} (h : 0 < b) : 0 ≤ a % b := Int.emod_nonneg _ (by omega)
theorem draw1 {C : Ctx} {st : Store} {ns : List Int} {n : Int} (h : Dr ns st) : ∃ (a b c : Int) (y : Option D), evS C (.ifs (.and [(.cmp .eq (.ix (.var 0) (.cst (.int (2)))) (.cst (.int (0)))), (.cmp .lt (.ix (.var 0) (.cst (.int (1)))) (.bi .len [(.ix (.var 0) (.cst (.int (0))))]))]) [
    .set 2 (.ix (.ix (.var 0) (.cst (.int (0)))) (.ix (.var 0) (.cst (.int (1))))),
    .setX (.var 0) (.cst (.int (1))) (.bin .add (.ix (.var 0) (.cst (.int (1)))) (.cst (.int (1)))),
    .ifs (.cmp .ge (.var 2) (.bin .pow (.cst (.int (10))) (.cst (.int (18))))) [
      .setX (.var 0) (.cst (.int (2))) (.var 2)] [],
    .setX (.var 0) (.cst (.int (3))) (.bin .mod (.bi .int [(.bin .add (.bin .add (.bin .mul (.ix (.var 0) (.cst (.int (3)))) (.cst (.int (48271)))) (.var 2)) (.cst (.int (13))))]) (.cst (.int (2147483647))))] []) [some (.ref 1), some (.int n), none, none] st = .nx [some (.ref 1), some (.int n), y, none] (st.set 1 (dcell 0 a b c)) ∧ 0 ≤ a ∧ a ≤ ns.length ∧ 0 ≤ b ∧ 0 ≤ c := by
  obtain ⟨a, b, c, e1, ha, ha2, hb, hc⟩ := h.at1
  have hl1 : 1 < st.length := h.two
  have e1' : st[1]? = some (.lst [.ref 0, .int a, .int b, .int c]) := e1
  have i0 := ix_cell (i := 0) (d := .ref 0) e1' (by decide) rfl
  have i1 := ix_cell (i := 1) (d := .int a) e1' (by decide) rfl
  have i2 := ix_cell (i := 2) (d := .int b) e1' (by decide) rfl
  have i3 := ix_cell (i := 3) (d := .int c) e1' (by decide) rfl
  have s1 := fun v => set_cell (KT := C.kt) (i := 1) (d := v) e1' (by decide) (by simp)
  have lenE : lenD [.ref 0] st = some (.int ns.length, st) := by unfold lenD itemsD; simp [h.at0]
  have idem : st = st.set 1 (dcell 0 a b c) := by
    apply List.ext_getElem?
    intro j
    by_cases hj : 1 = j
    · subst hj; rw [set_get e1, e1]
    · rw [List.getElem?_set_ne hj]
  have eqb : eqD st (.int b) (.int 0) = some (b == 0) := by simp [eqD, rsv1, rsv, PD.eqv]
  by_cases hb0 : b = 0
  · by_cases hlt : a < ns.length
    · obtain ⟨x, hx⟩ : ∃ x, ns[a.toNat]? = some x := ⟨ns[a.toNat]'(by omega), List.getElem?_eq_getElem (by omega)⟩
      have i4 := ix_cell (i := a) (d := .int x) h.at0 ha (by rw [List.getElem?_map, hx]; rfl)
      have m1 : 0 ≤ (c * 48271 + x + 13) % 2147483647 := Int.emod_nonneg _ (by decide)
      by_cases hx18 : (1000000000000000000:Int) ≤ x
      · refine ⟨a + 1, x, (c * 48271 + x + 13) % 2147483647, some (.int x), ?_, by omega, by omega, by omega, m1⟩
        subst hb0
        simp [evSs, evS, evT, evE, evEs, evAnd, ltD, leD, truD, intD, addD, mulD, modD, powD, small64, i0, i1, i2, i3, i4, lenE, eqb, hlt, s1, ix_set hl1, setX_set hl1, dcell, hx18]
      · refine ⟨a + 1, 0, (c * 48271 + x + 13) % 2147483647, some (.int x), ?_, by omega, by omega, by omega, m1⟩
        subst hb0
        simp [evSs, evS, evT, evE, evEs, evAnd, ltD, leD, truD, intD, addD, mulD, modD, powD, small64, i0, i1, i2, i3, i4, lenE, eqb, hlt, s1, ix_set hl1, setX_set hl1, dcell, hx18]
    · refine ⟨a, b, c, none, ?_, ha, ha2, hb, hc⟩
      rw [← idem]
      subst hb0
      simp [evSs, evS, evT, evE, evEs, evAnd, ltD, truD, i0, i1, i2, lenE, eqb, hlt]
  · refine ⟨a, b, c, none, ?_, ha, ha2, hb, hc⟩
    rw [← idem]
    have : (b == 0) = false := by simp [hb0]
    simp [evSs, evS, evT, evE, evEs, evAnd, ltD, truD, i0, i1, i2, lenE, eqb, this]
theorem draw3 {C : Ctx} {st : Store} {a c n : Int} {x y : Option D} (h : st[1]? = some (dcell 0 a 0 c)) (h1 : 1 ≤ n) :
    evSs C (drawFn.body.drop 1) [some (.ref 1), some (.int n), x, y] st = .ret (.int (((c * 69621 + 7) % 2147483629) / 11 % n)) (st.set 1 (dcell 0 a 0 ((c * 69621 + 7) % 2147483629))) := by
  have hl1 : 1 < st.length := (List.getElem?_eq_some_iff.mp h).1
  unfold drawFn dcell at *
  have e2 := ix_cell (i := 2) (d := .int 0) h (by decide) rfl
  have e3 := ix_cell (i := 3) (d := .int c) h (by decide) rfl
  have s3 := fun v => set_cell (KT := C.kt) (i := 3) (d := v) h (by decide) (by simp)
  simp [evSs, evS, evT, evE, evEs, ltD, truD, intD, modD, fdivD, addD, mulD, small64, e2, e3, s3, ix_set hl1, h1, show (0:Int) < n by omega]
theorem draw_spec {XC : List XCls} {KT : List D} {T : List Fn} {k i : Nat} {st : Store} {ns : List Int} {n : Int} (hT : T[i]? = some drawFn) (h : Dr ns st) (h1 : 1 ≤ n) (h2 : n < 1073741824) :
    ∃ (v : Int) (st' : Store), callF XC KT T (k + 1) i [.ref 1, .int n] st = .ok (.int v) st' ∧ 0 ≤ v ∧ v < n ∧ Dr ns st' ∧ st'.length = st.length ∧ Kp st st' := by
  have hl1 : 1 < st.length := h.two
  obtain ⟨a, b, c, y, q, ha, ha2, hb, hc⟩ := draw1 (C := ⟨XC, KT, callF XC KT T k⟩) (n := n) h
  have e1 : st[1]? ≠ none := by rw [List.getElem?_eq_getElem hl1]; simp
  have e1' : (st.set 1 (dcell 0 a b c))[1]? = some (dcell 0 a b c) := List.getElem?_set_self hl1
  have fin : ∀ (b' c' v : Int), evSs ⟨XC, KT, callF XC KT T k⟩ (drawFn.body.drop 1) [some (.ref 1), some (.int n), y, none] (st.set 1 (dcell 0 a b c)) = .ret (.int v) ((st.set 1 (dcell 0 a b c)).set 1 (dcell 0 a b' c')) → 0 ≤ b' → 0 ≤ c' → 0 ≤ v → v < n →
      ∃ (v : Int) (st' : Store), callF XC KT T (k + 1) i [.ref 1, .int n] st = .ok (.int v) st' ∧ 0 ≤ v ∧ v < n ∧ Dr ns st' ∧ st'.length = st.length ∧ Kp st st' := by
    intro b' c' v q' q3 q4 q5 q6
    rw [List.set_set] at q'
    refine ⟨v, st.set 1 (dcell 0 a b' c'), ?_, q5, q6, ⟨?_, ⟨a, b', c', ?_, ha, ha2, q3, q4⟩, h.le⟩, by simp, Kp.set1⟩
    · rw [call_ret hT rfl ((evSs_nx q).trans q'), settle_same (by simp)]
    · rw [List.getElem?_set_ne (by decide)]; exact h.at0
    · exact List.getElem?_set_self hl1
  by_cases hb0 : 0 < b
  · exact fin (b / n) c (b % n) (draw2 e1' hb0 h1 h2) (Int.ediv_nonneg hb (by omega)) hc (Int.emod_nonneg _ (by omega)) (Int.emod_lt_of_pos _ (by omega))
  · obtain rfl : b = 0 := by omega
    exact fin 0 _ _ (draw3 e1' h1) (Int.le_refl _) (Int.emod_nonneg _ (by decide)) (Int.emod_nonneg _ (by omega)) (Int.emod_lt_of_pos _ (by omega))
end DL

set_option linter.all false
set_option maxRecDepth 100000
set_option maxHeartbeats 1000000
/-! pure: the law's own helpers -/
namespace DL

theorem settle_app {st : Store} {cs : List Cell} {ds : List D} (h : ∀ d ∈ ds, wfD st.length d = true) : settle st (st ++ cs) ds = st := by
  unfold settle
  rw [if_pos]
  · exact List.take_left
  · exact ⟨by simp, h, fun l c hl e => .inl (by rwa [List.getElem?_append_left hl] at e)⟩
/-- behind a call that may have drawn and gives plain data -/
theorem settle_kp {ns : List Int} {st st' : Store} {ds : List D} (h2 : 2 ≤ st.length) (k : Kp st st') (d : Dr ns st') (h : ∀ d ∈ ds, wfD st.length d = true) : Kp st (settle st st' ds) ∧ Dr ns (settle st st' ds) ∧ (settle st st' ds).length = st.length := by
  obtain ⟨a, b, c, e1, q⟩ := d.at1
  have : settle st st' ds = st'.take st.length := by
    unfold settle
    rw [if_pos]
    refine ⟨k.1, h, fun l cc hl e => ?_⟩
    by_cases h1 : l = 1
    · subst h1
      rw [e1] at e
      cases e
      right
      unfold wfC dcell
      simp [wfDs, wfD]
      omega
    · rw [k.2 l h1 hl] at e
      exact .inl e
  rw [this]
  have hlen : (st'.take st.length).length = st.length := by rw [List.length_take, Nat.min_eq_left k.1]
  refine ⟨⟨by omega, fun j h1 h3 => by rw [List.getElem?_take_of_lt h3]; exact k.2 j h1 h3⟩, ⟨?_, ⟨a, b, c, ?_, q⟩, d.le⟩, hlen⟩
  · rw [List.getElem?_take_of_lt (by omega)]; exact d.at0
  · rw [List.getElem?_take_of_lt (by omega)]; exact e1
theorem settle_ref {st st' : Store} {l : Nat} (h : st.length ≤ l) : settle st st' [.ref l] = st' := by
  unfold settle
  rw [if_neg]
  rintro ⟨_, z, _⟩
  have := z (.ref l) (by simp)
  simp [wfD] at this
  omega

/-! ### pick -/
def pickFn (d : Nat) : Fn := ⟨2, 2, [.ret (.ix (.var 1) (.call d [(.var 0), (.bi .len [(.var 1)])]))]⟩
theorem pick_spec {XC : List XCls} {KT : List D} {T : List Fn} {k i d : Nat} {st : Store} {ns : List Int} {r : Nat} {xs : List D} (hT : T[i]? = some (pickFn d)) (hd : T[d]? = some drawFn) (h : Dr ns st) (hr : st[r]? = some (.lst xs)) (hr1 : r ≠ 1) (hx : xs ≠ []) (hn : xs.length < 1073741824) (hw : ∀ x ∈ xs, wfD st.length x = true) :
    ∃ (x : D) (st' : Store), callF XC KT T (k + 2) i [.ref 1, .ref r] st = .ok x st' ∧ x ∈ xs ∧ Dr ns st' ∧ st'.length = st.length ∧ Kp st st' := by
  have hpos : 0 < xs.length := List.length_pos_iff.mpr hx
  obtain ⟨v, st1, q, v0, v1, d1, l1, k1⟩ := draw_spec (XC := XC) (KT := KT) (k := k) (n := xs.length) hd h (by omega) (by omega)
  have hlt : v.toNat < xs.length := by omega
  have e := ix_cell (d := xs[v.toNat]) (k1.get hr1 hr) v0 (List.getElem?_eq_getElem hlt)
  have lenE : lenD [.ref r] st = some (.int xs.length, st) := by unfold lenD itemsD; simp [hr]
  refine ⟨xs[v.toNat], st1, ?_, List.getElem_mem hlt, d1, l1, k1⟩
  rw [call_ret (fn := pickFn d) (st' := st1) (d := xs[v.toNat]) hT rfl, settle_same l1]
  simp [pickFn, evSs, evS, evE, evEs, lenE, q, e]

/-! ### the same -/
def sameFn (i : Nat) : Fn := ⟨2, 3, [
  .ifs (.or [(.isi (.var 1) .tuple), (.isi (.var 1) .list)]) [
    .ifs (.or [(.cmp .ne (.isi (.var 0) .tuple) (.isi (.var 1) .tuple)), (.cmp .ne (.isi (.var 0) .list) (.isi (.var 1) .list))]) [
      .ret (.cst (.bl false))] [],
    .ifs (.cmp .ne (.bi .len [(.var 0)]) (.bi .len [(.var 1)])) [
      .ret (.cst (.bl false))] [],
    .ret (.cmp .eq (.bi .len [(.lc (.var 2) (.var 2) (.rng [(.bi .len [(.var 1)])]) [(.not (.call i [(.ix (.var 0) (.var 2)), (.ix (.var 1) (.var 2))]))] [("k", 2)])]) (.cst (.int (0))))] [],
  .ifs (.or [(.isi (.var 1) .bool), (.isi (.var 0) .bool)]) [
    .ret (.and [(.isi (.var 1) .bool), (.isi (.var 0) .bool), (.cmp .eq (.var 0) (.var 1))])] [],
  .ifs (.or [(.cmp .is (.var 1) (.cst (.non))), (.cmp .is (.var 0) (.cst (.non)))]) [
    .ret (.and [(.cmp .is (.var 1) (.cst (.non))), (.cmp .is (.var 0) (.cst (.non)))])] [],
  .ifs (.or [(.isi (.var 1) .str), (.isi (.var 0) .str)]) [
    .ret (.and [(.isi (.var 1) .str), (.isi (.var 0) .str), (.cmp .eq (.var 0) (.var 1))])] [],
  .ret (.and [(.isi (.var 0) .int), (.isi (.var 1) .int), (.cmp .eq (.var 0) (.var 1))])]⟩
/-- plain data of some depth -/
def pdn : Nat → D → Bool
  | _, .non => true
  | _, .bl _ => true
  | _, .int _ => true
  | _, .str _ => true
  | 0, .tup _ => false
  | n + 1, .tup xs => decide (xs.length ≤ 1000000) && xs.all (pdn n)
  | _, _ => false
theorem lcL_none {step : D → Store → Res (Option D)} {st : Store} : ∀ {items : List D}, (∀ x ∈ items, step x st = .ok none st) → lcL step none items st = .ok [] st
  | [], _ => by unfold lcL; rw [if_pos (show GuardOk none st from trivial)]
  | x :: xs, h => by
    unfold lcL
    rw [if_pos (show GuardOk none st from trivial), h x (by simp)]
    dsimp only [Res.bind]
    rw [lcL_none fun y hy => h y (by simp [hy])]
    rfl
theorem mem_rangeL {lo : Int} {n : Nat} {x : D} : x ∈ rangeL lo n ↔ ∃ k : Nat, k < n ∧ x = .int (lo + k) := by
  unfold rangeL
  rw [List.mem_map]
  constructor
  · rintro ⟨k, hk, rfl⟩; exact ⟨k, by simpa using hk, rfl⟩
  · rintro ⟨k, hk, rfl⟩; exact ⟨k, by simpa using hk, rfl⟩
theorem rng1 {n : Nat} (h : small62 (n : Int) = true) : rngD [.int (n : Int)] = some (rangeL 0 n) := by
  show (if small62 (n : Int) = true then some (rangeL 0 (n : Int).toNat) else none) = _
  rw [if_pos h, Int.toNat_natCast]
theorem evI_rng {C : Ctx} {ρ : Env} {es : List E} {st : Store} : evI C ρ (.rng es) st = (evEs C ρ es st).bind fun xs st => ofO (rngD xs) st fun r => (r, none) := by rw [evI]
theorem tyb (a b : Ty) : (a == b) = decide (a = b) := by cases a <;> cases b <;> rfl
theorem same_spec {XC : List XCls} {KT : List D} {T : List Fn} {i : Nat} {st : Store} (hT : T[i]? = some (sameFn i)) : ∀ (n : Nat) (d : D) (k : Nat), pdn n d = true → callF XC KT T (k + n + 1) i [d, d] st = .ok (.bl true) st := by
  intro n
  induction n with
  | zero =>
    intro d k h
    rw [call_ret (fn := sameFn i) (st' := st) (d := .bl true) hT rfl, settle_same rfl]
    cases d <;> first | (cases h; done) | skip
    all_goals simp [sameFn, evSs, evS, evT, evE, evEs, evAnd, evOr, isiD, truD, eqD, rsv1, rsv, PD.eqv, isNon, tyb]
  | succ n ih =>
    intro d k h
    cases d <;> first | (cases h; done) | skip
    case tup xs =>
      simp only [pdn, Bool.and_eq_true, decide_eq_true_eq, List.all_eq_true] at h
      obtain ⟨hl, h⟩ := h
      have hix : ∀ j : Nat, j < xs.length → ixD (.tup xs) (.int (j : Int)) st = some ((xs[j]?.getD .non), st) := by
        intro j hj
        unfold ixD
        dsimp only
        unfold atD
        rw [if_pos (by omega), Int.toNat_natCast, List.getElem?_eq_getElem hj]
        rfl
      have hcall : ∀ j : Nat, j < xs.length → callF XC KT T (k + (n + 1)) i [(xs[j]?.getD .non), (xs[j]?.getD .non)] st = .ok (.bl true) st := by
        intro j hj
        refine ih _ k ?_
        rw [List.getElem?_eq_getElem hj]
        exact h _ (List.getElem_mem hj)
      have h62 : small62 (xs.length : Int) = true := by simp [small62]; omega
      rw [call_ret (fn := sameFn i) (st' := st ++ [.lst []]) (d := .bl true) hT rfl, settle_app (by intro d hd; rw [List.mem_singleton] at hd; subst hd; rw [wfD] <;> simp)]
      have hlc : ∀ ρ : Env, ρ[0]? = some (some (.tup xs)) → ρ[1]? = some (some (.tup xs)) → 2 < ρ.length → evE ⟨XC, KT, callF XC KT T (k + (n + 1))⟩ ρ (.lc (.var 2) (.var 2) (.rng [(.bi .len [(.var 1)])]) [(.not (.call i [(.ix (.var 0) (.var 2)), (.ix (.var 1) (.var 2))]))] [("k", 2)]) st = .ok (.ref st.length) (st ++ [.lst []]) := by
        intro ρ e0 e1 e2
        rw [evE]
        have src : evI ⟨XC, KT, callF XC KT T (k + (n + 1))⟩ ρ (.rng [(.bi .len [(.var 1)])]) st = .ok (rangeL 0 xs.length, none) st := by
          have a1 : evEs ⟨XC, KT, callF XC KT T (k + (n + 1))⟩ ρ [.bi .len [.var 1]] st = .ok [.int xs.length] st := by simp [evEs, evE, e1, lenD, itemsD]
          rw [evI_rng, a1, bind_ok, rng1 h62]
          rfl
        rw [src, bind_ok]
        have hr : okS (rangeL 0 xs.length).length = true := by simp [okS, rangeL, hl]
        rw [if_pos hr, lcL_none]
        · rfl
        · intro x hx
          obtain ⟨j, hj, rfl⟩ := mem_rangeL.mp hx
          have w0 : (ρ.set 2 none)[0]? = some (some (.tup xs)) := by rw [List.getElem?_set_ne (by decide)]; exact e0
          have w1 : (ρ.set 2 none)[1]? = some (some (.tup xs)) := by rw [List.getElem?_set_ne (by decide)]; exact e1
          have z : ((0 : Int) + (j : Int)) = (j : Int) := by omega
          rw [z]
          simp [putT, wipeE, evIfs, evE, evEs, e0, e1, e2, hix j hj, hcall j hj, truD, List.getElem?_set]
      simp [sameFn, evSs, evS, evT, ↓hlc, evE, evEs, evAnd, evOr, isiD, truD, eqD, rsv1, rsv, PD.eqv, isNon, tyb, lenD, itemsD]
    all_goals
      rw [call_ret (fn := sameFn i) (st' := st) (d := .bl true) hT rfl, settle_same rfl]
      simp [sameFn, evSs, evS, evT, evE, evEs, evAnd, evOr, isiD, truD, eqD, rsv1, rsv, PD.eqv, isNon, tyb]
end DL

set_option linter.all false
set_option maxRecDepth 100000
set_option maxHeartbeats 1000000
/-! pure: loops -/
namespace DL

/-- a for: each turn goes on, or leaves with what is wanted -/
theorem forL_inv {body : D → Env → Store → SRes} {g : Guard} {items : List D} (I : Nat → Env → Store → Prop) (Post : SRes → Prop)
    (hg : ∀ i ρ st, I i ρ st → GuardOk g st) (hend : ∀ ρ st, I items.length ρ st → Post (.nx ρ st))
    (step : ∀ i x ρ st, items[i]? = some x → I i ρ st → (∃ ρ' st', (body x ρ st = .nx ρ' st' ∨ body x ρ st = .cnt ρ' st') ∧ I (i + 1) ρ' st') ∨ (∃ ρ' st', body x ρ st = .brk ρ' st' ∧ Post (.nx ρ' st')) ∨
      (∃ d st', body x ρ st = .ret d st' ∧ Post (.ret d st')) ∨ (∃ y ρ' st', body x ρ st = .exc y ρ' st' ∧ Post (.exc y ρ' st'))) :
    ∀ (ρ : Env) (st : Store), I 0 ρ st → Post (forL body g items ρ st) := by
  have main : ∀ (m i : Nat) (ρ : Env) (st : Store), items.length - i = m → i ≤ items.length → I i ρ st → Post (forL body g (items.drop i) ρ st) := by
    intro m
    induction m with
    | zero =>
      intro i ρ st hm hi h
      obtain rfl : i = items.length := by omega
      rw [List.drop_length]
      unfold forL
      rw [if_pos (hg _ _ _ h)]
      exact hend _ _ h
    | succ m ih =>
      intro i ρ st hm hi h
      have hlt : i < items.length := by omega
      rw [List.drop_eq_getElem_cons hlt]
      unfold forL
      rw [if_pos (hg _ _ _ h)]
      rcases step i _ ρ st (List.getElem?_eq_getElem hlt) h with ⟨ρ', st', e | e, h'⟩ | ⟨ρ', st', e, h'⟩ | ⟨d, st', e, h'⟩ | ⟨y, ρ', st', e, h'⟩
      · rw [e]; exact ih (i + 1) ρ' st' (by omega) hlt h'
      · rw [e]; exact ih (i + 1) ρ' st' (by omega) hlt h'
      · rw [e]; exact h'
      · rw [e]; exact h'
      · rw [e]; exact h'
  intro ρ st h
  have := main items.length 0 ρ st (by omega) (by omega) h
  simpa using this
/-- a for without an early end -/
theorem forL_nx {body : D → Env → Store → SRes} {g : Guard} {items : List D} (I : Nat → Env → Store → Prop) (hg : ∀ i ρ st, I i ρ st → GuardOk g st)
    (step : ∀ i x ρ st, items[i]? = some x → I i ρ st → ∃ ρ' st', body x ρ st = .nx ρ' st' ∧ I (i + 1) ρ' st') {ρ : Env} {st : Store} (h : I 0 ρ st) :
    ∃ ρ' st', forL body g items ρ st = .nx ρ' st' ∧ I items.length ρ' st' := by
  refine forL_inv I (fun r => ∃ ρ' st', r = .nx ρ' st' ∧ I items.length ρ' st') hg (fun ρ st h => ⟨ρ, st, rfl, h⟩) (fun i x ρ st hx h => .inl ?_) ρ st h
  obtain ⟨ρ', st', e, h'⟩ := step i x ρ st hx h
  exact ⟨ρ', st', .inl e, h'⟩
/-- a comprehension that changes nothing -/
theorem lcL_pure {step : D → Store → Res (Option D)} {st : Store} {f : D → Option D} : ∀ {items : List D}, (∀ x ∈ items, step x st = .ok (f x) st) → lcL step none items st = .ok (items.filterMap f) st
  | [], _ => by unfold lcL; rw [if_pos (show GuardOk none st from trivial)]; rfl
  | x :: xs, h => by
    unfold lcL
    rw [if_pos (show GuardOk none st from trivial), h x (by simp), bind_ok, lcL_pure fun y hy => h y (by simp [hy]), bind_ok, List.filterMap_cons]
    cases f x <;> rfl
/-- over a list -/
theorem lcL_pureG {step : D → Store → Res (Option D)} {st : Store} {f : D → Option D} {g : Guard} (hg : GuardOk g st) : ∀ {items : List D}, (∀ x ∈ items, step x st = .ok (f x) st) → lcL step g items st = .ok (items.filterMap f) st
  | [], _ => by unfold lcL; rw [if_pos hg]; rfl
  | x :: xs, h => by
    unfold lcL
    rw [if_pos hg, h x (by simp), bind_ok, lcL_pureG hg fun y hy => h y (by simp [hy]), bind_ok, List.filterMap_cons]
    cases f x <;> rfl
/-- with an invariant, every item kept -/
theorem lcL_inv {step : D → Store → Res (Option D)} {g : Guard} {items : List D} (I : Nat → List D → Store → Prop) (hg : ∀ i ys st, I i ys st → GuardOk g st)
    (hs : ∀ i x ys st, items[i]? = some x → I i ys st → ∃ y st', step x st = .ok (some y) st' ∧ I (i + 1) (ys ++ [y]) st') {st : Store} (h : I 0 [] st) :
    ∃ ys st', lcL step g items st = .ok ys st' ∧ I items.length ys st' := by
  have main : ∀ (m i : Nat) (ys : List D) (st : Store), items.length - i = m → i ≤ items.length → I i ys st → ∃ zs st', lcL step g (items.drop i) st = .ok zs st' ∧ I items.length (ys ++ zs) st' := by
    intro m
    induction m with
    | zero =>
      intro i ys st hm hi h
      obtain rfl : i = items.length := by omega
      rw [List.drop_length]
      unfold lcL
      rw [if_pos (hg _ _ _ h)]
      exact ⟨[], st, rfl, by simpa using h⟩
    | succ m ih =>
      intro i ys st hm hi h
      have hlt : i < items.length := by omega
      obtain ⟨y, st1, e, h1⟩ := hs i _ ys st (List.getElem?_eq_getElem hlt) h
      obtain ⟨zs, st2, e2, h2⟩ := ih (i + 1) (ys ++ [y]) st1 (by omega) hlt h1
      refine ⟨y :: zs, st2, ?_, by simpa using h2⟩
      rw [List.drop_eq_getElem_cons hlt]
      unfold lcL
      rw [if_pos (hg _ _ _ h), e, bind_ok, e2]
      rfl
  obtain ⟨zs, st', e, h'⟩ := main items.length 0 [] st (by omega) (by omega) h
  exact ⟨zs, st', by simpa using e, by simpa using h'⟩

/-! ### while -/
theorem whN_more {c : Env → Store → Res Bool} {body : Env → Store → SRes} : ∀ {n : Nat} {ρ : Env} {st : Store}, whN c body n ρ st ≠ .bad → ∀ m, n ≤ m → whN c body m ρ st = whN c body n ρ st
  | 0, ρ, st, h, m, _ => absurd rfl h
  | n + 1, ρ, st, h, m, hm => by
    obtain ⟨m, rfl⟩ : ∃ k, m = k + 1 := ⟨m - 1, by omega⟩
    unfold whN at h ⊢
    cases e : c ρ st with
    | bad => rfl
    | exc _ _ => rfl
    | ok b st1 =>
      rw [e] at h
      rw [of_ok] at h
      rw [of_ok, of_ok]
      cases b with
      | false => rfl
      | true =>
        rw [if_pos rfl] at h
        rw [if_pos rfl, if_pos rfl]
        cases eb : body ρ st1 with
        | nx ρ' st' => rw [eb] at h; exact whN_more h m (by omega)
        | cnt ρ' st' => rw [eb] at h; exact whN_more h m (by omega)
        | brk _ _ => rfl
        | ret _ _ => rfl
        | exc _ _ _ => rfl
        | bad => rfl
theorem whL_of {c : Env → Store → Res Bool} {body : Env → Store → SRes} {n : Nat} {ρ : Env} {st : Store} {r : SRes} (h : whN c body n ρ st = r) (hr : r ≠ .bad) : whL c body ρ st = r := by
  have hx : ∃ n, whN c body n ρ st ≠ .bad := ⟨n, by rw [h]; exact hr⟩
  unfold whL
  rw [dif_pos hx]
  have h1 := Classical.choose_spec hx
  have a1 := whN_more h1 (max n (Classical.choose hx)) (Nat.le_max_right _ _)
  have a2 := whN_more (show whN c body n ρ st ≠ .bad by rw [h]; exact hr) (max n (Classical.choose hx)) (Nat.le_max_left _ _)
  rw [← a1, a2, h]
/-- a while by its measure -/
theorem whL_inv {c : Env → Store → Res Bool} {body : Env → Store → SRes} (I : Nat → Env → Store → Prop) (Post : Env → Store → Prop)
    (step : ∀ m ρ st, I m ρ st → (∃ st', c ρ st = .ok false st' ∧ Post ρ st') ∨ (∃ st1, c ρ st = .ok true st1 ∧ ∃ ρ' st' m', (body ρ st1 = .nx ρ' st' ∨ body ρ st1 = .cnt ρ' st') ∧ m' < m ∧ I m' ρ' st')) :
    ∀ m ρ st, I m ρ st → ∃ ρ' st', whL c body ρ st = .nx ρ' st' ∧ Post ρ' st' := by
  have main : ∀ m ρ st, I m ρ st → ∃ n ρ' st', whN c body n ρ st = .nx ρ' st' ∧ Post ρ' st' := by
    intro m
    induction m using Nat.strongRecOn with
    | _ m ih =>
      intro ρ st h
      rcases step m ρ st h with ⟨st', e, p⟩ | ⟨st1, e, ρ', st', m', eb, hm, h'⟩
      · exact ⟨1, ρ, st', by unfold whN; rw [e, of_ok, if_neg (by decide)], p⟩
      · obtain ⟨n, ρ2, st2, e2, p⟩ := ih m' hm ρ' st' h'
        refine ⟨n + 1, ρ2, st2, ?_, p⟩
        unfold whN
        rw [e, of_ok, if_pos rfl]
        rcases eb with eb | eb <;> (rw [eb]; exact e2)
  intro m ρ st h
  obtain ⟨n, ρ', st', e, p⟩ := main m ρ st h
  exact ⟨ρ', st', whL_of e (by intro z; cases z), p⟩
end DL
namespace DL
/-- one turn of a comprehension -/
noncomputable def lcS (C : Ctx) (ρ : Env) (elt tg : E) (ifs : List E) (own : List (String × Nat)) : D → Store → Res (Option D) := fun x st => match putT tg x (wipeE ρ (own.map (·.2))) with
          | some ρ' => (evIfs C ρ' ifs st).bind fun b st => if b = true then (evE C ρ' elt st).bind fun y st => .ok (some y) st else .ok none st
          | none => .bad
theorem lc_ev {C : Ctx} {ρ : Env} {elt tg src : E} {ifs : List E} {own : List (String × Nat)} {st st1 st2 : Store} {items ys : List D} {g : Guard} (hs : evI C ρ src st = .ok (items, g) st1) (ho : items.length ≤ 1000000) (hl : lcL (lcS C ρ elt tg ifs own) g items st1 = .ok ys st2) :
    evE C ρ (.lc elt tg src ifs own) st = .ok (.ref st2.length) (st2 ++ [.lst ys]) := by
  rw [evE, hs, bind_ok, if_pos (show okS (items, g).1.length = true from decide_eq_true ho)]
  show (lcL (lcS C ρ elt tg ifs own) g items st1).nox.bind _ = _
  rw [hl]
  rfl
/-- sources -/
theorem src_tup {C : Ctx} {ρ : Env} {i : Nat} {st : Store} {xs : List D} (h : ρ[i]? = some (some (.tup xs))) : evI C ρ (.var i) st = .ok (xs, none) st := by
  have : evE C ρ (.var i) st = .ok (.tup xs) st := by rw [evE, h]
  rw [evI, this]
  · rfl
  all_goals (intros; rename_i z; cases z)
theorem src_str {C : Ctx} {ρ : Env} {i : Nat} {st : Store} {s : List Nat} (h : ρ[i]? = some (some (.str s))) : evI C ρ (.var i) st = .ok (s.map (fun c => .str [c]), none) st := by
  have : evE C ρ (.var i) st = .ok (.str s) st := by rw [evE, h]
  rw [evI, this]
  · rfl
  all_goals (intros; rename_i z; cases z)
theorem src_lst {C : Ctx} {ρ : Env} {i l : Nat} {st : Store} {xs : List D} (h : ρ[i]? = some (some (.ref l))) (hl : st[l]? = some (.lst xs)) : evI C ρ (.var i) st = .ok (xs, some (l, xs)) st := by
  have : evE C ρ (.var i) st = .ok (.ref l) st := by rw [evE, h]
  rw [evI, this]
  · rw [bind_ok]; dsimp only; rw [hl]
  all_goals (intros; rename_i z; cases z)
end DL
namespace DL
theorem s62 {n : Nat} (h : n ≤ 1000000) : small62 (n : Int) = true := by simp [small62]; omega
theorem s62m : small62 (-1) = true := by simp [small62]
theorem rngD_eq (i j : Int) : rngD [.int i, .int j, .int (-1)] = if small62 i = true ∧ small62 j = true then some (rangeD i (i - j).toNat) else none := by unfold rngD; rfl
theorem rngD3 {n : Nat} (h : n ≤ 1000000) : rngD [.int (n : Int), .int (-1), .int (-1)] = some (rangeD n (n + 1)) := by
  rw [rngD_eq, if_pos ⟨s62 h, s62m⟩]
  congr 2
end DL
namespace DL
def srcVal : E → Bool
  | .rng _ => false
  | .enum _ => false
  | _ => true
theorem evI_ne' {C : Ctx} {ρ : Env} {a : E} {st : Store} (h : srcVal a = true) : evI C ρ a st = (evE C ρ a st).bind fun x st => match x with
    | .tup xs => .ok (xs, none) st
    | .str s => .ok (s.map (fun c => .str [c]), none) st
    | .ref l => match st[l]? with | some (.lst xs) => .ok (xs, some (l, xs)) st | _ => .bad
    | _ => .bad := by
  cases a <;> first | (cases h; done) | (rw [evI] <;> first | rfl | (intros; rename_i z; cases z))
end DL

set_option linter.all false
set_option maxRecDepth 100000
set_option maxHeartbeats 1000000
/-! pure: dicts -/
namespace DL
mutual
theorem same_eq : ∀ {a b : D}, D.same a b = true → a = b := by
  intro a b h
  cases a <;> cases b <;> first | (simp [D.same] at h; done) | rfl | skip
  all_goals first | (simp [D.same] at h; subst h; rfl) | skip
  rename_i xs ys
  simp only [D.same] at h
  rw [sames_eq h]
theorem sames_eq : ∀ {a b : List D}, D.sames a b = true → a = b := by
  intro a b h
  cases a with
  | nil => cases b with | nil => rfl | cons _ _ => simp [D.sames] at h
  | cons x xs =>
    cases b with
    | nil => simp [D.sames] at h
    | cons y ys =>
      simp only [D.sames, Bool.and_eq_true] at h
      rw [same_eq h.1, sames_eq h.2]
end
mutual
theorem same_refl : ∀ a : D, D.same a a = true
  | .non => rfl
  | .bl _ => by simp [D.same]
  | .int _ => by simp [D.same]
  | .str _ => by simp [D.same]
  | .tup xs => by simp only [D.same]; exact sames_refl xs
  | .ref _ => by simp [D.same]
  | .fl _ => by simp [D.same]
  | .fn _ => by simp [D.same]
theorem sames_refl : ∀ a : List D, D.sames a a = true
  | [] => rfl
  | x :: xs => by simp only [D.sames, Bool.and_eq_true]; exact ⟨same_refl x, sames_refl xs⟩
end
theorem same_iff {a b : D} : D.same a b = true ↔ a = b := ⟨same_eq, fun h => by rw [h]; exact same_refl b⟩
theorem same_ff {a b : D} (h : a ≠ b) : D.same a b = false := by
  cases q : D.same a b with
  | false => rfl
  | true => exact absurd (same_eq q) h
theorem look_app {k k' v : D} : ∀ {kvs : List (D × D)}, (kvs.any fun p => D.same p.1 k') = false → lookD k (kvs ++ [(k', v)]) = if D.same k' k = true then some v else lookD k kvs
  | [], _ => by simp [lookD]
  | p :: r, h => by
    rw [List.any_cons, Bool.or_eq_false_iff] at h
    rw [List.cons_append, lookD, lookD, look_app h.2]
    by_cases e : D.same p.1 k = true
    · rw [if_pos e, if_pos e]
      have := same_eq e
      rw [if_neg]
      intro z
      rw [this, ← same_eq z, same_refl] at h
      cases h.1
    · rw [if_neg e, if_neg e]
theorem look_map {k k' v : D} : ∀ {kvs : List (D × D)}, (kvs.any fun p => D.same p.1 k') = true → lookD k (kvs.map fun p => if D.same p.1 k' = true then (p.1, v) else p) = if D.same k' k = true then some v else lookD k kvs := by
  intro kvs h
  by_cases hk : D.same k' k = true
  · obtain rfl := same_eq hk
    rw [if_pos hk]
    induction kvs with
    | nil => cases h
    | cons p r ih =>
      rw [List.map_cons]
      by_cases e : D.same p.1 k' = true
      · rw [if_pos e, lookD, if_pos e]
      · rw [if_neg e, lookD, if_neg e]
        rw [List.any_cons] at h
        rw [Bool.or_eq_true] at h
        exact ih (h.resolve_left e)
  · rw [if_neg hk]
    clear h
    induction kvs with
    | nil => rfl
    | cons p r ih =>
      rw [List.map_cons, lookD, lookD]
      by_cases e : D.same p.1 k' = true
      · rw [if_pos e]
        have : ¬ D.same p.1 k = true := fun z => hk (by rw [← same_eq e, same_eq z]; exact same_refl k)
        rw [if_neg this, if_neg this, ih]
      · rw [if_neg e, ih]
theorem look_put {k k' v : D} {kvs : List (D × D)} : lookD k (putD k' v kvs) = if D.same k' k = true then some v else lookD k kvs := by
  unfold putD
  split
  · rename_i h; exact look_map h
  · rename_i h; exact look_app (by simpa using h)
theorem put_len {k v : D} {kvs : List (D × D)} : (putD k v kvs).length ≤ kvs.length + 1 := by
  unfold putD
  split <;> simp
theorem dix {st : Store} {l : Nat} {kvs : List (D × D)} {k v : D} (h : st[l]? = some (.dic true kvs)) (hk : keyOkD true k = true) (e : lookD k kvs = some v) : ixD (.ref l) k st = some (v, st) := by
  unfold ixD
  dsimp only
  rw [h]
  dsimp only
  rw [if_pos hk, e]
end DL

set_option linter.all false
set_option maxRecDepth 100000
/-! k58: the mathematics of scripts -/
namespace K58
def dg (x y : Nat) : Nat := if x = y then 0 else 1
/-- the least cost of what is left -/
def Rd : List Nat → List Nat → Nat
  | [], [] => 0
  | _ :: xs, [] => Rd xs [] + 1
  | [], _ :: ys => Rd [] ys + 1
  | x :: xs, y :: ys => min (min (Rd xs (y :: ys) + 1) (Rd (x :: xs) ys + 1)) (Rd xs ys + dg x y)
termination_by xs ys => xs.length + ys.length
inductive Al : List Nat → List Nat → Nat → Prop
  | nil : Al [] [] 0
  | both {xs ys c} (x y) : Al xs ys c → Al (x :: xs) (y :: ys) (c + dg x y)
  | leave {xs ys c} (x) : Al xs ys c → Al (x :: xs) ys (c + 1)
  | put {xs ys c} (y) : Al xs ys c → Al xs (y :: ys) (c + 1)
theorem min_cases (a b : Nat) : min a b = a ∨ min a b = b := by omega
theorem Al_rd : ∀ (xs ys : List Nat), Al xs ys (Rd xs ys)
  | [], [] => by rw [Rd]; exact .nil
  | x :: xs, [] => by rw [Rd]; exact .leave x (Al_rd xs [])
  | [], y :: ys => by rw [Rd]; exact .put y (Al_rd [] ys)
  | x :: xs, y :: ys => by
    rw [Rd]
    have h1 := Al.leave x (Al_rd xs (y :: ys))
    have h2 := Al.put y (Al_rd (x :: xs) ys)
    have h3 := Al.both x y (Al_rd xs ys)
    generalize (Rd xs ys + dg x y) = c3 at *
    rcases min_cases (min (Rd xs (y :: ys) + 1) (Rd (x :: xs) ys + 1)) c3 with e | e
    · rw [e]
      rcases min_cases (Rd xs (y :: ys) + 1) (Rd (x :: xs) ys + 1) with e | e
      · rw [e]; exact h1
      · rw [e]; exact h2
    · rw [e]; exact h3
termination_by xs ys => xs.length + ys.length
theorem rd_leave (x : Nat) (xs : List Nat) : ∀ ys, Rd (x :: xs) ys ≤ Rd xs ys + 1
  | [] => by rw [Rd]; exact Nat.le_refl _
  | y :: ys => by rw [Rd]; omega
theorem rd_put (y : Nat) (ys : List Nat) : ∀ xs, Rd xs (y :: ys) ≤ Rd xs ys + 1
  | [] => by rw [Rd]; exact Nat.le_refl _
  | x :: xs => by rw [Rd]; omega
theorem rd_both (x y : Nat) (xs ys : List Nat) : Rd (x :: xs) (y :: ys) ≤ Rd xs ys + dg x y := by
  rw [Rd]
  exact Nat.min_le_right _ _
theorem rd_le {xs ys : List Nat} {c : Nat} (h : Al xs ys c) : Rd xs ys ≤ c := by
  induction h with
  | nil => rw [Rd]; exact Nat.le_refl _
  | both x y _ ih => exact Nat.le_trans (rd_both x y _ _) (by omega)
  | leave x _ ih => exact Nat.le_trans (rd_leave x _ _) (by omega)
  | put y _ ih => exact Nat.le_trans (rd_put y _ _) (by omega)
theorem Al_app {xs ys : List Nat} {c : Nat} (h : Al xs ys c) {xs' ys' : List Nat} {c' : Nat} (g : Al xs' ys' c') : Al (xs ++ xs') (ys ++ ys') (c' + c) := by
  induction h with
  | nil => exact g
  | both x y _ ih => rw [← Nat.add_assoc]; exact .both x y ih
  | leave x _ ih => rw [← Nat.add_assoc]; exact .leave x ih
  | put y _ ih => rw [← Nat.add_assoc]; exact .put y ih
theorem Al_rev {xs ys : List Nat} {c : Nat} (h : Al xs ys c) : Al xs.reverse ys.reverse c := by
  induction h with
  | nil => exact .nil
  | both x y _ ih =>
    rw [List.reverse_cons, List.reverse_cons, Nat.add_comm]
    have := Al_app ih (Al.both x y .nil)
    rwa [Nat.zero_add] at this
  | leave x _ ih =>
    have := Al_app ih (Al.leave x .nil)
    rw [List.append_nil, Nat.zero_add, Nat.add_comm] at this
    rw [List.reverse_cons]
    exact this
  | put y _ ih =>
    have := Al_app ih (Al.put y .nil)
    rw [List.append_nil, Nat.zero_add, Nat.add_comm] at this
    rw [List.reverse_cons]
    exact this
theorem rd_rev (xs ys : List Nat) : Rd xs.reverse ys.reverse = Rd xs ys := by
  apply Nat.le_antisymm
  · exact rd_le (Al_rev (Al_rd xs ys))
  · have := rd_le (Al_rev (Al_rd xs.reverse ys.reverse))
    rwa [List.reverse_reverse, List.reverse_reverse] at this
theorem rd_bound : ∀ (xs ys : List Nat), Rd xs ys ≤ xs.length + ys.length
  | [], [] => by rw [Rd]; simp
  | x :: xs, [] => by rw [Rd]; have := rd_bound xs []; simp at *; omega
  | [], y :: ys => by rw [Rd]; have := rd_bound [] ys; simp at *; omega
  | x :: xs, y :: ys => by have := rd_leave x xs (y :: ys); have h := rd_bound xs (y :: ys); simp at *; omega
termination_by xs ys => xs.length + ys.length

/-- the steps' names -/
inductive Stp | keep | change | leave | put
  deriving DecidableEq
def Stp.str : Stp → List Nat
  | .keep => [107, 101, 101, 112]
  | .change => [99, 104, 97, 110, 103, 101]
  | .leave => [108, 101, 97, 118, 101]
  | .put => [112, 117, 116]
def ks (x y : Nat) : Stp := if x = y then .keep else .change
theorem ks_cost (x y : Nat) (r : List Stp) : ((ks x y :: r).filter fun s => s ≠ .keep).length = (r.filter fun s => s ≠ .keep).length + dg x y := by
  unfold ks dg
  by_cases e : x = y
  · rw [if_pos e, if_pos e]; simp
  · rw [if_neg e, if_neg e]; simp
/-- the script that both make -/
def Sc : List Nat → List Nat → List Stp
  | [], [] => []
  | _ :: xs, [] => .leave :: Sc xs []
  | [], _ :: ys => .put :: Sc [] ys
  | x :: xs, y :: ys =>
    if (Rd xs ys + dg x y) = Rd (x :: xs) (y :: ys) then ks x y :: Sc xs ys
    else if Rd xs (y :: ys) + 1 = Rd (x :: xs) (y :: ys) then .leave :: Sc xs (y :: ys)
    else .put :: Sc (x :: xs) ys
termination_by xs ys => xs.length + ys.length
theorem rd_cons (x y : Nat) (xs ys : List Nat) : (Rd xs ys + dg x y) = Rd (x :: xs) (y :: ys) ∨ Rd xs (y :: ys) + 1 = Rd (x :: xs) (y :: ys) ∨ Rd (x :: xs) ys + 1 = Rd (x :: xs) (y :: ys) := by
  rw [Rd]
  omega
theorem sc_len : ∀ (xs ys : List Nat), (Sc xs ys).length ≤ xs.length + ys.length
  | [], [] => by rw [Sc]; simp
  | x :: xs, [] => by rw [Sc]; have := sc_len xs []; simp at *; omega
  | [], y :: ys => by rw [Sc]; have := sc_len [] ys; simp at *; omega
  | x :: xs, y :: ys => by
    rw [Sc]
    have h1 := sc_len xs ys
    have h2 := sc_len xs (y :: ys)
    have h3 := sc_len (x :: xs) ys
    simp only [List.length_cons] at *
    split
    · simp only [List.length_cons]; omega
    · split <;> (simp only [List.length_cons]; omega)
termination_by xs ys => xs.length + ys.length
/-- its cost: what is not kept -/
theorem sc_cost : ∀ (xs ys : List Nat), ((Sc xs ys).filter fun s => s ≠ .keep).length = Rd xs ys
  | [], [] => by rw [Sc, Rd]; rfl
  | x :: xs, [] => by rw [Sc, Rd, ← sc_cost xs []]; simp
  | [], y :: ys => by rw [Sc, Rd, ← sc_cost [] ys]; simp
  | x :: xs, y :: ys => by
    rw [Sc]
    split
    · rename_i h
      rw [ks_cost, sc_cost xs ys, h]
    · split
      · rename_i h
        rw [List.filter_cons_of_pos (by simp), List.length_cons, sc_cost xs (y :: ys), h]
      · rename_i h1 h2
        have := rd_cons x y xs ys
        have h3 : Rd (x :: xs) ys + 1 = Rd (x :: xs) (y :: ys) := by
          rcases this with h | h | h
          · exact absurd h h1
          · exact absurd h h2
          · exact h
        rw [List.filter_cons_of_pos (by simp), List.length_cons, sc_cost (x :: xs) ys, h3]
termination_by xs ys => xs.length + ys.length
end K58

set_option linter.all false
set_option maxRecDepth 100000
set_option maxHeartbeats 1000000
namespace K58
open DL
noncomputable abbrev cl (k f : Nat) (args : List D) (st : Store) : Res D := callF xcs kts fns k f args st
def runs : List Nat := [97, 98, 99, 100, 101, 102, 103, 104, 105, 106, 107, 108, 109, 110, 111, 112, 113, 114, 115, 116, 117, 118, 119, 120, 121, 122, 65, 66, 67, 68, 69, 70, 71, 72, 73, 74, 75, 76, 77, 78, 79, 80, 81, 82, 83, 84, 85, 86, 87, 88, 89, 90, 48, 49, 50, 51, 52, 53, 54, 55, 56, 57]
/-- a word that the program takes -/
structure Word (w : List Nat) : Prop where
  pos : 1 ≤ w.length
  le : w.length ≤ 24
  ok : ∀ c ∈ w, c ∈ runs
theorem in_runs {c : Nat} {st : Store} : inD (.str [c]) c_RUNS st = some (decide (c ∈ runs)) := rfl
theorem bools_map {xs : List Nat} : bools? (xs.map fun c => D.bl (decide (c ∈ runs))) = some (xs.map fun c => decide (c ∈ runs)) := by
  induction xs with
  | nil => rfl
  | cons x xs ih => simp [bools?, ih]
theorem sign_map (w : List Nat) : ((w.map fun c => D.str [c]).filterMap fun x => match x with | .str [c] => some (D.bl (decide (c ∈ runs))) | _ => none) = w.map fun c => .bl (decide (c ∈ runs)) := by
  induction w with
  | nil => rfl
  | cons x w ih => simpa using ih
theorem xc1 : xcs[1]? = some ⟨["why"], [1, 0]⟩ := rfl
theorem sign_lc {C : Ctx} {w : List Nat} {st : Store} (hw : w.length ≤ 1000000) : evE C [some (.str w), none] (.lc (.cmp .isin (.var 1) (.cst c_RUNS)) (.var 1) (.var 0) [] [("sign", 1)]) st = .ok (.ref st.length) (st ++ [.lst (w.map fun c => .bl (decide (c ∈ runs)))]) := by
  have := lc_ev (C := C) (ρ := [some (.str w), none]) (elt := .cmp .isin (.var 1) (.cst c_RUNS)) (tg := .var 1) (ifs := []) (own := [("sign", 1)]) (st := st) (src_str (i := 0) rfl) (by simpa using hw)
    (lcL_pure (f := fun x => match x with | .str [c] => some (.bl (decide (c ∈ runs))) | _ => none) (fun x hx => by
      rw [List.mem_map] at hx
      obtain ⟨c, hc, rfl⟩ := hx
      simp [lcS, putT, wipeE, evIfs, evE, in_runs]))
  rw [this, sign_map]
theorem is_word {k : Nat} {w : List Nat} {st : Store} (hw : w.length ≤ 1000000) : cl (k + 1) 0 [.str w] st = .ok (.bl (decide (0 < w.length ∧ w.length ≤ 24 ∧ ∀ c ∈ w, c ∈ runs))) st := by
  have lenE : lenD [.str w] st = some (.int w.length, st) := rfl
  by_cases h1 : 0 < w.length
  · by_cases h2 : w.length ≤ 24
    · rw [cl, call_ret (fn := f_is_word) (st' := st ++ [.lst (w.map fun c => .bl (decide (c ∈ runs)))]) (d := .bl (decide (0 < w.length ∧ w.length ≤ 24 ∧ ∀ c ∈ w, c ∈ runs))) rfl rfl, settle_app (by intro d hd; rw [List.mem_singleton] at hd; subst hd; rw [wfD] <;> simp)]
      have b1 : (0 : Int) < w.length := by omega
      have b2 : (w.length : Int) ≤ 24 := by omega
      have eA : allD [.ref st.length] (st ++ [.lst (w.map fun c => .bl (decide (c ∈ runs)))]) = some (.bl (decide (∀ c ∈ w, c ∈ runs)), st ++ [.lst (w.map fun c => .bl (decide (c ∈ runs)))]) := by
        simp [allD, bools_map]
        rw [Bool.eq_iff_iff]
        simp
      cases hd : decide (∀ c ∈ w, c ∈ runs) with
      | true =>
        rw [hd] at eA
        simp only [decide_eq_true_eq] at hd
        simp [f_is_word, evSs, evS, evE, evEs, evAnd, isiD, tyb, lenE, ltD, leD, c_MOST_WORD, b1, b2, h1, h2, ↓sign_lc hw, eA, hd]
        exact hd
      | false =>
        rw [hd] at eA
        have hd' : ¬ ∀ c ∈ w, c ∈ runs := by simpa using hd
        simp [f_is_word, evSs, evS, evE, evEs, evAnd, isiD, tyb, lenE, ltD, leD, c_MOST_WORD, b1, b2, h1, h2, ↓sign_lc hw, eA]
        simpa using hd'
    · rw [cl, call_ret (fn := f_is_word) (st' := st) (d := .bl false) rfl rfl, settle_same rfl]
      · simp [h2]
      · have b1 : (0 : Int) < w.length := by omega
        have b2 : ¬ (w.length : Int) ≤ 24 := by omega
        simp [f_is_word, evSs, evS, evE, evEs, evAnd, isiD, tyb, lenE, ltD, leD, c_MOST_WORD, b1, b2, h1, h2]
  · rw [cl, call_ret (fn := f_is_word) (st' := st) (d := .bl false) rfl rfl, settle_same rfl]
    · simp [h1]
    · have b1 : ¬ (0 : Int) < w.length := by omega
      simp [f_is_word, evSs, evS, evE, evEs, evAnd, isiD, tyb, lenE, ltD, leD, c_MOST_WORD, b1, h1]
theorem is_word_no {k : Nat} {d : D} {st : Store} (h : isiD d .str st = some false) : cl (k + 1) 0 [d] st = .ok (.bl false) st := by
  rw [cl, call_ret (fn := f_is_word) (st' := st) (d := .bl false) rfl rfl, settle_same rfl]
  simp [f_is_word, evSs, evS, evE, evEs, evAnd, h]
theorem look_ok {k : Nat} {w : List Nat} {st : Store} (h : Word w) : cl (k + 2) 1 [.str w] st = .ok .non st := by
  have hw : cl (k + 1) 0 [.str w] st = .ok (.bl true) st := by
    rw [is_word (by have := h.le; omega)]
    have : (0 < w.length ∧ w.length ≤ 24 ∧ ∀ c ∈ w, c ∈ runs) := ⟨h.pos, h.le, h.ok⟩
    rw [decide_eq_true this]
  rw [cl, call_of (fn := f_look_at_word) rfl rfl]
  simp [f_look_at_word, evSs, evS, evT, evE, evEs, hw, truD, settle_same]
theorem look_bad {k : Nat} {d : D} {st : Store} (h : cl (k + 1) 0 [d] st = .ok (.bl false) st) : cl (k + 2) 1 [d] st = .exc ⟨1, [("why", .str [119, 111, 114, 100])]⟩ st := by
  rw [cl, call_of (fn := f_look_at_word) rfl rfl]
  simp [f_look_at_word, evSs, evS, evT, evE, evEs, h, truD, settle_same, xc1]
end K58

set_option linter.all false
set_option maxRecDepth 100000
set_option maxHeartbeats 1000000
namespace K58
open DL
theorem T_draw : fns[9]? = some drawFn := rfl
theorem T_pick : fns[10]? = some (pickFn 9) := rfl
theorem T_same : fns[11]? = some (sameFn 11) := rfl
def alph : List Nat := [97, 98, 99, 90, 48]
def row6 : List D := [.str [97], .str [98], .str [99], .str [97], .str [90], .str [48]]
theorem row6_mem {x : D} (h : x ∈ row6) : ∃ c, x = .str [c] ∧ c ∈ alph := by
  simp only [row6, List.mem_cons, List.not_mem_nil, or_false] at h
  rcases h with rfl | rfl | rfl | rfl | rfl | rfl <;> exact ⟨_, rfl, by decide⟩
theorem join_one : ∀ cs : List Nat, join [] (cs.map fun c => [c]) = cs
  | [] => rfl
  | [x] => rfl
  | x :: y :: r => by
    have := join_one (y :: r)
    simp only [List.map_cons] at this ⊢
    rw [join, this]
    rfl
theorem strs_one : ∀ cs : List Nat, strs? (cs.map fun c => D.str [c]) = some (cs.map fun c => [c])
  | [] => rfl
  | x :: r => by rw [List.map_cons, strs?, strs_one r]; rfl
theorem joinSize_one : ∀ cs : List Nat, joinSize [] (cs.map fun c => [c]) = cs.length
  | [] => rfl
  | x :: r => by rw [List.map_cons, joinSize, joinSize_one r]; simp; omega
theorem drawn {k : Nat} {st : Store} {ns : List Int} (h : Dr ns st) : ∃ (w : List Nat) (st' : Store), cl (k + 3) 15 [.ref 1] st = .ok (.str w) st' ∧ (1 ≤ w.length ∧ w.length ≤ 8 ∧ ∀ c ∈ w, c ∈ alph) ∧ Dr ns st' ∧ st'.length = st.length ∧ Kp st st' := by
  obtain ⟨v, st1, q1, v0, v1, d1, l1, k1⟩ := draw_spec (XC := xcs) (KT := kts) (k := k + 1) (n := 8) T_draw h (by decide) (by decide)
  obtain ⟨m, rfl⟩ : ∃ m : Nat, v = (m : Int) := ⟨v.toNat, by omega⟩
  have hsrc : evI ⟨xcs, kts, callF xcs kts fns (k + 2)⟩ [some (.ref 1), none] (.rng [(.bin .add (.cst (.int (1))) (.call 9 [(.var 0), (.cst (.int (8)))]))]) st = .ok (rangeL 0 (1 + m), none) st1 := by
    have a1 : evEs ⟨xcs, kts, callF xcs kts fns (k + 2)⟩ [some (.ref 1), none] [(.bin .add (.cst (.int (1))) (.call 9 [(.var 0), (.cst (.int (8)))]))] st = .ok [.int ((1 + m : Nat) : Int)] st1 := by
      simp [evEs, evE, q1, addD]
    rw [evI_rng, a1, bind_ok, rng1 (by simp [small62]; omega)]
    rfl
  have hlen : (rangeL 0 (1 + m)).length = 1 + m := by simp [rangeL]
  obtain ⟨ys, st2, e2, cs, rfl, hcs, hl, d2, k2⟩ := lcL_inv (step := lcS ⟨xcs, kts, callF xcs kts fns (k + 2)⟩ [some (.ref 1), none] (.call 10 [(.var 0), (.lst [(.cst (.str [97])), (.cst (.str [98])), (.cst (.str [99])), (.cst (.str [97])), (.cst (.str [90])), (.cst (.str [48]))])]) (.var 1) [] [("k", 1)]) (g := none) (items := rangeL 0 (1 + m))
    (fun i ys s => ∃ cs : List Nat, ys = cs.map (fun c => D.str [c]) ∧ (∀ c ∈ cs, c ∈ alph) ∧ cs.length = i ∧ Dr ns s ∧ Kp st s) (fun _ _ _ _ => trivial) (fun i x ys s hx ⟨cs, e, hc, hl, d, kp⟩ => by
      have d' : Dr ns (s ++ [.lst row6]) := d.app
      obtain ⟨y, s', q, hy, d3, l3, k3⟩ := pick_spec (XC := xcs) (KT := kts) (k := k) (r := s.length) (xs := row6) T_pick T_draw d' (by simp) (by have := d.two; omega) (by simp [row6]) (by simp [row6]) (by intro x hx; obtain ⟨c, rfl, _⟩ := row6_mem hx; rw [wfD] <;> simp)
      obtain ⟨c, rfl, hc'⟩ := row6_mem hy
      refine ⟨.str [c], s', ?_, cs ++ [c], by rw [e]; simp, ?_, by simp [hl], d3, kp.trans (Kp.app.trans k3)⟩
      · have q' : callF xcs kts fns (k + 2) 10 [.ref 1, .ref s.length] (s ++ [.lst [.str [97], .str [98], .str [99], .str [97], .str [90], .str [48]]]) = .ok (.str [c]) s' := q
        simp [lcS, putT, wipeE, evIfs, evE, evEs, okS, newL, q']
      · intro z hz
        rw [List.mem_append, List.mem_singleton] at hz
        rcases hz with hz | rfl
        · exact hc z hz
        · exact hc') (st := st1) ⟨[], rfl, by simp, rfl, d1, k1⟩
  rw [hlen] at hl
  have elc := lc_ev (C := ⟨xcs, kts, callF xcs kts fns (k + 2)⟩) (ρ := [some (.ref 1), none]) (st := st) hsrc (by rw [hlen]; omega) e2
  have kp : Kp st (st2 ++ [.lst (cs.map fun c => D.str [c])]) := k2.trans Kp.app
  have ds : Dr ns (st2 ++ [.lst (cs.map fun c => D.str [c])]) := d2.app
  have hj : joinD (.str []) [.ref st2.length] (st2 ++ [.lst (cs.map fun c => D.str [c])]) = some (.str cs, st2 ++ [.lst (cs.map fun c => D.str [c])]) := by
    unfold joinD
    dsimp only
    rw [show itemsD (.ref st2.length) (st2 ++ [.lst (cs.map fun c => D.str [c])]) = some (cs.map fun c => D.str [c]) by unfold itemsD; simp]
    dsimp only
    rw [strs_one]
    dsimp only
    rw [joinSize_one, if_pos (by rw [okS, decide_eq_true_eq]; omega), join_one]
  obtain ⟨s1, s2, s3⟩ := settle_kp (ds := [.str cs]) h.two kp ds (by intro d hd; rw [List.mem_singleton] at hd; subst hd; rw [wfD] <;> simp)
  refine ⟨cs, _, ?_, ⟨by omega, by omega, hcs⟩, s2, s3, s1⟩
  rw [cl, call_ret (fn := f__law_drawn) (d := .str cs) (st' := st2 ++ [.lst (cs.map fun c => D.str [c])]) rfl rfl]
  simp [f__law_drawn, evSs, evS, evEs, evE, ↓elc, isS, hj]
end K58

set_option linter.all false
set_option maxRecDepth 100000
set_option maxHeartbeats 1000000
namespace K58
open DL
def mo : Stp → Nat
  | .put => 0
  | _ => 1
def ot : Stp → Nat
  | .leave => 0
  | _ => 1
theorem eq_str {st : Store} {a b : List Nat} : eqD st (.str a) (.str b) = some (decide (a = b)) := by
  simp only [eqD, rsv1, rsv, PD.eqv]
  by_cases h : a = b
  · subst h; simp
  · simp [h]
theorem eq_int {st : Store} {a b : Int} : eqD st (.int a) (.int b) = some (decide (a = b)) := by
  simp only [eqD, rsv1, rsv, PD.eqv]
  by_cases h : a = b
  · subst h; simp
  · simp [h]
theorem eq_bl {st : Store} {a b : Bool} : eqD st (.bl a) (.bl b) = some (a == b) := by simp [eqD, rsv1, rsv, PD.eqv]
theorem sk (s : Stp) : (s.str = [107, 101, 101, 112]) ↔ s = .keep := by cases s <;> simp [Stp.str]
theorem sc (s : Stp) : (s.str = [99, 104, 97, 110, 103, 101]) ↔ s = .change := by cases s <;> simp [Stp.str]
theorem sl (s : Stp) : (s.str = [108, 101, 97, 118, 101]) ↔ s = .leave := by cases s <;> simp [Stp.str]
theorem sp (s : Stp) : (s.str = [112, 117, 116]) ↔ s = .put := by cases s <;> simp [Stp.str]
theorem moved {k : Nat} {st : Store} (s : Stp) : cl (k + 1) 4 [.str s.str] st = .ok (.tup [.int (mo s), .int (ot s)]) st := by
  rw [cl, call_ret (fn := f_moved_by) (st' := st) (d := .tup [.int (mo s), .int (ot s)]) rfl rfl, settle_same rfl]
  cases s <;> simp [f_moved_by, evSs, evS, evE, evEs, eq_str, Stp.str, intD, mo, ot, okS]
def stepC (one two : List Nat) (i j : Nat) : Stp → Option Nat
  | .keep => match one[i]?, two[j]? with
    | some x, some y => if x = y then some 0 else none
    | _, _ => none
  | .change => match one[i]?, two[j]? with
    | some x, some y => if x = y then none else some 1
    | _, _ => none
  | .leave => if i < one.length then some 1 else none
  | .put => if j < two.length then some 1 else none
def optD : Option Nat → D
  | none => .non
  | some c => .int (c : Nat)
theorem ix_str {st : Store} {w : List Nat} {i c : Nat} (h : w[i]? = some c) : ixD (.str w) (.int (i : Int)) st = some (.str [c], st) := by
  unfold ixD
  dsimp only
  unfold atD
  rw [if_pos (by omega), Int.toNat_natCast, h]
theorem in_kc {st : Store} (s : Stp) : inD (.str s.str) (.tup [.str [107, 101, 101, 112], .str [99, 104, 97, 110, 103, 101]]) st = some (decide (s = .keep ∨ s = .change)) := by
  cases s <;> rfl
theorem step_cost {k : Nat} {st : Store} {one two : List Nat} {i j : Nat} (s : Stp) (hi : i ≤ one.length) (hj : j ≤ two.length) : cl (k + 2) 5 [.str one, .str two, .int i, .int j, .str s.str] st = .ok (optD (stepC one two i j s)) st := by
  have hm : callF xcs kts fns (k + 1) 4 [.str s.str] st = .ok (.tup [.int (mo s), .int (ot s)]) st := moved s
  rw [cl, call_ret (fn := f_step_cost) (st' := st) (d := optD (stepC one two i j s)) rfl rfl, settle_same rfl]
  have l1 : lenD [.str one] st = some (.int one.length, st) := rfl
  have l2 : lenD [.str two] st = some (.int two.length, st) := rfl
  have kc := in_kc (st := st) s
  cases s with
  | keep =>
    by_cases h1 : i < one.length
    · by_cases h2 : j < two.length
      · have e1 := ix_str (st := st) (List.getElem?_eq_getElem h1)
        have e2 := ix_str (st := st) (List.getElem?_eq_getElem h2)
        by_cases e : one[i] = two[j]
        · simp [f_step_cost, evSs, evS, evT, evE, evEs, evOr, hm, putT, putTs, addD, mo, ot, l1, l2, ltD, truD, kc, e1, e2, eq_str, eq_bl, sk, sc, intD, stepC, optD, h1, h2, e, okS, show ¬ (one.length : Int) < i + 1 by omega, show ¬ (two.length : Int) < j + 1 by omega]
        · simp [f_step_cost, evSs, evS, evT, evE, evEs, evOr, hm, putT, putTs, addD, mo, ot, l1, l2, ltD, truD, kc, e1, e2, eq_str, eq_bl, sk, sc, intD, stepC, optD, h1, h2, e, okS, show ¬ (one.length : Int) < i + 1 by omega, show ¬ (two.length : Int) < j + 1 by omega]
      · simp [f_step_cost, evSs, evS, evT, evE, evEs, evOr, hm, putT, putTs, addD, mo, ot, l1, l2, ltD, truD, stepC, optD, h1, h2, show ¬ (one.length : Int) < i + 1 by omega, show (two.length : Int) < j + 1 by omega]
    · simp [f_step_cost, evSs, evS, evT, evE, evEs, evOr, hm, putT, putTs, addD, mo, ot, l1, l2, ltD, truD, stepC, optD, h1, show (one.length : Int) < i + 1 by omega]
  | change =>
    by_cases h1 : i < one.length
    · by_cases h2 : j < two.length
      · have e1 := ix_str (st := st) (List.getElem?_eq_getElem h1)
        have e2 := ix_str (st := st) (List.getElem?_eq_getElem h2)
        by_cases e : one[i] = two[j]
        · simp [f_step_cost, evSs, evS, evT, evE, evEs, evOr, hm, putT, putTs, addD, mo, ot, l1, l2, ltD, truD, kc, e1, e2, eq_str, eq_bl, sk, sc, intD, stepC, optD, h1, h2, e, okS, show ¬ (one.length : Int) < i + 1 by omega, show ¬ (two.length : Int) < j + 1 by omega]
        · simp [f_step_cost, evSs, evS, evT, evE, evEs, evOr, hm, putT, putTs, addD, mo, ot, l1, l2, ltD, truD, kc, e1, e2, eq_str, eq_bl, sk, sc, intD, stepC, optD, h1, h2, e, okS, show ¬ (one.length : Int) < i + 1 by omega, show ¬ (two.length : Int) < j + 1 by omega]
      · simp [f_step_cost, evSs, evS, evT, evE, evEs, evOr, hm, putT, putTs, addD, mo, ot, l1, l2, ltD, truD, stepC, optD, h1, h2, show ¬ (one.length : Int) < i + 1 by omega, show (two.length : Int) < j + 1 by omega]
    · simp [f_step_cost, evSs, evS, evT, evE, evEs, evOr, hm, putT, putTs, addD, mo, ot, l1, l2, ltD, truD, stepC, optD, h1, show (one.length : Int) < i + 1 by omega]
  | leave =>
    by_cases h1 : i < one.length
    · simp [f_step_cost, evSs, evS, evT, evE, evEs, evOr, hm, putT, putTs, addD, mo, ot, l1, l2, ltD, truD, kc, stepC, optD, h1, okS, show ¬ (one.length : Int) < i + 1 by omega, show ¬ (two.length : Int) < j by omega]
    · simp [f_step_cost, evSs, evS, evT, evE, evEs, evOr, hm, putT, putTs, addD, mo, ot, l1, l2, ltD, truD, stepC, optD, h1, show (one.length : Int) < i + 1 by omega]
  | put =>
    by_cases h2 : j < two.length
    · simp [f_step_cost, evSs, evS, evT, evE, evEs, evOr, hm, putT, putTs, addD, mo, ot, l1, l2, ltD, truD, kc, stepC, optD, h2, okS, show ¬ (one.length : Int) < i by omega, show ¬ (two.length : Int) < j + 1 by omega]
    · simp [f_step_cost, evSs, evS, evT, evE, evEs, evOr, hm, putT, putTs, addD, mo, ot, l1, l2, ltD, truD, stepC, optD, h2, show ¬ (one.length : Int) < i by omega, show (two.length : Int) < j + 1 by omega]
end K58

set_option linter.all false
set_option maxRecDepth 100000
set_option maxHeartbeats 1000000
namespace K58
open DL
/-- a table: its rows' labels, its values -/
structure Tab (st : Store) (r : Nat) (lab : Nat → Nat) (V : Nat → Nat → Int) (n m : Nat) : Prop where
  top : st[r]? = some (.lst ((List.range (n + 1)).map fun i => .ref (lab i)))
  row : ∀ i, i ≤ n → st[lab i]? = some (.lst ((List.range (m + 1)).map fun j => .int (V i j)))
  inj : ∀ i j, i ≤ n → j ≤ n → lab i = lab j → i = j
  ne : ∀ i, i ≤ n → lab i ≠ r
theorem Tab.app {st : Store} {r : Nat} {lab : Nat → Nat} {V : Nat → Nat → Int} {n m : Nat} (h : Tab st r lab V n m) (cs : List Cell) : Tab (st ++ cs) r lab V n m :=
  ⟨by rw [List.getElem?_append_left (List.getElem?_eq_some_iff.mp h.top).1]; exact h.top, fun i hi => by rw [List.getElem?_append_left (List.getElem?_eq_some_iff.mp (h.row i hi)).1]; exact h.row i hi, h.inj, h.ne⟩
theorem Tab.ixr {st : Store} {r : Nat} {lab : Nat → Nat} {V : Nat → Nat → Int} {n m : Nat} (h : Tab st r lab V n m) {i : Nat} (hi : i ≤ n) : ixD (.ref r) (.int (i : Int)) st = some (.ref (lab i), st) :=
  ix_cell h.top (by omega) (by rw [Int.toNat_natCast, List.getElem?_map, List.getElem?_range (by omega)]; rfl)
theorem Tab.ixv {st : Store} {r : Nat} {lab : Nat → Nat} {V : Nat → Nat → Int} {n m : Nat} (h : Tab st r lab V n m) {i j : Nat} (hi : i ≤ n) (hj : j ≤ m) : ixD (.ref (lab i)) (.int (j : Int)) st = some (.int (V i j), st) :=
  ix_cell (h.row i hi) (by omega) (by rw [Int.toNat_natCast, List.getElem?_map, List.getElem?_range (by omega)]; rfl)
/-- a value written -/
theorem Tab.put {st : Store} {r : Nat} {lab : Nat → Nat} {V : Nat → Nat → Int} {n m : Nat} (h : Tab st r lab V n m) {i j : Nat} (hi : i ≤ n) (hj : j ≤ m) (KT : List D) (v : Int) :
    ∃ st', setXD KT (.ref (lab i)) (.int (j : Int)) (.int v) st = some st' ∧ Tab st' r lab (fun a b => if a = i ∧ b = j then v else V a b) n m ∧ st' = st.set (lab i) (.lst (((List.range (m + 1)).map fun j => D.int (V i j)).set j (.int v))) := by
  refine ⟨_, set_cell (h.row i hi) (by omega) (by simp; omega), ⟨?_, fun a ha => ?_, h.inj, h.ne⟩, by rw [Int.toNat_natCast]⟩
  · rw [List.getElem?_set_ne (h.ne i hi)]; exact h.top
  · by_cases e : a = i
    · subst e
      rw [set_get (h.row a ha), Int.toNat_natCast]
      congr 2
      apply List.ext_getElem?
      intro b
      by_cases hb : j = b
      · subst hb
        rw [List.getElem?_set_self (by simp; omega), List.getElem?_map, List.getElem?_range (by omega)]
        simp
      · rw [List.getElem?_set_ne hb, List.getElem?_map, List.getElem?_map]
        by_cases hlt : b < m + 1
        · rw [List.getElem?_range hlt]
          simp [Ne.symm hb]
        · rw [List.getElem?_eq_none (by simp; omega)]
          rfl
    · rw [List.getElem?_set_ne (fun z => e (h.inj _ _ ha hi z.symm)), h.row a ha]
      congr 2
      apply List.map_congr_left
      intro b _
      rw [if_neg (fun z => e z.1)]
theorem app_last {st : Store} {xs : List D} {d : D} (h : xs.length ≤ 1000000) : appendD (.ref st.length) [d] (st ++ [.lst xs]) = some (.non, st ++ [.lst (xs ++ [d])]) := by
  unfold appendD
  dsimp only
  rw [show (st ++ [Cell.lst xs])[st.length]? = some (.lst xs) by simp]
  dsimp only
  rw [if_pos (show okS xs.length = true from decide_eq_true h)]
  simp
theorem isL_last {st : Store} {xs : List D} : isL (.ref st.length) (st ++ [.lst xs]) = true := by
  unfold isL
  dsimp only
  rw [show (st ++ [Cell.lst xs])[st.length]? = some (.lst xs) by simp]
def rrBody : List S := [
      .set 6 (.ife (.or [(.cmp .lt (.var 4) (.bi .len [(.var 0)])), (.cmp .lt (.var 5) (.bi .len [(.var 1)]))]) (.lst []) (.lst [(.cst (.int (0)))])),
      .ifs (.cmp .lt (.var 4) (.bi .len [(.var 0)])) [
        .ex (.me .append (.var 6) [(.bin .add (.ix (.ix (.var 2) (.bin .add (.var 4) (.cst (.int (1))))) (.var 5)) (.cst (.int (1))))])] [],
      .ifs (.cmp .lt (.var 5) (.bi .len [(.var 1)])) [
        .ex (.me .append (.var 6) [(.bin .add (.ix (.ix (.var 2) (.var 4)) (.bin .add (.var 5) (.cst (.int (1))))) (.cst (.int (1))))])] [],
      .ifs (.and [(.cmp .lt (.var 4) (.bi .len [(.var 0)])), (.cmp .lt (.var 5) (.bi .len [(.var 1)]))]) [
        .ex (.me .append (.var 6) [(.bin .add (.ix (.ix (.var 2) (.bin .add (.var 4) (.cst (.int (1))))) (.bin .add (.var 5) (.cst (.int (1))))) (.bi .int [(.cmp .ne (.ix (.var 0) (.var 4)) (.ix (.var 1) (.var 5)))]))])] [],
      .setX (.ix (.var 2) (.var 4)) (.var 5) (.bi .min [(.var 6)])]
/-- the least of what is left, as the table has it -/
def newV (one two : List Nat) (V : Nat → Nat → Int) (i j : Nat) : Int :=
  match one[i]?, two[j]? with
  | none, none => 0
  | some _, none => V (i + 1) j + 1
  | none, some _ => V i (j + 1) + 1
  | some x, some y => minI (V (i + 1) j + 1) [V i (j + 1) + 1, V (i + 1) (j + 1) + (if x = y then 0 else 1)]
theorem rr_body {C : Ctx} {st : Store} {one two : List Nat} {r : Nat} {lab : Nat → Nat} {V : Nat → Nat → Int} {i j : Nat} {z x : Option D} (h : Tab st r lab V one.length two.length) (hi : i ≤ one.length) (hj : j ≤ two.length) :
    ∃ st' f, evSs C rrBody [some (.str one), some (.str two), some (.ref r), z, some (.int i), some (.int j), x] st = .nx [some (.str one), some (.str two), some (.ref r), z, some (.int i), some (.int j), f] st' ∧
      Tab st' r lab (fun a b => if a = i ∧ b = j then newV one two V i j else V a b) one.length two.length ∧ st.length ≤ st'.length ∧ ∀ l, l < st.length → l ≠ lab i → st'[l]? = st[l]? := by
  have l1 : ∀ s, lenD [.str one] s = some (.int one.length, s) := fun _ => rfl
  have l2 : ∀ s, lenD [.str two] s = some (.int two.length, s) := fun _ => rfl
  have hT : ∀ xs : List D, Tab (st ++ [.lst xs]) r lab V one.length two.length := fun xs => h.app _
  have fin : ∀ (xs : List D), ∃ st', setXD C.kt (.ref (lab i)) (.int (j : Int)) (.int (newV one two V i j)) (st ++ [.lst xs]) = some st' ∧ Tab st' r lab (fun a b => if a = i ∧ b = j then newV one two V i j else V a b) one.length two.length ∧ st.length ≤ st'.length ∧ ∀ l, l < st.length → l ≠ lab i → st'[l]? = st[l]? := by
    intro xs
    obtain ⟨st', e, t, e2⟩ := (hT xs).put hi hj C.kt (newV one two V i j)
    refine ⟨st', e, t, by rw [e2]; simp, fun l hl hne => ?_⟩
    rw [e2, List.getElem?_set_ne (Ne.symm hne), List.getElem?_append_left hl]
  have r0 := fun xs => (hT xs).ixr hi
  by_cases h1 : i < one.length
  · have r1 := fun xs => (hT xs).ixr (i := i + 1) h1
    have c1 : ((i + 1 : Nat) : Int) = (i : Int) + 1 := by omega
    rw [c1] at r1
    have v1 := fun xs => (hT xs).ixv (i := i + 1) (j := j) h1 hj
    by_cases h2 : j < two.length
    · have v2 := fun xs => (hT xs).ixv (i := i) (j := j + 1) hi h2
      have v3 := fun xs => (hT xs).ixv (i := i + 1) (j := j + 1) h1 h2
      have c2 : ((j + 1 : Nat) : Int) = (j : Int) + 1 := by omega
      rw [c2] at v2 v3
      have e1 := fun s => ix_str (st := s) (List.getElem?_eq_getElem h1)
      have e2 := fun s => ix_str (st := s) (List.getElem?_eq_getElem h2)
      by_cases e : one[i] = two[j]
      · obtain ⟨st', q1, q2, q3, q4⟩ := fin [.int (V (i + 1) j + 1), .int (V i (j + 1) + 1), .int (V (i + 1) (j + 1))]
        refine ⟨st', some (.ref st.length), ?_, q2, q3, q4⟩
        have hmin : minD [.ref st.length] (st ++ [.lst [.int (V (i + 1) j + 1), .int (V i (j + 1) + 1), .int (V (i + 1) (j + 1))]]) = some (.int (newV one two V i j), st ++ [.lst [.int (V (i + 1) j + 1), .int (V i (j + 1) + 1), .int (V (i + 1) (j + 1))]]) := by
          simp [minD, ints?, newV, h1, h2, e]
        simp [rrBody, evSs, evS, evT, evE, evEs, evOr, evAnd, l1, l2, ltD, truD, h1, h2, okS, newL, isL_last, r1, r0, v1, v2, v3, addD, app_last, e1, e2, eq_str, intD, e, hmin, q1]
      · obtain ⟨st', q1, q2, q3, q4⟩ := fin [.int (V (i + 1) j + 1), .int (V i (j + 1) + 1), .int (V (i + 1) (j + 1) + 1)]
        refine ⟨st', some (.ref st.length), ?_, q2, q3, q4⟩
        have hmin : minD [.ref st.length] (st ++ [.lst [.int (V (i + 1) j + 1), .int (V i (j + 1) + 1), .int (V (i + 1) (j + 1) + 1)]]) = some (.int (newV one two V i j), st ++ [.lst [.int (V (i + 1) j + 1), .int (V i (j + 1) + 1), .int (V (i + 1) (j + 1) + 1)]]) := by
          simp [minD, ints?, newV, h1, h2, e]
        simp [rrBody, evSs, evS, evT, evE, evEs, evOr, evAnd, l1, l2, ltD, truD, h1, h2, okS, newL, isL_last, r1, r0, v1, v2, v3, addD, app_last, e1, e2, eq_str, intD, e, hmin, q1]
    · obtain ⟨st', q1, q2, q3, q4⟩ := fin [.int (V (i + 1) j + 1)]
      refine ⟨st', some (.ref st.length), ?_, q2, q3, q4⟩
      have hn : two[j]? = none := List.getElem?_eq_none (by omega)
      have hmin : minD [.ref st.length] (st ++ [.lst [.int (V (i + 1) j + 1)]]) = some (.int (newV one two V i j), st ++ [.lst [.int (V (i + 1) j + 1)]]) := by
        simp [minD, ints?, newV, h1, hn, minI]
      simp [rrBody, evSs, evS, evT, evE, evEs, evOr, evAnd, l1, l2, ltD, truD, h1, h2, okS, newL, isL_last, r1, r0, v1, addD, app_last, hmin, q1]
  · have hn1 : one[i]? = none := List.getElem?_eq_none (by omega)
    by_cases h2 : j < two.length
    · have v2 := fun xs => (hT xs).ixv (i := i) (j := j + 1) hi h2
      have c2 : ((j + 1 : Nat) : Int) = (j : Int) + 1 := by omega
      rw [c2] at v2
      obtain ⟨st', q1, q2, q3, q4⟩ := fin [.int (V i (j + 1) + 1)]
      refine ⟨st', some (.ref st.length), ?_, q2, q3, q4⟩
      have hmin : minD [.ref st.length] (st ++ [.lst [.int (V i (j + 1) + 1)]]) = some (.int (newV one two V i j), st ++ [.lst [.int (V i (j + 1) + 1)]]) := by
        simp [minD, ints?, newV, h2, hn1, minI]
      simp [rrBody, evSs, evS, evT, evE, evEs, evOr, evAnd, l1, l2, ltD, truD, h1, h2, okS, newL, isL_last, r0, v2, addD, app_last, hmin, q1]
    · obtain ⟨st', q1, q2, q3, q4⟩ := fin [.int 0]
      refine ⟨st', some (.ref st.length), ?_, q2, q3, q4⟩
      have hn : two[j]? = none := List.getElem?_eq_none (by omega)
      have hmin : minD [.ref st.length] (st ++ [.lst [.int 0]]) = some (.int (newV one two V i j), st ++ [.lst [.int 0]]) := by
        simp [minD, ints?, newV, hn1, hn, minI]
      simp [rrBody, evSs, evS, evT, evE, evEs, evOr, evAnd, l1, l2, ltD, truD, h1, h2, okS, newL, r0, hmin, q1]
end K58

set_option linter.all false
set_option maxRecDepth 100000
set_option maxHeartbeats 1000000
namespace K58
open DL
def Ex (st st' : Store) : Prop := st.length ≤ st'.length ∧ ∀ l, l < st.length → st'[l]? = st[l]?
theorem Ex.refl (st : Store) : Ex st st := ⟨Nat.le_refl _, fun _ _ => rfl⟩
theorem Ex.trans {a b c : Store} (h : Ex a b) (g : Ex b c) : Ex a c := ⟨Nat.le_trans h.1 g.1, fun l hl => (g.2 l (Nat.lt_of_lt_of_le hl h.1)).trans (h.2 l hl)⟩
theorem Ex.app {st : Store} {cs : List Cell} : Ex st (st ++ cs) := ⟨by simp, fun l h => List.getElem?_append_left h⟩
theorem Ex.set {a b : Store} {l : Nat} {c : Cell} (h : Ex a b) (hl : a.length ≤ l) : Ex a (b.set l c) := ⟨by simpa using h.1, fun j hj => by rw [List.getElem?_set_ne (by omega)]; exact h.2 j hj⟩
theorem Ex.kp {a b : Store} (h : Ex a b) : Kp a b := ⟨h.1, fun j _ hj => h.2 j hj⟩
theorem Ex.dr {a b : Store} {ns : List Int} (h : Ex a b) (d : Dr ns a) : Dr ns b := by
  have := d.two
  obtain ⟨x, y, z, e, q⟩ := d.at1
  exact ⟨by rw [h.2 0 (by omega)]; exact d.at0, ⟨x, y, z, by rw [h.2 1 (by omega)]; exact e, q⟩, d.le⟩
def Rv (one two : List Nat) (i j : Nat) : Int := (Rd (one.drop i) (two.drop j) : Nat)
theorem minI3 (a b c : Int) : minI a [b, c] = min (min a b) c := by
  unfold minI minI minI
  split <;> split <;> omega
theorem newV_rd {one two : List Nat} {V : Nat → Nat → Int} {i j : Nat} (h1 : i < one.length → V (i + 1) j = Rv one two (i + 1) j) (h2 : j < two.length → V i (j + 1) = Rv one two i (j + 1)) (h3 : i < one.length → j < two.length → V (i + 1) (j + 1) = Rv one two (i + 1) (j + 1)) : newV one two V i j = Rv one two i j := by
  unfold newV
  by_cases a : i < one.length
  · have ea := List.getElem?_eq_getElem a
    have da := List.drop_eq_getElem_cons a
    by_cases b : j < two.length
    · have eb := List.getElem?_eq_getElem b
      have db := List.drop_eq_getElem_cons b
      rw [ea, eb]
      dsimp only
      rw [h1 a, h2 b, h3 a b, minI3]
      unfold Rv
      rw [da, db, Rd]
      unfold dg
      split <;> omega
    · have eb : two[j]? = none := List.getElem?_eq_none (by omega)
      rw [ea, eb]
      dsimp only
      rw [h1 a]
      unfold Rv
      rw [da, List.drop_of_length_le (Nat.le_of_not_lt b), Rd]
      omega
  · have ea : one[i]? = none := List.getElem?_eq_none (by omega)
    by_cases b : j < two.length
    · have eb := List.getElem?_eq_getElem b
      have db := List.drop_eq_getElem_cons b
      rw [ea, eb]
      dsimp only
      rw [h2 b]
      unfold Rv
      rw [db, List.drop_of_length_le (Nat.le_of_not_lt a), Rd]
      omega
    · have eb : two[j]? = none := List.getElem?_eq_none (by omega)
      rw [ea, eb]
      unfold Rv
      rw [List.drop_of_length_le (Nat.le_of_not_lt a), List.drop_of_length_le (Nat.le_of_not_lt b), Rd]
      rfl
theorem rangeD_get {lo : Int} {n i : Nat} {x : D} (h : (rangeD lo n)[i]? = some x) : i < n ∧ x = .int (lo - i) := by
  unfold rangeD at h
  rw [List.getElem?_map] at h
  by_cases hi : i < n
  · rw [List.getElem?_range hi] at h
    cases h
    exact ⟨hi, rfl⟩
  · rw [List.getElem?_eq_none (by simpa using Nat.le_of_not_lt hi)] at h
    cases h
theorem rows_init {C : Ctx} {st : Store} {one two : List Nat} (h1 : one.length ≤ 100) (h2 : two.length ≤ 100) :
    ∃ st' lab, evE C [some (.str one), some (.str two), none, none, none, none, none] (.lc (.bin .mul (.lst [(.cst (.int (0)))]) (.bin .add (.bi .len [(.var 1)]) (.cst (.int (1))))) (.var 3) (.rng [(.bin .add (.bi .len [(.var 0)]) (.cst (.int (1))))]) [] [("_", 3)]) st = .ok (.ref (st'.length - 1)) st' ∧
      Tab st' (st'.length - 1) lab (fun _ _ => 0) one.length two.length ∧ Ex st st' ∧ st.length ≤ st'.length - 1 ∧ ∀ i, st.length ≤ lab i := by
  have l1 : ∀ s, lenD [.str one] s = some (.int one.length, s) := fun _ => rfl
  have l2 : ∀ s, lenD [.str two] s = some (.int two.length, s) := fun _ => rfl
  have hsrc : evI C [some (.str one), some (.str two), none, none, none, none, none] (.rng [(.bin .add (.bi .len [(.var 0)]) (.cst (.int (1))))]) st = .ok (rangeL 0 (one.length + 1), none) st := by
    have a1 : evEs C [some (.str one), some (.str two), none, none, none, none, none] [(.bin .add (.bi .len [(.var 0)]) (.cst (.int (1))))] st = .ok [.int ((one.length + 1 : Nat) : Int)] st := by
      simp [evEs, evE, l1, addD]
    rw [evI_rng, a1, bind_ok, rng1 (by simp [small62]; omega)]
    rfl
  have hlen : (rangeL 0 (one.length + 1)).length = one.length + 1 := by simp [rangeL]
  let zs : List D := (List.range (two.length + 1)).map fun _ => D.int 0
  have hrep : ∀ k, rep [D.int 0] k = (List.range k).map fun _ => D.int 0 := by
    intro k
    induction k with
    | zero => rfl
    | succ k ih => rw [rep, ih, List.range_succ_eq_map, List.map_cons, List.map_map]; rfl
  obtain ⟨ys, st2, e2, rfl, hl, hc, hx⟩ := lcL_inv (step := lcS C [some (.str one), some (.str two), none, none, none, none, none] (.bin .mul (.lst [(.cst (.int (0)))]) (.bin .add (.bi .len [(.var 1)]) (.cst (.int (1))))) (.var 3) [] [("_", 3)]) (g := none) (items := rangeL 0 (one.length + 1))
    (fun i ys s => ys = (List.range i).map (fun k => D.ref (st.length + 2 * k + 1)) ∧ s.length = st.length + 2 * i ∧ (∀ k, k < i → s[st.length + 2 * k + 1]? = some (.lst zs)) ∧ Ex st s) (fun _ _ _ _ => trivial) (fun i x ys s hx ⟨e, hl, hc, hE⟩ => by
      have hm : mulD (.ref s.length) (.int ((two.length : Int) + 1)) (s ++ [.lst [.int 0]]) = some (.ref (s.length + 1), s ++ [.lst [.int 0]] ++ [.lst zs]) := by
        unfold mulD
        dsimp only
        rw [show (s ++ [Cell.lst [D.int 0]])[s.length]? = some (.lst [.int 0]) by simp]
        dsimp only
        rw [if_pos ⟨by simp, by omega, by omega⟩, show ((two.length : Int) + 1).toNat = two.length + 1 by omega, hrep]
        simp [newL]
        rfl
      refine ⟨.ref (s.length + 1), s ++ [.lst [.int 0]] ++ [.lst zs], ?_, ?_, by simp; omega, fun k hk => ?_, hE.trans (Ex.app.trans Ex.app)⟩
      · simp [lcS, putT, wipeE, evIfs, evE, evEs, okS, newL, l2, addD, hm]
      · rw [List.range_succ, List.map_append, e, hl]
        rfl
      · by_cases hk' : k < i
        · rw [List.append_assoc, List.getElem?_append_left (by omega)]; exact hc k hk'
        · obtain rfl : k = i := by omega
          rw [List.getElem?_append_right (by simp; omega)]
          simp [hl]) (st := st) ⟨rfl, by simp, fun k hk => by omega, Ex.refl st⟩
  rw [hlen] at hl hc e2
  have elc := lc_ev (C := C) (ρ := [some (.str one), some (.str two), none, none, none, none, none]) (st := st) hsrc (by rw [hlen]; omega) e2
  refine ⟨st2 ++ [.lst ((List.range (one.length + 1)).map fun k => D.ref (st.length + 2 * k + 1))], fun i => st.length + 2 * i + 1, ?_, ⟨?_, fun i hi => ?_, fun i j _ _ e => by (have e : st.length + 2 * i + 1 = st.length + 2 * j + 1 := e); omega, fun i hi => ?_⟩, hx.trans Ex.app, ?_, fun i => by show st.length ≤ st.length + 2 * i + 1; omega⟩
  · rw [elc]; simp
  · simp
  · rw [List.getElem?_append_left (by omega)]; exact hc i (by omega)
  · simp; omega
  · simp; omega
end K58

set_option linter.all false
set_option maxRecDepth 100000
set_option maxHeartbeats 1000000
namespace K58
open DL
abbrev rrEnv (one two : List Nat) (r : Nat) (z a b c : Option D) : Env := [some (.str one), some (.str two), some (.ref r), z, a, b, c]
/-- the table from row i on, in row i from j on, is right -/
structure RR (st0 st : Store) (r : Nat) (lab : Nat → Nat) (one two : List Nat) (V : Nat → Nat → Int) : Prop where
  t : Tab st r lab V one.length two.length
  ex : Ex st0 st
theorem rest_rows {k : Nat} {st : Store} {one two : List Nat} (h1 : one.length ≤ 100) (h2 : two.length ≤ 100) :
    ∃ r lab st', cl (k + 1) 2 [.str one, .str two] st = .ok (.ref r) st' ∧ Tab st' r lab (Rv one two) one.length two.length ∧ Ex st st' := by
  obtain ⟨st1, lab, q1, t1, x1, hr, hlab⟩ := rows_init (C := ⟨xcs, kts, callF xcs kts fns k⟩) (st := st) h1 h2
  generalize hr0 : st1.length - 1 = r at q1 t1 hr
  have l1 : ∀ s, lenD [.str one] s = some (.int one.length, s) := fun _ => rfl
  have l2 : ∀ s, lenD [.str two] s = some (.int two.length, s) := fun _ => rfl
  let C : Ctx := ⟨xcs, kts, callF xcs kts fns k⟩
  -- the inner loop
  have inner : ∀ (i : Nat) (z c : Option D) (b : Option D) (s : Store) (V : Nat → Nat → Int), i ≤ one.length → Tab s r lab V one.length two.length → Ex st s → (∀ a b, i < a → a ≤ one.length → b ≤ two.length → V a b = Rv one two a b) →
      ∃ ρ' s' V', forL (fun x ρ st => match putT (.var 5) x ρ with | some ρ => evSs C rrBody ρ st | none => .bad) none (rangeD two.length (two.length + 1)) (rrEnv one two r z (some (.int i)) b c) s = .nx ρ' s' ∧ (∃ b' c', ρ' = rrEnv one two r z (some (.int i)) b' c') ∧ Tab s' r lab V' one.length two.length ∧ Ex st s' ∧ (∀ a b, i ≤ a → a ≤ one.length → b ≤ two.length → V' a b = Rv one two a b) := by
    intro i z c b s V hi t ex hV
    obtain ⟨ρ', s', e, ⟨b', c', rfl⟩, V', t', ex', hV'⟩ := forL_nx (body := fun x ρ st => match putT (.var 5) x ρ with | some ρ => evSs C rrBody ρ st | none => .bad) (g := none) (items := rangeD two.length (two.length + 1))
      (fun k ρ s => (∃ b c, ρ = rrEnv one two r z (some (.int i)) b c) ∧ ∃ V, Tab s r lab V one.length two.length ∧ Ex st s ∧ (∀ a b, i < a → a ≤ one.length → b ≤ two.length → V a b = Rv one two a b) ∧ ∀ b, b ≤ two.length → two.length < b + k → V i b = Rv one two i b)
      (fun _ _ _ _ => trivial) (fun k x ρ s hx ⟨⟨b, c, e⟩, V, t, ex, hA, hB⟩ => by
        obtain ⟨hk, rfl⟩ := rangeD_get hx
        obtain ⟨j, hj⟩ : ∃ j : Nat, j + k = two.length := ⟨two.length - k, by omega⟩
        have ej : ((two.length : Int) - (k : Int)) = (j : Int) := by omega
        obtain ⟨s', f, q, t', hl, hf⟩ := rr_body (C := C) (z := z) (x := c) (i := i) (j := j) t hi (by omega)
        refine ⟨_, s', ?_, ⟨some (.int j), f, rfl⟩, _, t', ⟨Nat.le_trans ex.1 hl, fun l h => by rw [hf l (Nat.lt_of_lt_of_le h ex.1) (by have := hlab i; omega)]; exact ex.2 l h⟩, fun a b h1 h2 h3 => ?_, fun b h1 h2 => ?_⟩
        · rw [e, ej]
          show (match putT (.var 5) (.int (j : Int)) (rrEnv one two r z (some (.int i)) b c) with | some ρ => evSs C rrBody ρ s | none => .bad) = _
          rw [putT]
          exact q
        · rw [if_neg (by omega)]; exact hA a b h1 h2 h3
        · by_cases hb : b = j
          · subst hb
            rw [if_pos ⟨rfl, rfl⟩]
            exact newV_rd (fun h => hA _ _ (by omega) h (by omega)) (fun h => hB _ h (by omega)) (fun h h' => hA _ _ (by omega) h h')
          · rw [if_neg (by omega)]; exact hB b h1 (by omega)) (ρ := rrEnv one two r z (some (.int i)) b c) (st := s) ⟨⟨b, c, rfl⟩, V, t, ex, hV, fun b h1 h2 => by omega⟩
    have hn : (rangeD two.length (two.length + 1)).length = two.length + 1 := by simp [rangeD]
    rw [hn] at hV'
    refine ⟨_, s', V', e, ⟨b', c', rfl⟩, t', ex', fun a b ha h3 h4 => ?_⟩
    by_cases h : a = i
    · rw [h]; exact hV'.2 b h4 (by omega)
    · exact hV'.1 a b (by omega) h3 h4
  -- the outer loop
  obtain ⟨ρ', s', e, ⟨a', b', c', rfl⟩, V', t', ex', hV'⟩ := forL_nx (body := fun x ρ st => match putT (.var 4) x ρ with | some ρ => evSs C [.for (.var 5) (.rng [(.bi .len [(.var 1)]), (.neg (.cst (.int (1)))), (.neg (.cst (.int (1))))]) rrBody] ρ st | none => .bad) (g := none) (items := rangeD one.length (one.length + 1))
      (fun k ρ s => (∃ a b c, ρ = rrEnv one two r none a b c) ∧ ∃ V, Tab s r lab V one.length two.length ∧ Ex st s ∧ ∀ a b, a ≤ one.length → one.length < a + k → b ≤ two.length → V a b = Rv one two a b)
      (fun _ _ _ _ => trivial) (fun k x ρ s hx ⟨⟨a, b, c, e⟩, V, t, ex, hA⟩ => by
        obtain ⟨hk, rfl⟩ := rangeD_get hx
        obtain ⟨i, hi⟩ : ∃ i : Nat, i + k = one.length := ⟨one.length - k, by omega⟩
        have ei : ((one.length : Int) - (k : Int)) = (i : Int) := by omega
        obtain ⟨ρ2, s', V', q, ⟨b', c', rfl⟩, t', ex', hV'⟩ := inner i none c b s V (by omega) t ex (fun a b h1 h2 h3 => hA a b h2 (by omega) h3)
        refine ⟨_, s', ?_, ⟨some (.int i), b', c', rfl⟩, V', t', ex', fun a b h1 h2 h3 => hV' a b (by omega) h1 h3⟩
        rw [e, ei]
        show (match putT (.var 4) (.int (i : Int)) (rrEnv one two r none a b c) with | some ρ => evSs C [.for (.var 5) (.rng [(.bi .len [(.var 1)]), (.neg (.cst (.int (1)))), (.neg (.cst (.int (1))))]) rrBody] ρ s | none => .bad) = _
        rw [putT]
        have a1 : evEs C (rrEnv one two r none (some (.int i)) b c) [(.bi .len [(.var 1)]), (.neg (.cst (.int (1)))), (.neg (.cst (.int (1))))] s = .ok [.int (two.length : Int), .int (-1), .int (-1)] s := by simp [evEs, evE, l2]
        have hsrc : evI C (rrEnv one two r none (some (.int i)) b c) (.rng [(.bi .len [(.var 1)]), (.neg (.cst (.int (1)))), (.neg (.cst (.int (1))))]) s = .ok (rangeD two.length (two.length + 1), none) s := by
          rw [evI_rng, a1, bind_ok, rngD3 (by omega)]
          rfl
        show evSs C _ (rrEnv one two r none (some (.int i)) b c) s = _
        rw [evSs_nx (ρ' := rrEnv one two r none (some (.int i)) b' c') (st' := s'), evSs_nil]
        rw [evS, hsrc, of_ok]
        exact q) (ρ := rrEnv one two r none none none none) (st := st1) ⟨⟨none, none, none, rfl⟩, _, t1, x1, fun a b h1 h2 h3 => by omega⟩
  have hn : (rangeD one.length (one.length + 1)).length = one.length + 1 := by simp [rangeD]
  rw [hn] at hV'
  have hr' : st.length ≤ r := hr
  refine ⟨r, lab, s', ?_, ⟨t'.top, fun i hi => ?_, t'.inj, t'.ne⟩, ex'⟩
  · rw [cl, call_ret (fn := f_rest_rows) (d := .ref r) (st' := s') rfl rfl, settle_ref hr']
    have a1 : evEs C (rrEnv one two r none none none none) [(.bi .len [(.var 0)]), (.neg (.cst (.int (1)))), (.neg (.cst (.int (1))))] st1 = .ok [.int (one.length : Int), .int (-1), .int (-1)] st1 := by simp [evEs, evE, l1]
    have hsrc : evI C (rrEnv one two r none none none none) (.rng [(.bi .len [(.var 0)]), (.neg (.cst (.int (1)))), (.neg (.cst (.int (1))))]) st1 = .ok (rangeD one.length (one.length + 1), none) st1 := by
      rw [evI_rng, a1, bind_ok, rngD3 (by omega)]
      rfl
    show evSs C _ [some (.str one), some (.str two), none, none, none, none, none] st = _
    rw [f_rest_rows]
    rw [evSs_nx (ρ' := rrEnv one two r none none none none) (st' := st1) (by rw [evS, q1]; rfl)]
    rw [evSs_nx (ρ' := rrEnv one two r none a' b' c') (st' := s') (by rw [evS, hsrc, of_ok]; exact e)]
    exact evSs_ret (by rw [evS, evE]; rfl)
  · rw [t'.row i hi]
    congr 2
    apply List.map_congr_left
    intro j hj
    rw [hV' i j hi (by omega) (by simp at hj; omega)]
end K58

set_option linter.all false
set_option maxRecDepth 100000
set_option maxHeartbeats 1000000
namespace K58
open DL
def Cond (one two : List Nat) (i j : Nat) (s : Stp) : Prop := ∃ c : Nat, stepC one two i j s = some c ∧ Rv one two (i + mo s) (j + ot s) + c = Rv one two i j
theorem drop_some {w : List Nat} {i x : Nat} (h : w[i]? = some x) : w.drop i = x :: w.drop (i + 1) := by
  obtain ⟨hl, e⟩ := List.getElem?_eq_some_iff.mp h
  rw [List.drop_eq_getElem_cons hl, e]
theorem drop_none {w : List Nat} {i : Nat} (h : w[i]? = none) : w.drop i = [] := List.drop_of_length_le (List.getElem?_eq_none_iff.mp h)
theorem cond_keep {one two : List Nat} {i j x y : Nat} (hx : one[i]? = some x) (hy : two[j]? = some y) : (Cond one two i j .keep ∨ Cond one two i j .change) ↔ Rd (one.drop (i + 1)) (two.drop (j + 1)) + dg x y = Rd (one.drop i) (two.drop j) := by
  unfold Cond stepC Rv dg mo ot
  rw [hx, hy]
  by_cases e : x = y
  · simp [e]; omega
  · simp [e]; omega
theorem cond_leave {one two : List Nat} {i j : Nat} : Cond one two i j .leave ↔ i < one.length ∧ Rd (one.drop (i + 1)) (two.drop j) + 1 = Rd (one.drop i) (two.drop j) := by
  unfold Cond stepC Rv mo ot
  by_cases h : i < one.length
  · simp [h]; omega
  · simp [h]
theorem cond_put {one two : List Nat} {i j : Nat} : Cond one two i j .put ↔ j < two.length ∧ Rd (one.drop i) (two.drop (j + 1)) + 1 = Rd (one.drop i) (two.drop j) := by
  unfold Cond stepC Rv mo ot
  by_cases h : j < two.length
  · simp [h]; omega
  · simp [h]
theorem cond_diag {one two : List Nat} {i j : Nat} {s : Stp} (hs : s = .keep ∨ s = .change) (h : Cond one two i j s) : ∃ x y, one[i]? = some x ∧ two[j]? = some y ∧ s = ks x y := by
  obtain ⟨c, h, _⟩ := h
  cases hx : one[i]? with
  | none => rcases hs with rfl | rfl <;> simp [stepC, hx] at h
  | some x =>
    cases hy : two[j]? with
    | none => rcases hs with rfl | rfl <;> simp [stepC, hx, hy] at h
    | some y =>
      refine ⟨x, y, rfl, rfl, ?_⟩
      unfold ks
      rcases hs with rfl | rfl <;> by_cases e : x = y <;> simp [stepC, hx, hy, e] at h ⊢
theorem sc_step {one two : List Nat} {i j : Nat} {s : Stp} (h : Cond one two i j s) (hd : s = .leave ∨ s = .put → ¬ Cond one two i j .keep ∧ ¬ Cond one two i j .change) (hl : s = .put → ¬ Cond one two i j .leave) :
    Sc (one.drop i) (two.drop j) = s :: Sc (one.drop (i + mo s)) (two.drop (j + ot s)) := by
  by_cases hs : s = .keep ∨ s = .change
  · obtain ⟨x, y, hx, hy, e⟩ := cond_diag hs h
    have := (cond_keep hx hy).mp (by rcases hs with rfl | rfl; exact .inl h; exact .inr h)
    rw [drop_some hx, drop_some hy] at this ⊢
    rw [Sc, if_pos this, ← e]
    rcases hs with rfl | rfl <;> rfl
  · cases s with
    | keep => exact absurd (.inl rfl) hs
    | change => exact absurd (.inr rfl) hs
    | leave =>
      obtain ⟨hi, e⟩ := cond_leave.mp h
      have hx := List.getElem?_eq_getElem hi
      cases hy : two[j]? with
      | none =>
        rw [show j + ot .leave = j from rfl, show i + mo .leave = i + 1 from rfl, drop_some hx, drop_none hy, Sc]
      | some y =>
        have nd : ¬ _ := fun z => by
          rcases (cond_keep hx hy).mpr z with z | z
          · exact (hd (.inl rfl)).1 z
          · exact (hd (.inl rfl)).2 z
        rw [show j + ot .leave = j from rfl, show i + mo .leave = i + 1 from rfl]
        rw [drop_some hx, drop_some hy] at nd e ⊢
        rw [Sc, if_neg nd, if_pos e]
    | put =>
      obtain ⟨hj, e⟩ := cond_put.mp h
      have hy := List.getElem?_eq_getElem hj
      cases hx : one[i]? with
      | none =>
        rw [show j + ot .put = j + 1 from rfl, show i + mo .put = i from rfl, drop_some hy, drop_none hx, Sc]
      | some x =>
        have nd : ¬ _ := fun z => by
          rcases (cond_keep hx hy).mpr z with z | z
          · exact (hd (.inr rfl)).1 z
          · exact (hd (.inr rfl)).2 z
        have nl : ¬ (Rd (one.drop (i + 1)) (two.drop j) + 1 = Rd (one.drop i) (two.drop j)) := fun z => hl rfl (cond_leave.mpr ⟨(List.getElem?_eq_some_iff.mp hx).1, z⟩)
        rw [show j + ot .put = j + 1 from rfl, show i + mo .put = i from rfl]
        rw [drop_some hx, drop_some hy] at nd nl e ⊢
        rw [Sc, if_neg nd, if_neg nl]
theorem cond_some {one two : List Nat} {i j : Nat} (h : i < one.length ∨ j < two.length) : ∃ s, Cond one two i j s := by
  cases hx : one[i]? with
  | none =>
    cases hy : two[j]? with
    | none =>
      have := List.getElem?_eq_none_iff.mp hx
      have := List.getElem?_eq_none_iff.mp hy
      omega
    | some y =>
      refine ⟨.put, cond_put.mpr ⟨(List.getElem?_eq_some_iff.mp hy).1, ?_⟩⟩
      rw [drop_some hy, drop_none hx]
      exact (Rd.eq_3 _ _).symm
  | some x =>
    cases hy : two[j]? with
    | none =>
      refine ⟨.leave, cond_leave.mpr ⟨(List.getElem?_eq_some_iff.mp hx).1, ?_⟩⟩
      rw [drop_some hx, drop_none hy]
      exact (Rd.eq_2 _ _).symm
    | some y =>
      rcases rd_cons x y (one.drop (i + 1)) (two.drop (j + 1)) with e | e | e
      · rw [← drop_some hx, ← drop_some hy] at e
        rcases (cond_keep hx hy).mpr e with z | z
        · exact ⟨_, z⟩
        · exact ⟨_, z⟩
      · rw [← drop_some hx, ← drop_some hy] at e
        exact ⟨.leave, cond_leave.mpr ⟨(List.getElem?_eq_some_iff.mp hx).1, e⟩⟩
      · rw [← drop_some hx, ← drop_some hy] at e
        exact ⟨.put, cond_put.mpr ⟨(List.getElem?_eq_some_iff.mp hy).1, e⟩⟩
end K58

set_option linter.all false
set_option maxRecDepth 100000
set_option maxHeartbeats 1000000
namespace K58
open DL
def sBody : List S := [
      .setT (.tup [.var 7, .var 8]) (.call 4 [(.var 6)]),
      .set 9 (.call 5 [(.var 0), (.var 1), (.var 3), (.var 4), (.var 6)]),
      .ifs (.and [(.cmp .isnot (.var 9) (.cst (.non))), (.cmp .eq (.bin .add (.ix (.ix (.var 2) (.bin .add (.var 3) (.var 7))) (.bin .add (.var 4) (.var 8))) (.var 9)) (.ix (.ix (.var 2) (.var 3)) (.var 4)))]) [
        .ex (.me .append (.var 5) [(.var 6)]),
        .setT (.tup [.var 3, .var 4]) (.tup [(.bin .add (.var 3) (.var 7)), (.bin .add (.var 4) (.var 8))]),
        .brk] []]
abbrev soEnv (one two : List Nat) (r i j f : Nat) (a b c d : Option D) : Env := [some (.str one), some (.str two), some (.ref r), some (.int (i : Int)), some (.int (j : Int)), some (.ref f), a, b, c, d]
theorem step_bound {one two : List Nat} {i j c : Nat} {t : Stp} (h : stepC one two i j t = some c) (hi : i ≤ one.length) (hj : j ≤ two.length) : i + mo t ≤ one.length ∧ j + ot t ≤ two.length := by
  cases t with
  | keep =>
    cases hx : one[i]? with
    | none => simp [stepC, hx] at h
    | some x => cases hy : two[j]? with
      | none => simp [stepC, hx, hy] at h
      | some y => have := (List.getElem?_eq_some_iff.mp hx).1; have := (List.getElem?_eq_some_iff.mp hy).1; simp only [mo, ot]; omega
  | change =>
    cases hx : one[i]? with
    | none => simp [stepC, hx] at h
    | some x => cases hy : two[j]? with
      | none => simp [stepC, hx, hy] at h
      | some y => have := (List.getElem?_eq_some_iff.mp hx).1; have := (List.getElem?_eq_some_iff.mp hy).1; simp only [mo, ot]; omega
  | leave => simp only [stepC] at h; split at h <;> first | cases h; done | skip; simp only [mo, ot]; omega
  | put => simp only [stepC] at h; split at h <;> first | cases h; done | skip; simp only [mo, ot]; omega
theorem s_body {k : Nat} {s : Store} {one two : List Nat} {r f i j : Nat} {lab : Nat → Nat} {xs : List D} {a b c : Option D} (t : Stp) (h : Tab s r lab (Rv one two) one.length two.length) (hi : i ≤ one.length) (hj : j ≤ two.length) (hf : s[f]? = some (.lst xs)) (hx : xs.length ≤ 1000000) :
    (Cond one two i j t → ∃ a' b' c' d', evSs ⟨xcs, kts, callF xcs kts fns (k + 2)⟩ sBody (soEnv one two r i j f (some (.str t.str)) a b c) s = .brk (soEnv one two r (i + mo t) (j + ot t) f a' b' c' d') (s.set f (.lst (xs ++ [.str t.str])))) ∧
    (¬ Cond one two i j t → ∃ a' b' c' d', evSs ⟨xcs, kts, callF xcs kts fns (k + 2)⟩ sBody (soEnv one two r i j f (some (.str t.str)) a b c) s = .nx (soEnv one two r i j f a' b' c' d') s) := by
  have hm : callF xcs kts fns (k + 2) 4 [.str t.str] s = .ok (.tup [.int (mo t), .int (ot t)]) s := moved t
  have hc : callF xcs kts fns (k + 2) 5 [.str one, .str two, .int i, .int j, .str t.str] s = .ok (optD (stepC one two i j t)) s := step_cost t hi hj
  have hL : isL (.ref f) s = true := by unfold isL; dsimp only; rw [hf]
  have hA : appendD (.ref f) [.str t.str] s = some (.non, s.set f (.lst (xs ++ [.str t.str]))) := by
    unfold appendD
    dsimp only
    rw [hf]
    dsimp only
    rw [if_pos (show okS xs.length = true from decide_eq_true hx)]
  cases e : stepC one two i j t with
  | none =>
    rw [e] at hc
    refine ⟨fun ⟨c, z, _⟩ => (by rw [e] at z; cases z), fun _ => ⟨some (.str t.str), some (.int (mo t)), some (.int (ot t)), some .non, ?_⟩⟩
    simp [sBody, evSs, evS, evT, evE, evEs, evAnd, hm, hc, putT, putTs, truD, isNon, optD]
  | some cc =>
    rw [e] at hc
    obtain ⟨b1, b2⟩ := step_bound e hi hj
    have i1 := h.ixr b1
    have i2 := h.ixv b1 b2
    have i3 := h.ixr hi
    have i4 := h.ixv hi hj
    rw [Int.natCast_add] at i1 i2
    have hiff : Cond one two i j t ↔ Rv one two (i + mo t) (j + ot t) + cc = Rv one two i j := by
      constructor
      · rintro ⟨c', z, w⟩; rw [e] at z; cases z; exact w
      · intro w; exact ⟨cc, e, w⟩
    by_cases hq : Rv one two (i + mo t) (j + ot t) + cc = Rv one two i j
    · refine ⟨fun _ => ⟨some (.str t.str), some (.int (mo t)), some (.int (ot t)), some (.int cc), ?_⟩, fun z => absurd (hiff.mpr hq) z⟩
      simp [sBody, evSs, evS, evT, evE, evEs, evAnd, hm, hc, putT, putTs, truD, isNon, optD, addD, i1, i2, i3, i4, eq_int, hq, hL, hA, okS, soEnv]
    · refine ⟨fun z => absurd (hiff.mp z) hq, fun _ => ⟨some (.str t.str), some (.int (mo t)), some (.int (ot t)), some (.int cc), ?_⟩⟩
      simp [sBody, evSs, evS, evT, evE, evEs, evAnd, hm, hc, putT, putTs, truD, isNon, optD, addD, i1, i2, i3, i4, eq_int, hq]
end K58

set_option linter.all false
set_option maxRecDepth 100000
set_option maxHeartbeats 1000000
namespace K58
open DL
theorem Tab.set_ne {st : Store} {r l : Nat} {lab : Nat → Nat} {V : Nat → Nat → Int} {n m : Nat} {c : Cell} (h : Tab st r lab V n m) (h1 : l ≠ r) (h2 : ∀ i, i ≤ n → l ≠ lab i) : Tab (st.set l c) r lab V n m :=
  ⟨by rw [List.getElem?_set_ne h1]; exact h.top, fun i hi => by rw [List.getElem?_set_ne (h2 i hi)]; exact h.row i hi, h.inj, h.ne⟩
theorem settle_ex {st st' : Store} {ds : List D} (h : Ex st st') (hd : ∀ d ∈ ds, wfD st.length d = true) : settle st st' ds = st := by
  unfold settle
  rw [if_pos ⟨h.1, hd, fun l c hl e => .inl (by rw [h.2 l hl] at e; exact e)⟩]
  apply List.ext_getElem?
  intro l
  by_cases hl : l < st.length
  · rw [List.getElem?_take_of_lt hl]; exact h.2 l hl
  · rw [List.getElem?_eq_none (by simp; omega), List.getElem?_eq_none (by omega)]
def names (xs : List Stp) : List D := xs.map fun t => .str t.str
theorem names_wf (n : Nat) : ∀ xs : List Stp, wfDs n (names xs) = true
  | [] => by rw [names, List.map_nil, wfDs]
  | x :: xs => by
    have := names_wf n xs
    unfold names at this ⊢
    rw [List.map_cons, wfDs, this, wfD] <;> simp
def ord : Stp → Nat
  | .keep => 0
  | .change => 1
  | .leave => 2
  | .put => 3
theorem steps_get {i : Nat} {x : D} (h : (names [.keep, .change, .leave, .put])[i]? = some x) : ∃ t, x = .str t.str ∧ ord t = i := by
  match i, h with
  | 0, h => cases h; exact ⟨.keep, rfl, rfl⟩
  | 1, h => cases h; exact ⟨.change, rfl, rfl⟩
  | 2, h => cases h; exact ⟨.leave, rfl, rfl⟩
  | 3, h => cases h; exact ⟨.put, rfl, rfl⟩
  | _ + 4, h => cases h
theorem script_of {k : Nat} {st : Store} {one two : List Nat} (w1 : Word one) (w2 : Word two) : cl (k + 4) 3 [.str one, .str two] st = .ok (.tup (names (Sc one two))) st := by
  have h1 : one.length ≤ 100 := Nat.le_trans w1.le (by decide)
  have h2 : two.length ≤ 100 := Nat.le_trans w2.le (by decide)
  have k1 : callF xcs kts fns (k + 3) 1 [.str one] st = .ok .non st := look_ok w1
  have k2 : callF xcs kts fns (k + 3) 1 [.str two] st = .ok .non st := look_ok w2
  obtain ⟨r, lab, st1, q1, t1, x1⟩ := rest_rows (k := k + 2) (st := st) h1 h2
  have q1' : callF xcs kts fns (k + 3) 2 [.str one, .str two] st = .ok (.ref r) st1 := q1
  have hfr : st1.length ≠ r := by have := (List.getElem?_eq_some_iff.mp t1.top).1; omega
  have hfl : ∀ i, i ≤ one.length → st1.length ≠ lab i := fun i hi => by have := (List.getElem?_eq_some_iff.mp (t1.row i hi)).1; omega
  let C : Ctx := ⟨xcs, kts, callF xcs kts fns (k + 3)⟩
  have l1 : ∀ s, lenD [.str one] s = some (.int one.length, s) := fun _ => rfl
  have l2 : ∀ s, lenD [.str two] s = some (.int two.length, s) := fun _ => rfl
  -- one turn of the while
  obtain ⟨ρ', s', e, i, j, a, b, c, d, done, rfl, hi, hj, t', ex', hf, hd, hend⟩ := whL_inv (c := fun ρ st => evT C ρ (.or [(.cmp .lt (.var 3) (.bi .len [(.var 0)])), (.cmp .lt (.var 4) (.bi .len [(.var 1)]))]) st) (body := evSs C [.for (.var 6) (.cst c_STEPS) sBody])
    (fun m ρ s => ∃ i j a b c d done, ρ = soEnv one two r i j st1.length a b c d ∧ i ≤ one.length ∧ j ≤ two.length ∧ m = (one.length - i) + (two.length - j) ∧ Tab s r lab (Rv one two) one.length two.length ∧ Ex st s ∧ s[st1.length]? = some (.lst (names done)) ∧ done ++ Sc (one.drop i) (two.drop j) = Sc one two)
    (fun ρ s => ∃ i j a b c d done, ρ = soEnv one two r i j st1.length a b c d ∧ i ≤ one.length ∧ j ≤ two.length ∧ Tab s r lab (Rv one two) one.length two.length ∧ Ex st s ∧ s[st1.length]? = some (.lst (names done)) ∧ done ++ Sc (one.drop i) (two.drop j) = Sc one two ∧ ¬ (i < one.length ∨ j < two.length))
    (fun m ρ s ⟨i, j, a, b, c, d, done, e, hi, hj, hm, t, ex, hf, hd⟩ => by
      by_cases hc : i < one.length ∨ j < two.length
      · right
        refine ⟨s, ?_, ?_⟩
        · rw [e]
          rcases hc with h | h
          · simp [evT, evE, evEs, evOr, l1, l2, ltD, truD, h]
          · by_cases h' : i < one.length <;> simp [evT, evE, evEs, evOr, l1, l2, ltD, truD, h, h']
        · have hsrc : evI C ρ (.cst c_STEPS) s = .ok (names [.keep, .change, .leave, .put], none) s := by
            rw [evI_ne' rfl, evE]; rfl
          have hlen : done.length ≤ 1000000 := by
            have := sc_len one two
            rw [← hd, List.length_append] at this
            omega
          have fin := forL_inv (body := fun x ρ st => match putT (.var 6) x ρ with | some ρ => evSs C sBody ρ st | none => .bad) (g := none) (items := names [.keep, .change, .leave, .put])
            (fun n ρ s0 => s0 = s ∧ (∃ a b c d, ρ = soEnv one two r i j st1.length a b c d) ∧ ∀ t, ord t < n → ¬ Cond one two i j t)
            (fun res => ∃ t a b c d, Cond one two i j t ∧ (∀ t', ord t' < ord t → ¬ Cond one two i j t') ∧ res = .nx (soEnv one two r (i + mo t) (j + ot t) st1.length a b c d) (s.set st1.length (.lst (names done ++ [.str t.str]))))
            (fun _ _ _ _ => trivial) (fun ρ s0 ⟨_, _, z⟩ => by
              obtain ⟨t, ht⟩ := cond_some hc
              exact absurd ht (z t (by cases t <;> decide))) (fun n x ρ s0 hx ⟨e0, ⟨a, b, c, d, e1⟩, hn⟩ => by
              obtain ⟨t0, rfl, ho⟩ := steps_get hx
              subst e0
              obtain ⟨b1, b2⟩ := s_body (k := k + 1) (a := b) (b := c) (c := d) t0 t hi hj hf (by rw [names, List.length_map]; exact hlen)
              have hp : putT (.var 6) (.str t0.str) (soEnv one two r i j st1.length a b c d) = some (soEnv one two r i j st1.length (some (.str t0.str)) b c d) := by rw [putT]; rfl
              by_cases hq : Cond one two i j t0
              · obtain ⟨a', b', c', d', q⟩ := b1 hq
                right; left
                refine ⟨_, _, ?_, t0, a', b', c', d', hq, fun t' h' => hn t' (by omega), rfl⟩
                rw [e1, hp]
                exact q
              · obtain ⟨a', b', c', d', q⟩ := b2 hq
                left
                refine ⟨_, _, .inl ?_, rfl, ⟨a', b', c', d', rfl⟩, fun t' h' => ?_⟩
                · rw [e1, hp]
                  exact q
                · by_cases h'' : ord t' < n
                  · exact hn t' h''
                  · have : t' = t0 := by
                      have : ord t' = ord t0 := by omega
                      cases t' <;> cases t0 <;> first | rfl | (cases this)
                    rw [this]; exact hq)
            ρ s ⟨rfl, ⟨a, b, c, d, e⟩, fun t h => by omega⟩
          obtain ⟨t0, a', b', c', d', hq, hb, q⟩ := fin
          obtain ⟨cc, hcc, _⟩ := id hq
          obtain ⟨y1, y2⟩ := step_bound hcc hi hj
          have hsc := sc_step hq (fun h => ⟨hb .keep (by rcases h with rfl | rfl <;> decide), hb .change (by rcases h with rfl | rfl <;> decide)⟩) (fun h => hb .leave (by rw [h]; decide))
          refine ⟨soEnv one two r (i + mo t0) (j + ot t0) st1.length a' b' c' d', s.set st1.length (.lst (names done ++ [.str t0.str])), (one.length - (i + mo t0)) + (two.length - (j + ot t0)), .inl ?_, ?_, i + mo t0, j + ot t0, a', b', c', d', done ++ [t0], rfl, y1, y2, rfl, t.set_ne hfr hfl, ex.set x1.1, ?_, ?_⟩
          · rw [evSs_nx (ρ' := soEnv one two r (i + mo t0) (j + ot t0) st1.length a' b' c' d') (st' := s.set st1.length (.lst (names done ++ [.str t0.str]))) (by rw [evS, hsrc, of_ok]; exact q), evSs_nil]
          · have : 1 ≤ mo t0 + ot t0 := by cases t0 <;> decide
            omega
          · rw [set_get hf]; simp [names]
          · rw [List.append_assoc, ← hd, hsc]; rfl
      · left
        refine ⟨s, ?_, i, j, a, b, c, d, done, e, hi, hj, t, ex, hf, hd, hc⟩
        rw [e]
        have g1 : ¬ i < one.length := fun z => hc (.inl z)
        have g2 : ¬ j < two.length := fun z => hc (.inr z)
        simp [evT, evE, evEs, evOr, l1, l2, ltD, truD, g1, g2])
    _ (soEnv one two r 0 0 st1.length none none none none) (st1 ++ [.lst []]) ⟨0, 0, none, none, none, none, [], rfl, Nat.zero_le _, Nat.zero_le _, rfl, t1.app _, x1.trans Ex.app, by simp [names], rfl⟩
  have hdone : done = Sc one two := by
    rw [List.drop_of_length_le (by omega), List.drop_of_length_le (by omega), Sc, List.append_nil] at hd
    exact hd
  subst hdone
  have htup : tupleD [.ref st1.length] s' = some (.tup (names (Sc one two)), s') := by
    unfold tupleD itemsD
    dsimp only
    rw [hf]
  rw [cl, call_ret (fn := f_script_of) (d := .tup (names (Sc one two))) (st' := s') rfl rfl, settle_ex ex' (by intro d hd; rw [List.mem_singleton] at hd; subst hd; rw [wfD]; exact names_wf _ _)]
  rw [f_script_of]
  show evSs C _ [some (.str one), some (.str two), none, none, none, none, none, none, none, none] st = _
  rw [evSs_nx (ρ' := [some (.str one), some (.str two), none, none, none, none, none, none, none, none]) (st' := st) (by simp [evS, evE, evEs, C, k1])]
  rw [evSs_nx (ρ' := [some (.str one), some (.str two), none, none, none, none, none, none, none, none]) (st' := st) (by simp [evS, evE, evEs, C, k2])]
  rw [evSs_nx (ρ' := soEnv one two r 0 0 st1.length none none none none) (st' := st1 ++ [.lst []]) (by simp [evS, evE, evEs, C, q1', okS, newL, putT, putTs])]
  rw [evSs_nx (ρ' := soEnv one two r i j st1.length a b c d) (st' := s') (by rw [evS]; exact e)]
  exact evSs_ret (by simp [evS, evE, evEs, htup])
end K58

set_option linter.all false
set_option maxRecDepth 100000
set_option maxHeartbeats 1000000
namespace K58
open DL
theorem script_cost {k : Nat} {st : Store} {xs : List Stp} (h : xs.length ≤ 1000000) : cl (k + 1) 6 [.tup (names xs)] st = .ok (.int ((xs.filter fun s => s ≠ .keep).length : Nat)) st := by
  have hl : (names xs).length ≤ 1000000 := by rw [names, List.length_map]; exact h
  have elc := lc_ev (C := ⟨xcs, kts, callF xcs kts fns k⟩) (ρ := [some (.tup (names xs)), none]) (elt := .var 1) (tg := .var 1) (ifs := [(.cmp .ne (.var 1) (.cst (.str [107, 101, 101, 112])))]) (own := [("name", 1)]) (st := st) (src_tup (i := 0) rfl) hl
    (lcL_pure (f := fun x => match x with | .str s => if s = [107, 101, 101, 112] then none else some (.str s) | _ => none) (fun x hx => by
      rw [names, List.mem_map] at hx
      obtain ⟨t, ht, rfl⟩ := hx
      by_cases e : t.str = [107, 101, 101, 112]
      · simp [lcS, putT, wipeE, evIfs, evE, eq_str, truD, e]
      · simp [lcS, putT, wipeE, evIfs, evE, eq_str, truD, e]))
  have hf : ((names xs).filterMap fun x => match x with | .str s => if s = [107, 101, 101, 112] then none else some (D.str s) | _ => none) = names (xs.filter fun s => s ≠ .keep) := by
    clear elc h hl
    induction xs with
    | nil => rfl
    | cons x xs ih =>
      unfold names at ih ⊢
      rw [List.map_cons, List.filterMap_cons]
      dsimp only
      by_cases e : x = .keep
      · rw [if_pos ((sk x).mpr e), ih, List.filter_cons_of_neg (by simp [e])]
      · rw [if_neg (fun z => e ((sk x).mp z)), List.filter_cons_of_pos (by simp [e]), List.map_cons]
        dsimp only
        rw [ih]
  rw [hf] at elc
  have hlen : lenD [.ref st.length] (st ++ [.lst (names (xs.filter fun s => s ≠ .keep))]) = some (.int ((xs.filter fun s => s ≠ .keep).length : Nat), st ++ [.lst (names (xs.filter fun s => s ≠ .keep))]) := by
    unfold lenD itemsD
    simp [names]
  rw [cl, call_ret (fn := f_script_cost) (d := .int ((xs.filter fun s => s ≠ .keep).length : Nat)) (st' := st ++ [.lst (names (xs.filter fun s => s ≠ .keep))]) rfl rfl, settle_app (by intro d hd; rw [List.mem_singleton] at hd; subst hd; rw [wfD] <;> simp)]
  rw [f_script_cost]
  show evSs _ _ [some (.tup (names xs)), none] st = _
  exact evSs_ret (by rw [evS, evE, evEs, elc, bind_ok, evEs, bind_ok, bind_ok]; simp only [biD]; rw [hlen]; rfl)

/-! ### the far column -/
/-- the distance of what stands ahead -/
def Fd (one two : List Nat) (a b : Nat) : Nat := Rd (one.take a).reverse (two.take b).reverse
theorem take_rev {w : List Nat} {i x : Nat} (h : w[i]? = some x) : (w.take (i + 1)).reverse = x :: (w.take i).reverse := by
  rw [List.take_add_one, h]
  simp
theorem fd0 (one two : List Nat) : Fd one two 0 0 = 0 := by simp [Fd, Rd]
theorem fdL {one two : List Nat} {a x : Nat} (h : one[a]? = some x) : Fd one two (a + 1) 0 = Fd one two a 0 + 1 := by
  unfold Fd
  rw [take_rev h, List.take_zero, List.reverse_nil]
  exact Rd.eq_2 _ _
theorem fdR {one two : List Nat} {b y : Nat} (h : two[b]? = some y) : Fd one two 0 (b + 1) = Fd one two 0 b + 1 := by
  unfold Fd
  rw [take_rev h, List.take_zero, List.reverse_nil]
  exact Rd.eq_3 _ _
theorem fdS {one two : List Nat} {a b x y : Nat} (h : one[a]? = some x) (g : two[b]? = some y) : Fd one two (a + 1) (b + 1) = min (min (Fd one two a (b + 1) + 1) (Fd one two (a + 1) b + 1)) (Fd one two a b + dg x y) := by
  unfold Fd
  rw [take_rev h, take_rev g, Rd]
theorem fd_zero {one two : List Nat} : ∀ a, a ≤ one.length → Fd one two a 0 = a
  | 0, _ => fd0 _ _
  | a + 1, h => by rw [fdL (List.getElem?_eq_getElem h), fd_zero a (by omega)]
theorem fd_end (one two : List Nat) : Fd one two one.length two.length = Rd one two := by
  unfold Fd
  rw [List.take_length, List.take_length]
  exact rd_rev one two
def colD (one two : List Nat) (b n : Nat) : List D := (List.range n).map fun a => .int (Fd one two a b : Nat)
theorem colD_get {one two : List Nat} {b n a : Nat} (h : a < n) : (colD one two b n)[a]? = some (.int (Fd one two a b : Nat)) := by
  unfold colD
  rw [List.getElem?_map, List.getElem?_range h]
  rfl
theorem colD_len (one two : List Nat) (b n : Nat) : (colD one two b n).length = n := by simp [colD]
theorem colD_succ (one two : List Nat) (b n : Nat) : colD one two b (n + 1) = colD one two b n ++ [.int (Fd one two n b : Nat)] := by
  unfold colD
  rw [List.range_succ, List.map_append]
  rfl
theorem at_cell {st : Store} {l : Nat} {xs : List D} {i : Nat} {d : D} (h : st[l]? = some (.lst xs)) (hi : xs[i]? = some d) : ixD (.ref l) (.int (i : Int)) st = some (d, st) := ix_cell h (by omega) (by rw [Int.toNat_natCast]; exact hi)
def farBody : List S := [.ex (.me .append (.var 5) [(.bi .min [(.bi .int [(.bin .add (.ix (.var 5) (.var 3)) (.cst (.int (1))))]), (.bi .int [(.bin .add (.ix (.var 2) (.bin .add (.var 3) (.cst (.int (1))))) (.cst (.int (1))))]), (.bi .int [(.bin .add (.ix (.var 2) (.var 3)) (.ife (.cmp .eq (.ix (.var 0) (.var 3)) (.var 4)) (.cst (.int (0))) (.cst (.int (1)))))])])])]
theorem far_body {C : Ctx} {s : Store} {one two : List Nat} {c f a b y : Nat} (ha : a < one.length) (hy : two[b]? = some y) (hc : s[c]? = some (.lst (colD one two b (one.length + 1)))) (hf : s[f]? = some (.lst (colD one two (b + 1) (a + 1)))) (h1 : one.length ≤ 100) :
    evSs C farBody [some (.str one), some (.str two), some (.ref c), some (.int (a : Int)), some (.str [y]), some (.ref f)] s = .nx [some (.str one), some (.str two), some (.ref c), some (.int (a : Int)), some (.str [y]), some (.ref f)] (s.set f (.lst (colD one two (b + 1) (a + 2)))) := by
  have hx := List.getElem?_eq_getElem ha
  have e1 := at_cell hf (colD_get (one := one) (two := two) (b := b + 1) (show a < a + 1 by omega))
  have e2 := at_cell hc (colD_get (one := one) (two := two) (b := b) (show a + 1 < one.length + 1 by omega))
  have e3 := at_cell hc (colD_get (one := one) (two := two) (b := b) (show a < one.length + 1 by omega))
  rw [show ((a + 1 : Nat) : Int) = (a : Int) + 1 by omega] at e2
  have e4 := ix_str (st := s) hx
  have hL : isL (.ref f) s = true := by unfold isL; dsimp only; rw [hf]
  have hA : ∀ d, appendD (.ref f) [d] s = some (.non, s.set f (.lst (colD one two (b + 1) (a + 1) ++ [d]))) := by
    intro d
    unfold appendD
    dsimp only
    rw [hf]
    dsimp only
    rw [if_pos (show okS _ = true by rw [colD_len, okS, decide_eq_true_eq]; omega)]
  have hv : minI ((Fd one two a (b + 1) : Nat) + 1) [((Fd one two (a + 1) b : Nat) : Int) + 1, (Fd one two a b : Nat) + (if one[a] = y then 0 else 1)] = ((Fd one two (a + 1) (b + 1) : Nat) : Int) := by
    rw [minI3, fdS hx hy]
    unfold dg
    split <;> omega
  rw [colD_succ one two (b + 1) (a + 1), ← hv]
  by_cases e : one[a] = y
  · simp [farBody, evSs, evS, evE, evEs, e1, e2, e3, e4, addD, intD, eq_str, truD, e, minD, ints?, hL, hA]
  · simp [farBody, evSs, evS, evE, evEs, e1, e2, e3, e4, addD, intD, eq_str, truD, e, minD, ints?, hL, hA]
def farOut : List S := [
    .set 5 (.lst [(.bin .add (.ix (.var 2) (.cst (.int (0)))) (.cst (.int (1))))]),
    .for (.var 3) (.rng [(.bi .len [(.var 0)])]) farBody,
    .set 2 (.var 5)]
theorem law_far {k : Nat} {st : Store} {one two : List Nat} (h1 : one.length ≤ 100) (h2 : two.length ≤ 100) : cl (k + 1) 12 [.str one, .str two] st = .ok (.int (Rd one two : Nat)) st := by
  let C : Ctx := ⟨xcs, kts, callF xcs kts fns k⟩
  have l1 : ∀ s, lenD [.str one] s = some (.int one.length, s) := fun _ => rfl
  -- the first column
  have hsrc : evI C [some (.str one), some (.str two), none, none, none, none] (.rng [(.bin .add (.bi .len [(.var 0)]) (.cst (.int (1))))]) st = .ok (rangeL 0 (one.length + 1), none) st := by
    have a1 : evEs C [some (.str one), some (.str two), none, none, none, none] [(.bin .add (.bi .len [(.var 0)]) (.cst (.int (1))))] st = .ok [.int ((one.length + 1 : Nat) : Int)] st := by
      simp [evEs, evE, l1, addD]
    rw [evI_rng, a1, bind_ok, rng1 (s62 (by omega))]
    rfl
  have col0 : colD one two 0 (one.length + 1) = rangeL 0 (one.length + 1) := by
    unfold colD rangeL
    apply List.map_congr_left
    intro a ha
    rw [fd_zero a (by simp at ha; omega)]
    simp
  have elc := lc_ev (C := C) (ρ := [some (.str one), some (.str two), none, none, none, none]) (elt := .var 3) (tg := .var 3) (ifs := []) (own := [("k", 3)]) hsrc (by simp [rangeL]; omega)
    (lcL_pure (f := some) (fun x hx => by simp [lcS, putT, wipeE, evIfs, evE]))
  rw [List.filterMap_some, ← col0] at elc
  -- the loops
  obtain ⟨ρ', s', e, c, x3, x4, x5, rfl, hc, hcl, ex⟩ := forL_nx (body := fun x ρ st => match putT (.var 4) x ρ with | some ρ => evSs C farOut ρ st | none => .bad) (g := none) (items := two.map fun y => D.str [y])
    (fun b ρ s => ∃ (c : Nat) (x3 x4 x5 : Option D), ρ = [some (.str one), some (.str two), some (.ref c), x3, x4, x5] ∧ s[c]? = some (.lst (colD one two b (one.length + 1))) ∧ st.length ≤ c ∧ Ex st s)
    (fun _ _ _ _ => trivial) (fun b x ρ s hx ⟨c, x3, x4, x5, e, hc, hcl, ex⟩ => by
      rw [List.getElem?_map] at hx
      obtain ⟨y, hy, rfl⟩ : ∃ y, two[b]? = some y ∧ x = .str [y] := by
        cases q : two[b]? with
        | none => rw [q] at hx; cases hx
        | some y => rw [q] at hx; cases hx; exact ⟨y, rfl, rfl⟩
      have hcs : c < s.length := (List.getElem?_eq_some_iff.mp hc).1
      have e0 := at_cell (i := 0) hc (colD_get (one := one) (two := two) (b := b) (show 0 < one.length + 1 by omega))
      have n0 : colD one two (b + 1) 1 = [.int ((Fd one two 0 b : Nat) + 1)] := by
        unfold colD
        simp [fdR hy]
      obtain ⟨ρ2, s2, q, x3', rfl, hc2, hf2, ex2, hl2⟩ := forL_nx (body := fun x ρ st => match putT (.var 3) x ρ with | some ρ => evSs C farBody ρ st | none => .bad) (g := none) (items := rangeL 0 one.length)
        (fun a ρ z => ∃ x3, ρ = [some (.str one), some (.str two), some (.ref c), x3, some (.str [y]), some (.ref s.length)] ∧ z[c]? = some (.lst (colD one two b (one.length + 1))) ∧ z[s.length]? = some (.lst (colD one two (b + 1) (a + 1))) ∧ Ex st z ∧ s.length < z.length)
        (fun _ _ _ _ => trivial) (fun a x ρ z hx ⟨x3, e, hc, hf, ex, hl⟩ => by
          have hlen : (rangeL 0 one.length).length = one.length := by simp [rangeL]
          have ha : a < one.length := by have := (List.getElem?_eq_some_iff.mp hx).1; omega
          obtain rfl : x = .int (a : Int) := by
            unfold rangeL at hx
            rw [List.getElem?_map, List.getElem?_range ha] at hx
            cases hx
            simp
          refine ⟨_, _, ?_, some (.int (a : Int)), rfl, ?_, set_get hf, ex.set (by have := ex.1; omega), by simpa using hl⟩
          · rw [e, putT]
            exact far_body ha hy hc hf h1
          · rw [List.getElem?_set_ne (by omega)]; exact hc) (ρ := [some (.str one), some (.str two), some (.ref c), x3, some (.str [y]), some (.ref s.length)]) (st := s ++ [.lst (colD one two (b + 1) 1)])
        ⟨x3, rfl, by rw [List.getElem?_append_left hcs]; exact hc, by simp, ex.trans Ex.app, by simp⟩
      have hlen : (rangeL 0 one.length).length = one.length := by simp [rangeL]
      rw [hlen] at hf2
      have hsrc2 : ∀ (x3 : Option D) (z : Store), evI C [some (.str one), some (.str two), some (.ref c), x3, some (.str [y]), some (.ref s.length)] (.rng [(.bi .len [(.var 0)])]) z = .ok (rangeL 0 one.length, none) z := by
        intro x3 z
        have a1 : evEs C [some (.str one), some (.str two), some (.ref c), x3, some (.str [y]), some (.ref s.length)] [(.bi .len [(.var 0)])] z = .ok [.int (one.length : Int)] z := by simp [evEs, evE, l1]
        rw [evI_rng, a1, bind_ok, rng1 (s62 (by omega))]
        rfl
      refine ⟨[some (.str one), some (.str two), some (.ref s.length), x3', some (.str [y]), some (.ref s.length)], s2, ?_, s.length, x3', _, _, rfl, hf2, by have := ex.1; omega, ex2⟩
      rw [e, putT]
      show evSs C farOut [some (.str one), some (.str two), some (.ref c), x3, some (.str [y]), x5] s = _
      rw [farOut]
      rw [evSs_nx (ρ' := [some (.str one), some (.str two), some (.ref c), x3, some (.str [y]), some (.ref s.length)]) (st' := s ++ [.lst (colD one two (b + 1) 1)]) (by
        rw [n0]
        have e0' : ixD (.ref c) (.int 0) s = some (.int (Fd one two 0 b : Nat), s) := e0
        simp [evS, evE, evEs, e0', addD, okS, newL])]
      rw [evSs_nx (ρ' := [some (.str one), some (.str two), some (.ref c), x3', some (.str [y]), some (.ref s.length)]) (st' := s2) (by rw [evS, hsrc2, of_ok]; exact q)]
      rw [evSs_nx (ρ' := [some (.str one), some (.str two), some (.ref s.length), x3', some (.str [y]), some (.ref s.length)]) (st' := s2) (by simp [evS, evE]), evSs_nil]) (ρ := [some (.str one), some (.str two), some (.ref st.length), none, none, none]) (st := st ++ [.lst (colD one two 0 (one.length + 1))]) ⟨st.length, none, none, none, rfl, by simp, Nat.le_refl _, Ex.app⟩
  rw [List.length_map] at hc
  have hlast : ixD (.ref c) (.int (-1)) s' = some (.int (Rd one two : Nat), s') := by
    unfold ixD
    dsimp only
    rw [hc]
    dsimp only
    unfold atD
    rw [if_neg (by decide), colD_len, if_pos (by omega), show ((-1 : Int) + ((one.length + 1 : Nat) : Int)).toNat = one.length by omega, colD_get (by omega), fd_end]
  rw [cl, call_ret (fn := f__law_far) (d := .int (Rd one two : Nat)) (st' := s') rfl rfl, settle_ex ex (by intro d hd; rw [List.mem_singleton] at hd; subst hd; rw [wfD] <;> simp)]
  rw [f__law_far]
  show evSs C _ [some (.str one), some (.str two), none, none, none, none] st = _
  rw [evSs_nx (ρ' := [some (.str one), some (.str two), some (.ref st.length), none, none, none]) (st' := st ++ [.lst (colD one two 0 (one.length + 1))]) (by rw [evS, elc]; rfl)]
  rw [evSs_nx (ρ' := [some (.str one), some (.str two), some (.ref c), x3, x4, x5]) (st' := s') (by rw [evS, src_str (i := 1) rfl, of_ok]; exact e)]
  exact evSs_ret (by simp [evS, evE, hlast])
end K58

set_option linter.all false
set_option maxRecDepth 100000
set_option maxHeartbeats 1000000
namespace K58
open DL
def key (i j : Nat) : D := .tup [.int (i : Int), .int (j : Int)]
def val (c : Nat) (s : List Stp) : D := .tup [.int (c : Int), .tup (names s)]
theorem key_ok (i j : Nat) : keyOkD true (key i j) = true := rfl
theorem key_same {i j a b : Nat} : D.same (key i j) (key a b) = decide (i = a ∧ j = b) := by
  unfold key
  simp only [D.same, D.sames, Bool.and_true]
  rw [Bool.eq_iff_iff]
  simp
  omega
theorem key_kt (i j : Nat) : (kts.any fun d => D.same d (key i j)) = false := by
  simp [kts, c_STEPS, key, D.same, D.sames]
/-- what is right at (i, j) -/
def Right (one two : List Nat) (kvs : List (D × D)) (i j : Nat) : Prop := lookD (key i j) kvs = some (val (Rd (one.drop i) (two.drop j)) (Sc (one.drop i) (two.drop j)))
def laBody : List S := [
      .set 5 (.ife (.or [(.cmp .lt (.var 3) (.bi .len [(.var 0)])), (.cmp .lt (.var 4) (.bi .len [(.var 1)]))]) (.lst []) (.lst [(.tup [(.cst (.int (0))), (.tup [])])])),
      .ifs (.and [(.cmp .lt (.var 3) (.bi .len [(.var 0)])), (.cmp .lt (.var 4) (.bi .len [(.var 1)]))]) [
        .set 6 (.ife (.cmp .eq (.ix (.var 0) (.var 3)) (.ix (.var 1) (.var 4))) (.cst (.str [107, 101, 101, 112])) (.cst (.str [99, 104, 97, 110, 103, 101]))),
        .ex (.me .append (.var 5) [(.tup [(.bin .add (.ix (.ix (.var 2) (.tup [(.bin .add (.var 3) (.cst (.int (1)))), (.bin .add (.var 4) (.cst (.int (1))))])) (.cst (.int (0)))) (.bi .int [(.cmp .eq (.var 6) (.cst (.str [99, 104, 97, 110, 103, 101])))])), (.bin .add (.tup [(.var 6)]) (.ix (.ix (.var 2) (.tup [(.bin .add (.var 3) (.cst (.int (1)))), (.bin .add (.var 4) (.cst (.int (1))))])) (.cst (.int (1)))))])])] [],
      .ifs (.cmp .lt (.var 3) (.bi .len [(.var 0)])) [
        .ex (.me .append (.var 5) [(.tup [(.bin .add (.ix (.ix (.var 2) (.tup [(.bin .add (.var 3) (.cst (.int (1)))), (.var 4)])) (.cst (.int (0)))) (.cst (.int (1)))), (.bin .add (.tup [(.cst (.str [108, 101, 97, 118, 101]))]) (.ix (.ix (.var 2) (.tup [(.bin .add (.var 3) (.cst (.int (1)))), (.var 4)])) (.cst (.int (1)))))])])] [],
      .ifs (.cmp .lt (.var 4) (.bi .len [(.var 1)])) [
        .ex (.me .append (.var 5) [(.tup [(.bin .add (.ix (.ix (.var 2) (.tup [(.var 3), (.bin .add (.var 4) (.cst (.int (1))))])) (.cst (.int (0)))) (.cst (.int (1)))), (.bin .add (.tup [(.cst (.str [112, 117, 116]))]) (.ix (.ix (.var 2) (.tup [(.var 3), (.bin .add (.var 4) (.cst (.int (1))))])) (.cst (.int (1)))))])])] []]
def laEnd : List S := [
      .set 7 (.bi .min [(.lc (.ix (.var 8) (.cst (.int (0)))) (.var 8) (.var 5) [] [("row", 8)])]),
      .setX (.var 2) (.tup [(.var 3), (.var 4)]) (.ix (.lc (.var 8) (.var 8) (.var 5) [(.cmp .eq (.ix (.var 8) (.cst (.int (0)))) (.var 7))] [("row", 8)]) (.cst (.int (0))))]
/-- the rows to choose from -/
def cands (one two : List Nat) (i j : Nat) : List (Nat × List Stp) :=
  match one[i]?, two[j]? with
  | none, none => [(0, [])]
  | some _, none => [(Rd (one.drop (i + 1)) (two.drop j) + 1, .leave :: Sc (one.drop (i + 1)) (two.drop j))]
  | none, some _ => [(Rd (one.drop i) (two.drop (j + 1)) + 1, .put :: Sc (one.drop i) (two.drop (j + 1)))]
  | some x, some y => [(Rd (one.drop (i + 1)) (two.drop (j + 1)) + dg x y, ks x y :: Sc (one.drop (i + 1)) (two.drop (j + 1))), (Rd (one.drop (i + 1)) (two.drop j) + 1, .leave :: Sc (one.drop (i + 1)) (two.drop j)), (Rd (one.drop i) (two.drop (j + 1)) + 1, .put :: Sc (one.drop i) (two.drop (j + 1)))]
def rowsD (cs : List (Nat × List Stp)) : List D := cs.map fun p => val p.1 p.2
abbrev laEnv (one two : List Nat) (d i j : Nat) (a b c e : Option D) : Env := [some (.str one), some (.str two), some (.ref d), some (.int (i : Int)), some (.int (j : Int)), a, b, c, e]
theorem ks_str (x y : Nat) : (ks x y).str = if x = y then [107, 101, 101, 112] else [99, 104, 97, 110, 103, 101] := by unfold ks; split <;> rfl
theorem la_body {C : Ctx} {s : Store} {one two : List Nat} {d i j : Nat} {kvs : List (D × D)} {a b c e : Option D} (hi : i ≤ one.length) (hj : j ≤ two.length) (h1 : one.length ≤ 100) (h2 : two.length ≤ 100) (hd : s[d]? = some (.dic true kvs))
    (r1 : i < one.length → Right one two kvs (i + 1) j) (r2 : j < two.length → Right one two kvs i (j + 1)) (r3 : i < one.length → j < two.length → Right one two kvs (i + 1) (j + 1)) :
    ∃ b', evSs C laBody (laEnv one two d i j a b c e) s = .nx (laEnv one two d i j (some (.ref s.length)) b' c e) (s ++ [.lst (rowsD (cands one two i j))]) := by
  have l1 : ∀ s, lenD [.str one] s = some (.int one.length, s) := fun _ => rfl
  have l2 : ∀ s, lenD [.str two] s = some (.int two.length, s) := fun _ => rfl
  have hdl : d < s.length := (List.getElem?_eq_some_iff.mp hd).1
  have dx : ∀ (xs : List D) (p q : Nat), Right one two kvs p q → ixD (.ref d) (key p q) (s ++ [.lst xs]) = some (val (Rd (one.drop p) (two.drop q)) (Sc (one.drop p) (two.drop q)), s ++ [.lst xs]) := fun xs p q h =>
    dix (by rw [List.getElem?_append_left hdl]; exact hd) (key_ok p q) h
  have v0 : ∀ (c : Nat) (n : List Stp) (s : Store), ixD (val c n) (.int 0) s = some (.int (c : Int), s) := fun _ _ _ => rfl
  have v1 : ∀ (c : Nat) (n : List Stp) (s : Store), ixD (val c n) (.int 1) s = some (.tup (names n), s) := fun _ _ _ => rfl
  have nl : ∀ a b : List Nat, a.length ≤ 100 → b.length ≤ 100 → 1 + (names (Sc a b)).length ≤ 1000000 := fun a b h g => by have := sc_len a b; rw [names, List.length_map]; omega
  have c1 : ((i + 1 : Nat) : Int) = (i : Int) + 1 := by omega
  have c2 : ((j + 1 : Nat) : Int) = (j : Int) + 1 := by omega
  have dl : ∀ (w : List Nat) (p : Nat), w.length ≤ 100 → (w.drop p).length ≤ 100 := fun w p h => by rw [List.length_drop]; omega
  by_cases g1 : i < one.length
  · have e1 := fun s => ix_str (st := s) (List.getElem?_eq_getElem g1)
    have d1 := fun xs => dx xs _ _ (r1 g1)
    have n1 := nl _ _ (dl one (i + 1) h1) (dl two j h2)
    by_cases g2 : j < two.length
    · have e2 := fun s => ix_str (st := s) (List.getElem?_eq_getElem g2)
      have d2 := fun xs => dx xs _ _ (r2 g2)
      have d3 := fun xs => dx xs _ _ (r3 g1 g2)
      have n2 := nl _ _ (dl one i h1) (dl two (j + 1) h2)
      have n3 := nl _ _ (dl one (i + 1) h1) (dl two (j + 1) h2)
      unfold key at d1 d2 d3
      rw [c1] at d1 d3
      rw [c2] at d2 d3
      have hc : rowsD (cands one two i j) = [.tup [.int ((Rd (one.drop (i + 1)) (two.drop (j + 1)) : Nat) + (dg one[i] two[j] : Nat)), .tup (.str (ks one[i] two[j]).str :: names (Sc (one.drop (i + 1)) (two.drop (j + 1))))], .tup [.int ((Rd (one.drop (i + 1)) (two.drop j) : Nat) + 1), .tup (.str [108, 101, 97, 118, 101] :: names (Sc (one.drop (i + 1)) (two.drop j)))], .tup [.int ((Rd (one.drop i) (two.drop (j + 1)) : Nat) + 1), .tup (.str [112, 117, 116] :: names (Sc (one.drop i) (two.drop (j + 1))))]] := by
        unfold cands rowsD
        rw [List.getElem?_eq_getElem g1, List.getElem?_eq_getElem g2]
        rfl
      rw [hc, ks_str]
      by_cases e : one[i] = two[j]
      · refine ⟨some (.str [107, 101, 101, 112]), ?_⟩
        simp [laBody, evSs, evS, evT, evE, evEs, evOr, evAnd, l1, l2, ltD, truD, g1, g2, okS, newL, isL_last, addD, app_last, e1, e2, eq_str, intD, e, d1, d2, d3, v0, v1, n1, n2, n3, dg]
      · refine ⟨some (.str [99, 104, 97, 110, 103, 101]), ?_⟩
        simp [laBody, evSs, evS, evT, evE, evEs, evOr, evAnd, l1, l2, ltD, truD, g1, g2, okS, newL, isL_last, addD, app_last, e1, e2, eq_str, intD, e, d1, d2, d3, v0, v1, n1, n2, n3, dg]
    · have hn : two[j]? = none := List.getElem?_eq_none (by omega)
      unfold key at d1
      rw [c1] at d1
      have hc : rowsD (cands one two i j) = [.tup [.int ((Rd (one.drop (i + 1)) (two.drop j) : Nat) + 1), .tup (.str [108, 101, 97, 118, 101] :: names (Sc (one.drop (i + 1)) (two.drop j)))]] := by
        unfold cands rowsD
        rw [List.getElem?_eq_getElem g1, hn]
        rfl
      rw [hc]
      refine ⟨b, ?_⟩
      simp [laBody, evSs, evS, evT, evE, evEs, evOr, evAnd, l1, l2, ltD, truD, g1, g2, okS, newL, isL_last, addD, app_last, d1, v0, v1, n1]
  · have hn1 : one[i]? = none := List.getElem?_eq_none (by omega)
    by_cases g2 : j < two.length
    · have d2 := fun xs => dx xs _ _ (r2 g2)
      have n2 := nl _ _ (dl one i h1) (dl two (j + 1) h2)
      unfold key at d2
      rw [c2] at d2
      have hc : rowsD (cands one two i j) = [.tup [.int ((Rd (one.drop i) (two.drop (j + 1)) : Nat) + 1), .tup (.str [112, 117, 116] :: names (Sc (one.drop i) (two.drop (j + 1))))]] := by
        unfold cands rowsD
        rw [List.getElem?_eq_getElem g2, hn1]
        rfl
      rw [hc]
      refine ⟨b, ?_⟩
      simp [laBody, evSs, evS, evT, evE, evEs, evOr, evAnd, l1, l2, ltD, truD, g1, g2, okS, newL, isL_last, addD, app_last, d2, v0, v1, n2]
    · have hn : two[j]? = none := List.getElem?_eq_none (by omega)
      have hc : rowsD (cands one two i j) = [.tup [.int 0, .tup []]] := by
        unfold cands rowsD
        rw [hn1, hn]
        rfl
      rw [hc]
      refine ⟨b, ?_⟩
      simp [laBody, evSs, evS, evT, evE, evEs, evOr, evAnd, l1, l2, ltD, truD, g1, g2, okS, newL]
end K58

set_option linter.all false
set_option maxRecDepth 100000
set_option maxHeartbeats 1000000
namespace K58
open DL
theorem cands_min (one two : List Nat) (i j : Nat) : ∃ m r, (cands one two i j).map (·.1) = m :: r ∧ minI (m : Int) (r.map fun n : Nat => (n : Int)) = ((Rd (one.drop i) (two.drop j) : Nat) : Int) := by
  unfold cands
  cases hx : one[i]? with
  | none =>
    cases hy : two[j]? with
    | none => exact ⟨0, [], rfl, by rw [drop_none hx, drop_none hy, Rd]; rfl⟩
    | some y => exact ⟨_, [], rfl, by rw [drop_none hx, drop_some hy]; show ((_ : Nat) : Int) = _; rw [Rd.eq_3]⟩
  | some x =>
    cases hy : two[j]? with
    | none => exact ⟨_, [], rfl, by rw [drop_none hy, drop_some hx]; show ((_ : Nat) : Int) = _; rw [Rd.eq_2]⟩
    | some y =>
      refine ⟨_, _, rfl, ?_⟩
      simp only [List.map_cons, List.map_nil]
      rw [minI3, drop_some hx, drop_some hy, Rd]
      omega
theorem cands_pick (one two : List Nat) (i j : Nat) : ∃ r, ((cands one two i j).filter fun p => p.1 = Rd (one.drop i) (two.drop j)) = (Rd (one.drop i) (two.drop j), Sc (one.drop i) (two.drop j)) :: r := by
  unfold cands
  cases hx : one[i]? with
  | none =>
    cases hy : two[j]? with
    | none => refine ⟨[], ?_⟩; rw [drop_none hx, drop_none hy]; simp [Rd, Sc]
    | some y => refine ⟨[], ?_⟩; rw [drop_none hx, drop_some hy]; simp [Rd, Sc]
  | some x =>
    cases hy : two[j]? with
    | none => refine ⟨[], ?_⟩; rw [drop_none hy, drop_some hx]; simp [Rd, Sc]
    | some y =>
      dsimp only
      rw [drop_some hx, drop_some hy]
      by_cases e1 : Rd (one.drop (i + 1)) (two.drop (j + 1)) + dg x y = Rd (x :: one.drop (i + 1)) (y :: two.drop (j + 1))
      · rw [List.filter_cons_of_pos (by simpa using e1), Sc, if_pos e1, e1]
        exact ⟨_, rfl⟩
      · rw [List.filter_cons_of_neg (by simpa using e1)]
        by_cases e2 : Rd (one.drop (i + 1)) (y :: two.drop (j + 1)) + 1 = Rd (x :: one.drop (i + 1)) (y :: two.drop (j + 1))
        · rw [List.filter_cons_of_pos (by simpa using e2), Sc, if_neg e1, if_pos e2, e2]
          exact ⟨_, rfl⟩
        · have e3 := ((rd_cons x y (one.drop (i + 1)) (two.drop (j + 1))).resolve_left e1).resolve_left e2
          rw [List.filter_cons_of_neg (by simpa using e2), List.filter_cons_of_pos (by simpa using e3), Sc, if_neg e1, if_neg e2, e3]
          exact ⟨_, rfl⟩
theorem cands_len (one two : List Nat) (i j : Nat) : (cands one two i j).length ≤ 3 := by
  unfold cands
  split <;> simp
theorem ints_nat : ∀ ns : List Nat, ints? (ns.map fun n : Nat => D.int (n : Int)) = some (ns.map fun n : Nat => (n : Int))
  | [] => rfl
  | n :: ns => by rw [List.map_cons, ints?, ints_nat ns]; rfl
theorem rows_fst (cs : List (Nat × List Stp)) : ((rowsD cs).filterMap fun x => match x with | .tup (c :: _) => some c | _ => none) = (cs.map (·.1)).map fun n : Nat => D.int (n : Int) := by
  unfold rowsD
  induction cs with
  | nil => rfl
  | cons p cs ih => simpa [val] using ih
theorem rows_eq (cs : List (Nat × List Stp)) (m : Nat) : ((rowsD cs).filterMap fun x => match x with | .tup (.int c :: r) => if c = (m : Int) then some (D.tup (.int c :: r)) else none | _ => none) = rowsD (cs.filter fun p => p.1 = m) := by
  unfold rowsD
  induction cs with
  | nil => rfl
  | cons p cs ih =>
    rw [List.map_cons, List.filterMap_cons]
    by_cases e : p.1 = m
    · rw [List.filter_cons_of_pos (by simpa using e), List.map_cons]
      simp [val, e]
      simpa [val] using ih
    · rw [List.filter_cons_of_neg (by simpa using e)]
      have : ¬ ((p.1 : Int) = (m : Int)) := by omega
      simp [val, this]
      simpa [val] using ih
theorem la_end {C : Ctx} {s : Store} {one two : List Nat} {d i j : Nat} {kvs : List (D × D)} {b c e : Option D} (hkt : C.kt = kts) (hd : s[d]? = some (.dic true kvs)) (hk : kvs.length ≤ 1000000) :
    ∃ a' c' e' s', evSs C laEnd (laEnv one two d i j (some (.ref s.length)) b c e) (s ++ [.lst (rowsD (cands one two i j))]) = .nx (laEnv one two d i j a' b c' e') s' ∧
      s'[d]? = some (.dic true (putD (key i j) (val (Rd (one.drop i) (two.drop j)) (Sc (one.drop i) (two.drop j))) kvs)) ∧ s.length ≤ s'.length ∧ ∀ l, l < s.length → l ≠ d → s'[l]? = s[l]? := by
  obtain ⟨m, r, hm1, hm2⟩ := cands_min one two i j
  obtain ⟨rest, hp⟩ := cands_pick one two i j
  have hdl : d < s.length := (List.getElem?_eq_some_iff.mp hd).1
  have hcl := cands_len one two i j
  generalize hcs : cands one two i j = cs at *
  generalize hR : Rd (one.drop i) (two.drop j) = R at *
  generalize hS : Sc (one.drop i) (two.drop j) = SS at *
  have hf : (s ++ [.lst (rowsD cs)])[s.length]? = some (.lst (rowsD cs)) := by simp
  have hlen : (rowsD cs).length ≤ 1000000 := by rw [rowsD, List.length_map]; omega
  have lc1 := lc_ev (C := C) (ρ := laEnv one two d i j (some (.ref s.length)) b c e) (elt := .ix (.var 8) (.cst (.int (0)))) (tg := .var 8) (ifs := []) (own := [("row", 8)]) (st := s ++ [.lst (rowsD cs)]) (src_lst (i := 5) (l := s.length) rfl hf) hlen
    (lcL_pureG (g := some (s.length, rowsD cs)) (f := fun x => match x with | .tup (c :: _) => some c | _ => none) (show GuardOk (some (s.length, rowsD cs)) _ from hf) (fun x hx => by
      rw [rowsD, List.mem_map] at hx
      obtain ⟨p, _, rfl⟩ := hx
      simp [lcS, putT, wipeE, evIfs, evE, val, ixD, atD]))
  rw [rows_fst] at lc1
  have hmin : ∀ s2 : Store, s2 = s ++ [.lst (rowsD cs)] ++ [.lst ((cs.map (·.1)).map fun n : Nat => D.int (n : Int))] → minD [.ref (s ++ [Cell.lst (rowsD cs)]).length] s2 = some (.int (R : Int), s2) := by
    intro s2 h2
    unfold minD
    dsimp only
    rw [show s2[(s ++ [Cell.lst (rowsD cs)]).length]? = some (.lst ((cs.map (·.1)).map fun n : Nat => D.int (n : Int))) by rw [h2]; simp]
    dsimp only
    rw [ints_nat, hm1, List.map_cons]
    dsimp only
    rw [hm2]
  generalize hs2 : s ++ [.lst (rowsD cs)] ++ [.lst ((cs.map (·.1)).map fun n : Nat => D.int (n : Int))] = s2 at lc1
  have hmin2 := hmin s2 hs2.symm
  have hf2 : s2[s.length]? = some (.lst (rowsD cs)) := by rw [← hs2]; simp
  have lc2 := lc_ev (C := C) (ρ := laEnv one two d i j (some (.ref s.length)) b (some (.int (R : Int))) e) (elt := .var 8) (tg := .var 8) (ifs := [(.cmp .eq (.ix (.var 8) (.cst (.int (0)))) (.var 7))]) (own := [("row", 8)]) (st := s2) (src_lst (i := 5) (l := s.length) rfl hf2) hlen
    (lcL_pureG (g := some (s.length, rowsD cs)) (f := fun x => match x with | .tup (.int c :: r) => if c = (R : Int) then some (D.tup (.int c :: r)) else none | _ => none) (show GuardOk (some (s.length, rowsD cs)) _ from hf2) (fun x hx => by
      rw [rowsD, List.mem_map] at hx
      obtain ⟨p, _, rfl⟩ := hx
      by_cases e : (p.1 : Int) = (R : Int)
      · simp [lcS, putT, wipeE, evIfs, evE, val, ixD, atD, eq_int, truD, e]
      · simp [lcS, putT, wipeE, evIfs, evE, val, ixD, atD, eq_int, truD, e]))
  rw [rows_eq, hp] at lc2
  have hix : ixD (.ref s2.length) (.int 0) (s2 ++ [Cell.lst (rowsD ((R, SS) :: rest))]) = some (val R SS, s2 ++ [.lst (rowsD ((R, SS) :: rest))]) := ix_cell (xs := rowsD ((R, SS) :: rest)) (by simp) (by decide) rfl
  have hd2 : s2[d]? = some (.dic true kvs) := by rw [← hs2, List.append_assoc, List.getElem?_append_left hdl]; exact hd
  have hl2 : s2.length = s.length + 2 := by rw [← hs2]; simp
  have hd3 : (s2 ++ [Cell.lst (rowsD ((R, SS) :: rest))])[d]? = some (.dic true kvs) := by rw [List.getElem?_append_left (by omega)]; exact hd2
  have hset : setXD C.kt (.ref d) (key i j) (val R SS) (s2 ++ [Cell.lst (rowsD ((R, SS) :: rest))]) = some ((s2 ++ [Cell.lst (rowsD ((R, SS) :: rest))]).set d (.dic true (putD (key i j) (val R SS) kvs))) := by
    unfold setXD
    dsimp only
    rw [hd3]
    dsimp only
    rw [if_pos ⟨show okS kvs.length = true from decide_eq_true hk, key_ok i j, by rw [hkt]; exact key_kt i j⟩]
  refine ⟨some (.ref s.length), some (.int (R : Int)), e, (s2 ++ [Cell.lst (rowsD ((R, SS) :: rest))]).set d (.dic true (putD (key i j) (val R SS) kvs)), ?_, set_get hd3, by simp; omega, fun l hl hne => ?_⟩
  · rw [laEnd]
    rw [evSs_nx (ρ' := laEnv one two d i j (some (.ref s.length)) b (some (.int (R : Int))) e) (st' := s2) (by
      rw [evS, evE, evEs, lc1, bind_ok, evEs, bind_ok, bind_ok]
      simp only [biD]
      rw [hmin2]
      rfl)]
    rw [evSs_nx (ρ' := laEnv one two d i j (some (.ref s.length)) b (some (.int (R : Int))) e) (st' := (s2 ++ [Cell.lst (rowsD ((R, SS) :: rest))]).set d (.dic true (putD (key i j) (val R SS) kvs))) (by
      rw [evS, evE, lc2, bind_ok]
      have hset' := hset
      unfold key at hset'
      simp [evE, evEs, hix, okS, hset', key])]
    rw [evSs_nil]
  · rw [List.getElem?_set_ne (Ne.symm hne), List.getElem?_append_left (by omega), ← hs2, List.append_assoc, List.getElem?_append_left hl]
end K58

set_option linter.all false
set_option maxRecDepth 100000
set_option maxHeartbeats 1000000
namespace K58
open DL
theorem evSs_app {C : Ctx} : ∀ {a b : List S} {ρ ρ' : Env} {st st' : Store}, evSs C a ρ st = .nx ρ' st' → evSs C (a ++ b) ρ st = evSs C b ρ' st'
  | [], b, ρ, ρ', st, st', h => by rw [evSs_nil] at h; cases h; rfl
  | s :: a, b, ρ, ρ', st, st', h => by
    rw [List.cons_append, evSs]
    rw [evSs] at h
    cases e : evS C s ρ st with
    | nx ρ1 st1 =>
      rw [e, sb_nx] at h
      rw [sb_nx]
      exact evSs_app h
    | brk _ _ => rw [e] at h; cases h
    | cnt _ _ => rw [e] at h; cases h
    | ret _ _ => rw [e] at h; cases h
    | exc _ _ _ => rw [e] at h; cases h
    | bad => rw [e] at h; cases h
abbrev laEnv0 (one two : List Nat) (d : Nat) (x y a b c e : Option D) : Env := [some (.str one), some (.str two), some (.ref d), x, y, a, b, c, e]
theorem law_all {k : Nat} {st : Store} {one two : List Nat} (h1 : one.length ≤ 100) (h2 : two.length ≤ 100) : cl (k + 1) 13 [.str one, .str two] st = .ok (val (Rd one two) (Sc one two)) st := by
  have l1 : ∀ s, lenD [.str one] s = some (.int one.length, s) := fun _ => rfl
  have l2 : ∀ s, lenD [.str two] s = some (.int two.length, s) := fun _ => rfl
  let C : Ctx := ⟨xcs, kts, callF xcs kts fns k⟩
  generalize hdl : st.length = d
  have inner : ∀ (i ko : Nat) (y a b c e : Option D) (s : Store) (kvs : List (D × D)), i + ko = one.length → s[d]? = some (.dic true kvs) → kvs.length ≤ 101 * ko → Ex st s → (∀ p q, i < p → p ≤ one.length → q ≤ two.length → Right one two kvs p q) →
      ∃ ρ' s' kvs', forL (fun x ρ st => match putT (.var 4) x ρ with | some ρ => evSs C (laBody ++ laEnd) ρ st | none => .bad) none (rangeD two.length (two.length + 1)) (laEnv0 one two d (some (.int i)) y a b c e) s = .nx ρ' s' ∧ (∃ y a b c e, ρ' = laEnv0 one two d (some (.int i)) y a b c e) ∧ s'[d]? = some (.dic true kvs') ∧ kvs'.length ≤ 101 * (ko + 1) ∧ Ex st s' ∧ (∀ p q, i ≤ p → p ≤ one.length → q ≤ two.length → Right one two kvs' p q) := by
    intro i ko y a b c e s kvs hi hd hk ex hR
    obtain ⟨ρ', s', q, ⟨y', a', b', c', e', rfl⟩, kvs', hd', hk', ex', hA, hB⟩ := forL_nx (body := fun x ρ st => match putT (.var 4) x ρ with | some ρ => evSs C (laBody ++ laEnd) ρ st | none => .bad) (g := none) (items := rangeD two.length (two.length + 1))
      (fun k ρ s => (∃ y a b c e, ρ = laEnv0 one two d (some (.int i)) y a b c e) ∧ ∃ kvs, s[d]? = some (.dic true kvs) ∧ kvs.length ≤ 101 * ko + k ∧ Ex st s ∧ (∀ p q, i < p → p ≤ one.length → q ≤ two.length → Right one two kvs p q) ∧ ∀ q, q ≤ two.length → two.length < q + k → Right one two kvs i q)
      (fun _ _ _ _ => trivial) (fun k x ρ s hx ⟨⟨y, a, b, c, e, eρ⟩, kvs, hd, hk, ex, hA, hB⟩ => by
        obtain ⟨hk2, rfl⟩ := rangeD_get hx
        obtain ⟨j, hj⟩ : ∃ j : Nat, j + k = two.length := ⟨two.length - k, by omega⟩
        have ej : ((two.length : Int) - (k : Int)) = (j : Int) := by omega
        obtain ⟨b1, q1⟩ := la_body (C := C) (i := i) (j := j) (a := a) (b := b) (c := c) (e := e) (by omega) (by omega) h1 h2 hd (fun h => hA _ _ (by omega) h (by omega)) (fun h => hB _ h (by omega)) (fun h h' => hA _ _ (by omega) h h')
        obtain ⟨a2, c2, e2, s2, q2, hd2, hl2, hf2⟩ := la_end (C := C) (i := i) (j := j) (one := one) (two := two) (b := b1) (c := c) (e := e) rfl hd (by omega)
        refine ⟨_, s2, ?_, ⟨some (.int j), a2, b1, c2, e2, rfl⟩, _, hd2, ?_, ⟨Nat.le_trans ex.1 hl2, fun l h => by rw [hf2 l (Nat.lt_of_lt_of_le h ex.1) (by omega)]; exact ex.2 l h⟩, fun p q g1 g2 g3 => ?_, fun q g1 g2 => ?_⟩
        · rw [eρ, ej, putT]
          exact (evSs_app q1).trans q2
        · have := put_len (k := key i j) (v := val (Rd (one.drop i) (two.drop j)) (Sc (one.drop i) (two.drop j))) (kvs := kvs)
          omega
        · unfold Right
          rw [look_put, key_same, if_neg (by simp; omega)]
          exact hA p q g1 g2 g3
        · unfold Right
          rw [look_put, key_same]
          by_cases hq : j = q
          · subst hq
            rw [if_pos (by simp)]
          · rw [if_neg (by simp [hq])]
            exact hB q g1 (by omega)) (ρ := laEnv0 one two d (some (.int i)) y a b c e) (st := s) ⟨⟨y, a, b, c, e, rfl⟩, kvs, hd, by omega, ex, hR, fun q g1 g2 => by omega⟩
    have hn : (rangeD two.length (two.length + 1)).length = two.length + 1 := by simp [rangeD]
    rw [hn] at hk' hB
    refine ⟨_, s', kvs', q, ⟨y', a', b', c', e', rfl⟩, hd', by omega, ex', fun p q g1 g2 g3 => ?_⟩
    by_cases h : p = i
    · rw [h]; exact hB q g3 (by omega)
    · exact hA p q (by omega) g2 g3
  obtain ⟨ρ', s', e, ⟨x', y', a', b', c', e', rfl⟩, kvs, hd, hk, ex, hR⟩ := forL_nx (body := fun x ρ st => match putT (.var 3) x ρ with | some ρ => evSs C [.for (.var 4) (.rng [(.bi .len [(.var 1)]), (.neg (.cst (.int (1)))), (.neg (.cst (.int (1))))]) (laBody ++ laEnd)] ρ st | none => .bad) (g := none) (items := rangeD one.length (one.length + 1))
      (fun k ρ s => (∃ x y a b c e, ρ = laEnv0 one two d x y a b c e) ∧ ∃ kvs, s[d]? = some (.dic true kvs) ∧ kvs.length ≤ 101 * k ∧ Ex st s ∧ ∀ p q, p ≤ one.length → one.length < p + k → q ≤ two.length → Right one two kvs p q)
      (fun _ _ _ _ => trivial) (fun k x ρ s hx ⟨⟨x0, y, a, b, c, e, eρ⟩, kvs, hd, hk, ex, hA⟩ => by
        obtain ⟨hk2, rfl⟩ := rangeD_get hx
        obtain ⟨i, hi⟩ : ∃ i : Nat, i + k = one.length := ⟨one.length - k, by omega⟩
        have ei : ((one.length : Int) - (k : Int)) = (i : Int) := by omega
        obtain ⟨ρ2, s', kvs', q, ⟨y', a', b', c', e', rfl⟩, hd', hk', ex', hR'⟩ := inner i k y a b c e s kvs hi hd hk ex (fun p q g1 g2 g3 => hA p q g2 (by omega) g3)
        refine ⟨_, s', ?_, ⟨some (.int i), y', a', b', c', e', rfl⟩, kvs', hd', hk', ex', fun p q g1 g2 g3 => hR' p q (by omega) g1 g3⟩
        rw [eρ, ei, putT]
        have a1 : evEs C (laEnv0 one two d (some (.int i)) y a b c e) [(.bi .len [(.var 1)]), (.neg (.cst (.int (1)))), (.neg (.cst (.int (1))))] s = .ok [.int (two.length : Int), .int (-1), .int (-1)] s := by simp [evEs, evE, l2]
        have hsrc : evI C (laEnv0 one two d (some (.int i)) y a b c e) (.rng [(.bi .len [(.var 1)]), (.neg (.cst (.int (1)))), (.neg (.cst (.int (1))))]) s = .ok (rangeD two.length (two.length + 1), none) s := by
          rw [evI_rng, a1, bind_ok, rngD3 (by omega)]
          rfl
        show evSs C _ (laEnv0 one two d (some (.int i)) y a b c e) s = _
        rw [evSs_nx (ρ' := laEnv0 one two d (some (.int i)) y' a' b' c' e') (st' := s'), evSs_nil]
        rw [evS, hsrc, of_ok]
        exact q) (ρ := laEnv0 one two d none none none none none none) (st := st ++ [.dic true []]) ⟨⟨none, none, none, none, none, none, rfl⟩, [], by rw [← hdl]; simp, by simp, Ex.app, fun p q g1 g2 g3 => by omega⟩
  have hn : (rangeD one.length (one.length + 1)).length = one.length + 1 := by simp [rangeD]
  rw [hn] at hR
  have hix : ixD (.ref d) (.tup [.int 0, .int 0]) s' = some (val (Rd one two) (Sc one two), s') := by
    have := hR 0 0 (Nat.zero_le _) (by omega) (Nat.zero_le _)
    unfold Right at this
    rw [List.drop_zero, List.drop_zero] at this
    exact dix hd (key_ok 0 0) this
  rw [cl, call_ret (fn := f__law_all) (d := val (Rd one two) (Sc one two)) (st' := s') rfl rfl, settle_ex ex (by
    intro x hx
    rw [List.mem_singleton] at hx
    subst hx
    rw [val, wfD, wfDs, wfDs, wfDs, wfD, wfD, names_wf] <;> simp)]
  have a1 : evEs C (laEnv0 one two d none none none none none none) [(.bi .len [(.var 0)]), (.neg (.cst (.int (1)))), (.neg (.cst (.int (1))))] (st ++ [.dic true []]) = .ok [.int (one.length : Int), .int (-1), .int (-1)] (st ++ [.dic true []]) := by simp [evEs, evE, l1]
  have hsrc : evI C (laEnv0 one two d none none none none none none) (.rng [(.bi .len [(.var 0)]), (.neg (.cst (.int (1)))), (.neg (.cst (.int (1))))]) (st ++ [.dic true []]) = .ok (rangeD one.length (one.length + 1), none) (st ++ [.dic true []]) := by
    rw [evI_rng, a1, bind_ok, rngD3 (by omega)]
    rfl
  rw [f__law_all]
  show evSs C _ [some (.str one), some (.str two), none, none, none, none, none, none, none] st = _
  rw [evSs_nx (ρ' := laEnv0 one two d none none none none none none) (st' := st ++ [.dic true []]) (by rw [evS, evE, ← hdl]; rfl)]
  rw [evSs_nx (ρ' := laEnv0 one two d x' y' a' b' c' e') (st' := s') (by rw [evS, hsrc, of_ok]; exact e)]
  exact evSs_ret (by simp [evS, evE, evEs, okS, hix])
end K58

set_option linter.all false
set_option maxRecDepth 100000
set_option maxHeartbeats 1000000
namespace K58
open DL
def oD : Option Stp → D
  | some t => .str t.str
  | none => .non
def form : D := .tup [.str [102, 111, 114, 109]]
def stepN (k : Nat) : D := .tup [.str [115, 116, 101, 112], .int (k : Int)]
def endD : D := .tup [.str [101, 110, 100]]
def fgo (one two : List Nat) : Nat → Nat → Nat → List Stp → D
  | i, j, _, [] => if i = one.length ∧ j = two.length then .non else endD
  | i, j, k, s :: r => match stepC one two i j s with
    | none => stepN k
    | some _ => fgo one two (i + mo s) (j + ot s) (k + 1) r
def fault (one two : List Nat) (xs : List (Option Stp)) : D := if xs.all (·.isSome) = true then fgo one two 0 0 0 (xs.filterMap id) else form
theorem names_oD : ∀ {xs : List (Option Stp)}, xs.all (·.isSome) = true → xs.map oD = names (xs.filterMap id)
  | [], _ => rfl
  | some x :: xs, h => by
    rw [List.all_cons, Bool.and_eq_true] at h
    rw [List.map_cons, names_oD h.2]
    rfl
  | none :: xs, h => by simp at h
theorem in_steps {st : Store} (s : Stp) : inD (.str s.str) c_STEPS st = some true := by cases s <;> rfl
theorem names_get {ss : List Stp} {i : Nat} {x : D} (h : (names ss)[i]? = some x) : ∃ t, ss[i]? = some t ∧ x = .str t.str := by
  rw [names, List.getElem?_map] at h
  cases e : ss[i]? with
  | none => rw [e] at h; cases h
  | some t => rw [e] at h; cases h; exact ⟨t, rfl, rfl⟩
theorem enumL_get : ∀ (ds : List D) (k i : Nat), (enumL k ds)[i]? = (ds[i]?).map fun d => D.tup [.int ((k + i : Nat) : Int), d]
  | [], k, i => by simp [enumL]
  | d :: ds, k, 0 => by simp [enumL]
  | d :: ds, k, i + 1 => by
    rw [enumL, List.getElem?_cons_succ, List.getElem?_cons_succ, enumL_get ds (k + 1) i]
    rw [show k + 1 + i = k + (i + 1) by omega]
theorem drop_succ {ss : List Stp} {i : Nat} {t : Stp} (h : ss[i]? = some t) : ss.drop i = t :: ss.drop (i + 1) := by
  obtain ⟨hl, e⟩ := List.getElem?_eq_some_iff.mp h
  rw [List.drop_eq_getElem_cons hl, e]
abbrev sfEnv (one two : List Nat) (v : D) (i j : Nat) (a b c d : Option D) : Env := [some (.str one), some (.str two), some v, a, some (.int (i : Int)), some (.int (j : Int)), b, c, d]
def sfBody : List S := [
    .ifs (.cmp .is (.call 5 [(.var 0), (.var 1), (.var 4), (.var 5), (.var 3)]) (.cst (.non))) [
      .ret (.tup [(.cst (.str [115, 116, 101, 112])), (.var 6)])] [],
    .setT (.tup [.var 7, .var 8]) (.call 4 [(.var 3)]),
    .setT (.tup [.var 4, .var 5]) (.tup [(.bin .add (.var 4) (.var 7)), (.bin .add (.var 5) (.var 8))])]
theorem sf_body {k : Nat} {s : Store} {one two : List Nat} {v : D} {i j n : Nat} {c d : Option D} (t : Stp) (hi : i ≤ one.length) (hj : j ≤ two.length) :
    evSs ⟨xcs, kts, callF xcs kts fns (k + 2)⟩ sfBody (sfEnv one two v i j (some (.str t.str)) (some (.int (n : Int))) c d) s = match stepC one two i j t with
      | none => .ret (stepN n) s
      | some _ => .nx (sfEnv one two v (i + mo t) (j + ot t) (some (.str t.str)) (some (.int (n : Int))) (some (.int (mo t))) (some (.int (ot t)))) s := by
  have hm : callF xcs kts fns (k + 2) 4 [.str t.str] s = .ok (.tup [.int (mo t), .int (ot t)]) s := moved t
  have hc : callF xcs kts fns (k + 2) 5 [.str one, .str two, .int i, .int j, .str t.str] s = .ok (optD (stepC one two i j t)) s := step_cost t hi hj
  cases e : stepC one two i j t with
  | none =>
    rw [e] at hc
    simp [sfBody, evSs, evS, evT, evE, evEs, hm, hc, putT, putTs, truD, isNon, optD, okS, stepN]
  | some cc =>
    rw [e] at hc
    simp [sfBody, evSs, evS, evT, evE, evEs, hm, hc, putT, putTs, truD, isNon, optD, okS, addD, sfEnv]
theorem isSome_lc {C : Ctx} {ρ : Env} {st : Store} {xs : List (Option Stp)} (hl : xs.length ≤ 1000000) (h2 : ρ[2]? = some (some (.tup (xs.map oD)))) (h3 : 3 < ρ.length) : evE C ρ (.lc (.and [(.isi (.var 3) .str), (.cmp .isin (.var 3) (.cst c_STEPS))]) (.var 3) (.var 2) [] [("name", 3)]) st = .ok (.ref st.length) (st ++ [.lst (xs.map fun o => .bl o.isSome)]) := by
  have := lc_ev (C := C) (ρ := ρ) (elt := .and [(.isi (.var 3) .str), (.cmp .isin (.var 3) (.cst c_STEPS))]) (tg := .var 3) (ifs := []) (own := [("name", 3)]) (st := st) (src_tup (i := 2) h2) (by simpa using hl)
    (lcL_pure (f := fun x => match x with | .str _ => some (.bl true) | _ => some (.bl false)) (fun x hx => by
      rw [List.mem_map] at hx
      obtain ⟨o, _, rfl⟩ := hx
      cases o with
      | none => simp [lcS, putT, wipeE, evIfs, evE, evAnd, oD, isiD, h3]
      | some t => simp [lcS, putT, wipeE, evIfs, evE, evAnd, oD, isiD, h3, tyb, in_steps]))
  rw [this]
  congr 3
  clear h2 this hl
  induction xs with
  | nil => rfl
  | cons o xs ih =>
    rw [List.map_cons, List.filterMap_cons, List.map_cons]
    cases o with
    | none => simpa [oD] using ih
    | some t => simpa [oD] using ih
theorem bools_some (xs : List (Option Stp)) : bools? (xs.map fun o => D.bl o.isSome) = some (xs.map (·.isSome)) := by
  induction xs with
  | nil => rfl
  | cons x xs ih => rw [List.map_cons, bools?, ih]; rfl
theorem eq_pair {st : Store} {a b c d : Int} : eqD st (.tup [.int a, .int b]) (.tup [.int c, .int d]) = some (a == c && (b == d)) := by
  have h : eqD st (.tup [.int a, .int b]) (.tup [.int c, .int d]) = some (a == c && (b == d && true)) := rfl
  rw [h, Bool.and_true]
theorem fgo_wf (one two : List Nat) (n : Nat) : ∀ (ss : List Stp) (i j k : Nat), wfD n (fgo one two i j k ss) = true
  | [], i, j, k => by
    rw [fgo]
    split
    · rw [wfD] <;> simp
    · rw [endD, wfD, wfDs, wfDs, wfD] <;> simp
  | s :: r, i, j, k => by
    rw [fgo]
    split
    · rw [stepN, wfD, wfDs, wfDs, wfDs, wfD, wfD] <;> simp
    · exact fgo_wf one two n r _ _ _
theorem fault_wf (one two : List Nat) (n : Nat) (xs : List (Option Stp)) : wfD n (fault one two xs) = true := by
  unfold fault
  split
  · exact fgo_wf _ _ _ _ _ _ _
  · rw [form, wfD, wfDs, wfDs, wfD] <;> simp
theorem script_fault {k : Nat} {st : Store} {one two : List Nat} {xs : List (Option Stp)} (w1 : Word one) (w2 : Word two) (hl : xs.length ≤ 1000) : cl (k + 3) 7 [.str one, .str two, .tup (xs.map oD)] st = .ok (fault one two xs) st := by
  have k1 : callF xcs kts fns (k + 2) 1 [.str one] st = .ok .non st := look_ok w1
  have k2 : callF xcs kts fns (k + 2) 1 [.str two] st = .ok .non st := look_ok w2
  have eA : allD [.ref st.length] (st ++ [.lst (xs.map fun o => .bl o.isSome)]) = some (.bl (xs.all (·.isSome)), st ++ [.lst (xs.map fun o => .bl o.isSome)]) := by
    simp [allD, bools_some]
  have l1 : ∀ s, lenD [.str one] s = some (.int one.length, s) := fun _ => rfl
  have l2 : ∀ s, lenD [.str two] s = some (.int two.length, s) := fun _ => rfl
  have lcE : ∀ C : Ctx, evE C [some (.str one), some (.str two), some (.tup (xs.map oD)), none, none, none, none, none, none] (.lc (.and [(.isi (.var 3) .str), (.cmp .isin (.var 3) (.cst c_STEPS))]) (.var 3) (.var 2) [] [("name", 3)]) st = .ok (.ref st.length) (st ++ [.lst (xs.map fun o => .bl o.isSome)]) := fun C => isSome_lc (by omega) rfl (by simp)
  let C : Ctx := ⟨xcs, kts, callF xcs kts fns (k + 2)⟩
  rw [cl, call_ret (fn := f_script_fault) (d := fault one two xs) (st' := st ++ [.lst (xs.map fun o => .bl o.isSome)]) rfl rfl, settle_app (by intro d hd; rw [List.mem_singleton] at hd; subst hd; exact fault_wf _ _ _ _)]
  rw [f_script_fault]
  show evSs C _ [some (.str one), some (.str two), some (.tup (xs.map oD)), none, none, none, none, none, none] st = _
  rw [evSs_nx (ρ' := [some (.str one), some (.str two), some (.tup (xs.map oD)), none, none, none, none, none, none]) (st' := st) (by simp [evS, evE, evEs, C, k1])]
  rw [evSs_nx (ρ' := [some (.str one), some (.str two), some (.tup (xs.map oD)), none, none, none, none, none, none]) (st' := st) (by simp [evS, evE, evEs, C, k2])]
  cases hall : xs.all (·.isSome) with
  | false =>
    rw [hall] at eA
    have hF : fault one two xs = form := by unfold fault; rw [hall]; rfl
    rw [hF]
    exact evSs_ret (by simp [evS, evSs, evT, evE, evEs, evOr, isiD, tyb, ↓lcE, eA, truD, okS, form])
  | true =>
    rw [hall] at eA
    have hF : fault one two xs = fgo one two 0 0 0 (xs.filterMap id) := by unfold fault; rw [hall]; rfl
    have hN := names_oD hall
    rw [hF]
    rw [evSs_nx (ρ' := [some (.str one), some (.str two), some (.tup (xs.map oD)), none, none, none, none, none, none]) (st' := st ++ [.lst (xs.map fun o => .bl o.isSome)]) (by simp [evS, evSs, evT, evE, evEs, evOr, isiD, tyb, ↓lcE, eA, truD])]
    generalize hst : st ++ [.lst (xs.map fun o => .bl o.isSome)] = st1
    rw [hN]
    generalize hss : xs.filterMap id = ss
    rw [evSs_nx (ρ' := sfEnv one two (.tup (names ss)) 0 0 none none none none) (st' := st1) (by simp [evS, evE, evEs, okS, putT, putTs])]
    have fin := forL_inv (body := fun x ρ st => match putT (.tup [.var 6, .var 3]) x ρ with | some ρ => evSs C sfBody ρ st | none => .bad) (g := none) (items := enumL 0 (names ss))
      (fun n ρ s => s = st1 ∧ ∃ i j a b c d, ρ = sfEnv one two (.tup (names ss)) i j a b c d ∧ i ≤ one.length ∧ j ≤ two.length ∧ fgo one two 0 0 0 ss = fgo one two i j n (ss.drop n))
      (fun res => (∃ i j a b c d, res = .nx (sfEnv one two (.tup (names ss)) i j a b c d) st1 ∧ fgo one two 0 0 0 ss = if i = one.length ∧ j = two.length then .non else endD) ∨ res = .ret (fgo one two 0 0 0 ss) st1)
      (fun _ _ _ _ => trivial) (fun ρ s ⟨e0, i, j, a, b, c, d, e, hi, hj, hg⟩ => by
        left
        refine ⟨i, j, a, b, c, d, by rw [e0, e], ?_⟩
        have hlen : ∀ (ds : List D) (k : Nat), (enumL k ds).length = ds.length := by
          intro ds
          induction ds with
          | nil => intro k; rfl
          | cons d ds ih => intro k; rw [enumL, List.length_cons, ih, List.length_cons]
        rw [hg, List.drop_of_length_le (by rw [hlen, names, List.length_map]; omega), fgo]) (fun n x ρ s hx ⟨e0, i, j, a, b, c, d, e, hi, hj, hg⟩ => by
        rw [enumL_get] at hx
        obtain ⟨y, hy, rfl⟩ : ∃ y, (names ss)[n]? = some y ∧ x = .tup [.int ((0 + n : Nat) : Int), y] := by
          cases q : (names ss)[n]? with
          | none => rw [q] at hx; cases hx
          | some y => rw [q] at hx; cases hx; exact ⟨y, rfl, rfl⟩
        obtain ⟨t, ht, rfl⟩ := names_get hy
        have hp : putT (.tup [.var 6, .var 3]) (.tup [.int ((0 + n : Nat) : Int), .str t.str]) (sfEnv one two (.tup (names ss)) i j a b c d) = some (sfEnv one two (.tup (names ss)) i j (some (.str t.str)) (some (.int (n : Int))) c d) := by
          simp [putT, putTs]
        have hb := sf_body (k := k) (s := st1) (v := .tup (names ss)) (n := n) (c := c) (d := d) t hi hj
        rw [drop_succ ht, fgo] at hg
        cases es : stepC one two i j t with
        | none =>
          rw [es] at hb hg
          right; right; left
          refine ⟨stepN n, st1, ?_, .inr (by rw [hg])⟩
          rw [e, e0, hp]
          exact hb
        | some cc =>
          rw [es] at hb hg
          obtain ⟨b1, b2⟩ := step_bound es hi hj
          left
          refine ⟨sfEnv one two (.tup (names ss)) (i + mo t) (j + ot t) (some (.str t.str)) (some (.int (n : Int))) (some (.int (mo t))) (some (.int (ot t))), st1, .inl ?_, rfl, i + mo t, j + ot t, _, _, _, _, rfl, b1, b2, hg⟩
          rw [e, e0, hp]
          exact hb) (sfEnv one two (.tup (names ss)) 0 0 none none none none) st1 ⟨rfl, 0, 0, none, none, none, none, rfl, Nat.zero_le _, Nat.zero_le _, rfl⟩
    have hsrc : evI C (sfEnv one two (.tup (names ss)) 0 0 none none none none) (.enum (.var 2)) st1 = .ok (enumL 0 (names ss), none) st1 := by
      rw [evI, evE]; rfl
    rcases fin with ⟨i, j, a, b, c, d, e, hg⟩ | e
    · rw [evSs_nx (ρ' := sfEnv one two (.tup (names ss)) i j a b c d) (st' := st1) (by rw [evS, hsrc, of_ok]; exact e)]
      rw [hg]
      have hq : eqD st1 (.tup [.int (i : Int), .int (j : Int)]) (.tup [.int (one.length : Int), .int (two.length : Int)]) = some (decide (i = one.length ∧ j = two.length)) := by
        have e1 : ((i : Int) == (one.length : Int)) = decide (i = one.length) := by
          rw [Bool.eq_iff_iff]; simp; omega
        have e2 : ((j : Int) == (two.length : Int)) = decide (j = two.length) := by
          rw [Bool.eq_iff_iff]; simp; omega
        rw [eq_pair, e1, e2]
        by_cases a : i = one.length <;> by_cases b : j = two.length <;> simp [a, b]
      by_cases h : i = one.length ∧ j = two.length
      · rw [decide_eq_true h] at hq
        rw [if_pos h]
        exact evSs_ret (by simp [evS, evE, evEs, l1, l2, okS, hq, truD])
      · rw [decide_eq_false h] at hq
        rw [if_neg h]
        exact evSs_ret (by simp [evS, evE, evEs, l1, l2, okS, hq, truD, endD])
    · exact evSs_ret (by rw [evS, hsrc, of_ok]; exact e)
end K58

set_option linter.all false
set_option maxRecDepth 100000
set_option maxHeartbeats 1000000
namespace K58
open DL
abbrev lfEnv (one two : List Nat) (v : D) (i j : Nat) (a b : Option D) : Env := [some (.str one), some (.str two), some v, a, some (.int (i : Int)), some (.int (j : Int)), b]
def lfBody : List S := [
    .set 3 (.ix (.var 2) (.var 6)),
    .ifs (.or [(.and [(.cmp .ne (.var 3) (.cst (.str [112, 117, 116]))), (.cmp .ge (.var 4) (.bi .len [(.var 0)]))]), (.and [(.cmp .ne (.var 3) (.cst (.str [108, 101, 97, 118, 101]))), (.cmp .ge (.var 5) (.bi .len [(.var 1)]))])]) [
      .ret (.tup [(.cst (.str [115, 116, 101, 112])), (.var 6)])] [],
    .ifs (.and [(.cmp .isin (.var 3) (.tup [(.cst (.str [107, 101, 101, 112])), (.cst (.str [99, 104, 97, 110, 103, 101]))])), (.cmp .ne (.cmp .eq (.ix (.var 0) (.var 4)) (.ix (.var 1) (.var 5))) (.cmp .eq (.var 3) (.cst (.str [107, 101, 101, 112]))))]) [
      .ret (.tup [(.cst (.str [115, 116, 101, 112])), (.var 6)])] [],
    .setT (.tup [.var 4, .var 5]) (.tup [(.bin .add (.var 4) (.bi .int [(.cmp .ne (.var 3) (.cst (.str [112, 117, 116])))])), (.bin .add (.var 5) (.bi .int [(.cmp .ne (.var 3) (.cst (.str [108, 101, 97, 118, 101])))]))])]
theorem lf_body {C : Ctx} {s : Store} {one two : List Nat} {ss : List Stp} {i j n : Nat} {a : Option D} {t : Stp} (hi : i ≤ one.length) (hj : j ≤ two.length) (ht : ss[n]? = some t) :
    evSs C lfBody (lfEnv one two (.tup (names ss)) i j a (some (.int (n : Int)))) s = match stepC one two i j t with
      | none => .ret (stepN n) s
      | some _ => .nx (lfEnv one two (.tup (names ss)) (i + mo t) (j + ot t) (some (.str t.str)) (some (.int (n : Int)))) s := by
  have l1 : ∀ s, lenD [.str one] s = some (.int one.length, s) := fun _ => rfl
  have l2 : ∀ s, lenD [.str two] s = some (.int two.length, s) := fun _ => rfl
  have hix : ixD (.tup (names ss)) (.int (n : Int)) s = some (.str t.str, s) := by
    unfold ixD
    dsimp only
    unfold atD
    rw [if_pos (by omega), Int.toNat_natCast, names, List.getElem?_map, ht]
    rfl
  have kc := in_kc (st := s) t
  cases t with
  | keep =>
    by_cases h1 : i < one.length
    · by_cases h2 : j < two.length
      · have e1 := ix_str (st := s) (List.getElem?_eq_getElem h1)
        have e2 := ix_str (st := s) (List.getElem?_eq_getElem h2)
        have g1 : ¬ one.length ≤ i := by omega
        have g2 : ¬ two.length ≤ j := by omega
        by_cases e : one[i] = two[j]
        · simp [lfBody, evSs, evS, evT, evE, evEs, evOr, evAnd, hix, putT, putTs, addD, mo, ot, l1, l2, leD, truD, kc, e1, e2, eq_str, eq_bl, sk, sc, sl, sp, intD, stepC, h1, h2, g1, g2, e, okS, stepN, lfEnv]
        · simp [lfBody, evSs, evS, evT, evE, evEs, evOr, evAnd, hix, putT, putTs, addD, mo, ot, l1, l2, leD, truD, kc, e1, e2, eq_str, eq_bl, sk, sc, sl, sp, intD, stepC, h1, h2, g1, g2, e, okS, stepN, lfEnv]
      · have g1 : ¬ one.length ≤ i := by omega
        have g2 : two.length ≤ j := by omega
        simp [lfBody, evSs, evS, evT, evE, evEs, evOr, evAnd, hix, l1, l2, leD, truD, eq_str, sk, sc, sl, sp, stepC, h1, h2, g1, g2, okS, stepN]
    · have g1 : one.length ≤ i := by omega
      simp [lfBody, evSs, evS, evT, evE, evEs, evOr, evAnd, hix, l1, l2, leD, truD, eq_str, sk, sc, sl, sp, stepC, h1, g1, okS, stepN]
  | change =>
    by_cases h1 : i < one.length
    · by_cases h2 : j < two.length
      · have e1 := ix_str (st := s) (List.getElem?_eq_getElem h1)
        have e2 := ix_str (st := s) (List.getElem?_eq_getElem h2)
        have g1 : ¬ one.length ≤ i := by omega
        have g2 : ¬ two.length ≤ j := by omega
        by_cases e : one[i] = two[j]
        · simp [lfBody, evSs, evS, evT, evE, evEs, evOr, evAnd, hix, putT, putTs, addD, mo, ot, l1, l2, leD, truD, kc, e1, e2, eq_str, eq_bl, sk, sc, sl, sp, intD, stepC, h1, h2, g1, g2, e, okS, stepN, lfEnv]
        · simp [lfBody, evSs, evS, evT, evE, evEs, evOr, evAnd, hix, putT, putTs, addD, mo, ot, l1, l2, leD, truD, kc, e1, e2, eq_str, eq_bl, sk, sc, sl, sp, intD, stepC, h1, h2, g1, g2, e, okS, stepN, lfEnv]
      · have g1 : ¬ one.length ≤ i := by omega
        have g2 : two.length ≤ j := by omega
        simp [lfBody, evSs, evS, evT, evE, evEs, evOr, evAnd, hix, l1, l2, leD, truD, eq_str, sk, sc, sl, sp, stepC, h1, h2, g1, g2, okS, stepN]
    · have g1 : one.length ≤ i := by omega
      simp [lfBody, evSs, evS, evT, evE, evEs, evOr, evAnd, hix, l1, l2, leD, truD, eq_str, sk, sc, sl, sp, stepC, h1, g1, okS, stepN]
  | leave =>
    by_cases h1 : i < one.length
    · have g1 : ¬ one.length ≤ i := by omega
      simp [lfBody, evSs, evS, evT, evE, evEs, evOr, evAnd, hix, putT, putTs, addD, mo, ot, l1, l2, leD, truD, kc, eq_str, sk, sc, sl, sp, intD, stepC, h1, g1, okS, lfEnv]
    · have g1 : one.length ≤ i := by omega
      simp [lfBody, evSs, evS, evT, evE, evEs, evOr, evAnd, hix, l1, l2, leD, truD, eq_str, sk, sc, sl, sp, stepC, h1, g1, okS, stepN]
  | put =>
    by_cases h2 : j < two.length
    · have g2 : ¬ two.length ≤ j := by omega
      simp [lfBody, evSs, evS, evT, evE, evEs, evOr, evAnd, hix, putT, putTs, addD, mo, ot, l1, l2, leD, truD, kc, eq_str, sk, sc, sl, sp, intD, stepC, h2, g2, okS, lfEnv]
    · have g2 : two.length ≤ j := by omega
      simp [lfBody, evSs, evS, evT, evE, evEs, evOr, evAnd, hix, l1, l2, leD, truD, eq_str, sk, sc, sl, sp, stepC, h2, g2, okS, stepN]
end K58

set_option linter.all false
set_option maxRecDepth 100000
set_option maxHeartbeats 1000000
namespace K58
open DL
theorem rsvs_non (n : Nat) : ∀ m : Nat, rsvs n (List.replicate m D.non) = some (List.replicate m .non)
  | 0 => rfl
  | m + 1 => by rw [List.replicate_succ, rsvs, rsvs_non n m]; rfl
theorem none_lc {C : Ctx} {ρ : Env} {st : Store} {xs : List (Option Stp)} (hl : xs.length ≤ 1000000) (h2 : ρ[2]? = some (some (.tup (xs.map oD)))) (h3 : 3 < ρ.length) : evE C ρ (.lc (.var 3) (.var 3) (.var 2) [(.or [(.not (.isi (.var 3) .str)), (.cmp .notin (.var 3) (.tup [(.cst (.str [107, 101, 101, 112])), (.cst (.str [99, 104, 97, 110, 103, 101])), (.cst (.str [108, 101, 97, 118, 101])), (.cst (.str [112, 117, 116]))]))])] [("name", 3)]) st = .ok (.ref st.length) (st ++ [.lst (List.replicate (xs.filter (!·.isSome)).length .non)]) := by
  have hin : ∀ t : Stp, inD (.str t.str) (.tup [.str [107, 101, 101, 112], .str [99, 104, 97, 110, 103, 101], .str [108, 101, 97, 118, 101], .str [112, 117, 116]]) st = some true := fun t => in_steps t
  have := lc_ev (C := C) (ρ := ρ) (elt := .var 3) (tg := .var 3) (ifs := [(.or [(.not (.isi (.var 3) .str)), (.cmp .notin (.var 3) (.tup [(.cst (.str [107, 101, 101, 112])), (.cst (.str [99, 104, 97, 110, 103, 101])), (.cst (.str [108, 101, 97, 118, 101])), (.cst (.str [112, 117, 116]))]))])]) (own := [("name", 3)]) (st := st) (src_tup (i := 2) h2) (by simpa using hl)
    (lcL_pure (f := fun x => match x with | .str _ => none | _ => some .non) (fun x hx => by
      rw [List.mem_map] at hx
      obtain ⟨o, _, rfl⟩ := hx
      cases o with
      | none => simp [lcS, putT, wipeE, evIfs, evE, evOr, oD, isiD, h3, truD]
      | some t => simp [lcS, putT, wipeE, evIfs, evE, evEs, evOr, oD, isiD, h3, tyb, okS, hin, truD]))
  rw [this]
  congr 3
  clear h2 this hl
  induction xs with
  | nil => rfl
  | cons o xs ih =>
    rw [List.map_cons, List.filterMap_cons]
    cases o with
    | none => 
      rw [List.filter_cons_of_pos (by simp), List.length_cons, List.replicate_succ]
      simpa [oD] using ih
    | some t =>
      rw [List.filter_cons_of_neg (by simp)]
      simpa [oD] using ih
theorem none_all (xs : List (Option Stp)) : ((xs.filter (!·.isSome)).length = 0) ↔ xs.all (·.isSome) = true := by
  rw [List.length_eq_zero_iff, List.filter_eq_nil_iff, List.all_eq_true]
  simp [Option.isSome_iff_ne_none]
theorem eq_none {st : Store} {a b m : Nat} (ha : st[a]? = some (.lst (List.replicate m .non))) (hb : st[b]? = some (.lst [])) : eqD st (.ref a) (.ref b) = some (decide (m = 0)) := by
  unfold eqD rsv1
  dsimp only
  rw [ha, hb]
  dsimp only
  rw [rsvs_non]
  cases m with
  | zero => rfl
  | succ m => rfl
theorem law_fault {k : Nat} {st : Store} {one two : List Nat} {xs : List (Option Stp)} (hl : xs.length ≤ 1000) : cl (k + 1) 14 [.str one, .str two, .tup (xs.map oD)] st = .ok (fault one two xs) st := by
  let C : Ctx := ⟨xcs, kts, callF xcs kts fns k⟩
  have l1 : ∀ s, lenD [.str one] s = some (.int one.length, s) := fun _ => rfl
  have l2 : ∀ s, lenD [.str two] s = some (.int two.length, s) := fun _ => rfl
  have lcE := none_lc (C := C) (ρ := [some (.str one), some (.str two), some (.tup (xs.map oD)), none, none, none, none]) (st := st) (xs := xs) (by omega) rfl (by simp)
  generalize hm : (xs.filter (!·.isSome)).length = m at lcE
  generalize hst : st ++ [.lst (List.replicate m .non)] ++ [.lst []] = st1
  have e1 : st1[st.length]? = some (.lst (List.replicate m .non)) := by rw [← hst]; simp
  have e2 : st1[st.length + 1]? = some (.lst []) := by rw [← hst]; simp
  have hE := eq_none e1 e2
  rw [cl, call_ret (fn := f__law_fault) (d := fault one two xs) (st' := st1) rfl rfl, ← hst, List.append_assoc, settle_app (by intro d hd; rw [List.mem_singleton] at hd; subst hd; exact fault_wf _ _ _ _)]
  rw [f__law_fault]
  show evSs C _ [some (.str one), some (.str two), some (.tup (xs.map oD)), none, none, none, none] st = _
  by_cases h0 : m = 0
  · have hall : xs.all (·.isSome) = true := (none_all xs).mp (by rw [hm]; exact h0)
    have hF : fault one two xs = fgo one two 0 0 0 (xs.filterMap id) := by unfold fault; rw [hall]; rfl
    have hN := names_oD hall
    rw [hF]
    rw [decide_eq_true h0] at hE
    rw [evSs_nx (ρ' := [some (.str one), some (.str two), some (.tup (xs.map oD)), none, none, none, none]) (st' := st1) (by simp [evS, evSs, evT, evE, evEs, evOr, isiD, tyb, ↓lcE, okS, newL, hst, hE, truD])]
    rw [hN]
    have hlen : (xs.filterMap id).length ≤ 1000 := Nat.le_trans (List.length_filterMap_le _ _) hl
    generalize hss : xs.filterMap id = ss at hlen
    rw [evSs_nx (ρ' := lfEnv one two (.tup (names ss)) 0 0 none none) (st' := st1) (by simp [evS, evE, evEs, okS, putT, putTs])]
    have fin := forL_inv (body := fun x ρ st => match putT (.var 6) x ρ with | some ρ => evSs C lfBody ρ st | none => .bad) (g := none) (items := rangeL 0 ss.length)
      (fun n ρ s => s = st1 ∧ ∃ i j a b, ρ = lfEnv one two (.tup (names ss)) i j a b ∧ i ≤ one.length ∧ j ≤ two.length ∧ fgo one two 0 0 0 ss = fgo one two i j n (ss.drop n))
      (fun res => (∃ i j a b, res = .nx (lfEnv one two (.tup (names ss)) i j a b) st1 ∧ fgo one two 0 0 0 ss = if i = one.length ∧ j = two.length then .non else endD) ∨ res = .ret (fgo one two 0 0 0 ss) st1)
      (fun _ _ _ _ => trivial) (fun ρ s ⟨e0, i, j, a, b, e, hi, hj, hg⟩ => by
        left
        refine ⟨i, j, a, b, by rw [e0, e], ?_⟩
        rw [hg, List.drop_of_length_le (by simp [rangeL]), fgo]) (fun n x ρ s hx ⟨e0, i, j, a, b, e, hi, hj, hg⟩ => by
        have hn : n < ss.length := by have := (List.getElem?_eq_some_iff.mp hx).1; simpa [rangeL] using this
        obtain rfl : x = .int (n : Int) := by
          unfold rangeL at hx
          rw [List.getElem?_map, List.getElem?_range hn] at hx
          cases hx
          simp
        have ht := List.getElem?_eq_getElem hn
        have hp : putT (.var 6) (.int (n : Int)) (lfEnv one two (.tup (names ss)) i j a b) = some (lfEnv one two (.tup (names ss)) i j a (some (.int (n : Int)))) := by
          rw [putT]; rfl
        have hb := lf_body (C := C) (s := st1) (n := n) (a := a) hi hj ht
        rw [drop_succ ht, fgo] at hg
        cases es : stepC one two i j ss[n] with
        | none =>
          rw [es] at hb hg
          right; right; left
          refine ⟨stepN n, st1, ?_, .inr (by rw [hg])⟩
          rw [e, e0, hp]
          exact hb
        | some cc =>
          rw [es] at hb hg
          obtain ⟨b1, b2⟩ := step_bound es hi hj
          left
          refine ⟨lfEnv one two (.tup (names ss)) (i + mo ss[n]) (j + ot ss[n]) (some (.str ss[n].str)) (some (.int (n : Int))), st1, .inl ?_, rfl, i + mo ss[n], j + ot ss[n], _, _, rfl, b1, b2, hg⟩
          rw [e, e0, hp]
          exact hb) (lfEnv one two (.tup (names ss)) 0 0 none none) st1 ⟨rfl, 0, 0, none, none, rfl, Nat.zero_le _, Nat.zero_le _, rfl⟩
    have hsrc : evI C (lfEnv one two (.tup (names ss)) 0 0 none none) (.rng [(.bi .len [(.var 2)])]) st1 = .ok (rangeL 0 ss.length, none) st1 := by
      have a1 : evEs C (lfEnv one two (.tup (names ss)) 0 0 none none) [(.bi .len [(.var 2)])] st1 = .ok [.int (ss.length : Int)] st1 := by simp [evEs, evE, lenD, itemsD, names]
      rw [evI_rng, a1, bind_ok, rng1 (s62 (by omega))]
      rfl
    rcases fin with ⟨i, j, a, b, e, hg⟩ | e
    · rw [evSs_nx (ρ' := lfEnv one two (.tup (names ss)) i j a b) (st' := st1) (by rw [evS, hsrc, of_ok]; exact e)]
      rw [hg]
      have q1 : eqD st1 (.int (i : Int)) (.int (one.length : Int)) = some (decide (i = one.length)) := by rw [eq_int]; congr 1; rw [decide_eq_decide]; omega
      have q2 : eqD st1 (.int (j : Int)) (.int (two.length : Int)) = some (decide (j = two.length)) := by rw [eq_int]; congr 1; rw [decide_eq_decide]; omega
      by_cases a : i = one.length
      · by_cases b : j = two.length
        · rw [if_pos ⟨a, b⟩]
          rw [decide_eq_true a] at q1
          rw [decide_eq_true b] at q2
          exact evSs_ret (by simp [evS, evE, evEs, evAnd, l1, l2, okS, q1, q2, truD])
        · rw [if_neg (fun z => b z.2)]
          rw [decide_eq_true a] at q1
          rw [decide_eq_false b] at q2
          exact evSs_ret (by simp [evS, evE, evEs, evAnd, l1, l2, okS, q1, q2, truD, endD])
      · rw [if_neg (fun z => a z.1)]
        rw [decide_eq_false a] at q1
        exact evSs_ret (by simp [evS, evE, evEs, evAnd, l1, l2, okS, q1, truD, endD])
    · exact evSs_ret (by rw [evS, hsrc, of_ok]; exact e)
  · have hall : xs.all (·.isSome) ≠ true := fun z => h0 (by rw [← hm]; exact (none_all xs).mpr z)
    have hF : fault one two xs = form := by unfold fault; rw [if_neg hall]
    rw [hF]
    rw [decide_eq_false h0] at hE
    exact evSs_ret (by simp [evS, evSs, evT, evE, evEs, evOr, isiD, tyb, ↓lcE, okS, newL, hst, hE, truD, form])
end K58

set_option linter.all false
set_option maxRecDepth 100000
set_option maxHeartbeats 1000000
namespace K58
open DL
theorem sc_ge : ∀ (xs ys : List Nat), xs.length ≤ (Sc xs ys).length
  | [], ys => Nat.zero_le _
  | x :: xs, [] => by rw [Sc]; have := sc_ge xs []; simp only [List.length_cons] at *; omega
  | x :: xs, y :: ys => by
    rw [Sc]
    have h1 := sc_ge xs ys
    have h2 := sc_ge xs (y :: ys)
    have h3 := sc_ge (x :: xs) ys
    simp only [List.length_cons] at *
    split
    · simp only [List.length_cons]; omega
    · split <;> (simp only [List.length_cons]; omega)
termination_by xs ys => xs.length + ys.length
theorem script_fault_ref {k : Nat} {st : Store} {one two : List Nat} {l : Nat} {ys : List D} (w1 : Word one) (w2 : Word two) (h : st[l]? = some (.lst ys)) : cl (k + 3) 7 [.str one, .str two, .ref l] st = .ok form st := by
  have k1 : callF xcs kts fns (k + 2) 1 [.str one] st = .ok .non st := look_ok w1
  have k2 : callF xcs kts fns (k + 2) 1 [.str two] st = .ok .non st := look_ok w2
  have hi : isiD (.ref l) .tuple st = some false := by unfold isiD; dsimp only; rw [h]; rfl
  rw [cl, call_ret (fn := f_script_fault) (d := form) (st' := st) rfl rfl, settle_same rfl]
  simp [f_script_fault, evSs, evS, evT, evE, evEs, evOr, k1, k2, hi, truD, okS, form]
theorem law_fault_ref {k : Nat} {st : Store} {one two : List Nat} {l : Nat} {ys : List D} (h : st[l]? = some (.lst ys)) : cl (k + 1) 14 [.str one, .str two, .ref l] st = .ok form st := by
  have hi : isiD (.ref l) .tuple st = some false := by unfold isiD; dsimp only; rw [h]; rfl
  rw [cl, call_ret (fn := f__law_fault) (d := form) (st' := st) rfl rfl, settle_same rfl]
  simp [f__law_fault, evSs, evS, evT, evE, evEs, evOr, hi, truD, okS, form]
theorem fault_pdn (one two : List Nat) (xs : List (Option Stp)) : pdn 1 (fault one two xs) = true := by
  have hg : ∀ (ss : List Stp) (i j k : Nat), pdn 1 (fgo one two i j k ss) = true := by
    intro ss
    induction ss with
    | nil => intro i j k; rw [fgo]; split <;> rfl
    | cons s r ih => intro i j k; rw [fgo]; split; rfl; exact ih _ _ _
  unfold fault
  split
  · exact hg _ _ _ _
  · rfl
theorem names_pdn (ss : List Stp) (h : ss.length ≤ 1000000) : pdn 1 (.tup (names ss)) = true := by
  simp only [pdn, Bool.and_eq_true, decide_eq_true_eq, List.all_eq_true]
  refine ⟨by rw [names, List.length_map]; exact h, fun x hx => ?_⟩
  rw [names, List.mem_map] at hx
  obtain ⟨t, _, rfl⟩ := hx
  rfl
/-- draws -/
theorem law_draws {k : Nat} {ns : List Int} (h : ns.length ≤ 63) : cl (k + 1) 8 [.fl ns] [] = .ok (.ref 1) [.lst (ns.map .int), dcell 0 0 0 1] := by
  rw [cl, call_ret (fn := f__law_draws) (d := .ref 1) (st' := [.lst (ns.map .int), dcell 0 0 0 1]) rfl rfl, settle_ref (by simp)]
  simp [f__law_draws, evSs, evS, evE, evEs, listD, newL, okS, dcell]
theorem draws_dr {ns : List Int} (h : ns.length ≤ 63) : Dr ns [.lst (ns.map .int), dcell 0 0 0 1] := ⟨rfl, ⟨0, 0, 1, rfl, by omega, by omega, by omega, by omega⟩, h⟩
end K58

set_option linter.all false
set_option maxRecDepth 100000
set_option maxHeartbeats 1000000
namespace K58
open DL
def word : D := .str [119, 111, 114, 100]
theorem script_of_bad {k : Nat} {st : Store} {d e : D} (h : cl (k + 1) 0 [d] st = .ok (.bl false) st) : cl (k + 3) 3 [d, e] st = .exc ⟨1, [("why", word)]⟩ st := by
  have hb : callF xcs kts fns (k + 2) 1 [d] st = .exc ⟨1, [("why", .str [119, 111, 114, 100])]⟩ st := look_bad h
  rw [cl, call_of (fn := f_script_of) rfl rfl]
  simp [f_script_of, evSs, evS, evE, evEs, hb, settle_same, word]
def tryS : List S := [.tryA [
      .ex (.call 3 [(.var 15), (.cst (.str [97]))])] 1 16 (.app 14 (.isf 0 (.fld "why") (.str [])))]
theorem try_one {k w : Nat} {s : Store} {ρ : Env} {d : D} {ys : List D} (h : cl (k + 1) 0 [d] s = .ok (.bl false) s) (h15 : ρ[15]? = some (some d)) (h14 : ρ[14]? = some (some (.ref w))) (hlen : ρ.length = 17) (hw : s[w]? = some (.lst ys)) (hy : ys.length ≤ 1000000) :
    evSs ⟨xcs, kts, callF xcs kts fns (k + 3)⟩ tryS ρ s = .nx (ρ.set 16 none) (s.set w (.lst (ys ++ [word]))) := by
  have hb : callF xcs kts fns (k + 3) 3 [d, .str [97]] s = .exc ⟨1, [("why", word)]⟩ s := script_of_bad h
  have hx : evXE xcs ⟨1, [("why", word)]⟩ (.isf 0 (.fld "why") (.str [])) = some word := rfl
  rw [tryS, evSs_nx (ρ' := ρ.set 16 none) (st' := s.set w (.lst (ys ++ [word]))), evSs_nil]
  rw [evS]
  have e1 : evSs ⟨xcs, kts, callF xcs kts fns (k + 3)⟩ [.ex (.call 3 [(.var 15), (.cst (.str [97]))])] ρ s = .exc ⟨1, [("why", word)]⟩ ρ s := by
    simp [evSs, evS, evE, evEs, h15, hb]
  rw [e1]
  dsimp only
  rw [if_pos ⟨rfl, by rw [hlen]; decide⟩]
  unfold evHs
  dsimp only
  rw [hx, h14]
  dsimp only
  rw [hw]
  dsimp only
  rw [if_pos ⟨show okS ys.length = true from decide_eq_true hy, by decide⟩]
theorem bads {k : Nat} {s : Store} {d : D} (h : d ∈ [D.non, .str [], .str [97, 32, 98], .str (rep [97] 25), .int 7]) : cl (k + 1) 0 [d] s = .ok (.bl false) s := by
  simp only [List.mem_cons, List.not_mem_nil, or_false] at h
  rcases h with rfl | rfl | rfl | rfl | rfl
  · exact is_word_no rfl
  · rw [is_word (by decide)]; rfl
  · rw [is_word (by decide)]; rfl
  · rw [is_word (by decide)]; rfl
  · exact is_word_no rfl
def badT : E := .tup [(.cst (.non)), (.cst (.str [])), (.cst (.str [97, 32, 98])), (.bin .mul (.cst (.str [97])) (.cst (.int (25)))), (.cst (.int (7)))]
theorem bad_src {C : Ctx} {ρ : Env} {s : Store} : evI C ρ badT s = .ok ([D.non, .str [], .str [97, 32, 98], .str (rep [97] 25), .int 7], none) s := by
  rw [badT, evI_ne' rfl]
  simp [evE, evEs, mulD, small64, okS]
theorem bad_loop {k w : Nat} {s : Store} {ρ : Env} (h14 : ρ[14]? = some (some (.ref w))) (hlen : ρ.length = 17) (hw : s[w]? = some (.lst [])) :
    ∃ ρ' s', evS ⟨xcs, kts, callF xcs kts fns (k + 3)⟩ (.for (.var 15) badT tryS) ρ s = .nx ρ' s' ∧ ρ'[14]? = some (some (.ref w)) ∧ s'[w]? = some (.lst (List.replicate 5 word)) ∧ s'.length = s.length := by
  obtain ⟨ρ', s', e, h1, h2, h3, h4⟩ := forL_nx (body := fun x ρ st => match putT (.var 15) x ρ with | some ρ => evSs ⟨xcs, kts, callF xcs kts fns (k + 3)⟩ tryS ρ st | none => .bad) (g := none) (items := [D.non, .str [], .str [97, 32, 98], .str (rep [97] 25), .int 7])
    (fun n ρ z => ρ[14]? = some (some (.ref w)) ∧ ρ.length = 17 ∧ z[w]? = some (.lst (List.replicate n word)) ∧ z.length = s.length) (fun _ _ _ _ => trivial) (fun n x ρ z hx ⟨h1, h2, h3, h4⟩ => by
      have hn : n < 5 := (List.getElem?_eq_some_iff.mp hx).1
      have hm := bads (k := k) (s := z) (List.mem_of_getElem? hx)
      have ht := try_one (ρ := ρ.set 15 (some x)) hm (List.getElem?_set_self (by omega)) (by rw [List.getElem?_set_ne (by decide)]; exact h1) (by simpa using h2) h3 (by simp; omega)
      refine ⟨_, _, by rw [putT]; exact ht, ?_, by simpa using h2, ?_, by simpa using h4⟩
      · rw [List.getElem?_set_ne (by decide), List.getElem?_set_ne (by decide)]; exact h1
      · rw [set_get h3, List.replicate_succ']) (ρ := ρ) (st := s) ⟨h14, hlen, hw, rfl⟩
  exact ⟨ρ', s', by rw [evS, bad_src, of_ok]; exact e, h1, h3, h4⟩
theorem words_eq {s : Store} {a b : Nat} (ha : s[a]? = some (.lst (List.replicate 5 word))) (hb : s[b]? = some (.lst (List.replicate 5 word))) : eqD s (.ref a) (.ref b) = some true := by
  unfold eqD rsv1
  dsimp only
  rw [ha, hb]
  rfl
end K58

set_option linter.all false
set_option maxRecDepth 100000
set_option maxHeartbeats 1000000
namespace K58
open DL
theorem cut_take {α : Type} (xs : List α) (k : Nat) : cut xs none (some (k : Int)) = xs.take k := by
  unfold cut sIx
  dsimp only
  rw [if_neg (by omega), List.drop_zero, Int.toNat_natCast, Nat.sub_zero]
  apply List.ext_getElem?
  intro i
  rw [List.getElem?_take, List.getElem?_take]
  by_cases h : i < xs.length
  · by_cases g : i < k
    · rw [if_pos (by omega), if_pos g]
    · rw [if_neg (by omega), if_neg g]
  · rw [List.getElem?_eq_none (by omega)]; split <;> split <;> rfl
theorem cut_in {α : Type} {xs : List α} {lo hi : Option Int} {x : α} (h : x ∈ cut xs lo hi) : x ∈ xs := List.mem_of_mem_drop (List.mem_of_mem_take h)
theorem cut_le {α : Type} (xs : List α) (lo hi : Option Int) : (cut xs lo hi).length ≤ xs.length := by
  unfold cut
  rw [List.length_take, List.length_drop]
  omega
theorem alph_runs {c : Nat} (h : c ∈ alph) : c ∈ runs := by
  simp only [alph, List.mem_cons, List.not_mem_nil, or_false] at h
  rcases h with rfl | rfl | rfl | rfl | rfl <;> decide
structure Wd (w : List Nat) : Prop where
  pos : 1 ≤ w.length
  le : w.length ≤ 12
  ok : ∀ c ∈ w, c ∈ alph
theorem Wd.word {w : List Nat} (h : Wd w) : Word w := ⟨h.pos, Nat.le_trans h.le (by decide), fun c hc => alph_runs (h.ok c hc)⟩
def twoE : E := .ife (.cmp .eq (.call 9 [(.var 1), (.cst (.int (2)))]) (.cst (.int (0)))) (.call 15 [(.var 1)]) (.sl (.bin .add (.bin .add (.sl (.var 3) .nop (.var 4)) (.sl (.call 15 [(.var 1)]) .nop (.cst (.int (1))))) (.sl (.var 3) (.bin .add (.var 4) (.call 9 [(.var 1), (.cst (.int (2)))])) .nop)) .nop (.cst (.int (12))))
/-- nothing but the draws changed -/
structure Go (ns : List Int) (s s' : Store) : Prop where
  d : Dr ns s'
  l : s'.length = s.length
  k : Kp s s'
theorem Go.trans {ns : List Int} {a b c : Store} (h : Go ns a b) (g : Go ns b c) : Go ns a c := ⟨g.d, g.l.trans h.l, h.k.trans g.k⟩
theorem two_ok {k : Nat} {s : Store} {ns : List Int} {ρ : Env} {one : List Nat} {at_ : Nat} (d : Dr ns s) (h1 : ρ[1]? = some (some (.ref 1))) (h3 : ρ[3]? = some (some (.str one))) (h4 : ρ[4]? = some (some (.int (at_ : Int)))) (w : Wd one) :
    ∃ two s', evE ⟨xcs, kts, callF xcs kts fns (k + 3)⟩ ρ twoE s = .ok (.str two) s' ∧ Wd two ∧ Go ns s s' := by
  obtain ⟨v, s1, q1, v0, v1, d1, l1, k1⟩ := draw_spec (XC := xcs) (KT := kts) (k := k + 2) (n := 2) T_draw d (by decide) (by decide)
  obtain ⟨w2, s2, q2, ⟨a1, a2, a3⟩, d2, l2, k2⟩ := drawn (k := k) d1
  have q2' : callF xcs kts fns (k + 3) 15 [.ref 1] s1 = .ok (.str w2) s2 := q2
  have g1 : Go ns s s1 := ⟨d1, l1, k1⟩
  have g2 : Go ns s1 s2 := ⟨d2, l2, k2⟩
  by_cases hv : v = 0
  · refine ⟨w2, s2, ?_, ⟨a1, by omega, a3⟩, g1.trans g2⟩
    subst hv
    simp [twoE, evE, evEs, h1, q1, q2', eq_int, truD]
  · obtain ⟨v', s3, q3, v0', v1', d3, l3, k3⟩ := draw_spec (XC := xcs) (KT := kts) (k := k + 2) (n := 2) T_draw d2 (by decide) (by decide)
    have g3 : Go ns s2 s3 := ⟨d3, l3, k3⟩
    let A := cut one none (some (at_ : Int))
    let B := cut w2 none (some 1)
    let Cc := cut one (some ((at_ : Int) + v')) none
    have hA := cut_le one none (some (at_ : Int))
    have hB : B.length = 1 := by
      show (cut w2 none (some ((1 : Nat) : Int))).length = 1
      rw [cut_take, List.length_take]; omega
    have hC := cut_le one (some ((at_ : Int) + v')) none
    have ho := w.le
    have e12 : cut (A ++ (B ++ Cc)) none (some 12) = (A ++ (B ++ Cc)).take 12 := cut_take _ 12
    refine ⟨cut (A ++ (B ++ Cc)) none (some 12), s3, ?_, ⟨?_, ?_, fun c hc => ?_⟩, (g1.trans g2).trans g3⟩
    · have z1 : (cut one none (some (at_ : Int))).length + (cut w2 none (some 1)).length ≤ 1000000 := by (have hB : (cut w2 none (some 1)).length = 1 := hB); omega
      have z2 : (cut one none (some (at_ : Int))).length + (cut w2 none (some 1)).length + (cut one (some ((at_ : Int) + v')) none).length ≤ 1000000 := by (have hB : (cut w2 none (some 1)).length = 1 := hB); omega
      have z3 : (cut one none (some (at_ : Int))).length + ((cut w2 none (some 1)).length + (cut one (some ((at_ : Int) + v')) none).length) ≤ 1000000 := by omega
      simp [twoE, evE, evEs, evP, h1, h3, h4, q1, q2', q3, eq_int, truD, hv, slD, addD, okS, z1, z2, z3, A, B, Cc]
    · rw [e12, List.length_take]; simp; omega
    · rw [e12, List.length_take]; omega
    · have := cut_in hc
      rw [List.mem_append, List.mem_append] at this
      rcases this with h | h | h
      · exact w.ok c (cut_in h)
      · exact a3 c (cut_in h)
      · exact w.ok c (cut_in h)
end K58

set_option linter.all false
set_option maxRecDepth 100000
set_option maxHeartbeats 1000000
namespace K58
open DL
theorem cut_map {α β : Type} (f : α → β) (xs : List α) (lo hi : Option Int) : cut (xs.map f) lo hi = (cut xs lo hi).map f := by
  unfold cut
  rw [List.length_map, List.map_take, List.map_drop]
theorem rep_map {α β : Type} (f : α → β) (xs : List α) : ∀ n, rep (xs.map f) n = (rep xs n).map f
  | 0 => rfl
  | n + 1 => by rw [rep, rep, rep_map f xs n, List.map_append]
theorem rep_len1 {α : Type} (x : α) : ∀ n, (rep [x] n).length = n
  | 0 => rfl
  | n + 1 => by rw [rep, List.length_append, rep_len1 x n]; simp; omega
/-- what may be asked about -/
def Asked (s : Store) (d : D) : Prop := (∃ xs : List (Option Stp), d = .tup (xs.map oD) ∧ xs.length ≤ 1000) ∨ ∃ l ys, d = .ref l ∧ s[l]? = some (.lst ys) ∧ l ≠ 1
theorem oD_wf (n : Nat) : ∀ xs : List (Option Stp), wfDs n (xs.map oD) = true
  | [] => by rw [List.map_nil, wfDs]
  | x :: xs => by
    rw [List.map_cons, wfDs, oD_wf n xs]
    cases x with
    | none => rw [oD, wfD] <;> simp
    | some t => rw [oD, wfD] <;> simp
theorem Asked.wf {s : Store} {d : D} (h : Asked s d) : wfD s.length d = true := by
  rcases h with ⟨xs, rfl, _⟩ | ⟨l, ys, rfl, e, _⟩
  · rw [wfD, oD_wf]
  · rw [wfD]; exact decide_eq_true (List.getElem?_eq_some_iff.mp e).1
theorem Asked.kp {s s' : Store} {d : D} (h : Asked s d) (k : Kp s s') : Asked s' d := by
  rcases h with h | ⟨l, ys, e1, e2, e3⟩
  · exact .inl h
  · exact .inr ⟨l, ys, e1, k.get e3 e2, e3⟩
theorem ask_same {k : Nat} {s : Store} {one two : List Nat} {d : D} (w1 : Word one) (w2 : Word two) (h : Asked s d) : ∃ F, cl (k + 3) 7 [.str one, .str two, d] s = .ok F s ∧ cl (k + 3) 14 [.str one, .str two, d] s = .ok F s ∧ cl (k + 3) 11 [F, F] s = .ok (.bl true) s := by
  rcases h with ⟨xs, rfl, hl⟩ | ⟨l, ys, rfl, e, _⟩
  · exact ⟨_, script_fault w1 w2 hl, law_fault (k := k + 2) hl, same_spec T_same 1 _ (k + 1) (fault_pdn one two xs)⟩
  · exact ⟨_, script_fault_ref w1 w2 e, law_fault_ref (k := k + 2) e, same_spec T_same 1 _ (k + 1) rfl⟩
def namesR : List D := [.str [107, 101, 101, 112], .str [99, 104, 97, 110, 103, 101], .str [108, 101, 97, 118, 101], .str [112, 117, 116]]
theorem namesR_mem {x : D} (h : x ∈ namesR) : ∃ t : Stp, x = .str t.str := by
  simp only [namesR, List.mem_cons, List.not_mem_nil, or_false] at h
  rcases h with rfl | rfl | rfl | rfl
  · exact ⟨.keep, rfl⟩
  · exact ⟨.change, rfl⟩
  · exact ⟨.leave, rfl⟩
  · exact ⟨.put, rfl⟩
def otherE : E := .bin .add (.bin .add (.sl (.var 8) .nop (.var 10)) (.tup [(.call 10 [(.var 1), (.lst [(.cst (.str [107, 101, 101, 112])), (.cst (.str [99, 104, 97, 110, 103, 101])), (.cst (.str [108, 101, 97, 118, 101])), (.cst (.str [112, 117, 116]))])])])) (.sl (.var 8) (.bin .add (.var 10) (.cst (.int (1)))) .nop)
theorem other_ok {k : Nat} {s : Store} {ns : List Int} {ρ : Env} {xs : List (Option Stp)} {p : Int} (d : Dr ns s) (h1 : ρ[1]? = some (some (.ref 1))) (h8 : ρ[8]? = some (some (.tup (xs.map oD)))) (h10 : ρ[10]? = some (some (.int p))) (hl : xs.length ≤ 100) :
    ∃ (ys : List (Option Stp)) (s' : Store), evE ⟨xcs, kts, callF xcs kts fns (k + 3)⟩ ρ otherE s = .ok (.tup (ys.map oD)) s' ∧ ys.length ≤ 300 ∧ Dr ns s' := by
  have d' : Dr ns (s ++ [.lst namesR]) := d.app
  obtain ⟨y, s', q, hy, d3, l3, k3⟩ := pick_spec (XC := xcs) (KT := kts) (k := k + 1) (r := s.length) (xs := namesR) T_pick T_draw d' (by simp) (by have := d.two; omega) (by simp [namesR]) (by simp [namesR]) (by intro x hx; obtain ⟨t, rfl⟩ := namesR_mem hx; rw [wfD] <;> simp)
  obtain ⟨t, rfl⟩ := namesR_mem hy
  have q' : callF xcs kts fns (k + 3) 10 [.ref 1, .ref s.length] (s ++ [.lst [.str [107, 101, 101, 112], .str [99, 104, 97, 110, 103, 101], .str [108, 101, 97, 118, 101], .str [112, 117, 116]]]) = .ok (.str t.str) s' := q
  have a1 := cut_le xs none (some p)
  have a2 := cut_le xs (some (p + 1)) none
  have z1 : (cut xs none (some p)).length + 1 ≤ 1000000 := by omega
  have z2 : (cut xs none (some p)).length + 1 + (cut xs (some (p + 1)) none).length ≤ 1000000 := by omega
  have z3 : (cut xs none (some p)).length + (1 + (cut xs (some (p + 1)) none).length) ≤ 1000000 := by omega
  have z4 : (cut xs none (some p)).length + ((cut xs (some (p + 1)) none).length + 1) ≤ 1000000 := by omega
  refine ⟨cut xs none (some p) ++ (some t :: cut xs (some (p + 1)) none), s', ?_, by simp; omega, d3⟩
  simp [otherE, evE, evEs, evP, h1, h8, h10, slD, cut_map, addD, okS, newL, q', z1, z2, z3, z4, oD]
end K58

set_option linter.all false
set_option maxRecDepth 100000
set_option maxHeartbeats 1000000
namespace K58
open DL
def rowsE : E := .lst [(.var 8), (.bin .add (.sl (.var 8) .nop (.var 10)) (.sl (.var 8) (.bin .add (.var 10) (.cst (.int (1)))) .nop)), (.var 11), (.var 11), (.bin .add (.var 8) (.tup [(.cst (.str [112, 117, 116]))])), (.bin .add (.var 8) (.tup [(.cst (.str [107, 101, 101, 112]))])), (.bi .list [(.var 8)]), (.bin .add (.sl (.var 8) .nop (.var 10)) (.tup [(.cst (.non))]))]
theorem rows_ok {C : Ctx} {s : Store} {ρ : Env} {xs ys : List (Option Stp)} {p : Int} (h8 : ρ[8]? = some (some (.tup (xs.map oD)))) (h10 : ρ[10]? = some (some (.int p))) (h11 : ρ[11]? = some (some (.tup (ys.map oD)))) (hl : xs.length ≤ 100) (hy : ys.length ≤ 300) (h2 : 2 ≤ s.length) :
    ∃ vals, evE C ρ rowsE s = .ok (.ref (s.length + 1)) (s ++ [.lst (xs.map oD)] ++ [.lst vals]) ∧ vals.length = 8 ∧ ∀ v ∈ vals, Asked (s ++ [.lst (xs.map oD)] ++ [.lst vals]) v := by
  have a1 := cut_le xs none (some p)
  have a2 := cut_le xs (some (p + 1)) none
  have z1 : (cut xs none (some p)).length + (cut xs (some (p + 1)) none).length ≤ 1000000 := by omega
  have z2 : xs.length + 1 ≤ 1000000 := by omega
  have z3 : (cut xs none (some p)).length + 1 ≤ 1000000 := by omega
  have z4 : xs.length ≤ 1000000 := by omega
  refine ⟨[.tup (xs.map oD), .tup ((cut xs none (some p) ++ cut xs (some (p + 1)) none).map oD), .tup (ys.map oD), .tup (ys.map oD), .tup ((xs ++ [some Stp.put]).map oD), .tup ((xs ++ [some Stp.keep]).map oD), .ref s.length, .tup ((cut xs none (some p) ++ [none]).map oD)], ?_, rfl, fun v hv => ?_⟩
  · simp [rowsE, evE, evEs, evP, h8, h10, h11, slD, cut_map, addD, okS, newL, listD, itemsD, z1, z2, z3, z4, oD, Stp.str]
  · simp only [List.mem_cons, List.not_mem_nil, or_false] at hv
    rcases hv with rfl | rfl | rfl | rfl | rfl | rfl | rfl | rfl
    · exact .inl ⟨_, rfl, by omega⟩
    · exact .inl ⟨_, rfl, by rw [List.length_append]; omega⟩
    · exact .inl ⟨_, rfl, by omega⟩
    · exact .inl ⟨_, rfl, by omega⟩
    · exact .inl ⟨_, rfl, by simp; omega⟩
    · exact .inl ⟨_, rfl, by simp; omega⟩
    · exact .inr ⟨s.length, xs.map oD, rfl, by simp, by omega⟩
    · exact .inl ⟨_, rfl, by simp; omega⟩
def bentE : E := .call 10 [(.var 1), (.bin .add (.var 12) (.lst [(.bin .add (.bin .mul (.tup [(.cst (.str [108, 101, 97, 118, 101]))]) (.bi .len [(.var 3)])) (.bin .mul (.tup [(.cst (.str [112, 117, 116]))]) (.bi .len [(.var 5)])))]))]
theorem bent_ok {k r : Nat} {s : Store} {ns : List Int} {ρ : Env} {one two : List Nat} {vals : List D} (d : Dr ns s) (h1 : ρ[1]? = some (some (.ref 1))) (h3 : ρ[3]? = some (some (.str one))) (h5 : ρ[5]? = some (some (.str two))) (h12 : ρ[12]? = some (some (.ref r))) (w1 : Wd one) (w2 : Wd two) (hr : s[r]? = some (.lst vals)) (hv : vals.length = 8) (ha : ∀ v ∈ vals, Asked s v) :
    ∃ b s', evE ⟨xcs, kts, callF xcs kts fns (k + 3)⟩ ρ bentE s = .ok b s' ∧ Asked s' b ∧ Dr ns s' := by
  let zz : List (Option Stp) := rep [some Stp.leave] one.length ++ rep [some Stp.put] two.length
  have b1 := w1.le
  have b2 := w2.le
  have c1 := w1.pos
  have c2 := w2.pos
  have hrl : r < s.length := (List.getElem?_eq_some_iff.mp hr).1
  have r1 : rep [D.str [108, 101, 97, 118, 101]] one.length = (rep [some Stp.leave] one.length).map oD := by rw [← rep_map]; rfl
  have r2 : rep [D.str [112, 117, 116]] two.length = (rep [some Stp.put] two.length).map oD := by rw [← rep_map]; rfl
  have m1 : ∀ z, mulD (.tup [.str [108, 101, 97, 118, 101]]) (.int (one.length : Int)) z = some (.tup ((rep [some Stp.leave] one.length).map oD), z) := by
    intro z; unfold mulD; dsimp only; rw [if_pos ⟨by simp, by simp, by omega, by omega⟩, Int.toNat_natCast, r1]
  have m2 : ∀ z, mulD (.tup [.str [112, 117, 116]]) (.int (two.length : Int)) z = some (.tup ((rep [some Stp.put] two.length).map oD), z) := by
    intro z; unfold mulD; dsimp only; rw [if_pos ⟨by simp, by simp, by omega, by omega⟩, Int.toNat_natCast, r2]
  have zl : zz.length = one.length + two.length := by show (_ ++ _ : List _).length = _; rw [List.length_append, rep_len1, rep_len1]
  have zA : addD (.tup ((rep [some Stp.leave] one.length).map oD)) (.tup ((rep [some Stp.put] two.length).map oD)) s = some (.tup (zz.map oD), s) := by
    unfold addD
    dsimp only
    rw [if_pos (by rw [List.length_map, List.length_map, rep_len1, rep_len1, okS, decide_eq_true_eq]; omega), ← List.map_append]
  have zB : addD (.ref r) (.ref s.length) (s ++ [.lst [.tup (zz.map oD)]]) = some (.ref (s.length + 1), s ++ [.lst [.tup (zz.map oD)]] ++ [.lst (vals ++ [.tup (zz.map oD)])]) := by
    unfold addD
    dsimp only
    rw [List.getElem?_append_left hrl, hr, show (s ++ [Cell.lst [D.tup (zz.map oD)]])[s.length]? = some (.lst [.tup (zz.map oD)]) by simp]
    dsimp only
    rw [if_pos (show okS _ = true by rw [hv]; rfl)]
    simp [newL]
  generalize hs2 : s ++ [.lst [.tup (zz.map oD)]] ++ [.lst (vals ++ [.tup (zz.map oD)])] = s2 at zB
  have d2 : Dr ns s2 := by rw [← hs2]; exact d.app.app
  have hk : Kp s s2 := by rw [← hs2]; exact Kp.app.trans Kp.app
  have hall : ∀ v ∈ vals ++ [.tup (zz.map oD)], Asked s2 v := by
    intro v hv'
    rw [List.mem_append, List.mem_singleton] at hv'
    rcases hv' with h | rfl
    · exact (ha v h).kp hk
    · exact .inl ⟨zz, rfl, by omega⟩
  have hlab : s2[s.length + 1]? = some (.lst (vals ++ [.tup (zz.map oD)])) := by rw [← hs2]; simp
  obtain ⟨y, s', q, hy, d3, l3, k3⟩ := pick_spec (XC := xcs) (KT := kts) (k := k + 1) (r := s.length + 1) T_pick T_draw d2 hlab (by have := d.two; omega) (by simp) (by rw [List.length_append, hv]; simp) (fun x hx => (hall x hx).wf)
  refine ⟨y, s', ?_, (hall y hy).kp k3, d3⟩
  have l1 : ∀ z, lenD [.str one] z = some (.int one.length, z) := fun _ => rfl
  have l2 : ∀ z, lenD [.str two] z = some (.int two.length, z) := fun _ => rfl
  simp [bentE, evE, evEs, h1, h3, h5, h12, l1, l2, m1, m2, zA, okS, newL, zB, q]
end K58

set_option linter.all false
set_option maxRecDepth 100000
set_option maxHeartbeats 1000000
namespace K58
open DL
structure Fv (ρ : Env) (one two : List Nat) (xs : List (Option Stp)) : Prop where
  len : ρ.length = 17
  h1 : ρ[1]? = some (some (.ref 1))
  h3 : ρ[3]? = some (some (.str one))
  h5 : ρ[5]? = some (some (.str two))
  h8 : ρ[8]? = some (some (.tup (xs.map oD)))
theorem Fv.set {ρ : Env} {one two : List Nat} {xs : List (Option Stp)} (h : Fv ρ one two xs) {i : Nat} {v : Option D} (hi : i ≠ 1 ∧ i ≠ 3 ∧ i ≠ 5 ∧ i ≠ 8) : Fv (ρ.set i v) one two xs :=
  ⟨by simpa using h.len, by rw [List.getElem?_set_ne (by omega)]; exact h.h1, by rw [List.getElem?_set_ne (by omega)]; exact h.h3, by rw [List.getElem?_set_ne (by omega)]; exact h.h5, by rw [List.getElem?_set_ne (by omega)]; exact h.h8⟩
def p2B : List S := [
      .set 10 (.call 9 [(.var 1), (.bi .len [(.var 8)])]),
      .set 11 otherE,
      .set 12 rowsE,
      .set 13 bentE,
      .ifs (.not (.call 11 [(.call 7 [(.var 3), (.var 5), (.var 13)]), (.call 14 [(.var 3), (.var 5), (.var 13)])])) [
        .ret (.cst (.bl false))] []]
theorem set_nx {C : Ctx} {ρ : Env} {s s' : Store} {i : Nat} {e : E} {d : D} (h : evE C ρ e s = .ok d s') : evS C (.set i e) ρ s = .nx (ρ.set i (some d)) s' := by rw [evS, h]; rfl
theorem p2 {k : Nat} {s : Store} {ns : List Int} {ρ : Env} {one two : List Nat} {xs : List (Option Stp)} (d : Dr ns s) (F : Fv ρ one two xs) (w1 : Wd one) (w2 : Wd two) (x1 : 1 ≤ xs.length) (x2 : xs.length ≤ 100) :
    ∃ ρ' s', evSs ⟨xcs, kts, callF xcs kts fns (k + 3)⟩ p2B ρ s = .nx ρ' s' ∧ Fv ρ' one two xs ∧ Dr ns s' := by
  obtain ⟨v, s1, q1, v0, v1, d1, l1, k1⟩ := draw_spec (XC := xcs) (KT := kts) (k := k + 2) (n := xs.length) T_draw d (by omega) (by omega)
  have e1 : evE ⟨xcs, kts, callF xcs kts fns (k + 3)⟩ ρ (.call 9 [(.var 1), (.bi .len [(.var 8)])]) s = .ok (.int v) s1 := by
    simp [evE, evEs, F.h1, F.h8, lenD, itemsD, q1]
  have F1 := F.set (i := 10) (v := some (.int v)) (by decide)
  have g10 : (ρ.set 10 (some (.int v)))[10]? = some (some (.int v)) := List.getElem?_set_self (by rw [F.len]; decide)
  obtain ⟨ys, s2, q2, hy, d2⟩ := other_ok (k := k) (p := v) d1 F1.h1 F1.h8 g10 x2
  have F2 := F1.set (i := 11) (v := some (.tup (ys.map oD))) (by decide)
  have g11 : ((ρ.set 10 (some (.int v))).set 11 (some (.tup (ys.map oD))))[11]? = some (some (.tup (ys.map oD))) := List.getElem?_set_self (by rw [F1.len]; decide)
  have g10' : ((ρ.set 10 (some (.int v))).set 11 (some (.tup (ys.map oD))))[10]? = some (some (.int v)) := by rw [List.getElem?_set_ne (by decide)]; exact g10
  obtain ⟨vals, q3, hv, ha⟩ := rows_ok (C := ⟨xcs, kts, callF xcs kts fns (k + 3)⟩) F2.h8 g10' g11 x2 hy d2.two
  have d3 : Dr ns (s2 ++ [.lst (xs.map oD)] ++ [.lst vals]) := d2.app.app
  have F3 := F2.set (i := 12) (v := some (.ref (s2.length + 1))) (by decide)
  have g12 : (((ρ.set 10 (some (.int v))).set 11 (some (.tup (ys.map oD)))).set 12 (some (.ref (s2.length + 1))))[12]? = some (some (.ref (s2.length + 1))) := List.getElem?_set_self (by rw [F2.len]; decide)
  obtain ⟨b, s4, q4, hb, d4⟩ := bent_ok (k := k) d3 F3.h1 F3.h3 F3.h5 g12 w1 w2 (by simp) hv ha
  have F4 := F3.set (i := 13) (v := some b) (by decide)
  have g13 : ((((ρ.set 10 (some (.int v))).set 11 (some (.tup (ys.map oD)))).set 12 (some (.ref (s2.length + 1)))).set 13 (some b))[13]? = some (some b) := List.getElem?_set_self (by rw [F3.len]; decide)
  obtain ⟨R, r1, r2, r3⟩ := ask_same (k := k) w1.word w2.word hb
  refine ⟨_, s4, ?_, F4, d4⟩
  rw [p2B, evSs_nx (set_nx e1), evSs_nx (set_nx q2), evSs_nx (set_nx q3), evSs_nx (set_nx q4)]
  have r1' : callF xcs kts fns (k + 3) 7 [.str one, .str two, b] s4 = .ok R s4 := r1
  have r2' : callF xcs kts fns (k + 3) 14 [.str one, .str two, b] s4 = .ok R s4 := r2
  have r3' : callF xcs kts fns (k + 3) 11 [R, R] s4 = .ok (.bl true) s4 := r3
  simp [evSs, evS, evT, evE, evEs, F4.h3, F4.h5, g13, r1', r2', r3', truD]
def turnB : List S := [
    .set 3 (.call 15 [(.var 1)]),
    .set 4 (.call 9 [(.var 1), (.bi .len [(.var 3)])]),
    .set 5 twoE,
    .setT (.tup [.var 6, .var 7]) (.call 13 [(.var 3), (.var 5)]),
    .set 8 (.call 3 [(.var 3), (.var 5)]),
    .ifs (.or [(.not (.call 11 [(.var 8), (.var 7)])), (.not (.call 11 [(.call 6 [(.var 8)]), (.var 6)])), (.cmp .ne (.var 6) (.call 12 [(.var 3), (.var 5)]))]) [
      .ret (.cst (.bl false))] [],
    .for (.var 9) (.rng [(.cst (.int (6)))]) p2B]
theorem names_some (ss : List Stp) : names ss = (ss.map some).map oD := by rw [List.map_map]; rfl
theorem turn {k : Nat} {s : Store} {ns : List Int} {ρ : Env} (d : Dr ns s) (hl : ρ.length = 17) (h1 : ρ[1]? = some (some (.ref 1))) :
    ∃ ρ' s', evSs ⟨xcs, kts, callF xcs kts fns (k + 4)⟩ turnB ρ s = .nx ρ' s' ∧ ρ'.length = 17 ∧ ρ'[1]? = some (some (.ref 1)) ∧ Dr ns s' := by
  obtain ⟨one, s1, q1, ⟨a1, a2, a3⟩, d1, l1, k1⟩ := drawn (k := k + 1) d
  have q1' : callF xcs kts fns (k + 4) 15 [.ref 1] s = .ok (.str one) s1 := q1
  have w1 : Wd one := ⟨a1, by omega, a3⟩
  obtain ⟨v, s2, q2, v0, v1, d2, l2, k2⟩ := draw_spec (XC := xcs) (KT := kts) (k := k + 3) (n := one.length) T_draw d1 (by omega) (by omega)
  obtain ⟨m, rfl⟩ : ∃ m : Nat, v = (m : Int) := ⟨v.toNat, by omega⟩
  generalize hρ1 : ρ.set 3 (some (.str one)) = ρ1
  have t1 : ρ1[1]? = some (some (.ref 1)) := by rw [← hρ1, List.getElem?_set_ne (by decide)]; exact h1
  have t3 : ρ1[3]? = some (some (.str one)) := by rw [← hρ1]; exact List.getElem?_set_self (by rw [hl]; decide)
  have tl : ρ1.length = 17 := by rw [← hρ1]; simpa using hl
  generalize hρ2 : ρ1.set 4 (some (.int (m : Int))) = ρ2
  have u1 : ρ2[1]? = some (some (.ref 1)) := by rw [← hρ2, List.getElem?_set_ne (by decide)]; exact t1
  have u3 : ρ2[3]? = some (some (.str one)) := by rw [← hρ2, List.getElem?_set_ne (by decide)]; exact t3
  have u4 : ρ2[4]? = some (some (.int (m : Int))) := by rw [← hρ2]; exact List.getElem?_set_self (by rw [tl]; decide)
  have ul : ρ2.length = 17 := by rw [← hρ2]; simpa using tl
  obtain ⟨two, s3, q3, w2, g3⟩ := two_ok (k := k + 1) d2 u1 u3 u4 w1
  have d3 := g3.d
  generalize hρ3 : ((ρ2.set 5 (some (.str two))).set 6 (some (.int (Rd one two : Nat)))).set 7 (some (.tup (names (Sc one two)))) = ρ3
  generalize hρ4 : ρ3.set 8 (some (.tup (names (Sc one two)))) = ρ4
  have b1 := w1.le
  have b2 := w2.le
  have c13 : callF xcs kts fns (k + 4) 13 [.str one, .str two] s3 = .ok (val (Rd one two) (Sc one two)) s3 := law_all (k := k + 3) (by omega) (by omega)
  have c3 : callF xcs kts fns (k + 4) 3 [.str one, .str two] s3 = .ok (.tup (names (Sc one two))) s3 := script_of w1.word w2.word
  have sl := sc_len one two
  have sg := sc_ge one two
  have c11 : callF xcs kts fns (k + 4) 11 [.tup (names (Sc one two)), .tup (names (Sc one two))] s3 = .ok (.bl true) s3 := same_spec T_same 1 _ (k + 2) (names_pdn _ (by omega))
  have c6 : callF xcs kts fns (k + 4) 6 [.tup (names (Sc one two))] s3 = .ok (.int (Rd one two : Nat)) s3 := by
    have := script_cost (k := k + 3) (st := s3) (xs := Sc one two) (by omega)
    rw [sc_cost] at this
    exact this
  have c11' : callF xcs kts fns (k + 4) 11 [.int (Rd one two : Nat), .int (Rd one two : Nat)] s3 = .ok (.bl true) s3 := same_spec T_same 1 _ (k + 2) rfl
  have c12 : callF xcs kts fns (k + 4) 12 [.str one, .str two] s3 = .ok (.int (Rd one two : Nat)) s3 := law_far (k := k + 3) (by omega) (by omega)
  have y3 : ρ3[3]? = some (some (.str one)) := by rw [← hρ3, List.getElem?_set_ne (by decide), List.getElem?_set_ne (by decide), List.getElem?_set_ne (by decide)]; exact u3
  have y5 : ρ3[5]? = some (some (.str two)) := by rw [← hρ3, List.getElem?_set_ne (by decide), List.getElem?_set_ne (by decide)]; exact List.getElem?_set_self (by rw [ul]; decide)
  have y1 : ρ3[1]? = some (some (.ref 1)) := by rw [← hρ3, List.getElem?_set_ne (by decide), List.getElem?_set_ne (by decide), List.getElem?_set_ne (by decide)]; exact u1
  have y6 : ρ3[6]? = some (some (.int (Rd one two : Nat))) := by rw [← hρ3, List.getElem?_set_ne (by decide)]; exact List.getElem?_set_self (by simp [ul])
  have y7 : ρ3[7]? = some (some (.tup (names (Sc one two)))) := by rw [← hρ3]; exact List.getElem?_set_self (by simp [ul])
  have yl : ρ3.length = 17 := by rw [← hρ3]; simpa using ul
  have F : Fv ρ4 one two ((Sc one two).map some) := ⟨by rw [← hρ4]; simpa using yl, by rw [← hρ4, List.getElem?_set_ne (by decide)]; exact y1, by rw [← hρ4, List.getElem?_set_ne (by decide)]; exact y3, by rw [← hρ4, List.getElem?_set_ne (by decide)]; exact y5, by rw [← hρ4, ← names_some]; exact List.getElem?_set_self (by rw [yl]; decide)⟩
  have z8 : ρ4[8]? = some (some (.tup (names (Sc one two)))) := by rw [names_some]; exact F.h8
  have z6 : ρ4[6]? = some (some (.int (Rd one two : Nat))) := by rw [← hρ4, List.getElem?_set_ne (by decide)]; exact y6
  have z7 : ρ4[7]? = some (some (.tup (names (Sc one two)))) := by rw [← hρ4, List.getElem?_set_ne (by decide)]; exact y7
  obtain ⟨ρ', s', e, F', d'⟩ := forL_nx (body := fun x ρ st => match putT (.var 9) x ρ with | some ρ => evSs ⟨xcs, kts, callF xcs kts fns (k + 4)⟩ p2B ρ st | none => .bad) (g := none) (items := rangeL 0 6)
    (fun _ ρ z => Fv ρ one two ((Sc one two).map some) ∧ Dr ns z) (fun _ _ _ _ => trivial) (fun n x ρ z hx ⟨F, d⟩ => by
      obtain ⟨ρ', s', e, F', d'⟩ := p2 (k := k + 1) d (F.set (i := 9) (v := some x) (by decide)) w1 w2 (by rw [List.length_map]; omega) (by rw [List.length_map]; omega)
      exact ⟨ρ', s', by rw [putT]; exact e, F', d'⟩) (ρ := ρ4) (st := s3) ⟨F, d3⟩
  refine ⟨ρ', s', ?_, F'.len, F'.h1, d'⟩
  rw [turnB]
  rw [evSs_nx (ρ' := ρ1) (st' := s1) (by rw [← hρ1]; exact set_nx (by simp [evE, evEs, h1, q1']))]
  rw [evSs_nx (ρ' := ρ2) (st' := s2) (by rw [← hρ2]; exact set_nx (by simp [evE, evEs, t1, t3, lenD, q2]))]
  rw [evSs_nx (set_nx q3)]
  have x3 : (ρ2.set 5 (some (.str two)))[3]? = some (some (.str one)) := by rw [List.getElem?_set_ne (by decide)]; exact u3
  have x5 : (ρ2.set 5 (some (.str two)))[5]? = some (some (.str two)) := List.getElem?_set_self (by rw [ul]; decide)
  rw [evSs_nx (ρ' := ρ3) (st' := s3) (by rw [evS]; simp [evE, evEs, x3, x5, c13, val, putT, putTs, hρ3])]
  rw [evSs_nx (ρ' := ρ4) (st' := s3) (by rw [← hρ4]; exact set_nx (by simp [evE, evEs, y3, y5, c3]))]
  rw [evSs_nx (ρ' := ρ4) (st' := s3) (by simp [evS, evSs, evT, evE, evEs, evOr, z8, z7, z6, F.h3, F.h5, c11, c6, c11', c12, eq_int, truD])]
  rw [evSs_nx (ρ' := ρ') (st' := s') (by
    rw [evS, evI_rng]
    have a1 : evEs ⟨xcs, kts, callF xcs kts fns (k + 4)⟩ ρ4 [.cst (.int 6)] s3 = .ok [.int ((6 : Nat) : Int)] s3 := by simp [evEs, evE]
    rw [a1, bind_ok, rng1 (s62 (by decide))]
    exact e), evSs_nil]
end K58

set_option linter.all false
set_option maxRecDepth 100000
set_option maxHeartbeats 1000000
namespace K58
open DL
theorem law_pureI (ns : List Int) (h : ns.length ≤ 63) : ∃ st, callF xcs kts fns 40 16 [.fl ns] [] = .ok (.bl true) st := by
  have q1 : callF xcs kts fns 39 8 [.fl ns] [] = .ok (.ref 1) [.lst (ns.map .int), dcell 0 0 0 1] := law_draws (k := 38) h
  have d1 := draws_dr h
  generalize hρ1 : (([some (.fl ns)] ++ List.replicate 16 none : Env)).set 1 (some (.ref 1)) = ρ1
  have l1 : ρ1.length = 17 := by rw [← hρ1]; rfl
  have h1 : ρ1[1]? = some (some (.ref 1)) := by rw [← hρ1]; rfl
  obtain ⟨ρ2, s2, e2, l2, g2, d2⟩ := forL_nx (body := fun x ρ st => match putT (.var 2) x ρ with | some ρ => evSs ⟨xcs, kts, callF xcs kts fns 39⟩ turnB ρ st | none => .bad) (g := none) (items := rangeL 0 14)
    (fun _ ρ z => ρ.length = 17 ∧ ρ[1]? = some (some (.ref 1)) ∧ Dr ns z) (fun _ _ _ _ => trivial) (fun n x ρ z hx ⟨hl, h1, d⟩ => by
      obtain ⟨ρ', s', e, a, b, c⟩ := turn (k := 35) (ρ := ρ.set 2 (some x)) d (by simpa using hl) (by rw [List.getElem?_set_ne (by decide)]; exact h1)
      exact ⟨ρ', s', by rw [putT]; exact e, a, b, c⟩) (ρ := ρ1) (st := [.lst (ns.map .int), dcell 0 0 0 1]) ⟨l1, h1, d1⟩
  generalize hρ3 : ρ2.set 14 (some (.ref s2.length)) = ρ3
  have l3 : ρ3.length = 17 := by rw [← hρ3]; simpa using l2
  have h14 : ρ3[14]? = some (some (.ref s2.length)) := by rw [← hρ3]; exact List.getElem?_set_self (by rw [l2]; decide)
  obtain ⟨ρ4, s4, e4, g4, w4, len4⟩ := bad_loop (k := 36) (s := s2 ++ [.lst []]) h14 l3 (by simp)
  have hq := words_eq (s := s4 ++ [.lst [word]] ++ [.lst (List.replicate 5 word)]) (a := s2.length) (b := s4.length + 1) (by rw [List.append_assoc, List.getElem?_append_left (by rw [len4]; simp)]; exact w4) (by simp)
  have hm : mulD (.ref s4.length) (.int 5) (s4 ++ [.lst [word]]) = some (.ref (s4.length + 1), s4 ++ [.lst [word]] ++ [.lst (List.replicate 5 word)]) := by
    unfold mulD
    dsimp only
    rw [show (s4 ++ [Cell.lst [word]])[s4.length]? = some (.lst [word]) by simp]
    dsimp only
    rw [if_pos ⟨by simp, by decide, by decide⟩]
    simp [newL]
    rfl
  refine ⟨_, call_ret (fn := f_law) (d := .bl true) (st' := s4 ++ [.lst [word]] ++ [.lst (List.replicate 5 word)]) rfl rfl ?_⟩
  rw [f_law]
  show evSs ⟨xcs, kts, callF xcs kts fns 39⟩ [.set 1 (.call 8 [(.var 0)]), .for (.var 2) (.rng [(.cst (.int (14)))]) turnB, .set 14 (.lst []), .for (.var 15) badT tryS, .ret (.cmp .eq (.var 14) (.bin .mul (.lst [(.cst (.str [119, 111, 114, 100]))]) (.cst (.int (5)))))] ([some (.fl ns)] ++ List.replicate 16 none) [] = _
  rw [evSs_nx (ρ' := ρ1) (st' := [.lst (ns.map .int), dcell 0 0 0 1]) (by rw [← hρ1]; exact set_nx (by simp [evE, evEs, q1]))]
  rw [evSs_nx (ρ' := ρ2) (st' := s2) (by
    rw [evS, evI_rng]
    have a1 : evEs ⟨xcs, kts, callF xcs kts fns 39⟩ ρ1 [.cst (.int 14)] [.lst (ns.map .int), dcell 0 0 0 1] = .ok [.int ((14 : Nat) : Int)] [.lst (ns.map .int), dcell 0 0 0 1] := by simp [evEs, evE]
    rw [a1, bind_ok, rng1 (s62 (by decide))]
    exact e2)]
  rw [evSs_nx (ρ' := ρ3) (st' := s2 ++ [.lst []]) (by rw [← hρ3]; exact set_nx (by simp [evE, evEs, okS, newL]))]
  rw [evSs_nx e4]
  have hm' : mulD (.ref s4.length) (.int 5) (s4 ++ [.lst [.str [119, 111, 114, 100]]]) = some (.ref (s4.length + 1), s4 ++ [.lst [word]] ++ [.lst (List.replicate 5 word)]) := hm
  have hq2 : eqD (s4 ++ [Cell.lst [word], Cell.lst [word, word, word, word, word]]) (.ref s2.length) (.ref (s4.length + 1)) = some true := by
    have := hq
    rw [List.append_assoc] at this
    exact this
  exact evSs_ret (by simp only [evS, evE, evEs, g4, bind_ok]; simp [okS, newL, hm', hq2])
end K58

open PySem PySem.W PyProof.Rows
set_option maxRecDepth 100000 in
set_option maxHeartbeats 0 in
theorem PySem.Challenge.cw_seekwright_k58_whole_scripts_of_changes_holds : PySem.Challenge.rw_seekwright_k58_whole_scripts_of_changes.Holds := by
  w_on; o_law; k_head; (case hw => w_witness2)
  k_fill
  refine L2.walk_of (l := PySem.Challenge.rw_seekwright_k58_whole_scripts_of_changes) (n := 63) (k := 40 + 2) (x := "script") (CX := fun w => L2.CX PySem.Challenge.rw_seekwright_k58_whole_scripts_of_changes.prog w) (sp := fun w => DS.spL _ K58.kts (K58.pr.call 40 16)) rfl (by decide) rfl ⟨rfl, by decide, by decide⟩ (fun w h Y => PySem.W.kIn_of Y) ?F (fun w H a ns hl hO hS => DS.spL_law (fun ns h => K58.law_pureI ns h) H a ns hl hO hS) (fun w H s e s' h => by obtain ⟨_, _, _, _, _, _, _, _, _, _, _, _, z⟩ := h; exact z)
  case F =>
    intro w mg fa h KX GN hmg
    refine' K58.all_mk 40 KX GN hmg ?h_is_word ?h_look_at_word ?h_rest_rows ?h_script_of ?h_moved_by ?h_step_cost ?h_script_cost ?h_script_fault ?h__law_draws ?h__law_draw ?h__law_pick ?h__law_same ?h__law_far ?h__law_all ?h__law_fault ?h__law_drawn ?h_law ?x_BadPlan ?c_SMALL ?c_GREAT ?c_DIGITS ?c_RUNS ?c_MOST_WORD ?c_STEPS ?b_len ?b_int ?b_min ?b_tuple ?b_list ?b_all ?b_any ?b_range ?b_enumerate ?b_isinstance ?b_str ?b_bool ?b_dict ?b_sorted ?b_sum ?b_set ?b_abs ?b_max ?b_zip
    (case h_is_word => refine' DS.FnK.mk ?a ?l ?c ?k; (case a => k_is); (case l => k_is); (case c => k_is); (case k => k_is))
    (case h_look_at_word => refine' DS.FnK.mk ?a ?l ?c ?k; (case a => k_is); (case l => k_is); (case c => k_is); (case k => k_is))
    (case h_rest_rows => refine' DS.FnK.mk ?a ?l ?c ?k; (case a => k_is); (case l => k_is); (case c => k_is); (case k => k_is))
    (case h_script_of => refine' DS.FnK.mk ?a ?l ?c ?k; (case a => k_is); (case l => k_is); (case c => k_is); (case k => k_is))
    (case h_moved_by => refine' DS.FnK.mk ?a ?l ?c ?k; (case a => k_is); (case l => k_is); (case c => k_is); (case k => k_is))
    (case h_step_cost => refine' DS.FnK.mk ?a ?l ?c ?k; (case a => k_is); (case l => k_is); (case c => k_is); (case k => k_is))
    (case h_script_cost => refine' DS.FnK.mk ?a ?l ?c ?k; (case a => k_is); (case l => k_is); (case c => k_is); (case k => k_is))
    (case h_script_fault => refine' DS.FnK.mk ?a ?l ?c ?k; (case a => k_is); (case l => k_is); (case c => k_is); (case k => k_is))
    (case h__law_draws => refine' DS.FnK.mk ?a ?l ?c ?k; (case a => k_is); (case l => k_is); (case c => k_is); (case k => k_is))
    (case h__law_draw => refine' DS.FnK.mk ?a ?l ?c ?k; (case a => k_is); (case l => k_is); (case c => k_is); (case k => k_is))
    (case h__law_pick => refine' DS.FnK.mk ?a ?l ?c ?k; (case a => k_is); (case l => k_is); (case c => k_is); (case k => k_is))
    (case h__law_same => refine' DS.FnK.mk ?a ?l ?c ?k; (case a => k_is); (case l => k_is); (case c => k_is); (case k => k_is))
    (case h__law_far => refine' DS.FnK.mk ?a ?l ?c ?k; (case a => k_is); (case l => k_is); (case c => k_is); (case k => k_is))
    (case h__law_all => refine' DS.FnK.mk ?a ?l ?c ?k; (case a => k_is); (case l => k_is); (case c => k_is); (case k => k_is))
    (case h__law_fault => refine' DS.FnK.mk ?a ?l ?c ?k; (case a => k_is); (case l => k_is); (case c => k_is); (case k => k_is))
    (case h__law_drawn => refine' DS.FnK.mk ?a ?l ?c ?k; (case a => k_is); (case l => k_is); (case c => k_is); (case k => k_is))
    (case h_law => refine' DS.FnK.mk ?a ?l ?c ?k; (case a => k_is); (case l => k_is); (case c => k_is); (case k => k_is))
    (case x_BadPlan => refine' DS.ExcK.mk ?aC ?aS ?xL ?hbm ?sa ?ga ?gg ?no ?i1 ?t1 ?l1 ?c1 ?k1 ?kC ?eC ?tC ?hC ?cl ?sC ?ca ?cn ?ct ?cm ?kS ?b1 ?b2 ?b3 ?b4; (case aC => k_is); (case aS => k_is); (case xL => k_is); (case hbm => decide +kernel); (case sa => k_is); (case ga => k_is); (case gg => k_is); (case no => intro n hn; simp only [List.mem_cons, List.not_mem_nil, or_false] at hn; subst hn; k_is); (case i1 => k_is); (case t1 => k_is); (case l1 => k_is); (case c1 => k_is); (case k1 => k_is); (case kC => k_is); (case eC => k_is); (case tC => k_is); (case hC => k_is); (case cl => first | rfl | k_is); (case sC => first | rfl | k_is); (case ca => k_is); (case cn => k_is); (case ct => k_is); (case cm => k_is); (case kS => first | rfl | k_is); (case b1 => k_is); (case b2 => k_is); (case b3 => k_is); (case b4 => k_is))
    (case c_SMALL => refine' DS.CstK.one ?a ?h; (case a => k_is); (case h => decide +kernel))
    (case c_GREAT => refine' DS.CstK.one ?a ?h; (case a => k_is); (case h => decide +kernel))
    (case c_DIGITS => refine' DS.CstK.one ?a ?h; (case a => k_is); (case h => decide +kernel))
    (case c_RUNS => refine' DS.CstK.one ?a ?h; (case a => k_is); (case h => decide +kernel))
    (case c_MOST_WORD => refine' DS.CstK.one ?a ?h; (case a => k_is); (case h => decide +kernel))
    (case c_STEPS => refine' DS.CstK.tup ?a ?l ?h ?z ?k; (case a => k_is); (case l => k_is); (case h => decide +kernel); (case z => decide +kernel); (case k => decide +kernel))
    (case b_len => k_is)
    (case b_int => k_is)
    (case b_min => k_is)
    (case b_tuple => k_is)
    (case b_list => k_is)
    (case b_all => k_is)
    (case b_any => k_is)
    (case b_range => k_is)
    (case b_enumerate => k_is)
    (case b_isinstance => k_is)
    (case b_str => k_is)
    (case b_bool => k_is)
    (case b_dict => k_is)
    (case b_sorted => k_is)
    (case b_sum => k_is)
    (case b_set => k_is)
    (case b_abs => k_is)
    (case b_max => k_is)
    (case b_zip => k_is)
