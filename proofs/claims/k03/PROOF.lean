import PyProof.Rows.All
import Wide.All
import OpenK.AllK
import Wide.FinOn
import HandS.AnyAll
import HandS.CallRecv
import HandS.Codes
import HandS.Deep
import HandS.Defaults
import HandS.ExcOwn
import HandS.FStr
import HandS.ForMost
import HandS.GenBody
import HandS.GenList
import HandS.Head0
import HandS.Head1
import HandS.Head2
import HandS.HeadEnd
import HandS.HeadHook1
import HandS.HeadHook2
import HandS.HeadHook3
import HandS.HeadHook4
import HandS.HeadWalk
import HandS.Lambda
import HandS.More
import HandS.RaiseFrom
import HandS.Steps
import HandS.StrMore
import HandS.Style
import HandS.SuiteRaise
import HandS.TryOnly
import HandS.TupLe
import HandS.Words
import KE.KStateDown
import PyProof.Rows.CountFlat
import PyProof.StrOps2
import PyProof.TupleOfGen
import PyProof.Walk
import PyProof.WalkLemmas
import PySem.Challenge.RW_formstack_k03_rules_of_answers
-- text FsA
set_option Elab.async false
set_option linter.all false
/-! FsA: values as trees, the inner language, its evaluator. -/
namespace FS
open PySem

/-- values: lists, tuples and dicts that are never changed are trees; ref n: the n-th changed object; clo l d: the l-th lambda, made in the frame d -/
inductive D where
  | non | bl (b : Bool) | int (i : Int) | str (x : List Nat)
  | tup (xs : List D) | lst (xs : List D) | dic (kvs : List (D × D)) | frl (xs : List D)
  | ref (n : Nat) | clo (l d : Nat)
  deriving Inhabited

inductive MO where
  | gone | lst (xs : List D) | dic (kvs : List (D × D)) | ins (c : Nat) (fs : List (Nat × D))
  deriving Inhabited
abbrev MH := List MO
abbrev Fr := List (Option D)

inductive R (α : Type) where
  | ok (a : α) (h : MH) | exc (c : Nat) (h : MH) | stk

def R.bind {α β : Type} : R α → (α → MH → R β) → R β
  | .ok a h, f => f a h
  | .exc c h, _ => .exc c h
  | .stk, _ => .stk
def R.noX {α : Type} : R α → R α
  | .ok a h => .ok a h
  | _ => .stk
def R.opt {α : Type} (h : MH) : Option α → R α
  | some a => .ok a h
  | none => .stk

inductive RS where
  | nx (fr : Fr) (h : MH) | ret (d : D) (h : MH) | brk (fr : Fr) (h : MH) | cnt (fr : Fr) (h : MH) | exc (c : Nat) (fr : Fr) (h : MH) | stk

/-! ### the syntax -/
inductive Bop where
  | add | sub | mul | fdiv | mod | pow
inductive Cop where
  | eq | ne | lt | le | gt | ge | isin | notin | isn | notn
inductive Bi where
  | len | int | str | abs | max2 | min2 | list | tuple | dict
inductive Me where
  | strip | lstrip | rstrip | split | join | lower | upper | part
inductive Gq where
  | any | all
inductive T where
  | nm (i : Nat) | tup (ts : List T)

mutual
inductive E where
  | k (d : D)
  | var (i : Nat)
  | glb (i : Nat)
  | bin (op : Bop) (a b : E)
  | neg (a : E)
  | cmp (op : Cop) (a b : E)
  | chn (op op2 : Cop) (a b c : E)
  | bop (an : Bool) (es : Es)
  | bnot (a : E)
  | ife (c : Ct) (a b : E)
  | ix (a b : E)
  | sl (a lo hi : E)
  | nop
  | tup (es : Es)
  | lst (m : Bool) (es : Es)
  | call (f : Nat) (es : Es)
  | bi (b : Bi) (es : Es)
  | me (m : Me) (o : E) (es : Es)
  | lam (l : Nat)
  | app (i : Nat)
  | lc (own : List Nat) (t : T) (it : Iw) (ifs : Cs) (e : E)
  | gen (q : Gq) (own : List Nat) (t : T) (it : Iw) (ifs : Cs) (e : E)
  | fs (es : Es)
  | at (e : E) (f : Nat)
  | new (c : Nat) (es : Es)
  | mc (m : Nat) (e : E) (es : Es)
  | dct (es : Es)
  | dget (o k d : E)
  | lcnt (o e : E)
  | tgen (own : List Nat) (t : T) (it : Iw) (ifs : Cs) (e : E)
/-- tests -/
inductive Ct where
  | v (e : E)
  | nt (a : Ct)
  | bop (an : Bool) (cs : Cs)
  | ife (c a b : Ct)
  | cmp (op : Cop) (a b : E)
  | chn (op op2 : Cop) (a b c : E)
inductive Cs where
  | nil
  | cons (c : Ct) (cs : Cs)
inductive Es where
  | nil
  | cons (e : E) (es : Es)
inductive Iw where
  | e (a : E)
  | rng (es : Es)
  | enum (es : Es)
  | zip (es : Es)
end

def Es.isNil : Es → Bool
  | .nil => true
  | .cons _ _ => false
inductive Hd where
  | ret (d : D) | pas | rai (c : Nat)
mutual
inductive S where
  | set (t : T) (e : E)
  | par (ts : List Nat) (es : Es)
  | sub (e o i : E)
  | sat (e o : E) (f : Nat)
  | aat (op : Bop) (o : E) (f : Nat) (e : E)
  | aug (op : Bop) (i : Nat) (e : E)
  | apd (o e : E)
  | ext (i : Nat) (e : E)
  | ife (c : Ct) (a b : Ss)
  | for_ (t : T) (it : Iw) (b : Ss)
  | whl (n : Nat) (c : Ct) (b : Ss)
  | ret (e : E)
  | retn
  | rai (c : Nat)
  | tri (b : Ss) (hs : List (Nat × Hd))
  | exp (e : E)
  | doc
  | pas
  | cnt
  | brk
inductive Ss where
  | nil
  | cons (s : S) (r : Ss)
end

structure Lam where
  cap : List Nat
  body : E
structure Fn where
  ar : Nat
  nl : Nat
  dfl : List D
  lamf : Bool
  body : Ss
/-- hot: the classes ahead of it are raised where nothing is handled, the others in an except suite; ini: a class's __init__; mts: its methods; fld: its fields' names (class, name); nat: how many names -/
structure Pg where
  fns : List Fn
  lams : List Lam
  sup : List (Nat × Nat)
  ncl : Nat
  hot : Nat
  glb : List D
  ini : List (Nat × Nat)
  mts : List ((Nat × Nat) × Nat)
  fld : List (Nat × Nat)
  nat : Nat
def lookN {α : Type} (n : Nat) : List (Nat × α) → Option α
  | [] => none
  | p :: r => if Nat.beq p.1 n then some p.2 else lookN n r
def lookNN {α : Type} (n m : Nat) : List ((Nat × Nat) × α) → Option α
  | [] => none
  | p :: r => if Nat.beq p.1.1 n && Nat.beq p.1.2 m then some p.2 else lookNN n m r
def Pg.fldB (g : Pg) (c f : Nat) : Bool := Nat.blt f g.nat && g.fld.any fun p => Nat.beq p.1 c && Nat.beq p.2 f
def putN {α : Type} (n : Nat) (x : α) : List (Nat × α) → List (Nat × α)
  | [] => [(n, x)]
  | p :: r => if Nat.beq p.1 n then (n, x) :: r else p :: putN n x r

inductive Cal where
  | fn (i : Nat) | lam (l : Nat) (fr : Fr)

/-! ### values' own operations -/
def line : Nat := 16777216
def b2i : Bool → Int
  | true => 1
  | false => 0
mutual
def deq : D → D → Bool
  | .non, .non => true
  | .bl a, .bl b => a == b
  | .bl a, .int j => decide (b2i a = j)
  | .int i, .bl b => decide (i = b2i b)
  | .int i, .int j => decide (i = j)
  | .str x, .str y => x == y
  | .lst xs, .lst ys => deqs xs ys
  | .tup xs, .tup ys => deqs xs ys
  | _, _ => false
def deqs : List D → List D → Bool
  | [], [] => true
  | x :: xs, y :: ys => deq x y && deqs xs ys
  | _, _ => false
end
def flatD : D → Bool
  | .non => true
  | .bl _ => true
  | .int _ => true
  | .str _ => true
  | _ => false
mutual
/-- data that == reads: at most k deep -/
def shp : Nat → D → Bool
  | _, .non => true
  | _, .bl _ => true
  | _, .int _ => true
  | _, .str x => x.all (fun c => Nat.blt c 1114112)
  | 0, _ => false
  | k + 1, .lst xs => shps k xs
  | k + 1, .tup xs => shps k xs
  | _, _ => false
def shps : Nat → List D → Bool
  | _, [] => true
  | k, x :: xs => shp k x && shps k xs
end
mutual
def noClo : D → Bool
  | .clo _ _ => false
  | .tup xs => noClos xs
  | .lst xs => noClos xs
  | .frl xs => noClos xs
  | .dic kvs => noCloKv kvs
  | _ => true
def noClos : List D → Bool
  | [] => true
  | x :: xs => noClo x && noClos xs
def noCloKv : List (D × D) → Bool
  | [] => true
  | (k, v) :: r => noClo k && noClo v && noCloKv r
end

def lstOf (h : MH) : D → Option (List D)
  | .lst xs => some xs
  | .ref n => (match h[n]? with
    | some (.lst xs) => some xs
    | _ => none)
  | _ => none
def seqOf (h : MH) : D → Option (List D)
  | .tup xs => some xs
  | d => lstOf h d

/-! dicts -/
def keyB : D → Bool
  | .int _ => true
  | .str _ => true
  | _ => false
def keyEq : D → D → Bool
  | .int i, .int j => decide (i = j)
  | .str x, .str y => x == y
  | _, _ => false
def lookD (k : D) : List (D × D) → Option D
  | [] => none
  | p :: r => if keyEq p.1 k then some p.2 else lookD k r
def putD (kvs : List (D × D)) (k v : D) : List (D × D) :=
  if kvs.any (fun p => keyEq p.1 k) then kvs.map (fun p => if keyEq p.1 k then (p.1, v) else p) else kvs ++ [(k, v)]
def mergeD (kvs more : List (D × D)) : List (D × D) := more.foldl (fun acc p => putD acc p.1 p.2) kvs
def dicOf (h : MH) : D → Option (List (D × D))
  | .dic kvs => some kvs
  | .ref n => (match h[n]? with
    | some (.dic kvs) => some kvs
    | _ => none)
  | _ => none
/-- rows (key, value) -/
def pairsOf : List D → Option (List (D × D))
  | [] => some []
  | .tup [k, v] :: r => if keyB k then (pairsOf r).map ((k, v) :: ·) else none
  | _ :: _ => none
/-- a key, a value, a key, a value .. -/
def pairUp : List D → Option (List (D × D))
  | [] => some []
  | [_] => none
  | k :: v :: r => if keyB k then (pairUp r).map ((k, v) :: ·) else none
/-- the data that stand at d, changed lists too -/
def resD : Nat → MH → D → D
  | 0, _, d => d
  | k + 1, h, .ref n => (match h[n]? with
    | some (.lst xs) => .lst (xs.map (resD k h))
    | _ => .ref n)
  | k + 1, h, .lst xs => .lst (xs.map (resD k h))
  | k + 1, h, .tup xs => .tup (xs.map (resD k h))
  | _, _, d => d
def eqOpt (h : MH) (x y : D) : Option Bool :=
  if flatD x && flatD y then (match x, y with
    | .bl _, .int _ => none
    | .int _, .bl _ => none
    | _, _ => some (deq x y))
  else if shp 60 (resD 60 h x) && shp 60 (resD 60 h y) then some (deq (resD 60 h x) (resD 60 h y)) else none

/-- y stands within x -/
def begins : List Nat → List Nat → Bool
  | [], _ => true
  | _ :: _, [] => false
  | a :: r, b :: s => Nat.beq a b && begins r s
def within (y : List Nat) : List Nat → Bool
  | [] => y.isEmpty
  | a :: r => begins y (a :: r) || within y r

def inOpt (h : MH) (x y : D) : Option Bool :=
  match y with
  | .str s => (match x with
    | .str t => some (within t s)
    | _ => none)
  | d => (match dicOf h d with
    | some kvs => if keyB x then some (lookD x kvs).isSome else none
    | none => (match seqOf h d with
      | some ys => if flatD x && ys.all flatD then some (ys.any fun z => deq z x) else
        if shp 59 (resD 59 h x) && shps 59 (ys.map (resD 59 h)) then some ((ys.map (resD 59 h)).any fun z => deq z (resD 59 h x)) else none
      | none => none))
/-- whole numbers in a tuple -/
def intsOf : List D → Option (List Int)
  | [] => some []
  | .int i :: r => (intsOf r).map (i :: ·)
  | _ :: _ => none
/-- by the first that differ -/
def lexI (le : Bool) (f : Int → Int → Bool) : List Int → List Int → Bool
  | [], [] => le
  | [], _ :: _ => f 0 1
  | _ :: _, [] => f 1 0
  | a :: r, b :: s => if a = b then lexI le f r s else f a b
def ordV (le : Bool) (f : Int → Int → Bool) (x y : D) : Option Bool := match x, y with
  | .int i, .int j => some (f i j)
  | .tup xs, .tup ys => (match intsOf xs, intsOf ys with
    | some a, some b => some (lexI le f a b)
    | _, _ => none)
  | _, _ => none

def small (i : Int) : Bool := decide (-18446744073709551616 < i) && decide (i < 18446744073709551616)
def repL {α : Type} (n : Nat) (x : List α) : List α := (List.replicate n x).flatten

/-- the object at x: its number, its class, its fields -/
def insOf (h : MH) : D → Option (Nat × Nat × List (Nat × D))
  | .ref n => (match h[n]? with
    | some (.ins c fs) => some (n, c, fs)
    | _ => none)
  | _ => none
def fldOf (g : Pg) (h : MH) (x : D) (f : Nat) : Option D := match insOf h x with
  | some (_, c, fs) => if g.fldB c f then lookN f fs else none
  | none => none
def fldSet (g : Pg) (h : MH) (x : D) (f : Nat) (d : D) : Option MH := match insOf h x with
  | some (n, c, fs) => if g.fldB c f && noClo d && Nat.blt fs.length 1000 then some (h.set n (.ins c (putN f d fs))) else none
  | none => none
def isLstR (h : MH) : D → Bool
  | .ref n => (match h[n]? with
    | some (.lst _) => true
    | _ => false)
  | _ => false
def apdAt (h : MH) (x d : D) : Option MH := match x with
  | .ref n => (match h[n]? with
    | some (.lst xs) => if noClo d && Nat.blt xs.length line then some (h.set n (.lst (xs ++ [d]))) else none
    | _ => none)
  | _ => none
/-- x += y: a changed list -/
def extAt (h : MH) (x d : D) : Option MH := match x, d with
  | .ref n, .lst ys => (match h[n]? with
    | some (.lst xs) => if noClos ys && Nat.ble (xs.length + ys.length) line then some (h.set n (.lst (xs ++ ys))) else none
    | _ => none)
  | _, _ => none
def binV (op : Bop) (x y : D) (h : MH) : R D :=
  match op, x, y with
  | .add, .int i, .int j => .ok (.int (i + j)) h
  | .add, .str a, .str b => if Nat.ble (a.length + b.length) line then .ok (.str (a ++ b)) h else .stk
  | .add, .lst a, .lst b => if Nat.ble (a.length + b.length) line then .ok (.lst (a ++ b)) h else .stk
  | .add, .tup a, .tup b => if !a.isEmpty && Nat.ble (a.length + b.length) line then .ok (.tup (a ++ b)) h else .stk
  | .sub, .int i, .int j => .ok (.int (i - j)) h
  | .mul, .int i, .int j => if small i || small j then .ok (.int (i * j)) h else .stk
  | .mul, .str a, .int j => if decide (-1000000 ≤ j) && decide (j ≤ 1000000) && Nat.ble (a.length * j.toNat) line then .ok (.str (repL j.toNat a)) h else .stk
  | .mul, .lst a, .int j => if decide (-1000000 ≤ j) && decide (j ≤ 1000000) && Nat.ble (a.length * j.toNat) line then .ok (.lst (repL j.toNat a)) h else .stk
  | .fdiv, .int i, .int j => if decide (0 < j) && decide (j < 1073741824) then .ok (.int (i / j)) h else .stk
  | .mod, .int i, .int j => if decide (0 < j) then .ok (.int (i % j)) h else .stk
  | .pow, .int i, .int j => if decide (0 ≤ j) && decide (j ≤ 1000000) && small i then .ok (.int (i ^ j.toNat)) h else .stk
  | _, _, _ => .stk

/-- x op= y: numbers, texts -/
def augV (op : Bop) (x y : D) (h : MH) : R D := match op, x, y with
  | .add, .int i, .int j => .ok (.int (i + j)) h
  | .add, .str a, .str b => if Nat.ble (a.length + b.length) line then .ok (.str (a ++ b)) h else .stk
  | .sub, .int i, .int j => .ok (.int (i - j)) h
  | _, _, _ => .stk
def ltL : List Nat → List Nat → Bool
  | [], [] => false
  | [], _ :: _ => true
  | _ :: _, [] => false
  | a :: r, b :: s => Nat.blt a b || (Nat.beq a b && ltL r s)

def cmpV (op : Cop) (x y : D) (h : MH) : Option Bool :=
  match op with
  | .eq => eqOpt h x y
  | .ne => (eqOpt h x y).map not
  | .lt => ordV false (fun i j => decide (i < j)) x y
  | .le => ordV true (fun i j => decide (i ≤ j)) x y
  | .gt => ordV false (fun i j => decide (j < i)) x y
  | .ge => ordV true (fun i j => decide (j ≤ i)) x y
  | .isin => inOpt h x y
  | .notin => (inOpt h x y).map not
  | .isn => (match y with
    | .non => some (match x with | .non => true | _ => false)
    | _ => none)
  | .notn => (match y with
    | .non => some (match x with | .non => false | _ => true)
    | _ => none)

def truV (h : MH) : D → Option Bool
  | .non => some false
  | .bl b => some b
  | .int i => some (decide (i ≠ 0))
  | .str x => if Nat.ble x.length line then some (!x.isEmpty) else none
  | .tup xs => some (!xs.isEmpty)
  | .lst xs => some (!xs.isEmpty)
  | _ => none

def ixN (n : Nat) (i : Int) : Option Nat :=
  if 0 ≤ i then (if i < n then some i.toNat else none) else if -(n : Int) ≤ i then some (i + n).toNat else none
def ixV (x y : D) (h : MH) : Option D :=
  match dicOf h x with
  | some kvs => if keyB y then lookD y kvs else none
  | none => match y with
  | .int i => (match x with
    | .str s => if Nat.ble s.length line then (match ixN s.length i with
      | some j => (match s[j]? with
        | some c => some (.str [c])
        | none => none)
      | none => none) else none
    | d => (match seqOf h d with
      | some xs => (match ixN xs.length i with
        | some j => xs[j]?
        | none => none)
      | none => none))
  | _ => none
def sIx (n d : Nat) : Option Int → Nat
  | none => d
  | some v => if v < 0 then (v + (n : Int)).toNat else min v.toNat n
def cut {α : Type} (xs : List α) (lo hi : Option Int) : List α :=
  (xs.drop (sIx xs.length 0 lo)).take (sIx xs.length xs.length hi - sIx xs.length 0 lo)
def slV (x : D) (lo hi : Option Int) (h : MH) : Option D :=
  match x with
  | .str s => if Nat.ble s.length line then some (.str (cut s lo hi)) else none
  | .frl xs => some (.lst (cut xs lo hi))
  | .tup xs => if Nat.beq (sIx xs.length 0 lo) 0 && Nat.beq (sIx xs.length xs.length hi) xs.length then none else some (.tup (cut xs lo hi))
  | d => (match lstOf h d with
    | some xs => some (.lst (cut xs lo hi))
    | none => none)

/-! texts -/
def ascii (x : List Nat) : Bool := x.all fun c => Nat.blt c 128
def lstripL (p : Nat → Bool) (x : List Nat) : List Nat := x.dropWhile p
def rstripL (p : Nat → Bool) (x : List Nat) : List Nat := (x.reverse.dropWhile p).reverse
def isDig (c : Nat) : Bool := Nat.ble 48 c && Nat.ble c 57
/-- the figures of a number -/
def figs : Nat → Nat → List Nat → List Nat
  | 0, _, acc => acc
  | f + 1, n, acc => if n < 10 then (48 + n) :: acc else figs f (n / 10) ((48 + n % 10) :: acc)
def natL (n : Nat) : List Nat := figs (n + 1) n []
def intL : Int → List Nat
  | .ofNat n => natL n
  | .negSucc n => 45 :: natL (n + 1)
def strsOf : List D → Option (List (List Nat))
  | [] => some []
  | .str x :: r => (match strsOf r with
    | some l => some (x :: l)
    | none => none)
  | _ :: _ => none
def lenS : List (List Nat) → Nat
  | [] => 0
  | x :: r => x.length + lenS r

def intOk (i : Int) : Bool := decide (i.natAbs.log2 < 1920)
def txtV : D → Option (List Nat)
  | .str x => if Nat.ble x.length line then some x else none
  | .int i => if intOk i then some (intL i) else none
  | _ => none

def biV (b : Bi) (as : List D) (h : MH) : R D :=
  match b, as with
  | .len, [.str x] => if Nat.ble x.length line then .ok (.int x.length) h else .stk
  | .len, [d] => (match seqOf h d with
    | some xs => .ok (.int xs.length) h
    | none => .stk)
  | .int, [.int i] => .ok (.int i) h
  | .int, [.bl b] => .ok (.int (b2i b)) h
  | .int, [.str x] => if !x.isEmpty && Nat.ble x.length 640 && x.all isDig then .ok (.int ((NumText.digitsVal x : Nat))) h else .stk
  | .str, [.int i] => if intOk i then .ok (.str (intL i)) h else .stk
  | .abs, [.int i] => .ok (.int (if i < 0 then -i else i)) h
  | .max2, [.int i, .int j] => .ok (.int (if j > i then j else i)) h
  | .min2, [.int i, .int j] => .ok (.int (if j < i then j else i)) h
  | .list, [d] => (match seqOf h d with
    | some xs => .ok (.lst xs) h
    | none => .stk)
  | .tuple, [.tup xs] => .ok (.tup xs) h
  | .tuple, [d] => (match lstOf h d with
    | some xs => .ok (.tup xs) h
    | none => .stk)
  | .dict, [d] => (match lstOf h d with
    | some xs => (match pairsOf xs with
      | some kvs => .ok (.dic (mergeD [] kvs)) h
      | none => .stk)
    | none => (match dicOf h d with
      | some kvs => .ok (.dic kvs) h
      | none => .stk))
  | _, _ => .stk

def meV (m : Me) (o : D) (as : List D) (h : MH) : R D :=
  match m, o, as with
  | .strip, .str x, [.str y] => if Nat.ble x.length line then .ok (.str (rstripL y.contains (lstripL y.contains x))) h else .stk
  | .lstrip, .str x, [.str y] => if Nat.ble x.length line then .ok (.str (lstripL y.contains x)) h else .stk
  | .rstrip, .str x, [.str y] => if Nat.ble x.length line then .ok (.str (rstripL y.contains x)) h else .stk
  | .split, .str x, [.str y] => if !y.isEmpty && ascii y && Nat.ble (x.length + 2) line then .ok (.lst ((TL.spl y 0 [] x).map .str)) h else .stk
  | .join, .str x, [d] => (match seqOf h d with
    | some ys => (match strsOf ys with
      | some l => if Nat.ble (lenS l + l.length * x.length) line then .ok (.str (TL.joinL x l)) h else .stk
      | none => .stk)
    | none => .stk)
  | .lower, .str x, [] => if ascii x && Nat.ble x.length 5592405 then .ok (.str (x.map PyProof.Rows.lo1)) h else .stk
  | .upper, .str x, [] => if ascii x && Nat.ble x.length 5592405 then .ok (.str (x.map PyProof.Rows.up1)) h else .stk
  | .part, .str x, [.str y] => if !y.isEmpty && Nat.ble x.length line then (match TL.par y [] x with
    | some (p, q) => .ok (.tup [.str p, .str y, .str q]) h
    | none => .ok (.tup [.str x, .str [], .str []]) h) else .stk
  | _, _, _ => .stk

/-! ### frames, walks -/
def get (fr : Fr) (i : Nat) : Option D := match fr[i]? with
  | some (some d) => some d
  | _ => none
def put (fr : Fr) (i : Nat) (d : D) : Fr := fr.set i (some d)
def wipeF : Fr → List Nat → Fr
  | fr, [] => fr
  | fr, v :: vs => (wipeF fr vs).set v none
mutual
def asg : T → D → Fr → Option Fr
  | .nm i, d, fr => if i < fr.length then some (put fr i d) else none
  | .tup ts, .tup xs, fr => asgs ts xs fr
  | .tup _, _, _ => none
def asgs : List T → List D → Fr → Option Fr
  | [], [], fr => some fr
  | t :: ts, x :: xs, fr => (match asg t x fr with
    | some fr1 => asgs ts xs fr1
    | none => none)
  | _, _, _ => none
end
/-- the frame at depth d, below the one that runs -/
def frameAt (o : List Fr) (d : Nat) : Option Fr := if d < o.length then o[o.length - 1 - d]? else none

/-- what is walked -/
def itemsOf (h : MH) : D → Option (List D)
  | .str x => if Nat.ble x.length line then some (x.map fun c => .str [c]) else none
  | .tup xs => some xs
  | .lst xs => some xs
  | _ => none
/-- an item of what is walked: a value; the i-th of the changed list n (with its place); the end of the changed list n, that was k long -/
inductive W where
  | pl (d : D) | rd (n i : Nat) | rp (n i : Nat) | fin (n k : Nat) | done
/-- none: not served; some none: the end -/
def rdW (h : MH) : W → Option (Option D)
  | .pl d => some (some d)
  | .rd n i => (match h[n]? with
    | some (.lst xs) => (match xs[i]? with
      | some d => some (some d)
      | none => none)
    | _ => none)
  | .rp n i => (match h[n]? with
    | some (.lst xs) => (match xs[i]? with
      | some d => some (some (.tup [.int i, d]))
      | none => none)
    | _ => none)
  | .fin n k => (match h[n]? with
    | some (.lst xs) => if Nat.beq xs.length k then some none else none
    | _ => none)
  | .done => some none
def plW : List D → List W
  | [] => [.done]
  | d :: r => .pl d :: plW r
def upW (f : Nat → W) (z : W) : Nat → Nat → List W
  | _, 0 => [z]
  | i, m + 1 => f i :: upW f z (i + 1) m
def enumL : Nat → List D → List W
  | _, [] => [.done]
  | i, d :: r => .pl (.tup [.int i, d]) :: enumL (i + 1) r
def zipL : List D → List D → List W
  | a :: r, b :: s => .pl (.tup [a, b]) :: zipL r s
  | _, _ => [.done]
def walkOf (h : MH) : D → Option (List W)
  | .ref n => (match h[n]? with
    | some (.lst xs) => some (upW (.rd n) (.fin n xs.length) 0 xs.length)
    | _ => none)
  | d => (match itemsOf h d with
    | some xs => some (plW xs)
    | none => none)
def enumOf (h : MH) : List D → Option (List W)
  | [.ref n] => (match h[n]? with
    | some (.lst xs) => some (upW (.rp n) (.fin n xs.length) 0 xs.length)
    | _ => none)
  | [.lst xs] => some (enumL 0 xs)
  | _ => none
def zipOf : List D → Option (List W)
  | [.lst xs, .lst ys] => some (zipL xs ys)
  | _ => none
def intsFrom (lo : Int) : Nat → List D
  | 0 => []
  | n + 1 => .int lo :: intsFrom (lo + 1) n
def rngOk (i : Int) : Bool := decide (-1000000000 ≤ i) && decide (i ≤ 1000000000)
def rngV : List D → Option (List D)
  | [.int j] => if rngOk j && Nat.ble j.toNat line then some (intsFrom 0 j.toNat) else none
  | [.int i, .int j] => if rngOk i && rngOk j && Nat.ble (j - i).toNat line then some (intsFrom i (j - i).toNat) else none
  | _ => none

def mapW (f : D → MH → R (Option D)) : List W → MH → R (List D)
  | [], _ => .stk
  | w :: ws, h => match rdW h w with
    | some (some x) => (f x h).bind fun o h1 => (mapW f ws h1).bind fun ys h2 => .ok (match o with
      | some y => y :: ys
      | none => ys) h2
    | some none => .ok [] h
    | none => .stk
/-- any (w: true), all (w: false) -/
def anyW (w : Bool) (f : D → MH → R (Option Bool)) : List W → MH → R Bool
  | [], _ => .stk
  | x :: xs, h => match rdW h x with
    | some (some x) => (f x h).bind fun o h1 => (match o with
      | some b => if b == w then .ok w h1 else anyW w f xs h1
      | none => anyW w f xs h1)
    | some none => .ok (!w) h
    | none => .stk

/-! ### the evaluator -/
abbrev CF := Cal → List Fr → List D → MH → R D
def E.isNop : E → Bool
  | .nop => true
  | _ => false
def opE : Bool → D → Option (Option Int)
  | true, _ => some none
  | false, .int i => some (some i)
  | _, _ => none

mutual
def evE (g : Pg) (cf : CF) (o : List Fr) : E → Fr → MH → R D
  | .k d, _, h => .ok d h
  | .var i, fr, h => .opt h (get fr i)
  | .glb i, _, h => .opt h g.glb[i]?
  | .bin op a b, fr, h => (evE g cf o a fr h).bind fun x h1 => (evE g cf o b fr h1).bind fun y h2 => binV op x y h2
  | .neg a, fr, h => (evE g cf o a fr h).bind fun x h1 => match x with
    | .int i => .ok (.int (-i)) h1
    | _ => .stk
  | .cmp op a b, fr, h => (evE g cf o a fr h).bind fun x h1 => (evE g cf o b fr h1).bind fun y h2 => match cmpV op x y h2 with
    | some c => .ok (.bl c) h2
    | none => .stk
  | .chn op op2 a b c, fr, h => (evE g cf o a fr h).bind fun x h1 => (evE g cf o b fr h1).bind fun y h2 => match cmpV op x y h2 with
    | some true => (evE g cf o c fr h2).bind fun z h3 => (match cmpV op2 y z h3 with
      | some c => .ok (.bl c) h3
      | none => .stk)
    | some false => .ok (.bl false) h2
    | none => .stk
  | .bop an es, fr, h => (evB g cf o an es fr h).bind fun b h1 => .ok (.bl b) h1
  | .bnot a, fr, h => (evE g cf o a fr h).bind fun x h1 => match x with
    | .bl b => .ok (.bl (!b)) h1
    | _ => .stk
  | .ife c a b, fr, h => (evT g cf o c fr h).bind fun t h1 => match t with
    | true => evE g cf o a fr h1
    | false => evE g cf o b fr h1
  | .ix a b, fr, h => (evE g cf o a fr h).bind fun x h1 => (evE g cf o b fr h1).bind fun y h2 => .opt h2 (ixV x y h2)
  | .sl a lo hi, fr, h => (evE g cf o a fr h).bind fun x h1 => (evE g cf o lo fr h1).bind fun l h2 => match opE lo.isNop l with
    | some l => (evE g cf o hi fr h2).bind fun u h3 => (match opE hi.isNop u with
      | some u => .opt h3 (slV x l u h3)
      | none => .stk)
    | none => .stk
  | .nop, _, h => .ok .non h
  | .tup es, fr, h => (evEs g cf o es fr h).bind fun xs h1 => if Nat.ble xs.length line then .ok (.tup xs) h1 else .stk
  | .lst m es, fr, h => (evEs g cf o es fr h).bind fun xs h1 => if Nat.ble xs.length line then (match m with
      | false => .ok (.lst xs) h1
      | true => if noClos xs then .ok (.ref h1.length) (h1 ++ [.lst xs]) else .stk) else .stk
  | .call f es, fr, h => (evEs g cf o es fr h).bind fun xs h1 => cf (.fn f) (fr :: o) xs h1
  | .bi b es, fr, h => (evEs g cf o es fr h).bind fun xs h1 => biV b xs h1
  | .me m e es, fr, h => (evE g cf o e fr h).bind fun x h1 => match x with
    | .str s => (evEs g cf o es fr h1).bind fun xs h2 => meV m (.str s) xs h2
    | _ => .stk
  | .lam l, _, h => .ok (.clo l o.length) h
  | .app i, fr, h => match get fr i with
    | some (.clo l d) => (match g.lams[l]?, frameAt o d with
      | some L, some f => if L.cap.all (fun i => Nat.blt i f.length) then cf (.lam l (L.cap.map (get f))) (fr :: o) [] h else .stk
      | _, _ => .stk)
    | _ => .stk
  | .lc own t it ifs e, fr, h => (evI g cf o it fr h).bind fun xs h1 => if Nat.ble xs.length line then ((mapW (fun x h2 => match asg t x (wipeF fr own) with
      | some fr1 => (evTs g cf (fr :: o) true ifs fr1 h2).noX.bind fun b h3 => (match b with
        | true => (evE g cf (fr :: o) e fr1 h3).noX.bind fun y h4 => .ok (some y) h4
        | false => .ok none h3)
      | none => .stk) xs h1).bind fun ys h5 => .ok (.lst ys) h5) else .stk
  | .gen q own t it ifs e, fr, h => (evI g cf o it fr h).bind fun xs h1 => (anyW (match q with | .any => true | .all => false) (fun x h2 => match asg t x (wipeF fr own) with
      | some fr1 => (evTs g cf ([] :: o) true ifs fr1 h2).noX.bind fun b h3 => (match b with
        | true => (evE g cf ([] :: o) e fr1 h3).noX.bind fun y h4 => (match y with
          | .bl c => .ok (some c) h4
          | _ => .stk)
        | false => .ok none h3)
      | none => .stk) xs h1).bind fun c h5 => .ok (.bl c) h5
  | .lcnt e x, fr, h => (evE g cf o e fr h).bind fun l h1 => match l with
    | .lst xs => (evE g cf o x fr h1).bind fun y h2 => (match y with
      | .str t => (match strsOf xs with
        | some ys => if Nat.ble ys.length 10000 then .ok (.int (ys.count t : Nat)) h2 else .stk
        | none => .stk)
      | _ => .stk)
    | _ => .stk
  | .tgen own t it ifs e, fr, h => (evI g cf o it fr h).bind fun xs h1 => if Nat.blt xs.length line then ((mapW (fun x h2 => match asg t x (wipeF fr own) with
      | some fr1 => (evTs g cf ([] :: o) true ifs fr1 h2).noX.bind fun b h3 => (match b with
        | true => (evE g cf ([] :: o) e fr1 h3).noX.bind fun y h4 => .ok (some y) h4
        | false => .ok none h3)
      | none => .stk) xs h1).bind fun ys h5 => .ok (.tup ys) h5) else .stk
  | .fs es, fr, h => (evJ g cf o [] es fr h).bind fun l h1 => .ok (.str l) h1
  | .at e f, fr, h => (evE g cf o e fr h).bind fun x h1 => .opt h1 (fldOf g h1 x f)
  | .new c es, fr, h => (evEs g cf o es fr h).bind fun xs h1 => match lookN c g.ini with
    | some i => (cf (.fn i) (fr :: o) (.ref h1.length :: xs) (h1 ++ [.ins c []])).bind fun d h2 => (match d with
      | .non => .ok (.ref h1.length) h2
      | _ => .stk)
    | none => .stk
  | .dct es, fr, h => (evEs g cf o es fr h).bind fun xs h1 => match pairUp xs with
    | some kvs => if Nat.ble kvs.length 15 then .ok (.dic (mergeD [] kvs)) h1 else .stk
    | none => .stk
  | .dget e k d, fr, h => (evE g cf o e fr h).bind fun x h1 => if (dicOf h1 x).isSome then ((evE g cf o k fr h1).bind fun y h2 => (evE g cf o d fr h2).bind fun z h3 => match dicOf h3 x with
    | some kvs => if keyB y then .ok ((lookD y kvs).getD z) h3 else .stk
    | none => .stk) else .stk
  | .mc m e es, fr, h => (evE g cf o e fr h).bind fun x h1 => match insOf h1 x with
    | some (n, c, fs) => (match lookNN c m g.mts, lookN m fs with
      | some i, none => if Nat.blt m g.nat then (evEs g cf o es fr h1).bind fun xs h2 => cf (.fn i) (fr :: o) (.ref n :: xs) h2 else .stk
      | _, _ => .stk)
    | none => .stk
/-- the parts of a text, one behind the other -/
def evJ (g : Pg) (cf : CF) (o : List Fr) : List Nat → Es → Fr → MH → R (List Nat)
  | acc, .nil, _, h => .ok acc h
  | acc, .cons e es, fr, h => (evE g cf o e fr h).bind fun x h1 => match txtV x with
    | some t => if Nat.ble (acc.length + t.length) line then evJ g cf o (acc ++ t) es fr h1 else .stk
    | none => .stk
def evEs (g : Pg) (cf : CF) (o : List Fr) : Es → Fr → MH → R (List D)
  | .nil, _, h => .ok [] h
  | .cons e es, fr, h => (evE g cf o e fr h).bind fun x h1 => (evEs g cf o es fr h1).bind fun xs h2 => .ok (x :: xs) h2
/-- a chain of and (an), or: each a bool -/
def evB (g : Pg) (cf : CF) (o : List Fr) : Bool → Es → Fr → MH → R Bool
  | _, .nil, _, _ => .stk
  | an, .cons e es, fr, h => (evE g cf o e fr h).bind fun x h1 => match x with
    | .bl b => if es.isNil then .ok b h1 else if b == an then evB g cf o an es fr h1 else .ok b h1
    | _ => .stk
/-- a test -/
def evT (g : Pg) (cf : CF) (o : List Fr) : Ct → Fr → MH → R Bool
  | .v e, fr, h => (evE g cf o e fr h).bind fun x h1 => .opt h1 (truV h1 x)
  | .nt a, fr, h => (evT g cf o a fr h).bind fun b h1 => .ok (!b) h1
  | .bop an cs, fr, h => evTs g cf o an cs fr h
  | .ife c a b, fr, h => (evT g cf o c fr h).bind fun t h1 => match t with
    | true => evT g cf o a fr h1
    | false => evT g cf o b fr h1
  | .cmp op a b, fr, h => (evE g cf o a fr h).bind fun x h1 => (evE g cf o b fr h1).bind fun y h2 => .opt h2 (cmpV op x y h2)
  | .chn op op2 a b c, fr, h => (evE g cf o a fr h).bind fun x h1 => (evE g cf o b fr h1).bind fun y h2 => match cmpV op x y h2 with
    | some true => (evE g cf o c fr h2).bind fun z h3 => .opt h3 (cmpV op2 y z h3)
    | some false => .ok false h2
    | none => .stk
def evTs (g : Pg) (cf : CF) (o : List Fr) : Bool → Cs → Fr → MH → R Bool
  | an, .nil, _, h => .ok an h
  | an, .cons c cs, fr, h => (evT g cf o c fr h).bind fun b h1 => if b == an then evTs g cf o an cs fr h1 else .ok b h1
def evI (g : Pg) (cf : CF) (o : List Fr) : Iw → Fr → MH → R (List W)
  | .e a, fr, h => (evE g cf o a fr h).bind fun x h1 => .opt h1 (walkOf h1 x)
  | .rng es, fr, h => (evEs g cf o es fr h).bind fun xs h1 => .opt h1 ((rngV xs).map plW)
  | .enum es, fr, h => (evEs g cf o es fr h).bind fun xs h1 => .opt h1 (enumOf h1 xs)
  | .zip es, fr, h => (evEs g cf o es fr h).bind fun xs h1 => .opt h1 (zipOf xs)
end

/-! ### statements -/
def forM (f : D → Fr → MH → RS) : List W → Fr → MH → RS
  | [], _, _ => .stk
  | w :: xs, fr, h => match rdW h w with
    | some (some x) => (match f x fr h with
      | .nx fr1 h1 => forM f xs fr1 h1
      | .cnt fr1 h1 => forM f xs fr1 h1
      | .brk fr1 h1 => .nx fr1 h1
      | r => r)
    | some none => .nx fr h
    | none => .stk
def whileM (c : Fr → MH → R Bool) (f : Fr → MH → RS) : Nat → Fr → MH → RS
  | 0, _, _ => .stk
  | n + 1, fr, h => match c fr h with
    | .ok false h1 => .nx fr h1
    | .ok true h1 => (match f fr h1 with
      | .nx fr1 h2 => whileM c f n fr1 h2
      | .cnt fr1 h2 => whileM c f n fr1 h2
      | .brk fr1 h2 => .nx fr1 h2
      | r => r)
    | .exc c h1 => .exc c fr h1
    | .stk => .stk
def R.toS {α : Type} (fr : Fr) : R α → (α → MH → RS) → RS
  | .ok a h, f => f a h
  | .exc c h, _ => .exc c fr h
  | .stk, _ => .stk
def asgNs : List Nat → List D → Fr → Option Fr
  | [], [], fr => some fr
  | t :: ts, x :: xs, fr => if t < fr.length then asgNs ts xs (put fr t x) else none
  | _, _, _ => none
def sub (g : Pg) (a b : Nat) : Bool := Nat.beq a b || g.sup.any fun p => Nat.beq p.1 a && Nat.beq p.2 b
def setAt (h : MH) (x i d : D) : Option MH :=
  match x, i with
  | .ref n, .int j => (match h[n]? with
    | some (.lst xs) => (match ixN xs.length j with
      | some k => if noClo d then some (h.set n (.lst (xs.set k d))) else none
      | none => none)
    | _ => none)
  | _, _ => none
def hdOf (g : Pg) (c : Nat) : List (Nat × Hd) → Option Hd
  | [] => none
  | p :: r => if sub g c p.1 then some p.2 else hdOf g c r
def RS.opt (fr : Fr) (h : MH) : Option Fr → RS
  | some fr1 => .nx fr1 h
  | none => .stk

mutual
def evS (g : Pg) (cf : CF) (o : List Fr) : S → Fr → MH → RS
  | .set t e, fr, h => (evE g cf o e fr h).toS fr fun d h1 => match asg t d fr with
    | some fr1 => .nx fr1 h1
    | none => .stk
  | .par ts es, fr, h => (evEs g cf o es fr h).toS fr fun ds h1 => match asgNs ts ds fr with
    | some fr1 => .nx fr1 h1
    | none => .stk
  | .sub e a i, fr, h => (evE g cf o e fr h).toS fr fun d h1 => (evE g cf o a fr h1).toS fr fun x h2 => (evE g cf o i fr h2).toS fr fun j h3 => match setAt h3 x j d with
    | some h4 => .nx fr h4
    | none => .stk
  | .sat e a f, fr, h => (evE g cf o e fr h).toS fr fun d h1 => (evE g cf o a fr h1).toS fr fun x h2 => match fldSet g h2 x f d with
    | some h3 => .nx fr h3
    | none => .stk
  | .aat op a f e, fr, h => (evE g cf o a fr h).toS fr fun x h1 => match insOf h1 x, fldOf g h1 x f with
    | some (_, c, _), some y => ((evE g cf o e fr h1).bind fun z h2 => augV op y z h2).toS fr fun d h3 => (match insOf h3 x, fldSet g h3 x f d with
      | some (_, c2, _), some h4 => if Nat.beq c c2 then .nx fr h4 else .stk
      | _, _ => .stk)
    | _, _ => .stk
  | .aug op i e, fr, h => match get fr i with
    | some y => ((evE g cf o e fr h).bind fun z h2 => augV op y z h2).toS fr fun d h3 => if Nat.blt i fr.length then .nx (put fr i d) h3 else .stk
    | none => .stk
  | .apd a e, fr, h => (evE g cf o a fr h).toS fr fun x h1 => if isLstR h1 x then ((evE g cf o e fr h1).toS fr fun d h2 => match apdAt h2 x d with
    | some h3 => .nx fr h3
    | none => .stk) else .stk
  | .ext i e, fr, h => match get fr i with
    | some x => (evE g cf o e fr h).toS fr fun d h2 => (match extAt h2 x d with
      | some h3 => .nx fr h3
      | none => .stk)
    | none => .stk
  | .ife c a b, fr, h => (evT g cf o c fr h).toS fr fun t h1 => match t with
    | true => evSs g cf o a fr h1
    | false => evSs g cf o b fr h1
  | .for_ t it b, fr, h => (evI g cf o it fr h).toS fr fun xs h1 => forM (fun x fr1 h2 => match asg t x fr1 with
    | some fr2 => evSs g cf o b fr2 h2
    | none => .stk) xs fr h1
  | .whl n c b, fr, h => whileM (fun fr1 h1 => evT g cf o c fr1 h1) (fun fr1 h1 => evSs g cf o b fr1 h1) n fr h
  | .ret e, fr, h => (evE g cf o e fr h).toS fr fun d h1 => .ret d h1
  | .retn, _, h => .ret .non h
  | .rai c, fr, h => if Nat.blt c g.hot then .exc c fr h else .stk
  | .tri b hs, fr, h => match evSs g cf o b fr h with
    | .exc c fr1 h1 => if c < g.ncl then (match hdOf g c hs with
      | some (.ret d) => .ret d h1
      | some .pas => .nx fr1 h1
      | some (.rai c2) => if Nat.blt c g.hot && !Nat.blt c2 g.hot then .exc c2 fr1 h1 else .stk
      | none => .exc c fr1 h1) else .stk
    | r => r
  | .exp e, fr, h => (evE g cf o e fr h).toS fr fun _ h1 => .nx fr h1
  | .doc, fr, h => .nx fr h
  | .pas, fr, h => .nx fr h
  | .cnt, fr, h => .cnt fr h
  | .brk, fr, h => .brk fr h
def evSs (g : Pg) (cf : CF) (o : List Fr) : Ss → Fr → MH → RS
  | .nil, fr, h => .nx fr h
  | .cons s r, fr, h => match evS g cf o s fr h with
    | .nx fr1 h1 => evSs g cf o r fr1 h1
    | x => x
end

/-- a call at most k deep -/
def callK (g : Pg) : Nat → CF
  | 0, _, _, _, _ => .stk
  | k + 1, .fn i, o, xs, h => (match g.fns[i]? with
    | some F => if xs.length ≤ F.ar ∧ F.ar ≤ xs.length + F.dfl.length then (match evSs g (callK g k) o F.body ((xs ++ F.dfl.drop (xs.length + F.dfl.length - F.ar)).map some ++ List.replicate (F.nl - F.ar) none) h with
      | .ret d h1 => if F.lamf && !noClo d then .stk else .ok d h1
      | .nx _ h1 => .ok .non h1
      | .exc c _ h1 => .exc c h1
      | _ => .stk) else .stk
    | none => .stk)
  | k + 1, .lam l fr, o, _, h => (match g.lams[l]? with
    | some L => evE g (callK g k) o L.body fr h
    | none => .stk)
end FS

-- text FsB
set_option Elab.async false
set_option linter.all false
set_option maxHeartbeats 1000000
/-! FsB: what stands for what: values, changed objects, frames. -/
namespace FS
open PySem PySem.Spec PyProof.Rows L2 LamX

/-- what a lambda takes from its maker -/
structure CI where
  cells : List (Str × Addr)
  N : List Str
  sc : Scope
  qual : Str
/-- the ground -/
structure GD where
  P : Program
  w : World
  K : PySem.W.Frag
  mg : Str → Option Value
  TQ : Addr → Option (Str × (Pos → Bool))
  lamC : Nat → CI → Arguments → Expr → Scope → Prop
  /-- own classes, names of attributes -/
  cad : Nat → Addr
  atn : Nat → Str
  nat : Nat
  /-- lists that are being made -/
  tmp : List Addr
/-- the same, other lists being made -/
abbrev GD.tm (G : GD) (t : List Addr) : GD := { G with tmp := t }

def Im (G : GD) (ρ : List Addr) (H : Hp) (a : Addr) (o : HO) : Prop := (a ∉ ρ ∧ a ∉ G.tmp) ∧ H a = some o
/-- a lambda's object -/
def CloO (q : Str) (params : Arguments) (body : Expr) (scope : Scope) (cl : List (Str × Addr)) (pm : Value) (c' : Addr) (ctv : Value) (f : Addr) : HO :=
  .ext fun h => h.get? f = some (PySem.W.kla_obj "<lambda>" q params body scope cl pm c' ctv)
def KT (K : PySem.W.Frag) (a : Addr) (xs : List V) : Prop :=
  ∃ (o : Obj) (its : Array Value) (n : Nat), K.lookup a = some o ∧ o.cls = .type "tuple" ∧ o.data = .seq its n ∧ its.size ≤ sizeLine ∧ Vals xs its.toList
def KL (K : PySem.W.Frag) (a : Addr) (xs : List V) : Prop :=
  ∃ (o : Obj) (its : Array Value) (n : Nat), K.lookup a = some o ∧ o.cls = .type "list" ∧ o.dict = none ∧ o.data = .seq its n ∧ its.size ≤ sizeLine ∧ Vals xs its.toList
def keyD : D → Option Key
  | .int i => some (.inl i)
  | .str x => some (.inr (SX.S x))
  | _ => none

mutual
def rep (G : GD) (cm : List (Option CI)) (ρ : List Addr) (H : Hp) : D → V → Prop
  | .non, v => v = .non
  | .bl b, v => v = .bl b
  | .int i, v => v = .int i
  | .str x, v => v = .str (SX.S x)
  | .tup xs, v => ∃ a ys, v = .ref a ∧ (Im G ρ H a (.tup ys) ∨ KT G.K a ys) ∧ reps G cm ρ H xs ys
  | .lst xs, v => ∃ a ys, v = .ref a ∧ Im G ρ H a (.lst ys) ∧ reps G cm ρ H xs ys
  | .dic kvs, v => ∃ a ys, v = .ref a ∧ Im G ρ H a (.dK ys) ∧ repk G cm ρ H kvs ys
  | .frl xs, v => ∃ a ys, v = .ref a ∧ ((∃ o, Im G ρ H a (.frz o (.lst ys))) ∨ KL G.K a ys) ∧ reps G cm ρ H xs ys
  | .ref n, v => ∃ a, v = .ref a ∧ ρ[n]? = some a
  | .clo l d, v => ∃ (f c' : Addr) (ci : CI) (pm ctv : Value) (params : Arguments) (body : Expr) (scope : Scope), v = .ref f ∧ cm[d]? = some (some ci) ∧ G.lamC l ci params body scope ∧
      Im G ρ H f (CloO (ci.qual ++ "<lambda>") params body scope (cloFrom ci.cells scope.names []) pm c' ctv f) ∧ Im G ρ H c' (CodeO c' (ci.qual ++ "<lambda>"))
def reps (G : GD) (cm : List (Option CI)) (ρ : List Addr) (H : Hp) : List D → List V → Prop
  | [], ys => ys = []
  | x :: xs, ys => ∃ y r, ys = y :: r ∧ rep G cm ρ H x y ∧ reps G cm ρ H xs r
def repk (G : GD) (cm : List (Option CI)) (ρ : List Addr) (H : Hp) : List (D × D) → List (Key × V) → Prop
  | [], ys => ys = []
  | (k, x) :: xs, ys => ∃ c y r, ys = (c, y) :: r ∧ keyD k = some c ∧ rep G cm ρ H x y ∧ repk G cm ρ H xs r
end

/-- what is behind: old things stay, but the changed objects -/
structure Ext (ρ : List Addr) (H : Hp) (ρ' : List Addr) (H' : Hp) : Prop where
  pre : ∃ t, ρ' = ρ ++ t
  keep : ∀ a o, H a = some o → a ∉ ρ → (∀ ps, o ≠ .tbl ps) → H' a = some o
  tbl : ∀ a ps, H a = some (.tbl ps) → a ∉ ρ → ∃ more, H' a = some (.tbl (ps ++ more))
  new : ∀ a ∈ ρ', a ∈ ρ ∨ H a = none
theorem Ext.refl (ρ : List Addr) (H : Hp) : Ext ρ H ρ H := ⟨⟨[], by simp⟩, fun _ _ e _ _ => e, fun _ ps e _ => ⟨#[], by simp [e]⟩, fun _ h => .inl h⟩
theorem Ext.nin {ρ ρ' : List Addr} {H H' : Hp} (e : Ext ρ H ρ' H') {a : Addr} {o : HO} (h : H a = some o) (n : a ∉ ρ) : a ∉ ρ' := fun m => by
  rcases e.new a m with z | z
  · exact n z
  · rw [h] at z; cases z
theorem Ext.trans {ρ ρ1 ρ2 : List Addr} {H H1 H2 : Hp} (a : Ext ρ H ρ1 H1) (b : Ext ρ1 H1 ρ2 H2) : Ext ρ H ρ2 H2 where
  pre := by
    obtain ⟨t, e⟩ := a.pre
    obtain ⟨u, e2⟩ := b.pre
    exact ⟨t ++ u, by rw [e2, e, List.append_assoc]⟩
  keep := fun c o h n nt => b.keep c o (a.keep c o h n nt) (a.nin h n) nt
  tbl := fun c ps h n => by
    obtain ⟨m1, e1⟩ := a.tbl c ps h n
    obtain ⟨m2, e2⟩ := b.tbl c _ e1 (a.nin h n)
    exact ⟨m1 ++ m2, by rw [e2, Array.append_assoc]⟩
  new := fun c h => by
    rcases b.new c h with z | z
    · exact a.new c z
    · by_cases hc : c ∈ ρ
      · exact .inl hc
      · right
        cases q : H c with
        | none => rfl
        | some o =>
          exfalso
          by_cases ht : ∃ ps, o = .tbl ps
          · obtain ⟨ps, rfl⟩ := ht
            obtain ⟨m, e⟩ := a.tbl c ps q hc
            rw [e] at z; cases z
          · rw [a.keep c o q hc (fun ps e => ht ⟨ps, e⟩)] at z; cases z
theorem Im.ext {G : GD} {ρ ρ' : List Addr} {H H' : Hp} {a : Addr} {o : HO} (e : Ext ρ H ρ' H') (h : Im G ρ H a o) (nt : ∀ ps, o ≠ .tbl ps) : Im G ρ' H' a o := ⟨⟨e.nin h.2 h.1.1, h.1.2⟩, e.keep a o h.2 h.1.1 nt⟩
theorem Ext.ix {ρ ρ' : List Addr} {H H' : Hp} (e : Ext ρ H ρ' H') {n : Nat} {a : Addr} (h : ρ[n]? = some a) : ρ'[n]? = some a := by
  obtain ⟨t, rfl⟩ := e.pre
  obtain ⟨hn, e⟩ := List.getElem?_eq_some_iff.mp h
  rw [List.getElem?_append_left hn]
  exact h

/-- deeper frames -/
def Deeper (cm cm' : List (Option CI)) : Prop := ∀ (d : Nat) (ci : CI), cm[d]? = some (some ci) → cm'[d]? = some (some ci)
theorem Deeper.refl (cm : List (Option CI)) : Deeper cm cm := fun _ _ h => h
theorem Deeper.app (cm t : List (Option CI)) : Deeper cm (cm ++ t) := fun d ci h => by
  obtain ⟨hn, e⟩ := List.getElem?_eq_some_iff.mp h
  rw [List.getElem?_append_left hn]
  exact h

/-- an object's fields -/
def repf (G : GD) (cm : List (Option CI)) (ρ : List Addr) (H : Hp) : List (Nat × D) → List (Str × V) → Prop
  | [], ys => ys = []
  | p :: r, ys => ∃ v s, ys = (G.atn p.1, v) :: s ∧ p.1 < G.nat ∧ rep G cm ρ H p.2 v ∧ repf G cm ρ H r s
/-- how what is seen goes on -/
structure Mv (G G' : GD) (cm cm' : List (Option CI)) (ρ ρ' : List Addr) (H H' : Hp) : Prop where
  K : G'.K = G.K
  lam : G'.lamC = G.lamC
  atn : G'.atn = G.atn
  nat : G'.nat = G.nat
  dp : Deeper cm cm'
  im : ∀ a o, (∀ ps, o ≠ .tbl ps) → Im G ρ H a o → Im G' ρ' H' a o
  ix : ∀ (n : Nat) (a : Addr), ρ[n]? = some a → ρ'[n]? = some a
section
variable {G G' : GD} {cm cm' : List (Option CI)} {ρ ρ' : List Addr} {H H' : Hp}
mutual
theorem rep.mv (m : Mv G G' cm cm' ρ ρ' H H') : ∀ (d : D) (v : V), rep G cm ρ H d v → rep G' cm' ρ' H' d v
  | .non, v, h => by unfold rep at h ⊢; exact h
  | .bl b, v, h => by unfold rep at h ⊢; exact h
  | .int b, v, h => by unfold rep at h ⊢; exact h
  | .str b, v, h => by unfold rep at h ⊢; exact h
  | .tup xs, v, h => by
    unfold rep at h ⊢
    obtain ⟨a, ys, e1, e2, e3⟩ := h
    exact ⟨a, ys, e1, e2.imp (fun z => m.im _ _ (fun _ q => by cases q) z) (fun z => by rw [m.K]; exact z), reps.mv m xs ys e3⟩
  | .lst xs, v, h => by
    unfold rep at h ⊢
    obtain ⟨a, ys, e1, e2, e3⟩ := h
    exact ⟨a, ys, e1, m.im _ _ (fun _ q => by cases q) e2, reps.mv m xs ys e3⟩
  | .dic xs, v, h => by
    unfold rep at h ⊢
    obtain ⟨a, ys, e1, e2, e3⟩ := h
    exact ⟨a, ys, e1, m.im _ _ (fun _ q => by cases q) e2, repk.mv m xs ys e3⟩
  | .frl xs, v, h => by
    unfold rep at h ⊢
    obtain ⟨a, ys, e1, e2, e3⟩ := h
    exact ⟨a, ys, e1, e2.imp (fun ⟨o, z⟩ => ⟨o, m.im _ _ (fun _ q => by cases q) z⟩) (fun z => by rw [m.K]; exact z), reps.mv m xs ys e3⟩
  | .ref n, v, h => by
    unfold rep at h ⊢
    obtain ⟨a, e1, e2⟩ := h
    exact ⟨a, e1, m.ix _ _ e2⟩
  | .clo l d, v, h => by
    unfold rep at h ⊢
    obtain ⟨f, c', ci, pm, ctv, params, body, scope, e1, e2, e3, e4, e5⟩ := h
    exact ⟨f, c', ci, pm, ctv, params, body, scope, e1, m.dp _ _ e2, by rw [m.lam]; exact e3, m.im _ _ (fun _ q => by unfold CloO at q; cases q) e4, m.im _ _ codeO_ne e5⟩
theorem reps.mv (m : Mv G G' cm cm' ρ ρ' H H') : ∀ (xs : List D) (ys : List V), reps G cm ρ H xs ys → reps G' cm' ρ' H' xs ys
  | [], ys, h => by unfold reps at h ⊢; exact h
  | x :: xs, ys, h => by
    unfold reps at h ⊢
    obtain ⟨y, r, e1, e2, e3⟩ := h
    exact ⟨y, r, e1, rep.mv m x y e2, reps.mv m xs r e3⟩
theorem repk.mv (m : Mv G G' cm cm' ρ ρ' H H') : ∀ (xs : List (D × D)) (ys : List (Key × V)), repk G cm ρ H xs ys → repk G' cm' ρ' H' xs ys
  | [], ys, h => by unfold repk at h ⊢; exact h
  | (k, x) :: xs, ys, h => by
    unfold repk at h ⊢
    obtain ⟨c, y, r, e1, e2, e3, e4⟩ := h
    exact ⟨c, y, r, e1, e2, rep.mv m x y e3, repk.mv m xs r e4⟩
end
theorem repf.mv (m : Mv G G' cm cm' ρ ρ' H H') : ∀ (xs : List (Nat × D)) (ys : List (Str × V)), repf G cm ρ H xs ys → repf G' cm' ρ' H' xs ys
  | [], ys, h => h
  | p :: r, ys, ⟨v, s, e1, e2, e3, e4⟩ => ⟨v, s, by rw [m.atn]; exact e1, by rw [m.nat]; exact e2, rep.mv m _ _ e3, repf.mv m r s e4⟩
theorem Mv.of (dp : Deeper cm cm') (e : Ext ρ H ρ' H') : Mv G G cm cm' ρ ρ' H H' := ⟨rfl, rfl, rfl, rfl, dp, fun _ _ nt h => h.ext e nt, fun _ _ h => e.ix h⟩
theorem rep.mono (dp : Deeper cm cm') (e : Ext ρ H ρ' H') (d : D) (v : V) (h : rep G cm ρ H d v) : rep G cm' ρ' H' d v := rep.mv (Mv.of dp e) d v h
theorem reps.mono (dp : Deeper cm cm') (e : Ext ρ H ρ' H') (d : List D) (v : List V) (h : reps G cm ρ H d v) : reps G cm' ρ' H' d v := reps.mv (Mv.of dp e) d v h
theorem repk.mono (dp : Deeper cm cm') (e : Ext ρ H ρ' H') (d : List (D × D)) (v : List (Key × V)) (h : repk G cm ρ H d v) : repk G cm' ρ' H' d v := repk.mv (Mv.of dp e) d v h
theorem repf.mono (dp : Deeper cm cm') (e : Ext ρ H ρ' H') (d : List (Nat × D)) (v : List (Str × V)) (h : repf G cm ρ H d v) : repf G cm' ρ' H' d v := repf.mv (Mv.of dp e) d v h
/-- a list that is being made is written -/
theorem Mv.wr {t : Addr} {u : HO} (h : t ∈ G.tmp) : Mv G G cm cm ρ ρ H (upd H t u) := ⟨rfl, rfl, rfl, rfl, Deeper.refl _, fun a o _ z => ⟨z.1, by rw [upd_ne (fun e => z.1.2 (by rw [e]; exact h))]; exact z.2⟩, fun _ _ h => h⟩
/-- fewer lists that are being made -/
theorem Mv.less {t t' : List Addr} (h : ∀ a ∈ t', a ∈ t) : Mv (G.tm t) (G.tm t') cm cm ρ ρ H H := ⟨rfl, rfl, rfl, rfl, Deeper.refl _, fun a o _ z => ⟨⟨z.1.1, fun m => z.1.2 (h a m)⟩, z.2⟩, fun _ _ h => h⟩
/-- one more, new -/
theorem Mv.more {t : List Addr} {p : Addr} (h : H p = none) : Mv (G.tm t) (G.tm (p :: t)) cm cm ρ ρ H H := ⟨rfl, rfl, rfl, rfl, Deeper.refl _, fun a o _ z => ⟨⟨z.1.1, fun m => by
  rcases List.mem_cons.mp m with e | m
  · have h2 := z.2
    rw [e, h] at h2
    cases h2
  · exact z.1.2 m⟩, z.2⟩, fun _ _ h => h⟩
mutual
/-- what holds no lambda -/
theorem rep.bare : ∀ (d : D) (v : V), noClo d = true → rep G cm ρ H d v → rep G cm' ρ H d v
  | .non, v, _, h => by unfold rep at h ⊢; exact h
  | .bl b, v, _, h => by unfold rep at h ⊢; exact h
  | .int b, v, _, h => by unfold rep at h ⊢; exact h
  | .str b, v, _, h => by unfold rep at h ⊢; exact h
  | .tup xs, v, n, h => by
    unfold rep at h ⊢
    unfold noClo at n
    obtain ⟨a, ys, e1, e2, e3⟩ := h
    exact ⟨a, ys, e1, e2, reps.bare xs ys n e3⟩
  | .lst xs, v, n, h => by
    unfold rep at h ⊢
    unfold noClo at n
    obtain ⟨a, ys, e1, e2, e3⟩ := h
    exact ⟨a, ys, e1, e2, reps.bare xs ys n e3⟩
  | .dic xs, v, n, h => by
    unfold rep at h ⊢
    unfold noClo at n
    obtain ⟨a, ys, e1, e2, e3⟩ := h
    exact ⟨a, ys, e1, e2, repk.bare xs ys n e3⟩
  | .frl xs, v, n, h => by
    unfold rep at h ⊢
    unfold noClo at n
    obtain ⟨a, ys, e1, e2, e3⟩ := h
    exact ⟨a, ys, e1, e2, reps.bare xs ys n e3⟩
  | .ref n, v, _, h => by unfold rep at h ⊢; exact h
  | .clo l d, v, n, h => by
    unfold noClo at n
    cases n
theorem reps.bare : ∀ (xs : List D) (ys : List V), noClos xs = true → reps G cm ρ H xs ys → reps G cm' ρ H xs ys
  | [], ys, _, h => by unfold reps at h ⊢; exact h
  | x :: xs, ys, n, h => by
    unfold reps at h ⊢
    unfold noClos at n
    rw [Bool.and_eq_true] at n
    obtain ⟨y, r, e1, e2, e3⟩ := h
    exact ⟨y, r, e1, rep.bare x y n.1 e2, reps.bare xs r n.2 e3⟩
theorem repk.bare : ∀ (xs : List (D × D)) (ys : List (Key × V)), noCloKv xs = true → repk G cm ρ H xs ys → repk G cm' ρ H xs ys
  | [], ys, _, h => by unfold repk at h ⊢; exact h
  | (k, x) :: xs, ys, n, h => by
    unfold repk at h ⊢
    unfold noCloKv at n
    rw [Bool.and_eq_true, Bool.and_eq_true] at n
    obtain ⟨c, y, r, e1, e2, e3, e4⟩ := h
    exact ⟨c, y, r, e1, e2, rep.bare x y n.1.2 e3, repk.bare xs r n.2 e4⟩
end
mutual
/-- the last frame made no lambda -/
theorem rep.top : ∀ (d : D) (v : V), rep G (cm ++ [none]) ρ H d v → rep G cm ρ H d v
  | .non, v, h => by unfold rep at h ⊢; exact h
  | .bl b, v, h => by unfold rep at h ⊢; exact h
  | .int b, v, h => by unfold rep at h ⊢; exact h
  | .str b, v, h => by unfold rep at h ⊢; exact h
  | .tup xs, v, h => by
    unfold rep at h ⊢
    obtain ⟨a, ys, e1, e2, e3⟩ := h
    exact ⟨a, ys, e1, e2, reps.top xs ys e3⟩
  | .lst xs, v, h => by
    unfold rep at h ⊢
    obtain ⟨a, ys, e1, e2, e3⟩ := h
    exact ⟨a, ys, e1, e2, reps.top xs ys e3⟩
  | .dic xs, v, h => by
    unfold rep at h ⊢
    obtain ⟨a, ys, e1, e2, e3⟩ := h
    exact ⟨a, ys, e1, e2, repk.top xs ys e3⟩
  | .frl xs, v, h => by
    unfold rep at h ⊢
    obtain ⟨a, ys, e1, e2, e3⟩ := h
    exact ⟨a, ys, e1, e2, reps.top xs ys e3⟩
  | .ref n, v, h => by unfold rep at h ⊢; exact h
  | .clo l d, v, h => by
    unfold rep at h ⊢
    obtain ⟨f, c', ci, pm, ctv, params, body, scope, e1, e2, e3⟩ := h
    refine ⟨f, c', ci, pm, ctv, params, body, scope, e1, ?_, e3⟩
    obtain ⟨hn, e⟩ := List.getElem?_eq_some_iff.mp e2
    by_cases hd : d < cm.length
    · rw [List.getElem?_append_left hd] at e2
      exact e2
    · rw [List.getElem?_append_right (by omega)] at e2
      have h0 : d - cm.length = 0 := by
        simp at hn
        omega
      rw [h0] at e2
      cases e2
theorem reps.top : ∀ (xs : List D) (ys : List V), reps G (cm ++ [none]) ρ H xs ys → reps G cm ρ H xs ys
  | [], ys, h => by unfold reps at h ⊢; exact h
  | x :: xs, ys, h => by
    unfold reps at h ⊢
    obtain ⟨y, r, e1, e2, e3⟩ := h
    exact ⟨y, r, e1, rep.top x y e2, reps.top xs r e3⟩
theorem repk.top : ∀ (xs : List (D × D)) (ys : List (Key × V)), repk G (cm ++ [none]) ρ H xs ys → repk G cm ρ H xs ys
  | [], ys, h => by unfold repk at h ⊢; exact h
  | (k, x) :: xs, ys, h => by
    unfold repk at h ⊢
    obtain ⟨c, y, r, e1, e2, e3, e4⟩ := h
    exact ⟨c, y, r, e1, e2, rep.top x y e3, repk.top xs r e4⟩
end
theorem reps.length : ∀ {xs : List D} {ys : List V}, reps G cm ρ H xs ys → xs.length = ys.length
  | [], ys, h => by
    unfold reps at h
    subst h
    rfl
  | x :: xs, ys, h => by
    unfold reps at h
    obtain ⟨y, r, e1, e2, e3⟩ := h
    rw [e1, List.length_cons, List.length_cons, reps.length e3]
theorem reps.get : ∀ {xs : List D} {ys : List V} {i : Nat} {x : D}, reps G cm ρ H xs ys → xs[i]? = some x → ∃ y, ys[i]? = some y ∧ rep G cm ρ H x y
  | [], ys, i, x, h, e => by simp at e
  | z :: xs, ys, i, x, h, e => by
    unfold reps at h
    obtain ⟨y, r, e1, e2, e3⟩ := h
    subst e1
    cases i with
    | zero =>
      simp at e
      subst e
      exact ⟨y, rfl, e2⟩
    | succ i =>
      obtain ⟨y', h1, h2⟩ := reps.get (i := i) (x := x) e3 (by simpa using e)
      exact ⟨y', by simpa using h1, h2⟩
theorem reps.app : ∀ {xs zs : List D} {ys ws : List V}, reps G cm ρ H xs ys → reps G cm ρ H zs ws → reps G cm ρ H (xs ++ zs) (ys ++ ws)
  | [], zs, ys, ws, h, h2 => by
    unfold reps at h
    subst h
    exact h2
  | x :: xs, zs, ys, ws, h, h2 => by
    unfold reps at h
    obtain ⟨y, r, e1, e2, e3⟩ := h
    subst e1
    rw [List.cons_append, List.cons_append]
    unfold reps
    exact ⟨y, r ++ ws, rfl, e2, reps.app e3 h2⟩
theorem reps.one {x : D} {y : V} (h : rep G cm ρ H x y) : reps G cm ρ H [x] [y] := by
  unfold reps
  exact ⟨y, [], rfl, h, by unfold reps; rfl⟩
theorem reps.nil : reps G cm ρ H [] [] := by unfold reps; rfl
theorem reps.cons {x : D} {y : V} {xs : List D} {ys : List V} (h : rep G cm ρ H x y) (h2 : reps G cm ρ H xs ys) : reps G cm ρ H (x :: xs) (y :: ys) := by
  unfold reps
  exact ⟨y, ys, rfl, h, h2⟩
theorem reps.drop : ∀ {xs : List D} {ys : List V} (n : Nat), reps G cm ρ H xs ys → reps G cm ρ H (xs.drop n) (ys.drop n)
  | xs, ys, 0, h => h
  | [], ys, n + 1, h => by
    unfold reps at h
    subst h
    exact reps.nil
  | x :: xs, ys, n + 1, h => by
    unfold reps at h
    obtain ⟨y, r, e1, e2, e3⟩ := h
    subst e1
    exact reps.drop n e3
theorem reps.take : ∀ {xs : List D} {ys : List V} (n : Nat), reps G cm ρ H xs ys → reps G cm ρ H (xs.take n) (ys.take n)
  | xs, ys, 0, h => by
    rw [List.take_zero, List.take_zero]
    exact reps.nil
  | [], ys, n + 1, h => by
    unfold reps at h
    subst h
    exact reps.nil
  | x :: xs, ys, n + 1, h => by
    unfold reps at h
    obtain ⟨y, r, e1, e2, e3⟩ := h
    subst e1
    exact reps.cons e2 (reps.take n e3)
theorem reps.set : ∀ {xs : List D} {ys : List V} {x : D} {y : V} (n : Nat), reps G cm ρ H xs ys → rep G cm ρ H x y → reps G cm ρ H (xs.set n x) (ys.set n y)
  | [], ys, x, y, n, h, q => by
    unfold reps at h
    subst h
    exact reps.nil
  | z :: xs, ys, x, y, 0, h, q => by
    unfold reps at h
    obtain ⟨y', r, e1, e2, e3⟩ := h
    subst e1
    exact reps.cons q e3
  | z :: xs, ys, x, y, n + 1, h, q => by
    unfold reps at h
    obtain ⟨y', r, e1, e2, e3⟩ := h
    subst e1
    exact reps.cons e2 (reps.set n e3 q)
theorem reps.rpt {xs : List D} {ys : List V} (h : reps G cm ρ H xs ys) : ∀ n : Nat, reps G cm ρ H (repL n xs) (List.replicate n ys).flatten
  | 0 => reps.nil
  | n + 1 => by
    unfold repL
    rw [List.replicate_succ, List.replicate_succ, List.flatten_cons, List.flatten_cons]
    exact reps.app h (reps.rpt h n)
end

/-! ### the changed objects, the tables -/
def Mu : HO → Bool
  | .lst _ => true
  | .dK _ => true
  | .ins _ _ _ => true
  | _ => false
theorem Mu.nt {o : HO} (h : Mu o = true) : ∀ ps, o ≠ .tbl ps := fun ps e => by
  rw [e] at h
  cases h
theorem Mu.nc {o : HO} (h : Mu o = true) (c : Addr) (q : Str) : o ≠ CodeO c q := fun e => by
  rw [e] at h
  unfold CodeO at h
  cases h
def mrep (G : GD) (ρ : List Addr) (H : Hp) (a : Addr) : MO → Prop
  | .gone => ∃ o, H a = some o ∧ Mu o = true
  | .lst xs => ∃ ys, H a = some (.lst ys) ∧ reps G [] ρ H xs ys
  | .dic kvs => ∃ ys, H a = some (.dK ys) ∧ repk G [] ρ H kvs ys
  | .ins c fs => ∃ dx fv, H a = some (.ins (G.cad c) dx fv) ∧ repf G [] ρ H fs fv
def TabR (H : Hp) (P : Addr) (q : Str) (L : Pos → Bool) : Prop :=
  ∃ ps : Array Value, H P = some (.tbl ps) ∧ TriplesOk ps.toList ∧ ∀ (pos : Pos) (cv : Value), L pos = true → codeAmong pos ps.toList = some cv → ∃ c, cv = .ref c ∧ H c = some (CodeO c q)
structure Gd (G : GD) (ρ : List Addr) (H : Hp) (mh : MH) : Prop where
  len : ρ.length = mh.length
  nd : ρ.Nodup
  chg : ∀ (n : Nat) (a : Addr) (o : MO), ρ[n]? = some a → mh[n]? = some o → mrep G ρ H a o
  tab : ∀ P q L, G.TQ P = some (q, L) → P ∉ ρ ∧ TabR H P q L
  tmp : ∀ a ∈ G.tmp, a ∉ ρ ∧ ∃ o, H a = some o ∧ Mu o = true
theorem mrep.there {G : GD} {ρ : List Addr} {H : Hp} {a : Addr} : ∀ {o : MO}, mrep G ρ H a o → ∃ u, H a = some u ∧ Mu u = true
  | .gone, h => h
  | .lst xs, ⟨ys, e, _⟩ => ⟨_, e, rfl⟩
  | .dic xs, ⟨ys, e, _⟩ => ⟨_, e, rfl⟩
  | .ins _ _, ⟨dx, fv, e, _⟩ => ⟨_, e, rfl⟩
theorem Gd.there {G : GD} {ρ : List Addr} {H : Hp} {mh : MH} (g : Gd G ρ H mh) {a : Addr} (h : a ∈ ρ) : ∃ u, H a = some u ∧ Mu u = true := by
  obtain ⟨n, hn, e⟩ := List.getElem_of_mem h
  have e1 : ρ[n]? = some a := by rw [List.getElem?_eq_getElem hn, e]
  have hm : n < mh.length := by rw [← g.len]; exact hn
  exact (g.chg n a _ e1 (List.getElem?_eq_getElem hm)).there
theorem Gd.fresh {G : GD} {ρ : List Addr} {H : Hp} {mh : MH} (g : Gd G ρ H mh) {p : Addr} (h : H p = none) : p ∉ ρ := fun m => by
  obtain ⟨u, e, _⟩ := g.there m
  rw [h] at e
  cases e
theorem mrep.ext {G : GD} {ρ ρ' : List Addr} {H H' : Hp} {a : Addr} (e : Ext ρ H ρ' H') (k : H' a = H a) : ∀ {o : MO}, mrep G ρ H a o → mrep G ρ' H' a o
  | .gone, h => by
    obtain ⟨o, e1, e2⟩ := h
    exact ⟨o, by rw [k]; exact e1, e2⟩
  | .lst xs, ⟨ys, e1, e2⟩ => ⟨ys, by rw [k]; exact e1, e2.mono (Deeper.refl _) e _ _⟩
  | .dic xs, ⟨ys, e1, e2⟩ => ⟨ys, by rw [k]; exact e1, e2.mono (Deeper.refl _) e _ _⟩
  | .ins _ _, ⟨dx, fv, e1, e2⟩ => ⟨dx, fv, by rw [k]; exact e1, e2.mono (Deeper.refl _) e _ _⟩
theorem TabR.of {H H' : Hp} {P : Addr} {q : Str} {L : Pos → Bool} (t : TabR H P q L) (e : ∀ b o, H b = some o → H' b = some o) : TabR H' P q L := by
  obtain ⟨ps, h1, h2, h3⟩ := t
  refine ⟨ps, e _ _ h1, h2, fun pos cv hl hc => ?_⟩
  obtain ⟨c, e1, e2⟩ := h3 pos cv hl hc
  exact ⟨c, e1, e _ _ e2⟩
theorem TabR.kept' {H : Hp} {P p : Addr} {q : Str} {L : Pos → Bool} {u o : HO} (t : TabR H P q L) (hu : H p = some u) (mu : Mu u = true) : TabR (upd H p o) P q L := by
  obtain ⟨ps, e1, e2, e3⟩ := t
  have n1 : ∀ b v, H b = some v → Mu v = false → upd H p o b = some v := fun b v e n => by
    rw [upd_ne]
    · exact e
    · intro z
      rw [z, hu] at e
      cases e
      rw [mu] at n
      cases n
  refine ⟨ps, n1 _ _ e1 rfl, e2, fun pos cv hl hc => ?_⟩
  obtain ⟨c, q1, q2⟩ := e3 pos cv hl hc
  exact ⟨c, q1, n1 _ _ q2 rfl⟩
section
variable {G : GD} {ρ ρ' : List Addr} {H H' : Hp} {mh : MH} {p a : Addr}
theorem Ext.upd {o : HO} (h : H p = none) : Ext ρ H ρ (upd H p o) :=
  ⟨⟨[], by simp⟩, fun b u e _ _ => by rw [upd_ne (ne_of_none e h)]; exact e, fun b ps e _ => ⟨#[], by rw [upd_ne (ne_of_none e h), e]; simp⟩, fun _ h => .inl h⟩
theorem Gd.freshT (g : Gd G ρ H mh) (h : H p = none) : p ∉ G.tmp := fun m => by
  obtain ⟨_, o, e, _⟩ := g.tmp p m
  rw [h] at e
  cases e
theorem Gd.fresh2 (g : Gd G ρ H mh) (h : H p = none) : p ∉ ρ ∧ p ∉ G.tmp := ⟨g.fresh h, g.freshT h⟩
theorem Gd.code {c : Addr} {q : Str} (g : Gd G ρ H mh) (h : H c = some (CodeO c q)) : c ∉ ρ ∧ c ∉ G.tmp := by
  refine ⟨fun m => ?_, fun m => ?_⟩
  · obtain ⟨u, e, n⟩ := g.there m
    rw [h] at e
    exact Mu.nc n c q (Option.some.inj e).symm
  · obtain ⟨_, u, e, n⟩ := g.tmp c m
    rw [h] at e
    exact Mu.nc n c q (Option.some.inj e).symm
/-- a new thing that is never changed -/
theorem Gd.new (g : Gd G ρ H mh) {o : HO} (h : H p = none) : Gd G ρ (upd H p o) mh where
  len := g.len
  nd := g.nd
  chg := fun n b u e1 e2 => (g.chg n b u e1 e2).ext (Ext.upd h) (by
    obtain ⟨v, e3, _⟩ := (g.chg n b u e1 e2).there
    rw [upd_ne (ne_of_none e3 h)])
  tab := fun P q L e => ⟨(g.tab P q L e).1, (g.tab P q L e).2.of fun b u z => by rw [upd_ne (ne_of_none z h)]; exact z⟩
  tmp := fun a m => by
    obtain ⟨n, o, e, nt⟩ := g.tmp a m
    exact ⟨n, o, by rw [upd_ne (ne_of_none e h)]; exact e, nt⟩
theorem Ext.mutNew {o : HO} (h : H p = none) : Ext ρ H (ρ ++ [p]) (L2.upd H p o) :=
  ⟨⟨[p], rfl⟩, fun b u e _ _ => by rw [upd_ne (ne_of_none e h)]; exact e, fun b ps e _ => ⟨#[], by rw [upd_ne (ne_of_none e h), e]; simp⟩, fun b m => by
    rcases List.mem_append.mp m with z | z
    · exact .inl z
    · right
      rw [List.mem_singleton] at z
      rw [z]
      exact h⟩
/-- a new thing that is changed later -/
theorem Gd.mutNewG (g : Gd G ρ H mh) {v : HO} {m : MO} (h : H p = none) (r : mrep G (ρ ++ [p]) (L2.upd H p v) p m) : Gd G (ρ ++ [p]) (L2.upd H p v) (mh ++ [m]) where
  len := by rw [List.length_append, List.length_append, g.len]; rfl
  nd := by
    rw [List.nodup_append]
    refine ⟨g.nd, by simp, fun b hb c hc e => ?_⟩
    rw [List.mem_singleton] at hc
    rw [e, hc] at hb
    exact g.fresh h hb
  chg := fun n b u e1 e2 => by
    have ex : Ext ρ H (ρ ++ [p]) (L2.upd H p v) := Ext.mutNew h
    by_cases hn : n < ρ.length
    · rw [List.getElem?_append_left hn] at e1
      rw [List.getElem?_append_left (by rw [← g.len]; exact hn)] at e2
      refine (g.chg n b u e1 e2).ext ex ?_
      obtain ⟨v, e3, _⟩ := (g.chg n b u e1 e2).there
      rw [upd_ne (ne_of_none e3 h)]
    · have e0 : n = ρ.length := by
        obtain ⟨z, _⟩ := List.getElem?_eq_some_iff.mp e1
        rw [List.length_append] at z
        simp at z
        omega
      subst e0
      rw [List.getElem?_append_right (Nat.le_refl _), Nat.sub_self] at e1
      rw [List.getElem?_append_right (by rw [g.len]; exact Nat.le_refl _), g.len, Nat.sub_self] at e2
      have e1 : p = b := by simpa using e1
      have e2 : m = u := by simpa using e2
      subst e1
      subst e2
      exact r
  tab := fun P q L e => ⟨fun m => by
    obtain ⟨h1, ps, h2, _⟩ := g.tab P q L e
    rcases List.mem_append.mp m with z | z
    · exact h1 z
    · rw [List.mem_singleton] at z
      rw [z, h] at h2
      exact absurd h2 (fun q => by cases q), (g.tab P q L e).2.of fun b u z => by rw [upd_ne (ne_of_none z h)]; exact z⟩
  tmp := fun a m => by
    obtain ⟨n, o, e, nt⟩ := g.tmp a m
    refine ⟨fun z => ?_, o, by rw [upd_ne (ne_of_none e h)]; exact e, nt⟩
    rcases List.mem_append.mp z with z | z
    · exact n z
    · rw [List.mem_singleton] at z
      rw [z, h] at e
      cases e
theorem Gd.mutNew (g : Gd G ρ H mh) {xs : List D} {ys : List V} (h : H p = none) (r : reps G [] ρ H xs ys) : Gd G (ρ ++ [p]) (L2.upd H p (.lst ys)) (mh ++ [.lst xs]) :=
  g.mutNewG h ⟨ys, upd_same, r.mono (Deeper.refl _) (Ext.mutNew h) _ _⟩
theorem Ext.store {o : HO} (h : a ∈ ρ) : Ext ρ H ρ (L2.upd H a o) :=
  ⟨⟨[], by simp⟩, fun b u e n _ => by rw [upd_ne (fun z => n (by rw [z]; exact h))]; exact e, fun b ps e n => ⟨#[], by rw [upd_ne (fun z => n (by rw [z]; exact h)), e]; simp⟩, fun _ h => .inl h⟩
theorem nd_inj : ∀ {l : List Addr}, l.Nodup → ∀ {m n : Nat} (hm : m < l.length) (hn : n < l.length), l[m] = l[n] → m = n
  | [], _, m, n, hm, _, _ => absurd hm (Nat.not_lt_zero _)
  | x :: l, nd, 0, 0, _, _, _ => rfl
  | x :: l, nd, 0, n + 1, _, hn, e => by
    have e' : x = l[n]'(Nat.lt_of_succ_lt_succ hn) := e
    exact absurd (by rw [e']; exact List.getElem_mem _) (List.nodup_cons.mp nd).1
  | x :: l, nd, m + 1, 0, hm, _, e => by
    have e' : l[m]'(Nat.lt_of_succ_lt_succ hm) = x := e
    exact absurd (by rw [← e']; exact List.getElem_mem _) (List.nodup_cons.mp nd).1
  | x :: l, nd, m + 1, n + 1, hm, hn, e => by rw [nd_inj (List.nodup_cons.mp nd).2 (Nat.lt_of_succ_lt_succ hm) (Nat.lt_of_succ_lt_succ hn) e]
theorem nodup_get : ∀ {l : List Addr} {m n : Nat} {a : Addr}, l.Nodup → l[m]? = some a → l[n]? = some a → m = n := fun {l m n a} nd h1 h2 => by
  obtain ⟨hm, e1⟩ := List.getElem?_eq_some_iff.mp h1
  obtain ⟨hn, e2⟩ := List.getElem?_eq_some_iff.mp h2
  exact nd_inj nd hm hn (e1.trans e2.symm)
/-- a changed thing is written -/
theorem Gd.storeG (g : Gd G ρ H mh) {n : Nat} {m0 m1 : MO} {v0 v1 : HO} (h : ρ[n]? = some a) (e : mh[n]? = some m0) (hy : H a = some v0) (mu : Mu v0 = true) (r : mrep G ρ (L2.upd H a v1) a m1) : Gd G ρ (L2.upd H a v1) (mh.set n m1) where
  len := by rw [List.length_set]; exact g.len
  nd := g.nd
  chg := fun m b u e1 e2 => by
    have hm : a ∈ ρ := List.mem_of_getElem? h
    have ex : Ext ρ H ρ (L2.upd H a v1) := Ext.store hm
    by_cases hmn : m = n
    · subst hmn
      rw [h] at e1
      cases e1
      rw [List.getElem?_set_self (List.getElem?_eq_some_iff.mp e).1] at e2
      cases e2
      exact r
    · rw [List.getElem?_set_ne (fun z => hmn z.symm)] at e2
      refine (g.chg m b u e1 e2).ext ex ?_
      rw [upd_ne]
      intro z
      rw [z] at e1
      exact hmn (nodup_get g.nd e1 h)
  tab := fun P q L z => by
    obtain ⟨h1, h2⟩ := g.tab P q L z
    exact ⟨h1, h2.kept' hy mu⟩
  tmp := fun b m => by
    obtain ⟨n1, u, e1, nt⟩ := g.tmp b m
    exact ⟨n1, u, by rw [upd_ne (fun z => n1 (by rw [z]; exact List.mem_of_getElem? h))]; exact e1, nt⟩
theorem Gd.store (g : Gd G ρ H mh) {n : Nat} {xs xs' : List D} {ys ys' : List V} (h : ρ[n]? = some a) (e : mh[n]? = some (.lst xs)) (hy : H a = some (.lst ys)) (r : reps G [] ρ H xs' ys') : Gd G ρ (L2.upd H a (.lst ys')) (mh.set n (.lst xs')) :=
  g.storeG h e hy rfl ⟨ys', upd_same, r.mono (Deeper.refl _) (Ext.store (List.mem_of_getElem? h)) _ _⟩
end

/-! ### frames -/
structure FrR (G : GD) (cm : List (Option CI)) (ρ : List Addr) (H : Hp) (σ : L2.St) (fr : Fr) : Prop where
  len : σ.length = fr.length
  at_ : ∀ i d, get fr i = some d → ∃ v, σ[i]? = some (some v) ∧ rep G cm ρ H d v
/-- the frames below: what lambdas took -/
def OutR (G : GD) (cm : List (Option CI)) (h0 : Heap) (H0 : Hp) (fs ex : List Addr) (ρ : List Addr) (H : Hp) (o : List Fr) : Prop :=
  ∀ (d : Nat) (ci : CI) (f : Fr), cm[d]? = some (some ci) → frameAt o d = some f → ∀ (i : Nat) (x : Str) (c : Addr), ci.N[i]? = some x → ci.sc.names.lookup x = some .cell → ci.cells.lookup x = some c →
    (H0 c = none ∧ c ∉ fs ∧ c ∉ ex ∧ ∃ w, h0.IsCell c w) ∧ ∀ dd, get f i = some dd → ∃ u v, h0.IsCell c (some u) ∧ RelV v u ∧ rep G cm ρ H dd v
section
variable {G : GD} {cm : List (Option CI)} {ρ ρ' : List Addr} {H H' : Hp} {σ : L2.St} {fr fr' : Fr} {o : List Fr} {h0 : Heap} {H0 : Hp} {fs ex : List Addr}
theorem FrR.ext (f : FrR G cm ρ H σ fr) (e : Ext ρ H ρ' H') : FrR G cm ρ' H' σ fr := ⟨f.len, fun i d h => let ⟨v, h1, h2⟩ := f.at_ i d h; ⟨v, h1, h2.mono (Deeper.refl _) e _ _⟩⟩
theorem OutR.ext (r : OutR G cm h0 H0 fs ex ρ H o) (e : Ext ρ H ρ' H') : OutR G cm h0 H0 fs ex ρ' H' o := fun d ci f h1 h2 i x c h3 h4 h5 => by
  obtain ⟨q1, q2⟩ := r d ci f h1 h2 i x c h3 h4 h5
  refine ⟨q1, fun dd hd => ?_⟩
  obtain ⟨u, v, z1, z2, z3⟩ := q2 dd hd
  exact ⟨u, v, z1, z2, z3.mono (Deeper.refl _) e _ _⟩
theorem get_put {i j : Nat} {d : D} (h : i < fr.length) : get (put fr i d) j = if i = j then some d else get fr j := by
  unfold get put
  by_cases e : i = j
  · subst e
    rw [List.getElem?_set_self h, if_pos rfl]
  · rw [List.getElem?_set_ne e, if_neg e]
theorem FrR.put (f : FrR G cm ρ H σ fr) {i : Nat} {d : D} {v : V} (h : i < fr.length) (r : rep G cm ρ H d v) : FrR G cm ρ H (σ.set i (some v)) (put fr i d) := by
  refine ⟨by rw [List.length_set, f.len]; unfold FS.put; rw [List.length_set], fun j dd hj => ?_⟩
  rw [get_put h] at hj
  by_cases e : i = j
  · subst e
    rw [if_pos rfl] at hj
    cases hj
    exact ⟨v, by rw [List.getElem?_set_self (by rw [f.len]; exact h)], r⟩
  · rw [if_neg e] at hj
    rw [List.getElem?_set_ne e]
    exact f.at_ j dd hj
theorem wipe_get : ∀ {vs : List Nat} {fr : Fr} {i : Nat} {d : D}, get (wipeF fr vs) i = some d → get fr i = some d ∧ i ∉ vs
  | [], fr, i, d, h => ⟨h, by simp⟩
  | v :: vs, fr, i, d, h => by
    unfold wipeF get at h
    by_cases e : v = i
    · subst e
      by_cases hl : v < (wipeF fr vs).length
      · rw [List.getElem?_set_self hl] at h
        cases h
      · have : ((wipeF fr vs).set v none)[v]? = none := by
          rw [List.getElem?_eq_none_iff, List.length_set]
          omega
        rw [this] at h
        cases h
    · rw [List.getElem?_set_ne e] at h
      obtain ⟨h1, h2⟩ := wipe_get (vs := vs) (fr := fr) (i := i) (d := d) h
      exact ⟨h1, fun m => (List.mem_cons.mp m).elim (fun z => e z.symm) h2⟩
theorem wipeF_length : ∀ (vs : List Nat) (fr : Fr), (wipeF fr vs).length = fr.length
  | [], fr => rfl
  | v :: vs, fr => by
    unfold wipeF
    rw [List.length_set, wipeF_length vs fr]
theorem wipe_keep : ∀ {vs : List Nat} {σ : L2.St} {i : Nat} {v : V}, σ[i]? = some (some v) → i ∉ vs → (wipe σ vs)[i]? = some (some v)
  | [], σ, i, v, h, _ => h
  | w :: vs, σ, i, v, h, n => by
    unfold wipe
    rw [List.getElem?_set_ne (fun z => n (by rw [z]; exact List.mem_cons_self))]
    exact wipe_keep h fun m => n (List.mem_cons_of_mem _ m)
theorem FrR.wipe (f : FrR G cm ρ H σ fr) (vs : List Nat) : FrR G cm ρ H (L2.wipe σ vs) (wipeF fr vs) :=
  ⟨by rw [wipe_length, wipeF_length, f.len], fun i d h => by
    obtain ⟨h1, h2⟩ := wipe_get h
    obtain ⟨v, e1, e2⟩ := f.at_ i d h1
    exact ⟨v, wipe_keep e1 h2, e2⟩⟩
end
end FS

-- text FsC
set_option Elab.async false
set_option linter.all false
set_option maxHeartbeats 1000000
/-! FsC: texts: what the model's own functions make of code lists. -/
namespace FS
open PySem PySem.Spec PyProof.Rows L2 LamX

theorem begins_iff : ∀ {y l : List Nat}, begins y l = true ↔ l.take y.length = y ∧ y.length ≤ l.length
  | [], l => by simp [begins]
  | a :: r, [] => by simp [begins]
  | a :: r, b :: s => by
    unfold begins
    have hb : Nat.beq a b = true ↔ a = b := ⟨Nat.eq_of_beq_eq_true, fun e => by rw [e]; exact Nat.beq_refl b⟩
    rw [Bool.and_eq_true, begins_iff (y := r) (l := s), hb]
    simp only [List.length_cons, List.take_succ_cons, List.cons.injEq, Nat.succ_le_succ_iff]
    constructor
    · rintro ⟨h1, h2, h3⟩
      exact ⟨⟨h1.symm, h2⟩, h3⟩
    · rintro ⟨⟨h1, h2⟩, h3⟩
      exact ⟨h1.symm, h2, h3⟩
theorem within_iff {y : List Nat} : ∀ {l : List Nat}, within y l = true ↔ ∃ i, i + y.length ≤ l.length ∧ (l.drop i).take y.length = y
  | [] => by
    unfold within
    constructor
    · intro h
      have e : y = [] := List.isEmpty_iff.mp h
      subst e
      exact ⟨0, by simp, by simp⟩
    · rintro ⟨i, h1, h2⟩
      have : y.length = 0 := by
        rw [List.length_nil] at h1
        omega
      rw [List.isEmpty_iff]
      exact List.length_eq_zero_iff.mp this
  | a :: l => by
    unfold within
    rw [Bool.or_eq_true, begins_iff, within_iff (l := l)]
    constructor
    · rintro (⟨h1, h2⟩ | ⟨i, h1, h2⟩)
      · exact ⟨0, by omega, by simpa using h1⟩
      · exact ⟨i + 1, by rw [List.length_cons]; omega, by simpa using h2⟩
    · rintro ⟨i, h1, h2⟩
      cases i with
      | zero => exact .inl ⟨by simpa using h2, by omega⟩
      | succ i => exact .inr ⟨i, by rw [List.length_cons] at h1; omega, by simpa using h2⟩
theorem within_S (y l : List Nat) : (!(Builtin.Str.occurrences (SX.S l) (SX.S y) 0 (SX.S l).length 1).isEmpty) = within y l := by
  rw [Bool.eq_iff_iff, StrLaws.found_iff, within_iff]
  constructor
  · rintro ⟨i, h1, h2⟩
    rw [StrLaws.subAt_eq] at h2
    refine ⟨i, by simpa [SX.S_len] using h1, ?_⟩
    have := eq_of_beq h2
    simpa [SX.S_len] using this
  · rintro ⟨i, h1, h2⟩
    refine ⟨i, by simpa [SX.S_len] using h1, ?_⟩
    rw [StrLaws.subAt_eq]
    have : ((SX.S l).cps.toList.drop i).take (SX.S y).length = (SX.S y).cps.toList := by simpa [SX.S_len] using h2
    rw [this]
    exact beq_self_eq_true _

/-! strips -/
theorem take_length_takeWhile {p : Nat → Bool} : ∀ l : List Nat, l.drop (l.takeWhile p).length = l.dropWhile p
  | [] => rfl
  | a :: l => by
    by_cases h : p a = true
    · rw [List.takeWhile_cons_of_pos h, List.dropWhile_cons_of_pos h, List.length_cons, List.drop_succ_cons, take_length_takeWhile l]
    · rw [List.takeWhile_cons_of_neg h, List.dropWhile_cons_of_neg h]
      rfl
theorem tw_le {p : Nat → Bool} (l : List Nat) : (l.takeWhile p).length ≤ l.length := by
  exact (List.takeWhile_sublist p).length_le
theorem S_sub (l : List Nat) (i j : Nat) : Builtin.Str.strSub (SX.S l) i j = SX.S ((l.drop i).take (j - i)) := by
  refine TL.ext_tl ?_
  show (Builtin.Str.strSub (SX.S l) i j).cps.toList = _
  rw [StrLaws.strSub_toList]
theorem rstrip_take {p : Nat → Bool} (l : List Nat) : l.take (l.length - (l.reverse.takeWhile p).length) = rstripL p l := by
  unfold rstripL
  rw [← take_length_takeWhile l.reverse, List.drop_reverse, List.reverse_reverse]
theorem stripBy_S (p : Nat → Bool) (l r : Bool) (x : List Nat) : Txt.stripBy p l r (SX.S x) = SX.S ((if r = true then rstripL p else id) ((if l = true then lstripL p else id) x)) := by
  have hd : x.drop (stripLo p l (SX.S x)) = (if l = true then lstripL p else id) x := by
    unfold stripLo
    cases l
    · rfl
    · exact take_length_takeWhile x
  have hlo : stripLo p l (SX.S x) ≤ x.length := by
    unfold stripLo
    cases l
    · exact Nat.zero_le _
    · exact tw_le x
  have hhi : stripHi p r (SX.S x) (stripLo p l (SX.S x)) - stripLo p l (SX.S x) = if r = true then (x.drop (stripLo p l (SX.S x))).length - ((x.drop (stripLo p l (SX.S x))).reverse.takeWhile p).length else (x.drop (stripLo p l (SX.S x))).length := by
    generalize stripLo p l (SX.S x) = n at hlo
    unfold stripHi
    cases r
    · simp [SX.S_len]
    · rw [if_pos rfl, if_pos rfl, SX.S_len, List.length_drop]
      show x.length - ((x.drop n).reverse.takeWhile p).length - n = _
      omega
  have main : stripped p l r (SX.S x) = SX.S ((if r = true then rstripL p else id) ((if l = true then lstripL p else id) x)) := by
    unfold stripped
    rw [S_sub, hhi, hd]
    cases r
    · rw [if_neg Bool.false_ne_true, if_neg Bool.false_ne_true, List.take_length]
      rfl
    · rw [if_pos rfl, if_pos rfl, rstrip_take]
  unfold Txt.stripBy
  split
  · rename_i hs
    rw [← main]
    unfold stripSame at hs
    rw [Bool.and_eq_true] at hs
    have h1 : stripLo p l (SX.S x) = 0 := by simpa using hs.1
    have h2 : stripHi p r (SX.S x) (stripLo p l (SX.S x)) = (SX.S x).length := by simpa using hs.2
    unfold stripped
    rw [S_sub, h2, h1, List.drop_zero, SX.S_len, Nat.sub_zero, List.take_length]
  · exact main
theorem strip_S (x y : List Nat) : Txt.stripChars (SX.S x) (SX.S y) = SX.S (rstripL y.contains (lstripL y.contains x)) := by
  unfold Txt.stripChars
  have e : ((SX.S y).cps.contains : Nat → Bool) = y.contains := by
    funext c
    simp
  rw [e, stripBy_S]
  rfl
theorem lstrip_S (x y : List Nat) : Txt.lstripChars (SX.S x) (SX.S y) = SX.S (lstripL y.contains x) := by
  unfold Txt.lstripChars
  have e : ((SX.S y).cps.contains : Nat → Bool) = y.contains := by
    funext c
    simp
  rw [e, stripBy_S]
  rfl
theorem rstrip_S (x y : List Nat) : Txt.rstripChars (SX.S x) (SX.S y) = SX.S (rstripL y.contains x) := by
  unfold Txt.rstripChars
  have e : ((SX.S y).cps.contains : Nat → Bool) = y.contains := by
    funext c
    simp
  rw [e, stripBy_S]
  rfl

/-! numbers -/
theorem figs_eq : ∀ (f n : Nat) (acc : List Nat), n < f → figs f n acc = TL.numL n ++ acc
  | 0, n, acc, h => absurd h (Nat.not_lt_zero _)
  | f + 1, n, acc, h => by
    unfold figs
    by_cases hn : n < 10
    · rw [if_pos hn, TL.numL_lt hn]
      rfl
    · rw [if_neg hn, TL.numL_step (by omega), figs_eq f (n / 10) _ (by omega), List.append_assoc]
      rfl
theorem natL_eq (n : Nat) : natL n = TL.numL n := by
  unfold natL
  rw [figs_eq _ _ _ (Nat.lt_succ_self n), List.append_nil]
theorem str_int : ∀ i : Int, Str.ofString (toString i) = SX.S (intL i)
  | .ofNat n => by
    show Str.ofString (toString ((n : Nat) : Int)) = SX.S (natL n)
    rw [SX.num_S, natL_eq]
  | .negSucc n => by
    show Str.ofString (toString (Int.negSucc n)) = SX.S (45 :: natL (n + 1))
    have e : toString (Int.negSucc n) = "-" ++ toString (n + 1) := rfl
    have e2 := SX.num_S (n + 1)
    have e3 : toString (((n + 1 : Nat)) : Int) = toString (n + 1) := rfl
    rw [e3, Str.ofString_eq_toList] at e2
    rw [e, Str.ofString_eq_toList, String.toList_append, List.map_append, natL_eq]
    have e4 := congrArg (fun z : Str => z.cps.toList) e2
    have e5 : (toString (n + 1)).toList.map Char.toNat = TL.numL (n + 1) := by simpa using e4
    rw [e5]
    rfl
theorem isDig_all {x : List Nat} (h : x.all isDig = true) : x.all (fun c => decide (48 ≤ c) && decide (c ≤ 57)) = true := by
  refine List.all_eq_true.mpr fun c hc => ?_
  have := List.all_eq_true.mp h c hc
  unfold isDig at this
  rw [Bool.and_eq_true, Nat.ble_eq, Nat.ble_eq] at this
  rw [Bool.and_eq_true, decide_eq_true_eq, decide_eq_true_eq]
  exact this
theorem sIx_eq (n d : Nat) (o : Option Int) : HT.sIx n d o = sIx n d o := by
  cases o <;> rfl
theorem cutS_S (x : List Nat) (lo hi : Option Int) : cutS (SX.S x) lo hi = SX.S (cut x lo hi) := by
  unfold cutS cut
  rw [sIx_eq, sIx_eq, SX.S_len]
theorem cutV_eq (xs : List V) (lo hi : Option Int) : cutV xs lo hi = cut xs lo hi := by
  unfold cutV cut
  rw [sIx_eq, sIx_eq]
theorem ixN_eq (n : Nat) (i : Int) : L2.ixN n i = ixN n i := rfl
theorem str_rep (x : List Nat) : ∀ n : Nat, (List.replicate n (SX.S x).cps).foldl (· ++ ·) #[] = (repL n x).toArray := by
  have gen : ∀ (n : Nat) (acc : Array Nat), (List.replicate n x.toArray).foldl (· ++ ·) acc = acc ++ (repL n x).toArray := by
    intro n
    induction n with
    | zero =>
      intro acc
      simp [repL]
    | succ n ih =>
      intro acc
      rw [List.replicate_succ, List.foldl_cons, ih]
      unfold repL
      rw [List.replicate_succ, List.flatten_cons]
      simp
  intro n
  rw [gen]
  simp
theorem repL_length {α : Type} (n : Nat) (x : List α) : (repL n x).length = x.length * n := by
  unfold repL
  induction n with
  | zero => simp
  | succ n ih => rw [List.replicate_succ, List.flatten_cons, List.length_append, ih, Nat.mul_succ, Nat.add_comm]
theorem lenS_eq : ∀ l : List (List Nat), lenS l = ((l.map SX.S).map (·.length)).sum
  | [] => rfl
  | x :: r => by
    unfold lenS
    rw [lenS_eq r, List.map_cons, List.map_cons, List.sum_cons, SX.S_len]
end FS

-- text FsD
set_option Elab.async false
set_option linter.all false
set_option maxHeartbeats 1000000
/-! FsD: the operations on values. -/
namespace FS
open PySem PySem.Spec PyProof.Rows L2 LamX

theorem line_eq : line = sizeLine := by rw [sizeLine_eq]; rfl
theorem le_line {n : Nat} (h : Nat.ble n line = true) : n ≤ sizeLine := by
  rw [← line_eq]
  exact Nat.le_of_ble_eq_true h

/-- what a result gives: the wish T is served by each Q that takes what the result tells -/
def Gv {α β : Type} (G : GD) (rl : List Addr → Hp → α → β → Prop) (ρ : List Addr) (H : Hp) (r : R α) (T : (β → Hp → Prop) → Prop) : Prop :=
  match r with
  | .ok d mh' => ∀ Q : β → Hp → Prop, (∀ ρ' H' v, Ext ρ H ρ' H' → Gd G ρ' H' mh' → rl ρ' H' d v → Q v H') → T Q
  | .exc _ _ => False
  | .stk => True

section
variable {G : GD} {cm : List (Option CI)} {ρ : List Addr} {H : Hp} {mh : MH} {T : VK → Prop}
theorem Gv.same {d : D} {v : V} (g : Gd G ρ H mh) (r : rep G cm ρ H d v) (h : ∀ Q : VK, Q v H → T Q) : Gv G (rep G cm) ρ H (.ok d mh) T := fun Q hq => h Q (hq ρ H v (Ext.refl _ _) g r)
theorem Gv.newL {xs : List D} {ys : List V} (g : Gd G ρ H mh) (r : reps G cm ρ H xs ys) (h : ∀ Q : VK, (∀ p, H p = none → Q (.ref p) (upd H p (.lst ys))) → T Q) : Gv G (rep G cm) ρ H (.ok (.lst xs) mh) T := fun Q hq =>
  h Q fun p hp => hq ρ _ _ (Ext.upd hp) (g.new hp) (by
    unfold rep
    exact ⟨p, ys, rfl, ⟨g.fresh2 hp, upd_same⟩, r.mono (Deeper.refl _) (Ext.upd hp) _ _⟩)
theorem Gv.newT {xs : List D} {ys : List V} (g : Gd G ρ H mh) (r : reps G cm ρ H xs ys) (h : ∀ Q : VK, (∀ p, H p = none → Q (.ref p) (upd H p (.tup ys))) → T Q) : Gv G (rep G cm) ρ H (.ok (.tup xs) mh) T := fun Q hq =>
  h Q fun p hp => hq ρ _ _ (Ext.upd hp) (g.new hp) (by
    unfold rep
    exact ⟨p, ys, rfl, .inl ⟨g.fresh2 hp, upd_same⟩, r.mono (Deeper.refl _) (Ext.upd hp) _ _⟩)
theorem Deeper.nil (cm : List (Option CI)) : Deeper [] cm := fun d ci h => by simp at h

/-! what stands for a sequence -/
theorem lst_of {d : D} {v : V} {xs : List D} (g : Gd G ρ H mh) (r : rep G cm ρ H d v) (h : lstOf mh d = some xs) : ∃ a ys, v = .ref a ∧ H a = some (.lst ys) ∧ reps G cm ρ H xs ys := by
  unfold lstOf at h
  split at h
  · cases h
    unfold rep at r
    obtain ⟨a, ys, e1, e2, e3⟩ := r
    exact ⟨a, ys, e1, e2.2, e3⟩
  · rename_i n
    unfold rep at r
    obtain ⟨a, e1, e2⟩ := r
    split at h
    · rename_i zs hz
      cases h
      obtain ⟨ys, e3, e4⟩ := g.chg n a _ e2 hz
      exact ⟨a, ys, e1, e3, e4.mono (Deeper.nil _) (Ext.refl _ _) _ _⟩
    · cases h
  · cases h
theorem seq_of {d : D} {v : V} {xs : List D} (g : Gd G ρ H mh) (r : rep G cm ρ H d v) (h : seqOf mh d = some xs) : ∃ a ys, v = .ref a ∧ (SqL G.K H a ys ∨ SqT G.K H a ys) ∧ reps G cm ρ H xs ys := by
  unfold seqOf at h
  split at h
  · cases h
    unfold rep at r
    obtain ⟨a, ys, e1, e2, e3⟩ := r
    refine ⟨a, ys, e1, .inr ?_, e3⟩
    rcases e2 with e2 | e2
    · exact SqT.of e2.2
    · exact .inr e2
  · obtain ⟨a, ys, e1, e2, e3⟩ := lst_of g r h
    exact ⟨a, ys, e1, .inl (SqL.of e2), e3⟩

/-! ### binary operations -/
def rAddS : R2 := fun x y H Q => ∃ i j, x = .str i ∧ y = .str j ∧ i.length + j.length ≤ sizeLine ∧ Q (.str (i ++ j)) H
def rMulS : R2 := fun x y H Q => ∃ (z : List Nat) (k : Int), x = .str (SX.S z) ∧ y = .int k ∧ -1000000 ≤ k ∧ k ≤ 1000000 ∧ z.length * k.toNat ≤ sizeLine ∧ Q (.str (SX.S (repL k.toNat z))) H
theorem op_mulS {X : Cx} : OpR X (binaryOp .Mult) rMulS := by
  intro pins s σ H x y v u Q I rx ry h
  obtain ⟨z, k, rfl, rfl, h1, h2, h3, q⟩ := h
  obtain ⟨t, rfl⟩ := rx
  obtain ⟨t', rfl⟩ := ry
  have hz : sizeLine = 16777216 := sizeLine_eq
  refine PySem.P.mul_str ?_ (fun h5 _ => ?_) (fun h5 _ => ?_) ?_
  · have a1 : ¬ k < -(2 ^ 63 : Int) := by omega
    have a2 : ¬ k ≥ 2 ^ 63 := by omega
    rw [decide_eq_false a1, decide_eq_false a2]
    rfl
  · have hk : 0 < k := by omega
    intro hc
    have h6 : ((SX.S z).length : Int) * k ≤ 2 ^ 63 - 1 := by
      rw [SX.S_len]
      have : ((z.length * k.toNat : Nat) : Int) ≤ 16777216 := by omega
      rw [Int.natCast_mul, Int.toNat_of_nonneg (by omega)] at this
      omega
    have := (Int.le_ediv_iff_mul_le hk).mpr h6
    omega
  · rw [SX.S_len]
    exact decide_eq_false (by omega)
  · by_cases hk : k < 1
    · rw [if_pos hk]
      refine ⟨by decide, .str _, H, I.tok _, ⟨_, rfl⟩, ?_⟩
      have e : k.toNat = 0 := by omega
      rw [e] at q
      exact q
    · rw [if_neg hk]
      split
      · rename_i h6
        refine ⟨.str (SX.S z), H, I, ⟨_, rfl⟩, ?_⟩
        rw [Bool.or_eq_true] at h6
        have e : repL k.toNat z = z := by
          rcases h6 with h6 | h6
          · have : k = 1 := by simpa using h6
            subst this
            show ([z] : List (List Nat)).flatten = z
            simp
          · have : z.length = 0 := by simpa [SX.S_len] using h6
            have : z = [] := List.length_eq_zero_iff.mp this
            subst this
            apply List.length_eq_zero_iff.mp
            rw [repL_length]
            simp
        rw [e] at q
        exact q
      · refine ⟨?_, .str _, H, I.tok _, ⟨_, rfl⟩, ?_⟩
        · rw [str_rep]
          show (SX.S _).length ≤ _
          rw [SX.S_len, repL_length]
          exact h3
        · rw [str_rep]
          exact q
def rB (K : PySem.W.Frag) : Bop → R2
  | .add => fun x y H Q => rI0 (fun i j => .int (i + j)) x y H Q ∨ rAddS x y H Q ∨ rCat x y H Q ∨ rCatT K x y H Q
  | .sub => rI0 fun i j => .int (i - j)
  | .mul => fun x y H Q => rI CMul (fun i j => .int (i * j)) x y H Q ∨ rMulS x y H Q ∨ rRep x y H Q
  | .fdiv => rI CDiv fun i j => .int (i / j)
  | .mod => rI (fun _ j => 0 < j) fun i j => .int (i % j)
  | .pow => rI CPow fun i j => .int (i ^ j.toNat)
def opB : Bop → Operator
  | .add => .Add
  | .sub => .Sub
  | .mul => .Mult
  | .fdiv => .FloorDiv
  | .mod => .Mod
  | .pow => .Pow
theorem op_B {X : Cx} : ∀ op : Bop, OpR X (binaryOp (opB op)) (rB X.K op)
  | .add => OpR.or op_add (OpR.or op_add_str (OpR.or op_cat op_catT))
  | .sub => op_sub
  | .mul => OpR.or op_mul (OpR.or op_mulS op_rep)
  | .fdiv => op_fdiv
  | .mod => op_mod
  | .pow => op_pow
theorem small_of {i : Int} (h : small i = true) : -(2 ^ 64) < i ∧ i < 2 ^ 64 := by
  unfold small at h
  rw [Bool.and_eq_true, decide_eq_true_eq, decide_eq_true_eq] at h
  constructor
  · have := h.1; omega
  · have := h.2; omega
theorem binV_ok {op : Bop} {d e : D} {x y : V} (g : Gd G ρ H mh) (rx : rep G cm ρ H d x) (ry : rep G cm ρ H e y) : Gv G (rep G cm) ρ H (binV op d e mh) (fun Q => rB G.K op x y H Q) := by
  unfold binV
  split
  · unfold rep at rx ry
    subst rx ry
    exact Gv.same g (by unfold rep; rfl) fun Q q => .inl ⟨_, _, rfl, rfl, q⟩
  · split
    · rename_i hz
      unfold rep at rx ry
      subst rx ry
      exact Gv.same g (by unfold rep; rw [← SX.S_cat]) fun Q q => .inr (.inl ⟨_, _, rfl, rfl, by rw [SX.S_len, SX.S_len]; exact le_line hz, q⟩)
    · trivial
  · split
    · rename_i hz
      unfold rep at rx ry
      obtain ⟨a, ys, rfl, h1, h2⟩ := rx
      obtain ⟨b, zs, rfl, h3, h4⟩ := ry
      exact Gv.newL g (h2.app h4) fun Q q => .inr (.inr (.inl ⟨a, b, ys, zs, rfl, rfl, h1.2, h3.2, by rw [← h2.length, ← h4.length]; exact le_line hz, q⟩))
    · trivial
  · split
    · rename_i hz
      rw [Bool.and_eq_true] at hz
      unfold rep at rx ry
      obtain ⟨a, ys, rfl, h1, h2⟩ := rx
      obtain ⟨b, zs, rfl, h3, h4⟩ := ry
      have t1 : SqT G.K H a ys := by
        rcases h1 with z | z
        · exact SqT.of z.2
        · exact .inr z
      have t2 : SqT G.K H b zs := by
        rcases h3 with z | z
        · exact SqT.of z.2
        · exact .inr z
      rename_i as bs
      have ne : ys ≠ [] := by
        intro e
        have := h2.length
        rw [e] at this
        have : as = [] := List.length_eq_zero_iff.mp this
        rw [this] at hz
        simp at hz
      refine fun Q hq => .inr (.inr (.inr ⟨a, b, ys, zs, rfl, rfl, t1, t2, ne, by rw [← h2.length, ← h4.length]; exact le_line hz.2, fun e => ?_, fun e p hp => ?_⟩))
      · refine hq ρ H _ (Ext.refl _ _) g ?_
        have : bs = [] := by
          have := h4.length
          rw [e] at this
          exact List.length_eq_zero_iff.mp this
        rw [this, List.append_nil]
        unfold rep
        exact ⟨a, ys, rfl, h1, h2⟩
      · refine hq ρ _ _ (Ext.upd hp) (g.new hp) ?_
        unfold rep
        exact ⟨p, ys ++ zs, rfl, .inl ⟨g.fresh2 hp, upd_same⟩, (h2.app h4).mono (Deeper.refl _) (Ext.upd hp) _ _⟩
    · trivial
  · unfold rep at rx ry
    subst rx ry
    exact Gv.same g (by unfold rep; rfl) fun Q q => ⟨_, _, rfl, rfl, q⟩
  · split
    · rename_i hz
      unfold rep at rx ry
      subst rx ry
      rw [Bool.or_eq_true] at hz
      exact Gv.same g (by unfold rep; rfl) fun Q q => .inl ⟨_, _, rfl, rfl, hz.imp small_of small_of, q⟩
    · trivial
  · split
    · rename_i hz
      unfold rep at rx ry
      subst rx ry
      rw [Bool.and_eq_true, Bool.and_eq_true, decide_eq_true_eq, decide_eq_true_eq] at hz
      exact Gv.same g (by unfold rep; rfl) fun Q q => .inr (.inl ⟨_, _, rfl, rfl, hz.1.1, hz.1.2, le_line hz.2, q⟩)
    · trivial
  · split
    · rename_i hz
      unfold rep at rx ry
      obtain ⟨a, ys, rfl, h1, h2⟩ := rx
      subst ry
      rw [Bool.and_eq_true, Bool.and_eq_true, decide_eq_true_eq, decide_eq_true_eq] at hz
      exact Gv.newL g (h2.rpt _) fun Q q => .inr (.inr ⟨a, _, ys, rfl, rfl, h1.2, by omega, by omega, by rw [← h2.length]; exact le_line hz.2, q⟩)
    · trivial
  · split
    · rename_i hz
      unfold rep at rx ry
      subst rx ry
      rw [Bool.and_eq_true, decide_eq_true_eq, decide_eq_true_eq] at hz
      exact Gv.same g (by unfold rep; rfl) fun Q q => ⟨_, _, rfl, rfl, hz, q⟩
    · trivial
  · split
    · rename_i hz
      unfold rep at rx ry
      subst rx ry
      rw [decide_eq_true_eq] at hz
      exact Gv.same g (by unfold rep; rfl) fun Q q => ⟨_, _, rfl, rfl, hz, q⟩
    · trivial
  · split
    · rename_i hz
      unfold rep at rx ry
      subst rx ry
      rw [Bool.and_eq_true, Bool.and_eq_true, decide_eq_true_eq, decide_eq_true_eq] at hz
      have hs := small_of hz.2
      exact Gv.same g (by unfold rep; rfl) fun Q q => ⟨_, _, rfl, rfl, ⟨hz.1.1, hz.1.2, by omega⟩, q⟩
    · trivial
  · trivial
end
end FS

-- text FsE0
set_option Elab.async false
set_option linter.all false
set_option maxHeartbeats 1000000
/-! FsE0: the order of tuples of whole numbers; what stands in tuples of data. -/
namespace FS
open PySem PySem.Spec PyProof.Rows L2 LamX
def eqAt (ns ms : List Int) (j : Nat) : Bool := decide (ns.getD j 0 = ms.getD j 0)
def fAt (f : Int → Int → Bool) (ns ms : List Int) (j : Nat) : Bool := f (ns.getD j 0) (ms.getD j 0)
theorem lexAt_shift {e r e' r' : Nat → Bool} {z : Bool} (he : ∀ j, e (j + 1) = e' j) (hr : ∀ j, r (j + 1) = r' j) : ∀ (k i : Nat), Ob.lexAt e r z (i + 1) k = Ob.lexAt e' r' z i k
  | 0, i => rfl
  | k + 1, i => by
    rw [Ob.lexAt_succ, Ob.lexAt_succ, he, hr, lexAt_shift he hr k (i + 1)]
theorem lexAt_eq {le : Bool} {f : Int → Int → Bool} {z : Nat → Nat → Bool} (z0 : z 0 0 = le) (z1 : ∀ n, z 0 (n + 1) = f 0 1) (z2 : ∀ n, z (n + 1) 0 = f 1 0) (z3 : ∀ n m, z (n + 1) (m + 1) = z n m) : ∀ (ns ms : List Int),
    Ob.lexAt (eqAt ns ms) (fAt f ns ms) (z ns.length ms.length) 0 (min ns.length ms.length) = lexI le f ns ms
  | [], [] => z0
  | [], m :: ms => by
    show Ob.lexAt _ _ (z 0 (ms.length + 1)) 0 (min 0 (ms.length + 1)) = _
    rw [Nat.zero_min]
    exact z1 _
  | n :: ns, [] => by
    show Ob.lexAt _ _ (z (ns.length + 1) 0) 0 (min (ns.length + 1) 0) = _
    rw [Nat.min_zero]
    exact z2 _
  | n :: ns, m :: ms => by
    show Ob.lexAt _ _ (z (ns.length + 1) (ms.length + 1)) 0 (min (ns.length + 1) (ms.length + 1)) = _
    rw [Nat.succ_min_succ, z3, Ob.lexAt_succ]
    have h0 : eqAt (n :: ns) (m :: ms) 0 = decide (n = m) := rfl
    have h1 : fAt f (n :: ns) (m :: ms) 0 = f n m := rfl
    rw [h0, h1, lexAt_shift (e' := eqAt ns ms) (r' := fAt f ns ms) (fun _ => rfl) (fun _ => rfl), lexAt_eq z0 z1 z2 z3 ns ms]
    have h2 : lexI le f (n :: ns) (m :: ms) = if n = m then lexI le f ns ms else f n m := rfl
    rw [h2]
    by_cases q : n = m
    · rw [decide_eq_true q, if_pos rfl, if_pos q]
    · rw [decide_eq_false q, if_neg Bool.false_ne_true, if_neg q]
def rOrd (K : PySem.W.Frag) (le : Bool) (f : Int → Int → Bool) : R2 := fun x y H Q => ∃ (p q : Addr) (ns ms : List Int), x = .ref p ∧ y = .ref q ∧ SqT K H p (ns.map V.int) ∧ SqT K H q (ms.map V.int) ∧ Q (.bl (lexI le f ns ms)) H
/-- from the rule for two tuples' places -/
theorem op_ord {X : Cx} {cop : CmpOp} {le : Bool} {f : Int → Int → Bool} {z : Nat → Nat → Bool} (z0 : z 0 0 = le) (z1 : ∀ n, z 0 (n + 1) = f 0 1) (z2 : ∀ n, z (n + 1) 0 = f 1 0) (z3 : ∀ n m, z (n + 1) (m + 1) = z n m)
    (hop : ∀ x y : Value, compareOp cop x y = richCompare cop x y)
    (one : ∀ {A : Around} {s : Shared} (i j : Int) (t u : Tok), Ob.RcOp cop A s (.int i t) (.int j u) (f i j))
    (two : ∀ {A : Around} {s : Shared} {l m : Addr} {us ws : Array Value} {e r : Nat → Bool}, s.heap.IsTuple l us → s.heap.IsTuple m ws → A.units < cLine → (∀ j (h1 : j < us.size) (h2 : j < ws.size), SeqAt.EqAt A.in1 s us[j] ws[j] (e j)) →
      (∀ j (h1 : j < us.size) (h2 : j < ws.size), e j = false → Ob.RcOp cop A.in1 s us[j] ws[j] (r j)) → Ob.RcOp cop A s (.ref l) (.ref m) (Ob.lexAt e r (z us.size ws.size) 0 (min us.size ws.size)))
    (hu : X.A.units < cLine) : OpR X (compareOp cop) (rOrd X.K le f) := by
  rintro pins s σ H x y v u Q I rx ry ⟨p, q, ns, ms, rfl, rfl, tp, tq, fin⟩
  cases rx
  cases ry
  obtain ⟨us, vu, isu, _⟩ := I.tuple tp
  obtain ⟨ws, vw, isw, _⟩ := I.tuple tq
  have nu : IntsAre us ns := Vals.ints vu
  have nw : IntsAre ws ms := Vals.ints vw
  have su : us.toArray.size = ns.length := by rw [List.size_toArray]; exact nu.length
  have sw : ws.toArray.size = ms.length := by rw [List.size_toArray]; exact nw.length
  have ui : ∀ j (h : j < us.toArray.size), ∃ t, us.toArray[j] = .int (ns.getD j 0) t := fun j h => PyProof.Rows.IntsAre.int_at nu _ _ (by simp at h; simp [h])
  have wi : ∀ j (h : j < ws.toArray.size), ∃ t, ws.toArray[j] = .int (ms.getD j 0) t := fun j h => PyProof.Rows.IntsAre.int_at nw _ _ (by simp at h; simp [h])
  have key := two (A := X.A) (s := s) (e := eqAt ns ms) (r := fAt f ns ms) isu isw hu (fun j j1 j2 => by
    obtain ⟨t, et⟩ := ui j j1
    obtain ⟨t2, et2⟩ := wi j j2
    rw [et, et2]
    have same : (ns.getD j 0 == ms.getD j 0) = eqAt ns ms j := by
      unfold eqAt
      by_cases d : ns.getD j 0 = ms.getD j 0
      · rw [decide_eq_true d, d]
        exact beq_self_eq_true _
      · rw [decide_eq_false d]
        exact beq_eq_false_iff_ne.mpr d
    rw [← same]
    exact SeqAt.EqAt.int_int _ _ _ _) (fun j j1 j2 _ => by
    obtain ⟨t, et⟩ := ui j j1
    obtain ⟨t2, et2⟩ := wi j j2
    rw [et, et2]
    exact one _ _ _ _)
  rw [su, sw, lexAt_eq z0 z1 z2 z3] at key
  rw [hop]
  exact key X.prog X.w X.xe (EP X pins σ Q) ⟨.bl _, H, I, rfl, fin⟩
theorem op_ltO {X : Cx} (hu : X.A.units < cLine) : OpR X (compareOp .Lt) (rOrd X.K false fun i j => decide (i < j)) :=
  op_ord (z := fun n m => decide (n < m)) (by decide) (fun n => by simp) (fun n => by simp) (fun n m => by simp) (fun _ _ => rfl) (fun i j t u => Ob.RcOp.lt_int i j t u) (fun a b c d e => Ob.RcOp.tuples_lt a b c d e) hu
theorem op_leO {X : Cx} (hu : X.A.units < cLine) : OpR X (compareOp .LtE) (rOrd X.K true fun i j => decide (i ≤ j)) :=
  op_ord (z := fun n m => decide (n ≤ m)) (by decide) (fun n => by simp) (fun n => by simp) (fun n m => by simp) (fun _ _ => rfl) (fun i j t u => Ob.RcOp.le_int i j t u) (fun a b c d e => Ob.RcOp.tuples_le a b c d e) hu
theorem op_gtO {X : Cx} (hu : X.A.units < cLine) : OpR X (compareOp .Gt) (rOrd X.K false fun i j => decide (j < i)) :=
  op_ord (z := fun n m => decide (n > m)) (by decide) (fun n => by simp) (fun n => by simp) (fun n m => by simp) (fun _ _ => rfl) (fun i j t u => Ob.RcOp.gt_int i j t u) (fun a b c d e => Ob.RcOp.tuples_gt a b c d e) hu
theorem op_geO {X : Cx} (hu : X.A.units < cLine) : OpR X (compareOp .GtE) (rOrd X.K true fun i j => decide (j ≤ i)) :=
  op_ord (z := fun n m => decide (n ≥ m)) (by decide) (fun n => by simp) (fun n => by simp) (fun n m => by simp) (fun _ _ => rfl) (fun i j t u => Ob.RcOp.ge_int i j t u) (fun a b c d e => Ob.RcOp.tuples_ge a b c d e) hu
/-- x in t, a tuple of data -/
def rInT (K : PySem.W.Frag) : R2 := fun x y H Q => ∃ d ds, Dp K H x d ∧ Dp K H y (.tuple ds) ∧ SeqAt.shaped d = true ∧ SeqAt.shaped (.tuple ds) = true ∧ Q (.bl (ds.any fun z => PyData.eqv z d)) H
def rNinT (K : PySem.W.Frag) : R2 := fun x y H Q => ∃ d ds, Dp K H x d ∧ Dp K H y (.tuple ds) ∧ SeqAt.shaped d = true ∧ SeqAt.shaped (.tuple ds) = true ∧ Q (.bl (!ds.any fun z => PyData.eqv z d)) H
theorem op_inT {X : Cx} (hu : X.A.units + 65 < cLine) : OpR X (compareOp .In) (rInT X.K) := by
  rintro pins s σ H x y v u Q I rx ry ⟨d, ds, p1, p2, p3, p4, fin⟩
  obtain ⟨as, r1⟩ := Dp.reads I d x v p1 rx
  obtain ⟨bs, r2⟩ := Dp.reads I (.tuple ds) y u p2 ry
  exact SeqAt.in_tuple_reads r2 r1 (SeqAt.canLay_of_shaped p4) (SeqAt.canLay_of_shaped p3) (room_in_shaped p3 hu) ⟨.bl _, H, I, rfl, fin⟩
theorem op_ninT {X : Cx} (hu : X.A.units + 65 < cLine) : OpR X (compareOp .NotIn) (rNinT X.K) := by
  rintro pins s σ H x y v u Q I rx ry ⟨d, ds, p1, p2, p3, p4, fin⟩
  obtain ⟨as, r1⟩ := Dp.reads I d x v p1 rx
  obtain ⟨bs, r2⟩ := Dp.reads I (.tuple ds) y u p2 ry
  exact SeqAt.notIn_tuple_reads r2 r1 (SeqAt.canLay_of_shaped p4) (SeqAt.canLay_of_shaped p3) (room_in_shaped p3 hu) ⟨.bl _, H, I, rfl, fin⟩
/-! ### dicts -/
section
variable {G : GD} {cm : List (Option CI)} {ρ : List Addr} {H : Hp} {mh : MH}
theorem keyB_some {k : D} (h : keyB k = true) : ∃ c, keyD k = some c := by
  cases k <;> first | exact ⟨_, rfl⟩ | cases h
theorem key_rep {k : D} {c : Key} {v : V} (hk : keyD k = some c) (r : rep G cm ρ H k v) : v = kV c := by
  cases k <;> cases hk <;> (unfold rep at r; exact r)
theorem keyEq_ok {a b : D} {c e : Key} (ha : keyD a = some c) (hb : keyD b = some e) : decide (c = e) = keyEq a b := by
  cases a <;> cases ha <;> cases b <;> cases hb
  · rename_i i j
    show decide ((Sum.inl i : Key) = Sum.inl j) = decide (i = j)
    by_cases q : i = j
    · rw [q, decide_eq_true rfl, decide_eq_true rfl]
    · rw [decide_eq_false q, decide_eq_false fun z => q (by injection z)]
  · exact decide_eq_false fun z => by cases z
  · exact decide_eq_false fun z => by cases z
  · rename_i x y
    show decide ((Sum.inr (SX.S x) : Key) = Sum.inr (SX.S y)) = (x == y)
    rw [← SX.S_beq]
    by_cases q : SX.S x = SX.S y
    · rw [q, decide_eq_true rfl]
      exact (beq_self_eq_true _).symm
    · rw [decide_eq_false fun z => q (by injection z)]
      exact (beq_eq_false_iff_ne.mpr q).symm
theorem dic_of {d : D} {v : V} {kvs : List (D × D)} (g : Gd G ρ H mh) (r : rep G cm ρ H d v) (e : dicOf mh d = some kvs) : ∃ a ys, v = .ref a ∧ H a = some (.dK ys) ∧ repk G cm ρ H kvs ys := by
  cases d with
  | dic ks =>
    cases e
    unfold rep at r
    obtain ⟨a, ys, rfl, h1, h2⟩ := r
    exact ⟨a, ys, rfl, h1.2, h2⟩
  | ref n =>
    unfold rep at r
    obtain ⟨a, rfl, ha⟩ := r
    have e : (match mh[n]? with
      | some (.dic kvs) => some kvs
      | _ => none) = some kvs := e
    cases hm : mh[n]? with
    | none =>
      rw [hm] at e
      cases e
    | some o =>
      rw [hm] at e
      cases o with
      | dic ks =>
        have q := g.chg n a _ ha hm
        cases e
        obtain ⟨ys, q1, q2⟩ := q
        exact ⟨a, ys, rfl, q1, q2.mono (fun d ci h => by cases d <;> cases h) (Ext.refl _ _) _ _⟩
      | _ => cases e
  | _ => cases e
theorem Gv.newD {xs : List (D × D)} {ys : List (Key × V)} {T : VK → Prop} (g : Gd G ρ H mh) (r : repk G cm ρ H xs ys) (h : ∀ Q : VK, (∀ p, H p = none → Q (.ref p) (upd H p (.dK ys))) → T Q) : Gv G (rep G cm) ρ H (.ok (.dic xs) mh) T := fun Q hq =>
  h Q fun p hp => hq ρ _ _ (Ext.upd hp) (g.new hp) (by
    unfold rep
    exact ⟨p, ys, rfl, ⟨g.fresh2 hp, upd_same⟩, r.mono (Deeper.refl _) (Ext.upd hp) _ _⟩)
theorem look_ok {k : D} {c : Key} (hk : keyD k = some c) : ∀ {kvs : List (D × D)} {ys : List (Key × V)}, repk G cm ρ H kvs ys → (∀ d, lookD k kvs = some d → ∃ v, valV ys c = some v ∧ rep G cm ρ H d v) ∧ (lookD k kvs = none → valV ys c = none)
  | [], ys, r => by
    unfold repk at r
    subst r
    exact ⟨fun d e => (by cases e), fun _ => rfl⟩
  | (k', x) :: kvs, ys, r => by
    unfold repk at r
    obtain ⟨e, y, t, rfl, h1, h2, h3⟩ := r
    obtain ⟨i1, i2⟩ := look_ok hk h3
    have hb := keyEq_ok h1 hk
    have hd : lookD k ((k', x) :: kvs) = if keyEq k' k = true then some x else lookD k kvs := rfl
    rw [hd]
    cases hq : keyEq k' k with
    | true =>
      rw [hq] at hb
      have he : e = c := of_decide_eq_true hb
      rw [if_pos rfl, valV_pos (p := (e, y)) he]
      exact ⟨fun d z => by
        cases z
        exact ⟨y, rfl, h2⟩, fun z => by cases z⟩
    | false =>
      rw [hq] at hb
      have he : ¬ e = c := of_decide_eq_false hb
      rw [if_neg Bool.false_ne_true, valV_neg (p := (e, y)) he]
      exact ⟨i1, i2⟩
theorem repk_app : ∀ {kvs more : List (D × D)} {ys zs : List (Key × V)}, repk G cm ρ H kvs ys → repk G cm ρ H more zs → repk G cm ρ H (kvs ++ more) (ys ++ zs)
  | [], more, ys, zs, r, q => by
    unfold repk at r
    subst r
    exact q
  | (k, x) :: kvs, more, ys, zs, r, q => by
    unfold repk at r
    obtain ⟨e, y, t, rfl, h1, h2, h3⟩ := r
    rw [List.cons_append, List.cons_append]
    unfold repk
    exact ⟨e, y, t ++ zs, rfl, h1, h2, repk_app h3 q⟩
theorem put_any {k : D} {c : Key} (hk : keyD k = some c) : ∀ {kvs : List (D × D)} {ys : List (Key × V)}, repk G cm ρ H kvs ys → (kvs.any fun p => keyEq p.1 k) = ys.any fun q => decide (q.1 = c)
  | [], ys, r => by
    unfold repk at r
    subst r
    rfl
  | (k', x) :: kvs, ys, r => by
    unfold repk at r
    obtain ⟨e, y, t, rfl, h1, h2, h3⟩ := r
    rw [List.any_cons, List.any_cons, put_any hk h3, ← keyEq_ok h1 hk]
theorem put_map {k v : D} {c : Key} {u : V} (hk : keyD k = some c) (rv : rep G cm ρ H v u) : ∀ {kvs : List (D × D)} {ys : List (Key × V)}, repk G cm ρ H kvs ys → repk G cm ρ H (kvs.map fun p => if keyEq p.1 k then (p.1, v) else p) (ys.map fun q => if q.1 = c then (q.1, u) else q)
  | [], ys, r => by
    unfold repk at r
    subst r
    unfold repk
    rfl
  | (k', x) :: kvs, ys, r => by
    unfold repk at r
    obtain ⟨e, y, t, rfl, h1, h2, h3⟩ := r
    have hb := keyEq_ok h1 hk
    rw [List.map_cons, List.map_cons]
    cases hq : keyEq k' k with
    | true =>
      rw [hq] at hb
      have he : e = c := of_decide_eq_true hb
      rw [if_pos rfl, if_pos he]
      unfold repk
      exact ⟨e, u, _, rfl, h1, rv, put_map hk rv h3⟩
    | false =>
      rw [hq] at hb
      have he : ¬ e = c := of_decide_eq_false hb
      rw [if_neg Bool.false_ne_true, if_neg he]
      unfold repk
      exact ⟨e, y, _, rfl, h1, h2, put_map hk rv h3⟩
theorem put_ok {k v : D} {c : Key} {u : V} {kvs : List (D × D)} {ys : List (Key × V)} (hk : keyD k = some c) (rv : rep G cm ρ H v u) (r : repk G cm ρ H kvs ys) : repk G cm ρ H (putD kvs k v) (putK ys c u) := by
  unfold putD putK
  rw [put_any hk r]
  split
  · exact put_map hk rv r
  · refine repk_app r ?_
    unfold repk
    refine ⟨c, u, [], rfl, hk, rv, ?_⟩
    unfold repk
    rfl
theorem merge_ok : ∀ {more kvs : List (D × D)} {zs ys : List (Key × V)}, repk G cm ρ H more zs → repk G cm ρ H kvs ys → repk G cm ρ H (mergeD kvs more) (mergeK ys zs)
  | [], kvs, zs, ys, r, q => by
    unfold repk at r
    subst r
    exact q
  | (k, x) :: more, kvs, zs, ys, r, q => by
    unfold repk at r
    obtain ⟨e, y, t, rfl, h1, h2, h3⟩ := r
    show repk G cm ρ H (mergeD (putD kvs k x) more) (mergeK (putK ys e y) t)
    exact merge_ok h3 (put_ok h1 h2 q)
theorem pairsOf_ok : ∀ {xs : List D} {kvs : List (D × D)} {vs : List V}, pairsOf xs = some kvs → reps G cm ρ H xs vs → ∃ (ps : List Addr) (ys : List (Key × V)), vs = ps.map V.ref ∧ Paired (fun p kv => SqT G.K H p [kV kv.1, kv.2]) ps ys ∧ repk G cm ρ H kvs ys
  | [], kvs, vs, h, r => by
    unfold reps at r
    subst r
    cases h
    exact ⟨[], [], rfl, .nil, by unfold repk; rfl⟩
  | x :: xs, kvs, vs, h, r => by
    unfold reps at r
    obtain ⟨y, t, rfl, h1, h2⟩ := r
    unfold pairsOf at h
    split at h
    · rename_i e
      cases e
    · rename_i k v r' e
      injection e with e1 e2
      subst e1 e2
      split at h
      · rename_i hk
        obtain ⟨ms, e1, e2⟩ := Option.map_eq_some_iff.mp h
        subst e2
        obtain ⟨ps, ys, q1, q2, q3⟩ := pairsOf_ok e1 h2
        unfold rep at h1
        obtain ⟨a, zs, rfl, h3, h4⟩ := h1
        obtain ⟨c, hc⟩ := keyB_some hk
        unfold reps at h4
        obtain ⟨u1, t1, rfl, h5, h6⟩ := h4
        unfold reps at h6
        obtain ⟨u2, t2, rfl, h7, h8⟩ := h6
        unfold reps at h8
        subst h8
        have e3 := key_rep hc h5
        subst e3
        refine ⟨a :: ps, (c, u2) :: ys, by rw [q1]; rfl, .cons ?_ q2, ?_⟩
        · rcases h3 with z | z
          · exact SqT.of z.2
          · exact .inr z
        · unfold repk
          exact ⟨c, u2, ys, rfl, hc, h7, q3⟩
      · cases h
    · cases h
/-- values by pairs -/
def pairV : List V → List (V × V)
  | k :: v :: r => (k, v) :: pairV r
  | _ => []
theorem pairUp_ok : ∀ {xs : List D} {kvs : List (D × D)} {vs : List V}, pairUp xs = some kvs → reps G cm ρ H xs vs → ∃ ys : List (Key × V), pairV vs = ys.map (fun kv => (kV kv.1, kv.2)) ∧ repk G cm ρ H kvs ys ∧ ys.length = kvs.length
  | [], kvs, vs, h, r => by
    unfold reps at r
    subst r
    cases h
    exact ⟨[], rfl, by unfold repk; rfl, rfl⟩
  | [_], kvs, vs, h, r => by cases h
  | k :: v :: xs, kvs, vs, h, r => by
    have h : (if keyB k = true then (pairUp xs).map ((k, v) :: ·) else none) = some kvs := h
    split at h
    · rename_i hk
      obtain ⟨ms, e1, e2⟩ := Option.map_eq_some_iff.mp h
      subst e2
      unfold reps at r
      obtain ⟨u1, t1, rfl, h5, h6⟩ := r
      unfold reps at h6
      obtain ⟨u2, t2, rfl, h7, h8⟩ := h6
      obtain ⟨ys, q1, q2, q3⟩ := pairUp_ok e1 h8
      obtain ⟨c, hc⟩ := keyB_some hk
      have e3 := key_rep hc h5
      subst e3
      refine ⟨(c, u2) :: ys, ?_, ?_, congrArg Nat.succ q3⟩
      · show (kV c, u2) :: pairV t2 = _
        rw [q1]
        rfl
      · unfold repk
        exact ⟨c, u2, ys, rfl, hc, h7, q2⟩
    · cases h
end
def rIxD : R2 := fun x y H Q => ∃ a w, x = .ref a ∧ DGet H a y (some w) ∧ Q w H
theorem ix_dict {X : Cx} (hu : X.A.units + 1 < cLine) : IxR X rIxD := by
  rintro value slice pins s σ H x y v u Q I rx ry ⟨a, w, rfl, g, fin⟩ hs
  cases rx
  have hT := dict_typeIs I g
  have tail : wpAny (model X.prog X.w) X.A (subscripted slice false (.ref a) u) (fun r s3 => wpAny (model X.prog X.w) X.A (letTemporaryGo value (.ref a) r >>= fun _ => pure r) (EP X pins σ Q) X.xe s3) X.xe s := by
    rw [hs]
    have got : wpAny (model X.prog X.w) X.A (getItem (.ref a) u) (EP X pins σ Q) X.xe s := d_getItem hu I g ry fun w' s3 I3 rw' => ⟨w, H, I3, rw', fin⟩
    exact wpAny_operating (wpAny_mono got (fun r s3 h3 => wpAny_bind (wpAny_letTemporaryGo (wpAny_pure h3))) fun _ _ z => z)
  unfold subscriptTail
  refine wpAny_bind ?_
  rw [getitemInPython_of_ne hT.not_modules]
  refine wpAny_bind (wpAny_specialOf hT PySem.F.slot_dict_getitem.lookup ?_)
  first
    | exact wpAny_pure (wpAny_bind tail)
    | exact wpAny_bind (wpAny_pure (wpAny_bind tail))
    | exact wpAny_bind tail
def rDin : R2 := fun x y H Q => ∃ a o, y = .ref a ∧ DGet H a x o ∧ Q (.bl o.isSome) H
def rDnin : R2 := fun x y H Q => ∃ a o, y = .ref a ∧ DGet H a x o ∧ Q (.bl (!o.isSome)) H
theorem op_din {X : Cx} (hu : X.A.units + 1 < cLine) : OpR X (compareOp .In) rDin := by
  rintro pins s σ H x y v u Q I rx ry ⟨a, o, rfl, g, fin⟩
  cases ry
  exact d_in hu I g rx fun s3 I3 => ⟨.bl o.isSome, H, I3, rfl, fin⟩
theorem op_dnin {X : Cx} (hu : X.A.units + 1 < cLine) : OpR X (compareOp .NotIn) rDnin := by
  rintro pins s σ H x y v u Q I rx ry ⟨a, o, rfl, g, fin⟩
  cases ry
  exact d_notIn hu I g rx fun s3 I3 => ⟨.bl (!o.isSome), H, I3, rfl, fin⟩
end FS

-- text FsE
set_option Elab.async false
set_option linter.all false
set_option maxHeartbeats 1000000
/-! FsE: comparisons, truth, subscripts, built-ins, methods. -/
namespace FS
open PySem PySem.Spec PyProof.Rows L2 LamX

mutual
def py : D → PyData
  | .non => .none
  | .bl b => .bool b
  | .int i => .int i
  | .str x => .str (SX.S x)
  | .lst xs => .list (pys xs)
  | .tup xs => .tuple (pys xs)
  | _ => .none
def pys : List D → List PyData
  | [] => []
  | x :: xs => py x :: pys xs
end
mutual
theorem eqv_py : ∀ (k m : Nat) (x y : D), shp k x = true → shp m y = true → PyData.eqv (py x) (py y) = deq x y
  | _, _, .non, .non, _, _ => by rfl
  | _, _, .non, .bl b, _, _ => by rfl
  | _, _, .non, .int j, _, _ => by rfl
  | _, _, .non, .str y, _, _ => by rfl
  | _, _, .non, .lst ys, _, _ => by rfl
  | _, _, .non, .tup ys, _, _ => by rfl
  | _, 0, .non, .dic _, _, h => by unfold shp at h; cases h
  | _, _ + 1, .non, .dic _, _, h => by unfold shp at h; cases h
  | _, 0, .non, .frl _, _, h => by unfold shp at h; cases h
  | _, _ + 1, .non, .frl _, _, h => by unfold shp at h; cases h
  | _, 0, .non, .ref _, _, h => by unfold shp at h; cases h
  | _, _ + 1, .non, .ref _, _, h => by unfold shp at h; cases h
  | _, 0, .non, .clo _ _, _, h => by unfold shp at h; cases h
  | _, _ + 1, .non, .clo _ _, _, h => by unfold shp at h; cases h
  | _, _, .bl a, .non, _, _ => by rfl
  | _, _, .bl a, .bl b, _, _ => by rfl
  | _, _, .bl a, .int j, _, _ => by show (((if a = true then 1 else 0 : Int) == j) = decide (b2i a = j)); cases a <;> exact Bool.beq_eq_decide_eq _ _
  | _, _, .bl a, .str y, _, _ => by rfl
  | _, _, .bl a, .lst ys, _, _ => by rfl
  | _, _, .bl a, .tup ys, _, _ => by rfl
  | _, 0, .bl _, .dic _, _, h => by unfold shp at h; cases h
  | _, _ + 1, .bl _, .dic _, _, h => by unfold shp at h; cases h
  | _, 0, .bl _, .frl _, _, h => by unfold shp at h; cases h
  | _, _ + 1, .bl _, .frl _, _, h => by unfold shp at h; cases h
  | _, 0, .bl _, .ref _, _, h => by unfold shp at h; cases h
  | _, _ + 1, .bl _, .ref _, _, h => by unfold shp at h; cases h
  | _, 0, .bl _, .clo _ _, _, h => by unfold shp at h; cases h
  | _, _ + 1, .bl _, .clo _ _, _, h => by unfold shp at h; cases h
  | _, _, .int i, .non, _, _ => by rfl
  | _, _, .int i, .bl b, _, _ => by show ((i == (if b = true then 1 else 0 : Int)) = decide (i = b2i b)); cases b <;> exact Bool.beq_eq_decide_eq _ _
  | _, _, .int i, .int j, _, _ => by exact Bool.beq_eq_decide_eq i j
  | _, _, .int i, .str y, _, _ => by rfl
  | _, _, .int i, .lst ys, _, _ => by rfl
  | _, _, .int i, .tup ys, _, _ => by rfl
  | _, 0, .int _, .dic _, _, h => by unfold shp at h; cases h
  | _, _ + 1, .int _, .dic _, _, h => by unfold shp at h; cases h
  | _, 0, .int _, .frl _, _, h => by unfold shp at h; cases h
  | _, _ + 1, .int _, .frl _, _, h => by unfold shp at h; cases h
  | _, 0, .int _, .ref _, _, h => by unfold shp at h; cases h
  | _, _ + 1, .int _, .ref _, _, h => by unfold shp at h; cases h
  | _, 0, .int _, .clo _ _, _, h => by unfold shp at h; cases h
  | _, _ + 1, .int _, .clo _ _, _, h => by unfold shp at h; cases h
  | _, _, .str z, .non, _, _ => by rfl
  | _, _, .str z, .bl b, _, _ => by rfl
  | _, _, .str z, .int j, _, _ => by rfl
  | _, _, .str z, .str y, _, _ => by exact SX.S_beq z y
  | _, _, .str z, .lst ys, _, _ => by rfl
  | _, _, .str z, .tup ys, _, _ => by rfl
  | _, 0, .str _, .dic _, _, h => by unfold shp at h; cases h
  | _, _ + 1, .str _, .dic _, _, h => by unfold shp at h; cases h
  | _, 0, .str _, .frl _, _, h => by unfold shp at h; cases h
  | _, _ + 1, .str _, .frl _, _, h => by unfold shp at h; cases h
  | _, 0, .str _, .ref _, _, h => by unfold shp at h; cases h
  | _, _ + 1, .str _, .ref _, _, h => by unfold shp at h; cases h
  | _, 0, .str _, .clo _ _, _, h => by unfold shp at h; cases h
  | _, _ + 1, .str _, .clo _ _, _, h => by unfold shp at h; cases h
  | _, _, .lst xs, .non, _, _ => by rfl
  | _, _, .lst xs, .bl b, _, _ => by rfl
  | _, _, .lst xs, .int j, _, _ => by rfl
  | _, _, .lst xs, .str y, _, _ => by rfl
  | 0, _, .lst xs, .lst ys, h, _ => by unfold shp at h; cases h
  | _ + 1, 0, .lst xs, .lst ys, _, h => by unfold shp at h; cases h
  | k + 1, m + 1, .lst xs, .lst ys, h1, h2 => by
    unfold shp at h1 h2
    exact eqv_pys k m xs ys h1 h2
  | _, _, .lst xs, .tup ys, _, _ => by rfl
  | _, 0, .lst _, .dic _, _, h => by unfold shp at h; cases h
  | _, _ + 1, .lst _, .dic _, _, h => by unfold shp at h; cases h
  | _, 0, .lst _, .frl _, _, h => by unfold shp at h; cases h
  | _, _ + 1, .lst _, .frl _, _, h => by unfold shp at h; cases h
  | _, 0, .lst _, .ref _, _, h => by unfold shp at h; cases h
  | _, _ + 1, .lst _, .ref _, _, h => by unfold shp at h; cases h
  | _, 0, .lst _, .clo _ _, _, h => by unfold shp at h; cases h
  | _, _ + 1, .lst _, .clo _ _, _, h => by unfold shp at h; cases h
  | _, _, .tup xs, .non, _, _ => by rfl
  | _, _, .tup xs, .bl b, _, _ => by rfl
  | _, _, .tup xs, .int j, _, _ => by rfl
  | _, _, .tup xs, .str y, _, _ => by rfl
  | _, _, .tup xs, .lst ys, _, _ => by rfl
  | 0, _, .tup xs, .tup ys, h, _ => by unfold shp at h; cases h
  | _ + 1, 0, .tup xs, .tup ys, _, h => by unfold shp at h; cases h
  | k + 1, m + 1, .tup xs, .tup ys, h1, h2 => by
    unfold shp at h1 h2
    exact eqv_pys k m xs ys h1 h2
  | _, 0, .tup _, .dic _, _, h => by unfold shp at h; cases h
  | _, _ + 1, .tup _, .dic _, _, h => by unfold shp at h; cases h
  | _, 0, .tup _, .frl _, _, h => by unfold shp at h; cases h
  | _, _ + 1, .tup _, .frl _, _, h => by unfold shp at h; cases h
  | _, 0, .tup _, .ref _, _, h => by unfold shp at h; cases h
  | _, _ + 1, .tup _, .ref _, _, h => by unfold shp at h; cases h
  | _, 0, .tup _, .clo _ _, _, h => by unfold shp at h; cases h
  | _, _ + 1, .tup _, .clo _ _, _, h => by unfold shp at h; cases h
  | 0, _, .dic _, _, h, _ => by unfold shp at h; cases h
  | _ + 1, _, .dic _, _, h, _ => by unfold shp at h; cases h
  | 0, _, .frl _, _, h, _ => by unfold shp at h; cases h
  | _ + 1, _, .frl _, _, h, _ => by unfold shp at h; cases h
  | 0, _, .ref _, _, h, _ => by unfold shp at h; cases h
  | _ + 1, _, .ref _, _, h, _ => by unfold shp at h; cases h
  | 0, _, .clo _ _, _, h, _ => by unfold shp at h; cases h
  | _ + 1, _, .clo _ _, _, h, _ => by unfold shp at h; cases h
theorem eqv_pys : ∀ (k m : Nat) (x y : List D), shps k x = true → shps m y = true → PyData.eqvAll (pys x) (pys y) = deqs x y
  | k, m, [], [], _, _ => by unfold pys PyData.eqvAll deqs; rfl
  | k, m, [], y :: ys, _, _ => by unfold pys PyData.eqvAll deqs; rfl
  | k, m, x :: xs, [], _, _ => by unfold pys PyData.eqvAll deqs; rfl
  | k, m, x :: xs, y :: ys, h1, h2 => by
    unfold shps at h1 h2
    rw [Bool.and_eq_true] at h1 h2
    unfold pys PyData.eqvAll deqs
    rw [eqv_py k m x y h1.1 h2.1, eqv_pys k m xs ys h1.2 h2.2]
end
mutual
theorem can_py : ∀ (k : Nat) (x : D), shp k x = true → PyData.canLay0 (py x) = true ∧ PyData.depth (py x) ≤ k
  | _, .non, _ => ⟨rfl, Nat.zero_le _⟩
  | _, .bl _, _ => ⟨rfl, Nat.zero_le _⟩
  | _, .int _, _ => ⟨rfl, Nat.zero_le _⟩
  | k, .str x, h => by
    refine ⟨?_, Nat.zero_le _⟩
    have h : (x.all fun c => Nat.blt c 1114112) = true := by cases k <;> exact h
    show PyData.strOk (SX.S x) = true
    unfold PyData.strOk
    rw [← Array.all_toList]
    refine List.all_eq_true.mpr fun c hc => ?_
    have := List.all_eq_true.mp h c hc
    exact decide_eq_true (Nat.le_of_ble_eq_true this)
  | 0, .lst _, h => by unfold shp at h; cases h
  | 0, .tup _, h => by unfold shp at h; cases h
  | k + 1, .lst xs, h => by
    unfold shp at h
    obtain ⟨h1, h2⟩ := can_pys k xs h
    exact ⟨h1, Nat.succ_le_succ h2⟩
  | k + 1, .tup xs, h => by
    unfold shp at h
    obtain ⟨h1, h2⟩ := can_pys k xs h
    exact ⟨h1, Nat.succ_le_succ h2⟩
  | 0, .dic _, h => by unfold shp at h; cases h
  | _ + 1, .dic _, h => by unfold shp at h; cases h
  | 0, .frl _, h => by unfold shp at h; cases h
  | _ + 1, .frl _, h => by unfold shp at h; cases h
  | 0, .ref _, h => by unfold shp at h; cases h
  | _ + 1, .ref _, h => by unfold shp at h; cases h
  | 0, .clo _ _, h => by unfold shp at h; cases h
  | _ + 1, .clo _ _, h => by unfold shp at h; cases h
theorem can_pys : ∀ (k : Nat) (x : List D), shps k x = true → PyData.canLayAll0 (pys x) = true ∧ PyData.depthAll (pys x) ≤ k
  | _, [], _ => ⟨rfl, Nat.zero_le _⟩
  | k, x :: xs, h => by
    unfold shps at h
    rw [Bool.and_eq_true] at h
    obtain ⟨h1, h2⟩ := can_py k x h.1
    obtain ⟨h3, h4⟩ := can_pys k xs h.2
    refine ⟨?_, ?_⟩
    · show (PyData.canLay0 (py x) && PyData.canLayAll0 (pys xs)) = true
      rw [h1, h3]
      rfl
    · show max (PyData.depth (py x)) (PyData.depthAll (pys xs)) ≤ k
      omega
end
theorem shaped_py {x : D} (h : shp 60 x = true) : SeqAt.shaped (py x) = true := by
  obtain ⟨h1, h2⟩ := can_py 60 x h
  unfold SeqAt.shaped
  rw [h1, Bool.true_and, decide_eq_true_eq]
  omega
section
variable {G : GD} {cm : List (Option CI)} {ρ : List Addr} {H : Hp} {mh : MH}
mutual
theorem dp_py : ∀ (k : Nat) (x : D) (v : V), shp k x = true → rep G cm ρ H x v → Dp G.K H v (py x)
  | _, .non, v, _, r => by unfold rep at r; subst r; exact .non
  | _, .bl _, v, _, r => by unfold rep at r; subst r; exact .bl _
  | _, .int _, v, _, r => by unfold rep at r; subst r; exact .int _
  | _, .str _, v, _, r => by unfold rep at r; subst r; exact .str _
  | 0, .lst _, _, h, _ => by unfold shp at h; cases h
  | 0, .tup _, _, h, _ => by unfold shp at h; cases h
  | k + 1, .lst xs, v, h, r => by
    unfold shp at h
    unfold rep at r
    obtain ⟨a, ys, rfl, h1, h2⟩ := r
    exact .lst (SqL.of h1.2) (dp_pys k xs ys h h2)
  | k + 1, .tup xs, v, h, r => by
    unfold shp at h
    unfold rep at r
    obtain ⟨a, ys, rfl, h1, h2⟩ := r
    refine .tup ?_ (dp_pys k xs ys h h2)
    rcases h1 with z | z
    · exact SqT.of z.2
    · exact .inr z
  | 0, .dic _, _, h, _ => by unfold shp at h; cases h
  | _ + 1, .dic _, _, h, _ => by unfold shp at h; cases h
  | 0, .frl _, _, h, _ => by unfold shp at h; cases h
  | _ + 1, .frl _, _, h, _ => by unfold shp at h; cases h
  | 0, .ref _, _, h, _ => by unfold shp at h; cases h
  | _ + 1, .ref _, _, h, _ => by unfold shp at h; cases h
  | 0, .clo _ _, _, h, _ => by unfold shp at h; cases h
  | _ + 1, .clo _ _, _, h, _ => by unfold shp at h; cases h
theorem dp_pys : ∀ (k : Nat) (x : List D) (ys : List V), shps k x = true → reps G cm ρ H x ys → DpAll G.K H ys (pys x)
  | _, [], ys, _, r => by unfold reps at r; subst r; exact .nil
  | k, x :: xs, ys, h, r => by
    unfold shps at h
    rw [Bool.and_eq_true] at h
    unfold reps at r
    obtain ⟨y, t, rfl, h1, h2⟩ := r
    exact .cons (dp_py k x y h.1 h1) (dp_pys k xs t h.2 h2)
end
theorem res_non {k : Nat} {h : MH} : resD k h .non = .non := by cases k <;> rfl
/-- the data that stand at a value, changed lists too -/
theorem dp_res : ∀ (k m : Nat) (cm : List (Option CI)) (x : D) (v : V), Gd G ρ H mh → shp m (resD k mh x) = true → rep G cm ρ H x v → Dp G.K H v (py (resD k mh x))
  | 0, m, cm, x, v, g, h, r => dp_py m x v h r
  | k + 1, m, cm, x, v, g, h, r => by
    have list : ∀ (cm : List (Option CI)) (xs : List D) (ys : List V) (m : Nat), shps m (xs.map (resD k mh)) = true → reps G cm ρ H xs ys → DpAll G.K H ys (pys (xs.map (resD k mh))) := by
      intro cm xs
      induction xs with
      | nil =>
        intro ys m _ r
        unfold reps at r
        subst r
        exact .nil
      | cons x xs ih =>
        intro ys m h r
        rw [List.map_cons] at h
        unfold shps at h
        rw [Bool.and_eq_true] at h
        unfold reps at r
        obtain ⟨y, t, rfl, h1, h2⟩ := r
        exact .cons (dp_res k m cm x y g h.1 h1) (ih t m h.2 h2)
    cases x with
    | non => exact dp_py m .non v h r
    | bl b => exact dp_py m (.bl b) v h r
    | int i => exact dp_py m (.int i) v h r
    | str z => exact dp_py m (.str z) v h r
    | dic z => exact dp_py m (.dic z) v h r
    | frl z => exact dp_py m (.frl z) v h r
    | clo a b => exact dp_py m (.clo a b) v h r
    | lst xs =>
      have h : shp m (.lst (xs.map (resD k mh))) = true := h
      cases m with
      | zero => unfold shp at h; cases h
      | succ m =>
        unfold shp at h
        unfold rep at r
        obtain ⟨a, ys, rfl, h1, h2⟩ := r
        exact .lst (SqL.of h1.2) (list cm xs ys m h h2)
    | tup xs =>
      have h : shp m (.tup (xs.map (resD k mh))) = true := h
      cases m with
      | zero => unfold shp at h; cases h
      | succ m =>
        unfold shp at h
        unfold rep at r
        obtain ⟨a, ys, rfl, h1, h2⟩ := r
        refine .tup ?_ (list cm xs ys m h h2)
        rcases h1 with z | z
        · exact SqT.of z.2
        · exact .inr z
    | ref n =>
      have e : resD (k + 1) mh (.ref n) = (match mh[n]? with
        | some (.lst xs) => .lst (xs.map (resD k mh))
        | _ => .ref n) := rfl
      rw [e] at h ⊢
      have r' := r
      unfold rep at r'
      obtain ⟨a, rfl, ha⟩ := r'
      cases hm : mh[n]? with
      | none =>
        rw [hm] at h
        exact dp_py m (.ref n) _ h r
      | some o =>
        rw [hm] at h
        cases o with
        | lst xs =>
          have h : shp m (.lst (xs.map (resD k mh))) = true := h
          obtain ⟨ys, q1, q2⟩ := g.chg n a _ ha hm
          cases m with
          | zero => unfold shp at h; cases h
          | succ m =>
            unfold shp at h
            exact .lst (SqL.of q1) (list [] xs ys m h q2)
        | gone => exact dp_py m (.ref n) _ h r
        | dic _ => exact dp_py m (.ref n) _ h r
        | ins _ _ => exact dp_py m (.ref n) _ h r
theorem dp_ress (k m : Nat) (cm : List (Option CI)) (g : Gd G ρ H mh) : ∀ (xs : List D) (ys : List V), shps m (xs.map (resD k mh)) = true → reps G cm ρ H xs ys → DpAll G.K H ys (pys (xs.map (resD k mh)))
  | [], ys, _, r => by
    unfold reps at r
    subst r
    exact .nil
  | x :: xs, ys, h, r => by
    rw [List.map_cons] at h
    unfold shps at h
    rw [Bool.and_eq_true] at h
    unfold reps at r
    obtain ⟨y, t, rfl, h1, h2⟩ := r
    exact .cons (dp_res k m cm x y g h.1 h1) (dp_ress k m cm g xs t h.2 h2)
theorem any_py {k m : Nat} {x : D} (hx : shp k x = true) : ∀ {ys : List D}, shps m ys = true → ((pys ys).any fun z => PyData.eqv z (py x)) = ys.any fun z => deq z x
  | [], _ => rfl
  | y :: ys, h => by
    unfold shps at h
    rw [Bool.and_eq_true] at h
    unfold pys
    rw [List.any_cons, List.any_cons, eqv_py m k y x h.1 hx, any_py hx h.2]
/-! flat values -/
def flv : D → V
  | .non => .non
  | .bl b => .bl b
  | .int i => .int i
  | .str x => .str (SX.S x)
  | _ => .non
theorem flat_of : ∀ {x : D} {v : V}, flatD x = true → rep G cm ρ H x v → v = flv x ∧ flatV v = true
  | .non, v, _, r => by unfold rep at r; subst r; exact ⟨rfl, rfl⟩
  | .bl _, v, _, r => by unfold rep at r; subst r; exact ⟨rfl, rfl⟩
  | .int _, v, _, r => by unfold rep at r; subst r; exact ⟨rfl, rfl⟩
  | .str _, v, _, r => by unfold rep at r; subst r; exact ⟨rfl, rfl⟩
  | .lst _, _, h, _ => by cases h
  | .tup _, _, h, _ => by cases h
  | .dic _, _, h, _ => by cases h
  | .frl _, _, h, _ => by cases h
  | .ref _, _, h, _ => by cases h
  | .clo _ _, _, h, _ => by cases h
theorem eqV_flv : ∀ {x y : D}, flatD x = true → flatD y = true → eqV (flv x) (flv y) = deq x y
  | .non, .non, _, _ => rfl
  | .non, .bl _, _, _ => rfl
  | .non, .int _, _, _ => rfl
  | .non, .str _, _, _ => rfl
  | .bl _, .non, _, _ => rfl
  | .bl _, .bl _, _, _ => rfl
  | .bl a, .int j, _, _ => by show (((if a = true then 1 else 0 : Int) == j) = decide (b2i a = j)); cases a <;> exact Bool.beq_eq_decide_eq _ _
  | .bl _, .str _, _, _ => rfl
  | .int _, .non, _, _ => rfl
  | .int i, .bl b, _, _ => by show ((i == (if b = true then 1 else 0 : Int)) = decide (i = b2i b)); cases b <;> exact Bool.beq_eq_decide_eq _ _
  | .int i, .int j, _, _ => by exact Bool.beq_eq_decide_eq i j
  | .int _, .str _, _, _ => rfl
  | .str _, .non, _, _ => rfl
  | .str _, .bl _, _, _ => rfl
  | .str _, .int _, _, _ => rfl
  | .str x, .str y, _, _ => SX.S_beq x y
  | .lst _, _, h, _ => by cases h
  | .tup _, _, h, _ => by cases h
  | .dic _, _, h, _ => by cases h
  | .frl _, _, h, _ => by cases h
  | .ref _, _, h, _ => by cases h
  | .clo _ _, _, h, _ => by cases h
  | .non, .lst _, _, h => by cases h
  | .non, .tup _, _, h => by cases h
  | .non, .dic _, _, h => by cases h
  | .non, .frl _, _, h => by cases h
  | .non, .ref _, _, h => by cases h
  | .non, .clo _ _, _, h => by cases h
  | .bl _, .lst _, _, h => by cases h
  | .bl _, .tup _, _, h => by cases h
  | .bl _, .dic _, _, h => by cases h
  | .bl _, .frl _, _, h => by cases h
  | .bl _, .ref _, _, h => by cases h
  | .bl _, .clo _ _, _, h => by cases h
  | .int _, .lst _, _, h => by cases h
  | .int _, .tup _, _, h => by cases h
  | .int _, .dic _, _, h => by cases h
  | .int _, .frl _, _, h => by cases h
  | .int _, .ref _, _, h => by cases h
  | .int _, .clo _ _, _, h => by cases h
  | .str _, .lst _, _, h => by cases h
  | .str _, .tup _, _, h => by cases h
  | .str _, .dic _, _, h => by cases h
  | .str _, .frl _, _, h => by cases h
  | .str _, .ref _, _, h => by cases h
  | .str _, .clo _ _, _, h => by cases h
/-- any of flat items -/
theorem inV_of {x : D} {v : V} (fx : flatD x = true) (r : rep G cm ρ H x v) : ∀ {xs : List D} {ys : List V}, xs.all flatD = true → reps G cm ρ H xs ys → inV v ys = xs.any (fun z => deq z x) ∧ ys.all flatV = true
  | [], ys, _, h => by unfold reps at h; subst h; exact ⟨rfl, rfl⟩
  | z :: xs, ys, f, h => by
    rw [List.all_cons, Bool.and_eq_true] at f
    unfold reps at h
    obtain ⟨y, t, rfl, h1, h2⟩ := h
    obtain ⟨e1, e2⟩ := inV_of fx r f.2 h2
    obtain ⟨e3, e4⟩ := flat_of f.1 h1
    obtain ⟨e5, _⟩ := flat_of fx r
    constructor
    · unfold inV at e1 ⊢
      rw [List.any_cons, List.any_cons, e1, e3, e5, eqV_flv f.1 fx]
    · rw [List.all_cons, e4, e2]
      rfl

/-! ### comparisons -/
def rInS : R2 := fun x y H Q => ∃ i j, x = .str i ∧ y = .str j ∧ Q (.bl (!(Builtin.Str.occurrences j i 0 j.length 1).isEmpty)) H
def rNinS : R2 := fun x y H Q => ∃ i j, x = .str i ∧ y = .str j ∧ Q (.bl (!(!(Builtin.Str.occurrences j i 0 j.length 1).isEmpty))) H
def rC (K : PySem.W.Frag) : Cop → R2
  | .eq => fun x y H Q => rEq x y H Q ∨ rEqD K x y H Q
  | .ne => fun x y H Q => rNe x y H Q ∨ rNeD K x y H Q
  | .lt => fun x y H Q => rI0 (fun i j => .bl (decide (i < j))) x y H Q ∨ rOrd K false (fun i j => decide (i < j)) x y H Q
  | .le => fun x y H Q => rI0 (fun i j => .bl (decide (i ≤ j))) x y H Q ∨ rOrd K true (fun i j => decide (i ≤ j)) x y H Q
  | .gt => fun x y H Q => rI0 (fun i j => .bl (decide (j < i))) x y H Q ∨ rOrd K false (fun i j => decide (j < i)) x y H Q
  | .ge => fun x y H Q => rI0 (fun i j => .bl (decide (j ≤ i))) x y H Q ∨ rOrd K true (fun i j => decide (j ≤ i)) x y H Q
  | .isin => fun x y H Q => rInS x y H Q ∨ (rIn K false x y H Q ∨ (rInD K x y H Q ∨ (rInT K x y H Q ∨ rDin x y H Q)))
  | .notin => fun x y H Q => rNinS x y H Q ∨ (rIn K true x y H Q ∨ (rNotInD K x y H Q ∨ (rNinT K x y H Q ∨ rDnin x y H Q)))
  | .isn => fun x y H Q => y = .non ∧ Q (.bl (decide (x = .non))) H
  | .notn => fun x y H Q => y = .non ∧ Q (.bl (!decide (x = .non))) H
def opC : Cop → CmpOp
  | .eq => .Eq
  | .ne => .NotEq
  | .lt => .Lt
  | .le => .LtE
  | .gt => .Gt
  | .ge => .GtE
  | .isin => .In
  | .notin => .NotIn
  | .isn => .Is
  | .notn => .IsNot
theorem op_C {X : Cx} (hu : X.A.units + 65 < cLine) : ∀ op : Cop, OpR X (compareOp (opC op)) (rC X.K op)
  | .eq => OpR.or op_eq (op_eqD (by omega))
  | .ne => OpR.or op_ne (op_neD (by omega))
  | .lt => OpR.or op_lt (op_ltO (by omega))
  | .le => OpR.or op_le (op_leO (by omega))
  | .gt => OpR.or op_gt (op_gtO (by omega))
  | .ge => OpR.or op_ge (op_geO (by omega))
  | .isin => OpR.or op_in_str (OpR.or op_in_seq (OpR.or (op_inD hu) (OpR.or (op_inT hu) (op_din (by omega)))))
  | .notin => OpR.or op_notin_str (OpR.or op_notIn_seq (OpR.or (op_notInD hu) (OpR.or (op_ninT hu) (op_dnin (by omega)))))
  | .isn => op_isN
  | .notn => op_notN
theorem flv_inj : ∀ {x y : D}, flatD x = true → flatD y = true → (∀ a j, ¬ (x = .bl a ∧ y = .int j)) → (∀ i b, ¬ (x = .int i ∧ y = .bl b)) → scal (flv x) (flv y) = true ∧ decide (flv x = flv y) = deq x y := by
  intro x y hx hy n1 n2
  have key : ∀ {x y : D}, flatD x = true → flatD y = true → (∀ a j, ¬ (x = .bl a ∧ y = .int j)) → (∀ i b, ¬ (x = .int i ∧ y = .bl b)) → scal (flv x) (flv y) = true ∧ eqV (flv x) (flv y) = decide (flv x = flv y) := by
    intro x y hx hy n1 n2
    cases x <;> cases hx <;> cases y <;> cases hy <;> first
      | exact absurd ⟨rfl, rfl⟩ (n1 _ _)
      | exact absurd ⟨rfl, rfl⟩ (n2 _ _)
      | (refine ⟨rfl, ?_⟩; first | rfl | exact dec_int.symm | exact dec_bl.symm | exact dec_str.symm)
  obtain ⟨h1, h2⟩ := key hx hy n1 n2
  exact ⟨h1, by rw [← h2, eqV_flv hx hy]⟩
theorem eqOpt_ok {x y : D} {v u : V} {b : Bool} (g : Gd G ρ H mh) (rx : rep G cm ρ H x v) (ry : rep G cm ρ H y u) (h : eqOpt mh x y = some b) :
    (scal v u = true ∧ decide (v = u) = b) ∨ ∃ d e, Dp G.K H v d ∧ Dp G.K H u e ∧ SeqAt.shaped d = true ∧ SeqAt.shaped e = true ∧ PyData.eqv d e = b := by
  unfold eqOpt at h
  split at h
  · rename_i hf
    rw [Bool.and_eq_true] at hf
    left
    obtain ⟨e1, _⟩ := flat_of hf.1 rx
    obtain ⟨e2, _⟩ := flat_of hf.2 ry
    subst e1 e2
    split at h
    · cases h
    · cases h
    · rename_i n1 n2
      cases h
      exact flv_inj hf.1 hf.2 (fun a j ⟨p, q⟩ => n1 a j p q) (fun i b ⟨p, q⟩ => n2 i b p q)
  · split at h
    · rename_i hs
      rw [Bool.and_eq_true] at hs
      cases h
      exact .inr ⟨_, _, dp_res 60 60 cm x v g hs.1 rx, dp_res 60 60 cm y u g hs.2 ry, shaped_py hs.1, shaped_py hs.2, eqv_py 60 60 _ _ hs.1 hs.2⟩
    · cases h
theorem shp_up : ∀ (k : Nat) (x : D), shp k x = true → shp (k + 1) x = true
  | 0, .lst _, h => by unfold shp at h; cases h
  | 0, .tup _, h => by unfold shp at h; cases h
  | 0, .non, h => by unfold shp; rfl
  | 0, .bl _, h => by unfold shp; rfl
  | 0, .int _, h => by unfold shp; rfl
  | 0, .str _, h => by unfold shp at h ⊢; exact h
  | 0, .dic _, h => by unfold shp at h; cases h
  | 0, .frl _, h => by unfold shp at h; cases h
  | 0, .ref _, h => by unfold shp at h; cases h
  | 0, .clo _ _, h => by unfold shp at h; cases h
  | k + 1, .non, h => by unfold shp; rfl
  | k + 1, .bl _, h => by unfold shp; rfl
  | k + 1, .int _, h => by unfold shp; rfl
  | k + 1, .str _, h => by unfold shp at h ⊢; exact h
  | k + 1, .lst xs, h => by
    unfold shp at h ⊢
    have key : ∀ xs : List D, shps k xs = true → shps (k + 1) xs = true := by
      intro xs
      induction xs with
      | nil => exact fun _ => by unfold shps; rfl
      | cons x xs ih =>
        intro h
        unfold shps at h ⊢
        rw [Bool.and_eq_true] at h ⊢
        exact ⟨shp_up k x h.1, ih h.2⟩
    exact key xs h
  | k + 1, .tup xs, h => by
    unfold shp at h ⊢
    have key : ∀ xs : List D, shps k xs = true → shps (k + 1) xs = true := by
      intro xs
      induction xs with
      | nil => exact fun _ => by unfold shps; rfl
      | cons x xs ih =>
        intro h
        unfold shps at h ⊢
        rw [Bool.and_eq_true] at h ⊢
        exact ⟨shp_up k x h.1, ih h.2⟩
    exact key xs h
  | k + 1, .dic _, h => by unfold shp at h; cases h
  | k + 1, .frl _, h => by unfold shp at h; cases h
  | k + 1, .ref _, h => by unfold shp at h; cases h
  | k + 1, .clo _ _, h => by unfold shp at h; cases h
theorem intsOf_ok : ∀ {xs : List D} {ns : List Int} {ys : List V}, intsOf xs = some ns → reps G cm ρ H xs ys → ys = ns.map V.int
  | [], ns, ys, h, r => by
    unfold reps at r
    subst r
    cases h
    rfl
  | x :: xs, ns, ys, h, r => by
    unfold reps at r
    obtain ⟨y, t, rfl, h1, h2⟩ := r
    cases x with
    | int i =>
      have h : (intsOf xs).map (i :: ·) = some ns := h
      obtain ⟨ms, e1, e2⟩ := Option.map_eq_some_iff.mp h
      subst e2
      unfold rep at h1
      subst h1
      rw [intsOf_ok e1 h2]
      rfl
    | _ => cases h
theorem ordV_ok {le : Bool} {f : Int → Int → Bool} {x y : D} {v u : V} {b : Bool} (g : Gd G ρ H mh) (rx : rep G cm ρ H x v) (ry : rep G cm ρ H y u) (h : ordV le f x y = some b) {Q : VK} (q : Q (.bl b) H) : rI0 (fun i j => .bl (f i j)) v u H Q ∨ rOrd G.K le f v u H Q := by
  unfold ordV at h
  split at h
  · cases h
    unfold rep at rx ry
    subst rx ry
    exact .inl ⟨_, _, rfl, rfl, q⟩
  · split at h
    · rename_i a b' h1 h2
      cases h
      unfold rep at rx ry
      obtain ⟨p, ys, rfl, e2, e3⟩ := rx
      obtain ⟨p', ys', rfl, e5, e6⟩ := ry
      have w1 := intsOf_ok h1 e3
      have w2 := intsOf_ok h2 e6
      subst w1 w2
      refine .inr ⟨p, p', a, b', rfl, rfl, ?_, ?_, q⟩
      · rcases e2 with z | z
        · exact SqT.of z.2
        · exact .inr z
      · rcases e5 with z | z
        · exact SqT.of z.2
        · exact .inr z
    · cases h
  · cases h
theorem inOpt_ok {x y : D} {v u : V} {b : Bool} (g : Gd G ρ H mh) (rx : rep G cm ρ H x v) (ry : rep G cm ρ H y u) (h : inOpt mh x y = some b) :
    ((∃ i j, v = .str i ∧ u = .str j ∧ (!(Builtin.Str.occurrences j i 0 j.length 1).isEmpty) = b) ∨ ((∃ p xs, u = .ref p ∧ (SqL G.K H p xs ∨ SqT G.K H p xs) ∧ flatV v = true ∧ xs.all flatV = true ∧ inV v xs = b) ∨
    ∃ d ds, Dp G.K H v d ∧ (Dp G.K H u (.list ds) ∧ SeqAt.shaped (.list ds) = true ∨ Dp G.K H u (.tuple ds) ∧ SeqAt.shaped (.tuple ds) = true) ∧ SeqAt.shaped d = true ∧ (ds.any fun z => PyData.eqv z d) = b)) ∨ ∃ a o, u = .ref a ∧ DGet H a v o ∧ o.isSome = b := by
  unfold inOpt at h
  split at h
  · split at h
    · cases h
      unfold rep at rx ry
      subst rx ry
      exact .inl (.inl ⟨_, _, rfl, rfl, within_S _ _⟩)
    · cases h
  · split at h
    · rename_i kvs hq
      split at h
      · rename_i hk
        cases h
        obtain ⟨a, ys, e1, e2, e3⟩ := dic_of g ry hq
        obtain ⟨c, hc⟩ := keyB_some hk
        obtain ⟨k1, k2⟩ := look_ok hc e3
        refine .inr ⟨a, valV ys c, e1, .inl ⟨ys, c, .inl e2, key_rep hc rx, rfl⟩, ?_⟩
        cases hl : lookD x kvs with
        | none => rw [k2 hl]; rfl
        | some d =>
          obtain ⟨w, w1, _⟩ := k1 d hl
          rw [w1]
          rfl
      · cases h
    split at h
    · rename_i ys hq
      split at h
      · rename_i hf
        cases h
        rw [Bool.and_eq_true] at hf
        obtain ⟨a, zs, e1, e2, e3⟩ := seq_of g ry hq
        obtain ⟨e4, e5⟩ := inV_of hf.1 rx hf.2 e3
        exact .inl (.inr (.inl ⟨a, zs, e1, e2, (flat_of hf.1 rx).2, e5, e4⟩))
      · split at h
        · rename_i hs
          cases h
          rw [Bool.and_eq_true] at hs
          obtain ⟨a, zs, e1, e2, e3⟩ := seq_of g ry hq
          have hx60 : shp 60 (resD 59 mh x) = true := shp_up _ _ hs.1
          have hz : shp 60 (.lst (ys.map (resD 59 mh))) = true := by unfold shp; exact hs.2
          have hz2 : shp 60 (.tup (ys.map (resD 59 mh))) = true := by unfold shp; exact hs.2
          have dall := dp_ress 59 59 cm g ys zs hs.2 e3
          refine .inl (.inr (.inr ⟨py (resD 59 mh x), pys (ys.map (resD 59 mh)), dp_res 59 59 cm x v g hs.1 rx, ?_, shaped_py hx60, any_py hs.1 hs.2⟩))
          rw [e1]
          rcases e2 with e2 | e2
          · exact .inl ⟨.lst e2 dall, shaped_py hz⟩
          · exact .inr ⟨.tup e2 dall, shaped_py hz2⟩
        · cases h
    · cases h
theorem non_iff : ∀ {x : D} {v : V}, rep G cm ρ H x v → decide (v = .non) = (match x with | .non => true | _ => false)
  | .non, v, r => by unfold rep at r; subst r; rfl
  | .bl _, v, r => by unfold rep at r; subst r; rfl
  | .int _, v, r => by unfold rep at r; subst r; rfl
  | .str _, v, r => by unfold rep at r; subst r; rfl
  | .lst _, v, r => by unfold rep at r; obtain ⟨a, _, rfl, _⟩ := r; rfl
  | .tup _, v, r => by unfold rep at r; obtain ⟨a, _, rfl, _⟩ := r; rfl
  | .dic _, v, r => by unfold rep at r; obtain ⟨a, _, rfl, _⟩ := r; rfl
  | .frl _, v, r => by unfold rep at r; obtain ⟨a, _, rfl, _⟩ := r; rfl
  | .ref _, v, r => by unfold rep at r; obtain ⟨a, rfl, _⟩ := r; rfl
  | .clo _ _, v, r => by unfold rep at r; obtain ⟨f, _, _, _, _, _, _, _, rfl, _⟩ := r; rfl
/-- a comparison: b is what it says -/
theorem cmpV_ok {op : Cop} {x y : D} {v u : V} {b : Bool} (g : Gd G ρ H mh) (rx : rep G cm ρ H x v) (ry : rep G cm ρ H y u) (h : cmpV op x y mh = some b) (Q : VK) (q : Q (.bl b) H) : rC G.K op v u H Q := by
  unfold cmpV at h
  cases op
  · rcases eqOpt_ok g rx ry h with ⟨h1, h2⟩ | ⟨d, e, h1, h2, h3, h4, h5⟩
    · exact .inl ⟨h1, by rw [h2]; exact q⟩
    · exact .inr ⟨d, e, h1, h2, h3, h4, by rw [h5]; exact q⟩
  · obtain ⟨c, hc, e⟩ := Option.map_eq_some_iff.mp h
    subst e
    rcases eqOpt_ok g rx ry hc with ⟨h1, h2⟩ | ⟨d, e, h1, h2, h3, h4, h5⟩
    · exact .inl ⟨h1, by rw [h2]; exact q⟩
    · exact .inr ⟨d, e, h1, h2, h3, h4, by rw [h5]; exact q⟩
  · exact ordV_ok g rx ry h q
  · exact ordV_ok g rx ry h q
  · exact ordV_ok g rx ry h q
  · exact ordV_ok g rx ry h q
  · rcases inOpt_ok g rx ry h with (⟨i, j, h1, h2, h3⟩ | ⟨p, xs, h1, h2, h3, h4, h5⟩ | ⟨d, ds, h1, h2, h3, h4⟩) | ⟨a, o, h1, h2, h3⟩
    · exact .inl ⟨i, j, h1, h2, by rw [h3]; exact q⟩
    · exact .inr (.inl ⟨p, xs, h1, h2, h3, h4, by rw [h5]; exact q⟩)
    · rcases h2 with ⟨h5, h6⟩ | ⟨h5, h6⟩
      · exact .inr (.inr (.inl ⟨d, ds, h1, h5, h3, h6, by rw [h4]; exact q⟩))
      · exact .inr (.inr (.inr (.inl ⟨d, ds, h1, h5, h3, h6, by rw [h4]; exact q⟩)))
    · exact .inr (.inr (.inr (.inr ⟨a, o, h1, h2, by rw [h3]; exact q⟩)))
  · obtain ⟨c, hc, e⟩ := Option.map_eq_some_iff.mp h
    subst e
    rcases inOpt_ok g rx ry hc with (⟨i, j, h1, h2, h3⟩ | ⟨p, xs, h1, h2, h3, h4, h5⟩ | ⟨d, ds, h1, h2, h3, h4⟩) | ⟨a, o, h1, h2, h3⟩
    · exact .inl ⟨i, j, h1, h2, by rw [h3]; exact q⟩
    · exact .inr (.inl ⟨p, xs, h1, h2, h3, h4, by rw [h5]; exact q⟩)
    · rcases h2 with ⟨h5, h6⟩ | ⟨h5, h6⟩
      · exact .inr (.inr (.inl ⟨d, ds, h1, h5, h3, h6, by rw [h4]; exact q⟩))
      · exact .inr (.inr (.inr (.inl ⟨d, ds, h1, h5, h3, h6, by rw [h4]; exact q⟩)))
    · exact .inr (.inr (.inr (.inr ⟨a, o, h1, h2, by rw [h3]; exact q⟩)))
  · dsimp only at h
    split at h
    · unfold rep at ry
      subst ry
      cases h
      exact ⟨rfl, by rw [non_iff rx]; exact q⟩
    · cases h
  · dsimp only at h
    split at h
    · unfold rep at ry
      subst ry
      refine ⟨rfl, ?_⟩
      rw [non_iff rx]
      cases h
      cases x <;> exact q
    · cases h

/-! ### truth -/
theorem truV_ok {x : D} {v : V} {b : Bool} (g : Gd G ρ H mh) (r : rep G cm ρ H x v) (h : truV mh x = some b) : TruV G.K v H b := by
  unfold truV at h
  split at h
  · cases h
    unfold rep at r
    subst r
    exact rfl
  · cases h
    unfold rep at r
    subst r
    exact rfl
  · cases h
    unfold rep at r
    subst r
    show decide _ = _
    rename_i i
    by_cases hi : i = 0
    · subst hi
      rfl
    · rw [decide_eq_true hi]
      exact (bne_iff_ne.mpr hi).symm
  · split at h
    · rename_i z hz
      cases h
      unfold rep at r
      subst r
      refine ⟨by rw [SX.S_len]; exact le_line hz, ?_⟩
      rw [SX.S_len]
      cases z with
      | nil => rfl
      | cons a l =>
        refine (bne_iff_ne.mpr ?_).symm
        rw [List.length_cons]
        omega
    · cases h
  · cases h
    unfold rep at r
    obtain ⟨a, ys, rfl, h1, h2⟩ := r
    refine .inr (.inl ⟨ys, ?_, ?_⟩)
    · rcases h1 with z | z
      · exact SqT.of z.2
      · exact .inr z
    · have e := h2.length
      rename_i xs
      cases xs <;> cases ys <;> first | rfl | simp at e
  · cases h
    unfold rep at r
    obtain ⟨a, ys, rfl, h1, h2⟩ := r
    refine .inl ⟨ys, SqL.of h1.2, ?_⟩
    have e := h2.length
    rename_i xs
    cases xs <;> cases ys <;> first | rfl | simp at e
  · cases h
end
end FS

-- text FsF
set_option Elab.async false
set_option linter.all false
set_option maxHeartbeats 1000000
/-! FsF: subscripts, slices, built-ins, methods. -/
namespace FS
open PySem PySem.Spec PyProof.Rows L2 LamX

section
variable {G : GD} {cm : List (Option CI)} {ρ : List Addr} {H : Hp} {mh : MH}
theorem atI_of {α : Type} {xs : List α} {i : Int} {j : Nat} {x : α} (h : ixN xs.length i = some j) (e : xs[j]? = some x) : atI xs i = some x := by
  unfold atI
  rw [ixN_eq, h]
  exact e
theorem ixV_ok {x y d : D} {v u : V} (g : Gd G ρ H mh) (rx : rep G cm ρ H x v) (ry : rep G cm ρ H y u) (h : ixV x y mh = some d) (Q : VK) (q : ∀ w, rep G cm ρ H d w → Q w H) : rIx G.K v u H Q ∨ rIxD v u H Q := by
  unfold ixV at h
  split at h
  · rename_i kvs hq
    split at h
    · rename_i hk
      obtain ⟨a, ys, e1, e2, e3⟩ := dic_of g rx hq
      obtain ⟨c, hc⟩ := keyB_some hk
      obtain ⟨w, w1, w2⟩ := (look_ok hc e3).1 d h
      exact .inr ⟨a, w, e1, .inl ⟨ys, c, .inl e2, key_rep hc ry, w1.symm⟩, q w w2⟩
    · cases h
  refine .inl ?_
  split at h
  · unfold rep at ry
    subst ry
    split at h
    · split at h
      · rename_i s hz
        split at h
        · rename_i j hj
          split at h
          · rename_i c hc
            cases h
            unfold rep at rx
            subst rx
            refine .inr (.inr ⟨_, _, c, rfl, rfl, by rw [SX.S_len]; exact le_line hz, atI_of hj hc, q _ (by unfold rep; rfl)⟩)
          · cases h
        · cases h
      · cases h
    · split at h
      · rename_i xs hx
        split at h
        · rename_i j hj
          obtain ⟨a, ys, rfl, e2, e3⟩ := seq_of g rx hx
          obtain ⟨w, h1, h2⟩ := e3.get h
          have hj' := hj
          rw [e3.length] at hj'
          rcases e2 with e2 | e2
          · exact .inl ⟨a, ys, _, w, rfl, rfl, e2, atI_of hj' h1, q w h2⟩
          · exact .inr (.inl ⟨a, ys, _, w, rfl, rfl, e2, atI_of hj' h1, q w h2⟩)
        · cases h
      · cases h
  · cases h
def rSl (K : PySem.W.Frag) : V → Option Int → Option Int → Hp → VK → Prop := fun x lo hi H Q => rSlS x lo hi H Q ∨ (rSlL K x lo hi H Q ∨ rSlT K x lo hi H Q)
theorem sl_any {X : Cx} : SlR X (rSl X.K) := SlR.or sl_str (SlR.or sl_list sl_tup)
theorem cut_reps {xs : List D} {ys : List V} (r : reps G cm ρ H xs ys) (lo hi : Option Int) : reps G cm ρ H (cut xs lo hi) (cut ys lo hi) := by
  unfold cut
  rw [← r.length]
  exact (r.drop _).take _
theorem slV_ok {x d : D} {v : V} {lo hi : Option Int} (g : Gd G ρ H mh) (rx : rep G cm ρ H x v) (h : slV x lo hi mh = some d) : Gv G (rep G cm) ρ H (.ok d mh) (fun Q => rSl G.K v lo hi H Q) := by
  unfold slV at h
  split at h
  · split at h
    · rename_i hz
      cases h
      unfold rep at rx
      subst rx
      exact Gv.same g (by unfold rep; rfl) fun Q q => .inl ⟨_, rfl, by rw [SX.S_len]; exact le_line hz, by rw [cutS_S]; exact q⟩
    · cases h
  · cases h
    unfold rep at rx
    obtain ⟨a, ys, rfl, e2, e3⟩ := rx
    refine Gv.newL g (cut_reps e3 lo hi) fun Q q => .inr (.inl ⟨a, ys, rfl, ?_, by rw [cutV_eq]; exact q⟩)
    rcases e2 with ⟨o, z⟩ | z
    · exact .inl (.inr ⟨o, z.2⟩)
    · exact .inr z
  · split at h
    · cases h
    · rename_i hw
      cases h
      unfold rep at rx
      obtain ⟨a, ys, rfl, e2, e3⟩ := rx
      refine Gv.newT g (cut_reps e3 lo hi) fun Q q => .inr (.inr ⟨a, ys, rfl, ?_, ?_, by rw [cutV_eq]; exact q⟩)
      · rcases e2 with z | z
        · exact SqT.of z.2
        · exact .inr z
      · rw [← e3.length, sIx_eq, sIx_eq]
        rintro ⟨w1, w2⟩
        apply hw
        rw [w1, w2, Nat.beq_refl, Nat.beq_refl]
        rfl
  · split at h
    · rename_i xs hx
      cases h
      obtain ⟨a, ys, rfl, e2, e3⟩ := lst_of g rx hx
      exact Gv.newL g (cut_reps e3 lo hi) fun Q q => .inr (.inl ⟨a, ys, rfl, SqL.of e2, by rw [cutV_eq]; exact q⟩)
    · cases h

/-! ### built-ins -/
def nmBi : Bi → Str
  | .len => "len"
  | .int => "int"
  | .str => "str"
  | .abs => "abs"
  | .max2 => "max"
  | .min2 => "min"
  | .list => "list"
  | .tuple => "tuple"
  | .dict => "dict"
def vlBi : Bi → Value
  | .len => .builtin "len"
  | .int => .type "int"
  | .str => .type "str"
  | .abs => .builtin "abs"
  | .max2 => .builtin "max"
  | .min2 => .builtin "min"
  | .list => .type "list"
  | .tuple => .type "tuple"
  | .dict => .type "dict"
theorem boot_Bi : ∀ b : Bi, bootBuiltins (nmBi b) = some (vlBi b)
  | .len => boot_len
  | .int => boot_int
  | .str => boot_str
  | .abs => boot_abs
  | .max2 => boot_max
  | .min2 => boot_min
  | .list => boot_list
  | .tuple => boot_tuple
  | .dict => boot_dict
def rBi (K : PySem.W.Frag) : Bi → List V → Hp → VK → Prop
  | .len => fun xs H Q => ∃ x n, xs = [x] ∧ LenV K x H n ∧ Q (.int n) H
  | .int => fun xs H Q => ((∃ i, xs = [.int i] ∧ Q (.int i) H) ∨ ∃ k, xs = [.bl k] ∧ Q (.int (if k then 1 else 0)) H) ∨ ∃ a n, xs = [.str a] ∧ PySem.intText? a = some n ∧ a.length ≤ 640 ∧ Q (.int n) H
  | .str => fun xs H Q => ∃ i, xs = [.int i] ∧ i.natAbs.log2 < 1920 ∧ Q (.str (toString i)) H
  | .abs => fun xs H Q => ∃ i, xs = [.int i] ∧ Q (.int (if i < 0 then -i else i)) H
  | .max2 => fun xs H Q => ∃ i j, xs = [.int i, .int j] ∧ Q (.int (if j > i then j else i)) H
  | .min2 => fun xs H Q => ∃ i j, xs = [.int i, .int j] ∧ Q (.int (if j < i then j else i)) H
  | .list => fun xs H Q => ∃ p ys, xs = [.ref p] ∧ (SqL K H p ys ∨ SqT K H p ys) ∧ ∀ l, H l = none → Q (.ref l) (upd H l (.lst ys))
  | .tuple => fun xs H Q => ∃ p ys, xs = [.ref p] ∧ ((SqL K H p ys ∧ ∀ l, H l = none → Q (.ref l) (upd H l (.tup ys))) ∨ (SqT K H p ys ∧ Q (.ref p) H))
  | .dict => fun xs H Q => (∃ (a : Addr) (ps : List Addr) (kvs : List (Key × V)), xs = [.ref a] ∧ SqL K H a (ps.map V.ref) ∧ Paired (fun p kv => SqT K H p [kV kv.1, kv.2]) ps kvs ∧ ∀ p, H p = none → Q (.ref p) (upd H p (.dK (mergeK [] kvs)))) ∨
    ∃ (a : Addr) (kvs : List (Key × V)), xs = [.ref a] ∧ Rd H a (.dK kvs) ∧ ∀ p, H p = none → Q (.ref p) (upd H p (.dK kvs))
theorem call_Bi {X : Cx} (hc : X.calm = true) : ∀ b : Bi, CallR X (vlBi b) (rBi X.K b)
  | .len => call_len
  | .int => fun pins s σ H xs us Q I r h => h.elim (fun z => call_int1 pins s σ H xs us Q I r z) (fun z => call_int_str pins s σ H xs us Q I r z)
  | .str => call_str_int
  | .abs => call_abs
  | .max2 => call_max2 hc
  | .min2 => call_min2 hc
  | .list => call_list_of
  | .tuple => call_tuple_of
  | .dict => fun pins s σ H xs us Q I r h => h.elim (fun z => call_dictP hc pins s σ H xs us Q I r z) (fun z => call_dictD pins s σ H xs us Q I r z)
theorem two_of {x y : D} {vs : List V} (r : reps G cm ρ H [x, y] vs) : ∃ v w, vs = [v, w] ∧ rep G cm ρ H x v ∧ rep G cm ρ H y w := by
  unfold reps at r
  obtain ⟨v, t, rfl, h1, h2⟩ := r
  unfold reps at h2
  obtain ⟨w, t2, rfl, h3, h4⟩ := h2
  unfold reps at h4
  subst h4
  exact ⟨v, w, rfl, h1, h3⟩
theorem one_of {x : D} {vs : List V} (r : reps G cm ρ H [x] vs) : ∃ v, vs = [v] ∧ rep G cm ρ H x v := by
  unfold reps at r
  obtain ⟨v, t, rfl, h1, h2⟩ := r
  unfold reps at h2
  subst h2
  exact ⟨v, rfl, h1⟩
theorem biV_ok {b : Bi} {as : List D} {vs : List V} (g : Gd G ρ H mh) (r : reps G cm ρ H as vs) : Gv G (rep G cm) ρ H (biV b as mh) (fun Q => rBi G.K b vs H Q) := by
  unfold biV
  split
  · split
    · rename_i hz
      obtain ⟨v, rfl, h⟩ := one_of r
      unfold rep at h
      subst h
      exact Gv.same g (by unfold rep; rfl) fun Q q => ⟨_, _, rfl, ⟨by rw [SX.S_len]; exact le_line hz, rfl⟩, by rw [SX.S_len]; exact q⟩
    · trivial
  · split
    · rename_i xs hx
      obtain ⟨v, rfl, h⟩ := one_of r
      obtain ⟨a, ys, rfl, e2, e3⟩ := seq_of g h hx
      exact Gv.same g (by unfold rep; rfl) fun Q q => ⟨_, ys.length, rfl, e2.imp (fun z => ⟨ys, z, rfl⟩) (fun z => ⟨ys, z, rfl⟩), by rw [← e3.length]; exact q⟩
    · trivial
  · obtain ⟨v, rfl, h⟩ := one_of r
    unfold rep at h
    subst h
    exact Gv.same g (by unfold rep; rfl) fun Q q => .inl (.inl ⟨_, rfl, q⟩)
  · obtain ⟨v, rfl, h⟩ := one_of r
    unfold rep at h
    subst h
    exact Gv.same g (by unfold rep; rfl) fun Q q => .inl (.inr ⟨_, rfl, by rename_i b; cases b <;> exact q⟩)
  · split
    · rename_i x hz
      obtain ⟨v, rfl, h⟩ := one_of r
      unfold rep at h
      subst h
      rw [Bool.and_eq_true, Bool.and_eq_true] at hz
      have hne : x ≠ [] := by
        intro e
        rw [e] at hz
        simp at hz
      have hl : x.length ≤ 640 := Nat.le_of_ble_eq_true hz.1.2
      exact Gv.same g (by unfold rep; rfl) fun Q q => .inr ⟨_, _, rfl, SX.int_S (isDig_all hz.2) hne (by omega), by rw [SX.S_len]; exact hl, q⟩
    · trivial
  · split
    · rename_i hz
      obtain ⟨v, rfl, h⟩ := one_of r
      unfold rep at h
      subst h
      exact Gv.same g (by unfold rep; rfl) fun Q q => ⟨_, rfl, of_decide_eq_true hz, by rw [show ((toString _ : String) : Str) = SX.S _ from str_int _]; exact q⟩
    · trivial
  · obtain ⟨v, rfl, h⟩ := one_of r
    unfold rep at h
    subst h
    exact Gv.same g (by unfold rep; rfl) fun Q q => ⟨_, rfl, q⟩
  · obtain ⟨v, w, rfl, h, h'⟩ := two_of r
    unfold rep at h h'
    subst h h'
    exact Gv.same g (by unfold rep; rfl) fun Q q => ⟨_, _, rfl, q⟩
  · obtain ⟨v, w, rfl, h, h'⟩ := two_of r
    unfold rep at h h'
    subst h h'
    exact Gv.same g (by unfold rep; rfl) fun Q q => ⟨_, _, rfl, q⟩
  · split
    · rename_i xs hx
      obtain ⟨v, rfl, h⟩ := one_of r
      obtain ⟨a, ys, rfl, e2, e3⟩ := seq_of g h hx
      exact Gv.newL g e3 fun Q q => ⟨a, ys, rfl, e2, q⟩
    · trivial
  · obtain ⟨v, rfl, h⟩ := one_of r
    have h' := h
    unfold rep at h'
    obtain ⟨a, ys, rfl, e2, e3⟩ := h'
    refine Gv.same g h fun Q q => ⟨a, ys, rfl, .inr ⟨?_, q⟩⟩
    rcases e2 with e2 | e2
    · exact SqT.of e2.2
    · exact .inr e2
  · split
    · rename_i xs hx
      obtain ⟨v, rfl, h⟩ := one_of r
      obtain ⟨a, ys, rfl, e2, e3⟩ := lst_of g h hx
      exact Gv.newT g e3 fun Q q => ⟨a, ys, rfl, .inl ⟨SqL.of e2, q⟩⟩
    · trivial
  · obtain ⟨v, rfl, h⟩ := one_of r
    split
    · rename_i xs hx
      split
      · rename_i kvs hp
        obtain ⟨a, ys, rfl, e2, e3⟩ := lst_of g h hx
        obtain ⟨ps, zs, q1, q2, q3⟩ := pairsOf_ok hp e3
        subst q1
        exact Gv.newD g (merge_ok q3 (by unfold repk; rfl)) fun Q q => .inl ⟨a, ps, zs, rfl, SqL.of e2, q2, q⟩
      · trivial
    · split
      · rename_i kvs hq
        obtain ⟨a, ys, rfl, e2, e3⟩ := dic_of g h hq
        exact Gv.newD g e3 fun Q q => .inr ⟨a, ys, rfl, .inl e2, q⟩
      · trivial
  · trivial

/-! ### methods -/
def nmMe : Me → Str
  | .strip => "strip"
  | .lstrip => "lstrip"
  | .rstrip => "rstrip"
  | .split => "split"
  | .join => "join"
  | .lower => "lower"
  | .upper => "upper"
  | .part => "partition"
def idMe : Me → String
  | .strip => "str.strip"
  | .lstrip => "str.lstrip"
  | .rstrip => "str.rstrip"
  | .split => "str.split"
  | .join => "str.join"
  | .lower => "str.lower"
  | .upper => "str.upper"
  | .part => "str.partition"
theorem slot_Me : ∀ m : Me, Slot "str" (nmMe m) (idMe m)
  | .strip => F.slot_str_strip
  | .lstrip => F.slot_str_lstrip
  | .rstrip => F.slot_str_rstrip
  | .split => F.slot_str_split
  | .join => F.slot_str_join
  | .lower => F.slot_str_lower
  | .upper => F.slot_str_upper
  | .part => F.slot_str_partition
theorem type_Me : ∀ m : Me, typeOf (.builtin (idMe m)) = pure (.type "method_descriptor")
  | .strip => F.type_str_strip
  | .lstrip => F.type_str_lstrip
  | .rstrip => F.type_str_rstrip
  | .split => F.type_str_split
  | .join => F.type_str_join
  | .lower => F.type_str_lower
  | .upper => F.type_str_upper
  | .part => F.type_str_partition
def rMe (K : PySem.W.Frag) : Me → V → List V → Hp → VK → Prop
  | .strip => fun x xs H Q => ∃ a b, x = .str a ∧ xs = [.str b] ∧ a.length ≤ sizeLine ∧ Q (.str (Txt.stripChars a b)) H
  | .lstrip => fun x xs H Q => ∃ a b, x = .str a ∧ xs = [.str b] ∧ a.length ≤ sizeLine ∧ Q (.str (Txt.lstripChars a b)) H
  | .rstrip => fun x xs H Q => ∃ a b, x = .str a ∧ xs = [.str b] ∧ a.length ≤ sizeLine ∧ Q (.str (Txt.rstripChars a b)) H
  | .split => fun x xs H Q => ∃ a b, x = .str a ∧ xs = [.str b] ∧ (b.length == 0) = false ∧ a.length + 2 ≤ sizeLine ∧ rNewStrs (Txt.split a b) H Q
  | .join => fun x xs H Q => ∃ a p, ∃ ys : List Str, x = .str a ∧ xs = [.ref p] ∧ (SqL K H p (ys.map V.str) ∨ SqT K H p (ys.map V.str)) ∧ (ys.map (·.length)).sum + ys.length * a.length ≤ 16777216 ∧ Q (.str (Txt.join a ys)) H
  | .lower => fun x xs H Q => ∃ a, x = .str a ∧ xs = [] ∧ a.length ≤ 5592405 ∧ Q (.str (Txt.lower a)) H
  | .upper => fun x xs H Q => ∃ a, x = .str a ∧ xs = [] ∧ a.length ≤ 5592405 ∧ Q (.str (Txt.upper a)) H
  | .part => fun x xs H Q => ∃ a b, x = .str a ∧ xs = [.str b] ∧ (b.length == 0) = false ∧ a.length ≤ sizeLine ∧ ∀ p, H p = none → Q (.ref p) (upd H p (.tup [.str (Txt.partition a b).1, .str (Txt.partition a b).2.1, .str (Txt.partition a b).2.2]))
theorem mt_Me {X : Cx} : ∀ m : Me, MtR X (idMe m) (rMe X.K m)
  | .strip => mt_stripChars
  | .lstrip => mt_lstripChars
  | .rstrip => mt_rstripChars
  | .split => mt_split
  | .join => mt_join
  | .lower => mt_lower
  | .upper => mt_upper
  | .part => mt_partition
theorem strsOf_ok : ∀ {xs : List D} {ys : List V} {l : List (List Nat)}, strsOf xs = some l → reps G cm ρ H xs ys → ys = (l.map SX.S).map V.str
  | [], ys, l, h, r => by
    unfold reps at r
    subst r
    cases h
    rfl
  | x :: xs, ys, l, h, r => by
    unfold strsOf at h
    split at h
    · rename_i e
      cases e
    · rename_i z t e
      split at h
      · rename_i l2 h2
        cases h
        cases e
        unfold reps at r
        obtain ⟨y, t2, rfl, h3, h4⟩ := r
        unfold rep at h3
        subst h3
        rw [strsOf_ok h2 h4]
        rfl
      · cases h
    · cases h
theorem reps_strs : ∀ (l : List (List Nat)), reps G cm ρ H (l.map D.str) ((l.map SX.S).map V.str)
  | [] => reps.nil
  | x :: l => reps.cons (by unfold rep; rfl) (reps_strs l)
theorem asc {x : List Nat} (h : ascii x = true) : x.all (fun c => decide (c < 128)) = true := by
  refine List.all_eq_true.mpr fun c hc => ?_
  exact decide_eq_true (Nat.le_of_ble_eq_true (List.all_eq_true.mp h c hc))
theorem S_len0 {y : List Nat} (h : (!y.isEmpty) = true) : ((SX.S y).length == 0) = false := by
  rw [SX.S_len]
  cases y with
  | nil => cases h
  | cons a l => rfl
theorem ne_nil {y : List Nat} (h : (!y.isEmpty) = true) : y ≠ [] := by
  intro e
  rw [e] at h
  cases h
theorem meV_ok {m : Me} {o : D} {as : List D} {v : V} {vs : List V} (g : Gd G ρ H mh) (ro : rep G cm ρ H o v) (r : reps G cm ρ H as vs) : Gv G (rep G cm) ρ H (meV m o as mh) (fun Q => rMe G.K m v vs H Q) := by
  unfold meV
  split
  · split
    · rename_i hz
      obtain ⟨u, rfl, h⟩ := one_of r
      unfold rep at h ro
      subst h ro
      exact Gv.same g (by unfold rep; rfl) fun Q q => ⟨_, _, rfl, rfl, by rw [SX.S_len]; exact le_line hz, by rw [strip_S]; exact q⟩
    · trivial
  · split
    · rename_i hz
      obtain ⟨u, rfl, h⟩ := one_of r
      unfold rep at h ro
      subst h ro
      exact Gv.same g (by unfold rep; rfl) fun Q q => ⟨_, _, rfl, rfl, by rw [SX.S_len]; exact le_line hz, by rw [lstrip_S]; exact q⟩
    · trivial
  · split
    · rename_i hz
      obtain ⟨u, rfl, h⟩ := one_of r
      unfold rep at h ro
      subst h ro
      exact Gv.same g (by unfold rep; rfl) fun Q q => ⟨_, _, rfl, rfl, by rw [SX.S_len]; exact le_line hz, by rw [rstrip_S]; exact q⟩
    · trivial
  · split
    · rename_i hz
      rw [Bool.and_eq_true, Bool.and_eq_true] at hz
      obtain ⟨u, rfl, h⟩ := one_of r
      unfold rep at h ro
      subst h ro
      refine Gv.newL g (reps_strs _) fun Q q => ⟨_, _, rfl, rfl, S_len0 hz.1.1, by rw [SX.S_len]; exact le_line hz.2, ?_⟩
      unfold rNewStrs
      rw [SX.split_S (ne_nil hz.1.1)]
      · exact q
      · refine List.all_eq_true.mpr fun c hc => ?_
        have := of_decide_eq_true (List.all_eq_true.mp (asc hz.1.2) c hc)
        exact decide_eq_true (by omega)
    · trivial
  · split
    · rename_i ys hx
      split
      · rename_i l hl
        split
        · rename_i hz
          obtain ⟨u, rfl, h⟩ := one_of r
          unfold rep at ro
          subst ro
          obtain ⟨a, zs, rfl, e2, e3⟩ := seq_of g h hx
          have e4 := strsOf_ok hl e3
          rw [e4] at e2
          refine Gv.same g (by unfold rep; rfl) fun Q q => ⟨_, a, l.map SX.S, rfl, rfl, e2, ?_, by rw [SX.join_S]; exact q⟩
          rw [← lenS_eq, List.length_map, SX.S_len]
          exact Nat.le_of_ble_eq_true hz
        · trivial
      · trivial
    · trivial
  · split
    · rename_i hz
      rw [Bool.and_eq_true] at hz
      unfold reps at r
      subst r
      unfold rep at ro
      subst ro
      exact Gv.same g (by unfold rep; rfl) fun Q q => ⟨_, rfl, rfl, by rw [SX.S_len]; exact Nat.le_of_ble_eq_true hz.2, by rw [SX.lower_S (asc hz.1)]; exact q⟩
    · trivial
  · split
    · rename_i hz
      rw [Bool.and_eq_true] at hz
      unfold reps at r
      subst r
      unfold rep at ro
      subst ro
      exact Gv.same g (by unfold rep; rfl) fun Q q => ⟨_, rfl, rfl, by rw [SX.S_len]; exact Nat.le_of_ble_eq_true hz.2, by rw [SX.upper_S (asc hz.1)]; exact q⟩
    · trivial
  · split
    · rename_i hz
      rw [Bool.and_eq_true] at hz
      obtain ⟨u, rfl, h⟩ := one_of r
      unfold rep at h ro
      subst h ro
      split
      · rename_i p q hp
        refine Gv.newT g (reps.cons (by unfold rep; rfl) (reps.cons (by unfold rep; rfl) (reps.one (by unfold rep; rfl)))) fun Q q => ⟨_, _, rfl, rfl, S_len0 hz.1, by rw [SX.S_len]; exact le_line hz.2, ?_⟩
        rw [SX.partition_some (ne_nil hz.1) hp]
        exact q
      · rename_i hp
        refine Gv.newT g (reps.cons (by unfold rep; rfl) (reps.cons (by unfold rep; rfl) (reps.one (by unfold rep; rfl)))) fun Q q => ⟨_, _, rfl, rfl, S_len0 hz.1, by rw [SX.S_len]; exact le_line hz.2, ?_⟩
        rw [SX.partition_none (ne_nil hz.1) hp]
        exact q
    · trivial
  · trivial
end
end FS

-- text FsG
set_option Elab.async false
set_option linter.all false
set_option maxHeartbeats 1000000
/-! FsG: contexts, wishes, what a sound expression is. -/
namespace FS
open PySem PySem.Spec PyProof.Rows L2 LamX

/-! ### the readings of a text of the program themselves -/
def wE (X : Cx) (e : Expr) : TE := fun σ H Q => ∀ pins s, Inv X pins σ H s → wpAny (model X.prog X.w) X.A (eval e X.env) (EP X pins σ Q) X.xe s
def wT (X : Cx) (e : Expr) : TT := fun σ H Q => ∀ pins s, Inv X pins σ H s → wpAny (model X.prog X.w) X.A (isTrue e X.env (eval e X.env)) (TP X pins σ Q) X.xe s
def wW (X : Cx) (e : Expr) : TT := fun σ H Q => ∀ whole pins s, Inv X pins σ H s → wpAny (model X.prog X.w) X.A (isTrue e X.env whole) (TP X pins σ Q) X.xe s
def wA (X : Cx) (es : List Expr) : TA := fun σ H Q => ∀ pos pins s, Inv X pins σ H s → wpAny (model X.prog X.w) X.A (spliced (backTo pos (starEach es X.env))) (AP X pins σ Q) X.xe s
def wS (X : Cx) (st : Stmt) : TS := fun D σ H => ∀ pins s, Inv X pins σ H s → wpAny (model X.prog X.w) X.A (exec st X.env) (SP X pins D) X.xe s
def wSs (X : Cx) (st : List Stmt) : TS := fun D σ H => ∀ pins s, Inv X pins σ H s → wpAny (model X.prog X.w) X.A (execs st X.env) (SP X pins D) X.xe s
def wG (X : Cx) (t : Expr) : TG := fun v σ H Q => ∀ pins s u, Inv X pins σ H s → RelV v u → wpAny (model X.prog X.w) X.A (assign t X.env u) (fun _ s' => ∃ σ' H', Inv X pins σ' H' s' ∧ Q σ' H') X.xe s
def wI (X : Cx) (tg it : Expr) : TI := fun σ H R => ∀ pins s, Inv X pins σ H s → wpAny (model X.prog X.w) X.A (eval it X.env) (fun v s1 => wpAny (model X.prog X.w) X.A (pyIter v) (PIE X pins σ tg R) X.xe s1) X.xe s
theorem pe_w {X : Cx} {e : Expr} : PE X e (wE X e) := ⟨fun pins s σ H Q I h => h pins s I⟩
theorem pt_w {X : Cx} {e : Expr} : PT X e (wT X e) := ⟨fun pins s σ H Q I h => h pins s I⟩
theorem pw_w {X : Cx} {e : Expr} : PW X e (wW X e) := ⟨fun whole pins s σ H Q I h => h whole pins s I⟩
theorem pa_w {X : Cx} {es : List Expr} : PA X es (wA X es) := ⟨fun pos pins s σ H Q I h => h pos pins s I⟩
theorem ps_w {X : Cx} {st : Stmt} : PS X st (wS X st) := ⟨fun pins s σ H D I h => h pins s I⟩
theorem pss_w {X : Cx} {st : List Stmt} : PSs X st (wSs X st) := ⟨fun pins s σ H D I h => h pins s I⟩
theorem pg_w {X : Cx} {t : Expr} : PG X t (wG X t) := ⟨fun pins s σ H v u Q I r h => h pins s u I r⟩
theorem pi_w {X : Cx} {tg it : Expr} : PI X tg it (wI X tg it) := ⟨fun pins s σ H R I h => h pins s I⟩
theorem of_pe {X : Cx} {e : Expr} {t : TE} (p : PE X e t) {σ : L2.St} {H : Hp} {Q : VK} (h : t σ H Q) : wE X e σ H Q := fun pins s I => p.run pins s σ H Q I h
theorem of_pt {X : Cx} {e : Expr} {t : TT} (p : PT X e t) {σ : L2.St} {H : Hp} {Q : Bool → Hp → Prop} (h : t σ H Q) : wT X e σ H Q := fun pins s I => p.run pins s σ H Q I h
theorem of_pw {X : Cx} {e : Expr} {t : TT} (p : PW X e t) {σ : L2.St} {H : Hp} {Q : Bool → Hp → Prop} (h : t σ H Q) : wW X e σ H Q := fun whole pins s I => p.run whole pins s σ H Q I h
theorem of_pa {X : Cx} {es : List Expr} {t : TA} (p : PA X es t) {σ : L2.St} {H : Hp} {Q : List V → Hp → Prop} (h : t σ H Q) : wA X es σ H Q := fun pos pins s I => p.run pos pins s σ H Q I h
theorem of_ps {X : Cx} {st : Stmt} {t : TS} (p : PS X st t) {σ : L2.St} {H : Hp} {D : Ends} (h : t D σ H) : wS X st D σ H := fun pins s I => p.run pins s σ H D I h
theorem of_pss {X : Cx} {st : List Stmt} {t : TS} (p : PSs X st t) {σ : L2.St} {H : Hp} {D : Ends} (h : t D σ H) : wSs X st D σ H := fun pins s I => p.run pins s σ H D I h
theorem of_pg {X : Cx} {tg : Expr} {t : TG} (p : PG X tg t) {σ : L2.St} {H : Hp} {v : V} {Q : L2.St → Hp → Prop} (h : t v σ H Q) : wG X tg v σ H Q := fun pins s u I r => p.run pins s σ H v u Q I r h
theorem of_pi {X : Cx} {tg it : Expr} {t : TI} (p : PI X tg it t) {σ : L2.St} {H : Hp} {R : It → Hp → Prop} (h : t σ H R) : wI X tg it σ H R := fun pins s I => p.run pins s σ H R I h

/-! ### what is looked at in the program's text -/
/-- a context's text: its slots' names, its scope, which cells are its own, where it makes lambdas -/
structure SC where
  N : List Str
  sc : Scope
  fnc : Str → Bool
  hasT : Bool
  hasL : Bool
  L : List (Nat × Nat)
  gn : Nat
  hx : Bool := false
def posB (l : List (Nat × Nat)) : Pos → Bool := fun p => l.any fun q => Nat.beq q.1 p.line && Nat.beq q.2 p.col
structure JC where
  gln : List Str
  fnn : List Str
  clsn : List Str
  /-- own classes, attributes' names -/
  ocl : List Str
  atl : List Str
  bok : Str → Bool
  lamB : Nat → SC → Arguments → Expr → Scope → Bool
/-- what the ground must have -/
structure GX where
  g : Pg
  base : Heap
  cls : Nat → Value
  fad : Nat → Addr
structure GOk (J : JC) (G : GD) (Y : GX) : Prop where
  glb : ∀ (i : Nat) (x : Str) (d : D), J.gln[i]? = some x → Y.g.glb[i]? = some d → ∃ u v, G.mg x = some u ∧ RelV v u ∧ ∀ τ cm ρ H, rep (G.tm τ) cm ρ H d v
  bok : ∀ x, J.bok x = true → G.mg x = none
  lam : ∀ l C params body scope ci, J.lamB l C params body scope = true → ci.N = C.N → ci.sc = C.sc → G.lamC l ci params body scope
  exc : ∀ (c : Nat) (x : Str), J.clsn[c]? = some x → ∃ a, Y.cls c = .ref a ∧ G.mg x = some (.ref a) ∧ PySem.W.excIn G.K a [.type "ValueError", .type "Exception", .type "BaseException", .type "object"] "ValueError.__new__" = true ∧ PySem.W.keepIn G.K (.ref a) = true ∧
    PySem.W.subIn G.K (.ref a) (.type "BaseException") = some true ∧ PySem.W.typeIn G.K (.ref a) = some (.type "type")
  exm : ∀ (c d : Nat) (y : Str), c < Y.g.ncl → J.clsn[d]? = some y → PySem.W.exmOne G.K (Y.cls c) (Y.cls d) = some (sub Y.g c d)
  mak : ∀ (c i : Nat), lookN c Y.g.ini = some i → Mk G.K (G.cad c) (Y.fad i)
  ocl : ∀ (c : Nat) (x : Str), J.ocl[c]? = some x → G.mg x = some (.ref (G.cad c)) ∧ PySem.W.keepIn G.K (.ref (G.cad c)) = true
  fld : ∀ c f, Y.g.fldB c f = true → Cls G.K (G.cad c) ∧ NoAttr G.K (G.cad c) (G.atn f)
  met : ∀ c m i, lookNN c m Y.g.mts = some i → Cls G.K (G.cad c) ∧ Meth G.K (G.cad c) (G.atn m) (Y.fad i)
  atn : ∀ (f : Nat) (x : Str), J.atl[f]? = some x → G.atn f = x
  inj : ∀ i j, i < G.nat → j < G.nat → G.atn i = G.atn j → i = j
  nat : Y.g.nat = G.nat
  fns : ∀ i x, J.fnn[i]? = some x → G.mg x = some (.ref (Y.fad i)) ∧ PySem.W.keepIn G.K (.ref (Y.fad i)) = true
/-- the context X runs the text C at depth o.length, with room for k calls -/
structure CtxOk (G : GD) (Y : GX) (C : SC) (k : Nat) (cm : List (Option CI)) (o : List Fr) (X : Cx) : Prop where
  prog : X.prog = G.P
  w : X.w = G.w
  K : X.K = G.K
  mg : X.mg = G.mg
  N : X.N = C.N
  nd : C.N.Nodup
  sc : X.env.scope = C.sc
  kind : C.sc.kind = .function
  calm : X.calm = true
  fn : ∀ x, C.fnc x = true → X.fn x = true
  room : Room (5 * k + C.gn) X.A
  base : ∀ b o, Y.base.get? b = some o → X.base.get? b = some o
  code : C.hasT = true → ∃ c P, X.env.code = .ref c ∧ TabB Y.base G.mg c P ∧ G.TQ P = some (X.env.qual ++ "<lambda>", posB C.L)
  lamf : C.hasL = true → ∀ x, X.fn x = true
  nlam : C.hasL = false → cm[o.length]? = some none
  lamc : C.hasL = true → ∃ ci, cm[o.length]? = some (some ci)
  own : ∀ ci, cm[o.length]? = some (some ci) → ci.cells = X.env.cells ∧ ci.N = C.N ∧ ci.sc = C.sc ∧ ci.qual = X.env.qual
  len : cm.length = o.length + 1
  pa : C.hx = true → ∀ hd : Option Value, PassesOwnAt (model X.prog X.w) (X.A.mark hd) X.A X.env X.xe
structure OutF (G : GD) (cm : List (Option CI)) (base : Heap) (ρ : List Addr) (H : Hp) (ci : CI) (f : Fr) : Prop where
  inj : ∀ x y c, ci.cells.lookup x = some c → ci.cells.lookup y = some c → x = y
  at_ : ∀ (i : Nat) (x : Str), ci.N[i]? = some x → ci.sc.names.lookup x = some .cell → ∃ c ob w, ci.cells.lookup x = some c ∧ base.get? c = some ob ∧ ob.data = .cell w ∧ ∀ dd, get f i = some dd → ∃ u v, w = some u ∧ RelV v u ∧ rep G cm ρ H dd v
def OutB (G : GD) (cm : List (Option CI)) (base : Heap) (ρ : List Addr) (H : Hp) (o : List Fr) : Prop :=
  ∀ (d : Nat) (ci : CI) (f : Fr), cm[d]? = some (some ci) → frameAt o d = some f → f ≠ [] → OutF G cm base ρ H ci f
theorem OutF.mv {G G' : GD} {cm cm' : List (Option CI)} {base base' : Heap} {ρ ρ' : List Addr} {H H' : Hp} {ci : CI} {f : Fr} (r : OutF G cm base ρ H ci f) (up : ∀ b o, base.get? b = some o → base'.get? b = some o) (m : ∀ d v, rep G cm ρ H d v → rep G' cm' ρ' H' d v) : OutF G' cm' base' ρ' H' ci f :=
  ⟨r.inj, fun i x h1 h2 => by
    obtain ⟨c, ob, w, q1, q2, q3, q4⟩ := r.at_ i x h1 h2
    refine ⟨c, ob, w, q1, up _ _ q2, q3, fun dd hd => ?_⟩
    obtain ⟨u, v, p1, p2, p3⟩ := q4 dd hd
    exact ⟨u, v, p1, p2, m _ _ p3⟩⟩
theorem OutB.ext {G : GD} {cm : List (Option CI)} {base : Heap} {ρ ρ' : List Addr} {H H' : Hp} {o : List Fr} (r : OutB G cm base ρ H o) (e : Ext ρ H ρ' H') : OutB G cm base ρ' H' o := fun d ci f h1 h2 h3 => (r d ci f h1 h2 h3).mv (fun _ _ z => z) fun d v z => z.mono (Deeper.refl _) e
/-- where a run stands -/
structure StR (G : GD) (cm : List (Option CI)) (X : Cx) (o : List Fr) (ρ : List Addr) (H : Hp) (mh : MH) (σ : L2.St) (fr : Fr) : Prop where
  gd : Gd G ρ H mh
  fr : FrR G cm ρ H σ fr
  out : OutB G cm X.base ρ H o
theorem StR.step {G : GD} {cm : List (Option CI)} {X : Cx} {o : List Fr} {ρ ρ' : List Addr} {H H' : Hp} {mh mh' : MH} {σ : L2.St} {fr : Fr} (s : StR G cm X o ρ H mh σ fr) (e : Ext ρ H ρ' H') (g : Gd G ρ' H' mh') : StR G cm X o ρ' H' mh' σ fr :=
  ⟨g, s.fr.ext e, s.out.ext e⟩

/-! ### results and wishes -/
/-- what is raised is taken: any, or where nothing was handled -/
def TkC (Y : GX) (X : Cx) (c : Nat) (W : WX) : Prop := if Nat.blt c Y.g.hot = true then L2N.Takes X W else L2.Takes X W
theorem takes_cold {X : Cx} {W : WX} (t : L2.Takes X W) : L2N.Takes X W := fun u s' ⟨a, B, sI, pins, σ, H, cls, d, e, I, nb, up, sky, na, os, ag, w⟩ =>
  t u s' ⟨a, B, sI, pins, σ, H, cls, d, e, I, nb, up, by
    rcases sky with ⟨h1, h2, h3, oe, vs, he, hz, r⟩ | sky | ⟨h1, h2, h3, h4⟩
    · exact .inl ⟨h1, h2, h3, oe, vs, he, hz.zc, r⟩
    · exact .inr (.inl (L2H.flyingZ_imp (fun o z => z.zc) sky))
    · exact .inr (.inr ⟨h1, h2, h3, L2H.tracedZ_imp (fun o z => z.zc) h4⟩), na, os, ag, w⟩
theorem TkC.of {Y : GX} {X : Cx} {c : Nat} {W : WX} (t : L2.Takes X W) : TkC Y X c W := by
  unfold TkC
  split
  · exact takes_cold t
  · exact t
/-- what a call lets out -/
def cxC {α : Type} (Y : GX) (r : R α) (P : Program) (w : World) : CXT := match r with
  | .exc c _ => if Nat.blt c Y.g.hot = true then L2N.CX P w else L2.CX P w
  | _ => L2.CX P w
def RK {α β : Type} (G : GD) (Y : GX) (X : Cx) (σ : L2.St) (rl : List Addr → Hp → α → β → Prop) (ρ : List Addr) (H : Hp) (r : R α) (Q : β → Hp → Prop) : Prop :=
  match r with
  | .ok d mh' => ∀ ρ' H' v, Ext ρ H ρ' H' → Gd G ρ' H' mh' → rl ρ' H' d v → Q v H'
  | .exc c mh' => ∃ W : WX, TkC Y X c W ∧ ∀ ρ' H' dd, Ext ρ H ρ' H' → Gd G ρ' H' mh' → W (Y.cls c) dd σ H'
  | .stk => False
section
variable {G : GD} {Y : GX} {X : Cx} {σ : L2.St} {ρ ρ1 : List Addr} {H H1 : Hp} {α β γ δ : Type} {rl : List Addr → Hp → α → β → Prop} {rl2 : List Addr → Hp → γ → δ → Prop}
theorem RK.step {r : R α} {Q : β → Hp → Prop} (h : RK G Y X σ rl ρ H r Q) (e : Ext ρ H ρ1 H1) : RK G Y X σ rl ρ1 H1 r Q := by
  cases r with
  | ok d mh' => exact fun ρ' H' v e2 g r => h ρ' H' v (e.trans e2) g r
  | exc c mh' =>
    obtain ⟨W, t, h⟩ := h
    exact ⟨W, t, fun ρ' H' dd e2 g => h ρ' H' dd (e.trans e2) g⟩
  | stk => exact h
theorem RK.seq {r : R α} {f : α → MH → R γ} {Q1 : β → Hp → Prop} {Q : δ → Hp → Prop} (h : RK G Y X σ rl2 ρ H (r.bind f) Q)
    (k : ∀ d mh1 ρ1 H1 v, r = .ok d mh1 → Ext ρ H ρ1 H1 → Gd G ρ1 H1 mh1 → rl ρ1 H1 d v → RK G Y X σ rl2 ρ1 H1 (f d mh1) Q → Q1 v H1) : RK G Y X σ rl ρ H r Q1 := by
  cases r with
  | ok d mh' => exact fun ρ' H' v e2 g r => k d mh' ρ' H' v rfl e2 g r (RK.step h e2)
  | exc c mh' => exact h
  | stk => exact h
theorem Gv.use {r : R α} {T : (β → Hp → Prop) → Prop} {Q : β → Hp → Prop} (g : Gv G rl ρ H r T) (h : RK G Y X σ rl ρ H r Q) : T Q := by
  cases r with
  | ok d mh' => exact g Q h
  | exc c mh' => exact False.elim g
  | stk => exact False.elim h
end
section
variable (J : JC) (G : GD) (Y : GX) (cf : CF) (k : Nat)
def rB1 (_ : List Addr) (_ : Hp) (b : Bool) (c : Bool) : Prop := b = c
def SE (C : SC) (e : E) (a : Expr) : Prop := ∀ τ X cm o, CtxOk (G.tm τ) Y C k cm o X → ∀ ρ H mh σ fr, StR (G.tm τ) cm X o ρ H mh σ fr → ∀ Q : VK, RK (G.tm τ) Y X σ (rep (G.tm τ) cm) ρ H (evE Y.g cf o e fr mh) Q → wE X a σ H Q
def SEs (C : SC) (e : Es) (a : List Expr) : Prop := ∀ τ X cm o, CtxOk (G.tm τ) Y C k cm o X → ∀ ρ H mh σ fr, StR (G.tm τ) cm X o ρ H mh σ fr → ∀ Q : List V → Hp → Prop, RK (G.tm τ) Y X σ (reps (G.tm τ) cm) ρ H (evEs Y.g cf o e fr mh) Q → wA X a σ H Q
/-- a chain of and, or, as a value -/
def SB (C : SC) (an : Bool) (e : Es) (a : Expr) : Prop := ∀ τ X cm o, CtxOk (G.tm τ) Y C k cm o X → ∀ ρ H mh σ fr, StR (G.tm τ) cm X o ρ H mh σ fr → ∀ Q : VK, RK (G.tm τ) Y X σ rB1 ρ H (evB Y.g cf o an e fr mh) (fun b H' => Q (.bl b) H') → wE X a σ H Q
def ST (C : SC) (e : Ct) (a : Expr) : Prop := ∀ τ X cm o, CtxOk (G.tm τ) Y C k cm o X → ∀ ρ H mh σ fr, StR (G.tm τ) cm X o ρ H mh σ fr → ∀ Q : Bool → Hp → Prop, RK (G.tm τ) Y X σ rB1 ρ H (evT Y.g cf o e fr mh) Q → wT X a σ H Q
/-- a chain of tests -/
def SW (C : SC) (an : Bool) (e : Cs) (a : Expr) : Prop := ∀ τ X cm o, CtxOk (G.tm τ) Y C k cm o X → ∀ ρ H mh σ fr, StR (G.tm τ) cm X o ρ H mh σ fr → ∀ Q : Bool → Hp → Prop, RK (G.tm τ) Y X σ rB1 ρ H (evTs Y.g cf o an e fr mh) Q → wW X a σ H Q
/-- calls: of a def of the program, of a lambda -/
def CallFn : Prop := ∀ τ C X cm o, CtxOk (G.tm τ) Y C k cm o X → ∀ ρ H mh σ fr, StR (G.tm τ) cm X o ρ H mh σ fr → ∀ i xs vs us pins s (Q : VK), Inv X pins σ H s → reps (G.tm τ) cm ρ H xs vs → Vals vs us →
  RK (G.tm τ) Y X σ (rep (G.tm τ) cm) ρ H (cf (.fn i) (fr :: o) xs mh) Q → wpAny (model X.prog X.w) X.A (call (.ref (Y.fad i)) us) (EP X pins σ Q) X.xe s
/-- an own class is called -/
def CallN : Prop := ∀ τ C X cm o, CtxOk (G.tm τ) Y C k cm o X → ∀ ρ H mh σ fr, StR (G.tm τ) cm X o ρ H mh σ fr → ∀ c i xs vs us pins s (Q : VK), Inv X pins σ H s → reps (G.tm τ) cm ρ H xs vs → Vals vs us → lookN c Y.g.ini = some i →
  RK (G.tm τ) Y X σ (rep (G.tm τ) cm) ρ H ((cf (.fn i) (fr :: o) (.ref mh.length :: xs) (mh ++ [.ins c []])).bind fun d h2 => (match d with
      | .non => .ok (.ref mh.length) h2
      | _ => .stk)) Q → wpAny (model X.prog X.w) X.A (call (.ref (G.cad c)) us) (EP X pins σ Q) X.xe s
def CallF : Prop := CallFn G Y cf k ∧ CallN G Y cf k
def CallL : Prop := ∀ τ C X cm o, CtxOk (G.tm τ) Y C k cm o X → ∀ ρ H mh σ fr, StR (G.tm τ) cm X o ρ H mh σ fr → ∀ l d v L f pins s (Q : VK), Inv X pins σ H s → rep (G.tm τ) cm ρ H (.clo l d) v → Y.g.lams[l]? = some L → frameAt o d = some f → L.cap.all (fun i => Nat.blt i f.length) = true →
  RK (G.tm τ) Y X σ (rep (G.tm τ) cm) ρ H (cf (.lam l (L.cap.map (get f))) (fr :: o) [] mh) Q → ∀ a, v = .ref a → wpAny (model X.prog X.w) X.A (call (.ref a) []) (EP X pins σ Q) X.xe s
end
end FS

-- text FsH
set_option Elab.async false
set_option linter.all false
set_option maxHeartbeats 1000000
/-! FsH: sound expressions, construct by construct. -/
namespace FS
open PySem PySem.Spec PyProof.Rows L2 LamX

/-- neither a slice nor starred -/
def pl : Expr → Bool
  | .Slice .. => false
  | .Starred .. => false
  | _ => true
theorem pl_ix {b : Expr} (h : pl b = true) : PlainIx b := by
  intro o i
  cases b <;> first | rfl | (cases h)
theorem pl_star {e : Expr} {es : List Expr} {env : Env} (h : pl e = true) : starEach (e :: es) env = (false, eval e env) :: starEach es env := by
  cases e <;> first | rfl | (cases h)
theorem pl_none : ∀ {es : List Expr} {env : Env} {pos : Pos}, es.all pl = true → (backTo pos (starEach es env)).any (·.1) = false
  | [], _, _, _ => rfl
  | e :: es, env, pos, h => by
    rw [List.all_cons, Bool.and_eq_true] at h
    rw [pl_star h.1]
    unfold backTo
    rw [List.map_cons, List.any_cons]
    exact pl_none (pos := pos) h.2
/-- tests by their value's truth -/
def tst : Expr → Bool
  | .UnaryOp .Not _ _ => false
  | .BoolOp .. => false
  | .IfExp .. => false
  | .Compare .. => false
  | _ => true
theorem tst_eq {a : Expr} (h : tst a = true) (env : Env) (whole : Sem Value) : isTrue a env whole = (do let v ← whole; standAt a.pos; holding [v] (truthy v)) := by
  cases a <;> first
    | rfl
    | (cases h)
    | (rename_i op _ _; cases op <;> first | rfl | (cases h))

section
variable {G : GD} {Y : GX} {cf : CF} {k : Nat} {C : SC} {cm : List (Option CI)} {o : List Fr} {X : Cx}
theorem CtxOk.units (cx : CtxOk G Y C k cm o X) : X.A.units + 64 < cLine := cx.room.units
theorem CtxOk.units2 (cx : CtxOk G Y C k cm o X) : X.A.units + 65 < cLine := by
  have := cx.room.un
  omega
theorem CtxOk.ndX (cx : CtxOk G Y C k cm o X) : X.N.Nodup := by rw [cx.N]; exact cx.nd
/-! ### atoms -/
theorem se_non {i : Nat} {pos : Pos} : SE G Y cf k C (.k .non) (.Constant .none i pos) := fun τ X cm o cx ρ H mh σ fr st Q h => by
  unfold evE at h
  exact of_pe pe_non (h ρ H _ (Ext.refl _ _) st.gd (by unfold rep; rfl))
theorem se_bl {b : Bool} {i : Nat} {pos : Pos} : SE G Y cf k C (.k (.bl b)) (.Constant (.bool b) i pos) := fun τ X cm o cx ρ H mh σ fr st Q h => by
  unfold evE at h
  exact of_pe pe_bl (h ρ H _ (Ext.refl _ _) st.gd (by unfold rep; rfl))
theorem se_int {n : Int} {i : Nat} {pos : Pos} : SE G Y cf k C (.k (.int n)) (.Constant (.int n) i pos) := fun τ X cm o cx ρ H mh σ fr st Q h => by
  unfold evE at h
  exact of_pe pe_int (h ρ H _ (Ext.refl _ _) st.gd (by unfold rep; rfl))
theorem se_str {x : List Nat} {y : Str} {i : Nat} {pos : Pos} (e : y = SX.S x) : SE G Y cf k C (.k (.str x)) (.Constant (.str y) i pos) := fun τ X cm o cx ρ H mh σ fr st Q h => by
  unfold evE at h
  subst e
  exact of_pe pe_str (h ρ H _ (Ext.refl _ _) st.gd (by unfold rep; rfl))
theorem se_var {i : Nat} {x : Str} {pos : Pos} (hN : C.N[i]? = some x) (hv : Vis C.sc x) (hd : (x == ("__debug__" : Str)) = false) (hcd : (x == ("__classdict__" : Str)) = false) : SE G Y cf k C (.var i) (.Name x pos) := fun τ X cm o cx ρ H mh σ fr st Q h => by
  unfold evE R.opt at h
  split at h
  · rename_i d hg
    obtain ⟨v, e1, e2⟩ := st.fr.at_ i d hg
    exact of_pe (pe_var (by rw [cx.N]; exact hN) (by rw [cx.sc]; exact hv) hd hcd) ⟨v, e1, h ρ H v (Ext.refl _ _) st.gd e2⟩
  · exact False.elim h
theorem gl_of (cx : CtxOk G Y C k cm o X) {x : Str} (h : C.sc.names.lookup x = some .globalImplicit) : Gl X x := by
  show X.env.scope.names.lookup x = _
  rw [cx.sc]
  exact h
theorem se_glb {J : JC} (ok : GOk J G Y) {i : Nat} {x : Str} {pos : Pos} (hm : J.gln[i]? = some x) (hl : C.sc.names.lookup x = some .globalImplicit) (hd : (x == ("__debug__" : Str)) = false) : SE G Y cf k C (.glb i) (.Name x pos) := fun τ X cm o cx ρ H mh σ fr st Q h => by
  unfold evE R.opt at h
  split at h
  · rename_i d hd2
    obtain ⟨u, v, e1, e2, e3⟩ := ok.glb i x d hm hd2
    exact of_pe (pe_glob (gl_of cx hl) (by rw [cx.mg]; exact e1) e2 hd) (h ρ H v (Ext.refl _ _) st.gd (e3 τ cm ρ H))
  · exact False.elim h

/-! ### operations -/
variable {a b c : E} {a' b' c' : Expr}
theorem se_bin {op : Bop} {pos : Pos} (ha : SE G Y cf k C a a') (hb : SE G Y cf k C b b') : SE G Y cf k C (.bin op a b) (.BinOp a' (opB op) b' pos) := fun τ X cm o cx ρ H mh σ fr st Q h => by
  unfold evE at h
  refine of_pe (pe_op (op_B op) pe_w pe_w) ?_
  refine ha τ X cm o cx ρ H mh σ fr st _ (h.seq fun d1 mh1 ρ1 H1 v1 _ e1 g1 r1 h1 => ?_)
  refine hb τ X cm o cx ρ1 H1 mh1 σ fr (st.step e1 g1) _ (h1.seq fun d2 mh2 ρ2 H2 v2 _ e2 g2 r2 h2 => ?_)
  rw [cx.K]
  exact (binV_ok g2 (r1.mono (Deeper.refl _) e2) r2).use h2
theorem se_neg {pos : Pos} (ha : SE G Y cf k C a a') : SE G Y cf k C (.neg a) (.UnaryOp .USub a' pos) := fun τ X cm o cx ρ H mh σ fr st Q h => by
  unfold evE at h
  refine of_pe (pe_un un_neg pe_w) ?_
  refine ha τ X cm o cx ρ H mh σ fr st _ (h.seq fun d1 mh1 ρ1 H1 v1 _ e1 g1 r1 h1 => ?_)
  split at h1
  · unfold rep at r1
    exact ⟨_, r1, h1 ρ1 H1 _ (Ext.refl _ _) g1 (by unfold rep; rfl)⟩
  · exact False.elim h1
theorem se_cmp {op : Cop} {pos : Pos} (ha : SE G Y cf k C a a') (hb : SE G Y cf k C b b') (hm : behindInMarks (opC op) b' = false) : SE G Y cf k C (.cmp op a b) (.Compare a' [opC op] [b'] pos) := fun τ X cm o cx ρ H mh σ fr st Q h => by
  unfold evE at h
  refine of_pe (pe_cmpR (op_C cx.units2 op) pe_w pe_w hm) ?_
  refine ha τ X cm o cx ρ H mh σ fr st _ (h.seq fun d1 mh1 ρ1 H1 v1 _ e1 g1 r1 h1 => ?_)
  refine hb τ X cm o cx ρ1 H1 mh1 σ fr (st.step e1 g1) _ (h1.seq fun d2 mh2 ρ2 H2 v2 _ e2 g2 r2 h2 => ?_)
  rw [cx.K]
  split at h2
  · rename_i c hc
    exact cmpV_ok g2 (r1.mono (Deeper.refl _) e2) r2 hc Q (h2 ρ2 H2 _ (Ext.refl _ _) g2 (by unfold rep; rfl))
  · exact False.elim h2
theorem st_cmp {op : Cop} {pos : Pos} (ha : SE G Y cf k C a a') (hb : SE G Y cf k C b b') (hm : behindInMarks (opC op) b' = false) : ST G Y cf k C (.cmp op a b) (.Compare a' [opC op] [b'] pos) := fun τ X cm o cx ρ H mh σ fr st Q h => by
  unfold evT at h
  refine of_pt (pt_cmpR (op_C cx.units2 op) pe_w pe_w hm) ?_
  refine ha τ X cm o cx ρ H mh σ fr st _ (h.seq fun d1 mh1 ρ1 H1 v1 _ e1 g1 r1 h1 => ?_)
  refine hb τ X cm o cx ρ1 H1 mh1 σ fr (st.step e1 g1) _ (h1.seq fun d2 mh2 ρ2 H2 v2 _ e2 g2 r2 h2 => ?_)
  rw [cx.K]
  unfold R.opt at h2
  split at h2
  · rename_i c hc
    exact cmpV_ok g2 (r1.mono (Deeper.refl _) e2) r2 hc (fun x H' => ∃ k, x = .bl k ∧ Q k H') ⟨c, rfl, h2 ρ2 H2 c (Ext.refl _ _) g2 rfl⟩
  · exact False.elim h2
theorem se_chn {op op2 : Cop} {pos : Pos} (ha : SE G Y cf k C a a') (hb : SE G Y cf k C b b') (hc : SE G Y cf k C c c') (hm : lastMarks [opC op, opC op2] [b', c'] = false) : SE G Y cf k C (.chn op op2 a b c) (.Compare a' [opC op, opC op2] [b', c'] pos) := fun τ X cm o cx ρ H mh σ fr st Q h => by
  unfold evE at h
  refine of_pe (pe_chain (op_C cx.units2 op) (op_C cx.units2 op2) pe_w pe_w pe_w hm) ?_
  refine ha τ X cm o cx ρ H mh σ fr st _ (h.seq fun d1 mh1 ρ1 H1 v1 _ e1 g1 r1 h1 => ?_)
  refine hb τ X cm o cx ρ1 H1 mh1 σ fr (st.step e1 g1) _ (h1.seq fun d2 mh2 ρ2 H2 v2 _ e2 g2 r2 h2 => ?_)
  rw [cx.K]
  split at h2
  · rename_i hq
    refine cmpV_ok g2 (r1.mono (Deeper.refl _) e2) r2 hq _ ⟨true, rfl, ?_⟩
    rw [if_pos rfl]
    refine hc τ X cm o cx ρ2 H2 mh2 σ fr ((st.step e1 g1).step e2 g2) _ (h2.seq fun d3 mh3 ρ3 H3 v3 _ e3 g3 r3 h3 => ?_)
    split at h3
    · rename_i q hq2
      exact cmpV_ok g3 (r2.mono (Deeper.refl _) e3) r3 hq2 Q (h3 ρ3 H3 _ (Ext.refl _ _) g3 (by unfold rep; rfl))
    · exact False.elim h3
  · rename_i hq
    refine cmpV_ok g2 (r1.mono (Deeper.refl _) e2) r2 hq _ ⟨false, rfl, ?_⟩
    rw [if_neg Bool.false_ne_true]
    exact h2 ρ2 H2 _ (Ext.refl _ _) g2 (by unfold rep; rfl)
  · exact False.elim h2
theorem st_chn {op op2 : Cop} {pos : Pos} (ha : SE G Y cf k C a a') (hb : SE G Y cf k C b b') (hc : SE G Y cf k C c c') (hm : lastMarks [opC op, opC op2] [b', c'] = false) : ST G Y cf k C (.chn op op2 a b c) (.Compare a' [opC op, opC op2] [b', c'] pos) := fun τ X cm o cx ρ H mh σ fr st Q h => by
  unfold evT at h
  refine of_pt (pt_chain (op_C cx.units2 op) (op_C cx.units2 op2) pe_w pe_w pe_w hm) ?_
  refine ha τ X cm o cx ρ H mh σ fr st _ (h.seq fun d1 mh1 ρ1 H1 v1 _ e1 g1 r1 h1 => ?_)
  refine hb τ X cm o cx ρ1 H1 mh1 σ fr (st.step e1 g1) _ (h1.seq fun d2 mh2 ρ2 H2 v2 _ e2 g2 r2 h2 => ?_)
  rw [cx.K]
  split at h2
  · rename_i hq
    refine cmpV_ok g2 (r1.mono (Deeper.refl _) e2) r2 hq _ ⟨true, rfl, ?_⟩
    rw [if_pos rfl]
    refine hc τ X cm o cx ρ2 H2 mh2 σ fr ((st.step e1 g1).step e2 g2) _ (h2.seq fun d3 mh3 ρ3 H3 v3 _ e3 g3 r3 h3 => ?_)
    unfold R.opt at h3
    split at h3
    · rename_i q hq2
      exact cmpV_ok g3 (r2.mono (Deeper.refl _) e3) r3 hq2 (fun x H' => ∃ k, x = .bl k ∧ Q k H') ⟨q, rfl, h3 ρ3 H3 _ (Ext.refl _ _) g3 rfl⟩
    · exact False.elim h3
  · rename_i hq
    refine cmpV_ok g2 (r1.mono (Deeper.refl _) e2) r2 hq _ ⟨false, rfl, ?_⟩
    rw [if_neg Bool.false_ne_true]
    exact ⟨false, rfl, h2 ρ2 H2 _ (Ext.refl _ _) g2 rfl⟩
  · exact False.elim h2
theorem se_ix {pos : Pos} (ha : SE G Y cf k C a a') (hb : SE G Y cf k C b b') (hp : pl b' = true) : SE G Y cf k C (.ix a b) (.Subscript a' b' pos) := fun τ X cm o cx ρ H mh σ fr st Q h => by
  unfold evE at h
  refine of_pe (pe_ix (IxR.or ix_seq (ix_dict (by have := cx.units; omega))) pe_w pe_w (pl_ix hp)) ?_
  refine ha τ X cm o cx ρ H mh σ fr st _ (h.seq fun d1 mh1 ρ1 H1 v1 _ e1 g1 r1 h1 => ?_)
  refine hb τ X cm o cx ρ1 H1 mh1 σ fr (st.step e1 g1) _ (h1.seq fun d2 mh2 ρ2 H2 v2 _ e2 g2 r2 h2 => ?_)
  rw [cx.K]
  unfold R.opt at h2
  split at h2
  · rename_i d hd
    exact ixV_ok g2 (r1.mono (Deeper.refl _) e2) r2 hd Q fun w rw' => h2 ρ2 H2 w (Ext.refl _ _) g2 rw'
  · exact False.elim h2
/-- a part of a slice -/
def SO (G : GD) (Y : GX) (cf : CF) (k : Nat) (C : SC) : E → Option Expr → Prop
  | .nop, none => True
  | .nop, some _ => False
  | _, none => False
  | e, some a => SE G Y cf k C e a
theorem nop_iff {e : E} (h : e ≠ .nop) : e.isNop = false := by cases e <;> first | rfl | exact absurd rfl h
theorem so_some {e : E} {b : Expr} (h : SO G Y cf k C e (some b)) : e.isNop = false ∧ SE G Y cf k C e b := by
  cases e <;> first | exact ⟨rfl, h⟩ | exact False.elim h
theorem so_none {e : E} (h : SO G Y cf k C e none) : e = .nop := by
  cases e <;> first | rfl | exact False.elim h
/-- the reading of a slice's part -/
def wO (X : Cx) : Option Expr → TO
  | none => tNoPart
  | some b => tPart (wE X b)
theorem po_w {X : Cx} : ∀ {p : Option Expr}, PO X p (wO X p)
  | none => po_none
  | some b => po_some pe_w
theorem so_seq {τ : List Addr} {γ δ : Type} {rl2 : List Addr → Hp → γ → δ → Prop} {e : E} {p : Option Expr} (hs : SO G Y cf k C e p) (cx : CtxOk (G.tm τ) Y C k cm o X) {ρ : List Addr} {H : Hp} {mh : MH} {σ : L2.St} {fr : Fr} (st : StR (G.tm τ) cm X o ρ H mh σ fr) {f : Option Int → MH → R γ} {Q : δ → Hp → Prop} {Q1 : Option Int → Hp → Prop}
    (h : RK (G.tm τ) Y X σ rl2 ρ H ((evE Y.g cf o e fr mh).bind fun l h2 => match opE e.isNop l with | some l => f l h2 | none => .stk) Q)
    (kk : ∀ i mh1 ρ1 H1, Ext ρ H ρ1 H1 → Gd (G.tm τ) ρ1 H1 mh1 → RK (G.tm τ) Y X σ rl2 ρ1 H1 (f i mh1) Q → Q1 i H1) : wO X p σ H Q1 := by
  cases p with
  | none =>
    have e0 := so_none hs
    subst e0
    unfold evE at h
    exact kk none mh ρ H (Ext.refl _ _) st.gd h
  | some b =>
    obtain ⟨hn, hs⟩ := so_some hs
    show wE X b σ H fun x H1 => ∃ i, x = .int i ∧ Q1 (some i) H1
    refine hs τ X cm o cx ρ H mh σ fr st _ (h.seq fun d mh1 ρ1 H1 v _ e1 g1 r1 h1 => ?_)
    rw [hn] at h1
    cases d with
    | int i =>
      unfold rep at r1
      exact ⟨_, r1, kk _ mh1 ρ1 H1 e1 g1 h1⟩
    | _ => exact False.elim h1
theorem se_sl {lo hi : E} {lo' hi' : Option Expr} {pos p2 : Pos} (ha : SE G Y cf k C a a') (hl : SO G Y cf k C lo lo') (hh : SO G Y cf k C hi hi') : SE G Y cf k C (.sl a lo hi) (.Subscript a' (.Slice lo' hi' none p2) pos) := fun τ X cm o cx ρ H mh σ fr st Q h => by
  unfold evE at h
  refine of_pe (pe_slice sl_any pe_w po_w po_w) ?_
  refine ha τ X cm o cx ρ H mh σ fr st _ (h.seq fun d1 mh1 ρ1 H1 v1 _ e1 g1 r1 h1 => ?_)
  refine so_seq hl cx (st.step e1 g1) h1 fun l mh2 ρ2 H2 e2 g2 h2 => ?_
  refine so_seq hh cx ((st.step e1 g1).step e2 g2) h2 fun u mh3 ρ3 H3 e3 g3 h3 => ?_
  rw [cx.K]
  unfold R.opt at h3
  split at h3
  · rename_i d hd
    exact (slV_ok g3 ((r1.mono (Deeper.refl _) e2).mono (Deeper.refl _) e3) hd).use h3
  · exact False.elim h3

/-! ### tests -/
theorem rb_ok {σ : L2.St} {ρ : List Addr} {H : Hp} {mh : MH} {b : Bool} {Q : Bool → Hp → Prop} (g : Gd G ρ H mh) (h : RK G Y X σ rB1 ρ H (.ok b mh) Q) : Q b H := h ρ H b (Ext.refl _ _) g rfl
theorem st_v (ht : tst a' = true) (ha : SE G Y cf k C a a') : ST G Y cf k C (.v a) a' := fun τ X cm o cx ρ H mh σ fr st Q h => by
  unfold evT at h
  refine of_pt (pt_truth pe_w (tst_eq ht _)) ?_
  refine ha τ X cm o cx ρ H mh σ fr st _ (h.seq fun d1 mh1 ρ1 H1 v1 _ e1 g1 r1 h1 => ?_)
  unfold R.opt at h1
  split at h1
  · rename_i b hb
    exact ⟨b, by rw [cx.K]; exact truV_ok g1 r1 hb, rb_ok g1 h1⟩
  · exact False.elim h1
theorem st_nt {t : Ct} {pos : Pos} (ha : ST G Y cf k C t a') : ST G Y cf k C (.nt t) (.UnaryOp .Not a' pos) := fun τ X cm o cx ρ H mh σ fr st Q h => by
  unfold evT at h
  refine of_pt (pt_not pt_w) ?_
  refine ha τ X cm o cx ρ H mh σ fr st _ (h.seq fun d1 mh1 ρ1 H1 v1 _ e1 g1 r1 h1 => ?_)
  have r1 : d1 = v1 := r1
  subst r1
  exact rb_ok g1 h1
theorem st_ife {t u w : Ct} {pos : Pos} (ht : ST G Y cf k C t a') (hu : ST G Y cf k C u b') (hw : ST G Y cf k C w c') : ST G Y cf k C (.ife t u w) (.IfExp a' b' c' pos) := fun τ X cm o cx ρ H mh σ fr st Q h => by
  unfold evT at h
  have key : wT X a' σ H fun b H1 => if b = true then wT X b' σ H1 Q else wT X c' σ H1 Q := by
    refine ht τ X cm o cx ρ H mh σ fr st _ (h.seq fun d1 mh1 ρ1 H1 v1 _ e1 g1 r1 h1 => ?_)
    have r1 : d1 = v1 := r1
    subst r1
    cases d1
    · rw [if_neg Bool.false_ne_true]
      exact hw τ X cm o cx ρ1 H1 mh1 σ fr (st.step e1 g1) Q h1
    · rw [if_pos rfl]
      exact hu τ X cm o cx ρ1 H1 mh1 σ fr (st.step e1 g1) Q h1
  intro pins s I
  show wpAny _ _ (do if ← isTrue a' X.env (eval a' X.env) then isTrue b' X.env (eval b' X.env) else isTrue c' X.env (eval c' X.env)) _ _ s
  refine wpAny_bind (thn (key pins s I) fun b s1 ⟨H1, I1, q⟩ => ?_)
  cases b
  · exact q pins s1 I1
  · exact q pins s1 I1
theorem se_ife {t : Ct} {pos : Pos} (ht : ST G Y cf k C t a') (hb : SE G Y cf k C b b') (hc : SE G Y cf k C c c') : SE G Y cf k C (.ife t b c) (.IfExp a' b' c' pos) := fun τ X cm o cx ρ H mh σ fr st Q h => by
  unfold evE at h
  refine of_pe (pe_ifExp pt_w pe_w pe_w) ?_
  refine ht τ X cm o cx ρ H mh σ fr st _ (h.seq fun d1 mh1 ρ1 H1 v1 _ e1 g1 r1 h1 => ?_)
  have r1 : d1 = v1 := r1
  subst r1
  cases d1
  · rw [if_neg Bool.false_ne_true]
    exact hc τ X cm o cx ρ1 H1 mh1 σ fr (st.step e1 g1) Q h1
  · rw [if_pos rfl]
    exact hb τ X cm o cx ρ1 H1 mh1 σ fr (st.step e1 g1) Q h1
theorem se_bnot {pos : Pos} (ha : SE G Y cf k C a a') : SE G Y cf k C (.bnot a) (.UnaryOp .Not a' pos) := fun τ X cm o cx ρ H mh σ fr st Q h => by
  unfold evE at h
  refine of_pe (pe_not pe_w) ?_
  refine ha τ X cm o cx ρ H mh σ fr st _ (h.seq fun d1 mh1 ρ1 H1 v1 _ e1 g1 r1 h1 => ?_)
  split at h1
  · unfold rep at r1
    exact ⟨_, r1, h1 ρ1 H1 _ (Ext.refl _ _) g1 (by unfold rep; rfl)⟩
  · exact False.elim h1
/-! chains -/
variable {es : Es} {cs : Cs} {t : Ct} {es' : List Expr} {pos : Pos}
theorem sb_one {an : Bool} {op : BoolOp} (ha : SE G Y cf k C a a') : SB G Y cf k C an (.cons a .nil) (.BoolOp op [a'] pos) := fun τ X cm o cx ρ H mh σ fr st Q h => by
  unfold evB at h
  refine of_pe (pe_one pe_w) ?_
  refine ha τ X cm o cx ρ H mh σ fr st _ (h.seq fun d1 mh1 ρ1 H1 v1 _ e1 g1 r1 h1 => ?_)
  split at h1
  · unfold rep at r1
    subst r1
    exact h1 ρ1 H1 _ (Ext.refl _ _) g1 rfl
  · exact False.elim h1
theorem sb_and (hn : es.isNil = false) (ha : SE G Y cf k C a a') (hb : SB G Y cf k C true es (.BoolOp .And (b' :: es') pos)) : SB G Y cf k C true (.cons a es) (.BoolOp .And (a' :: b' :: es') pos) := fun τ X cm o cx ρ H mh σ fr st Q h => by
  unfold evB at h
  refine of_pe (pe_and pe_w pe_w) ?_
  refine ha τ X cm o cx ρ H mh σ fr st _ (h.seq fun d1 mh1 ρ1 H1 v1 _ e1 g1 r1 h1 => ?_)
  split at h1
  · rename_i c _
    unfold rep at r1
    refine ⟨c, r1, ?_⟩
    rw [hn, if_neg Bool.false_ne_true] at h1
    cases c
    · rw [if_neg Bool.false_ne_true]
      exact h1 ρ1 H1 _ (Ext.refl _ _) g1 rfl
    · rw [if_pos rfl]
      exact hb τ X cm o cx ρ1 H1 mh1 σ fr (st.step e1 g1) Q h1
  · exact False.elim h1
theorem sb_or (hn : es.isNil = false) (ha : SE G Y cf k C a a') (hb : SB G Y cf k C false es (.BoolOp .Or (b' :: es') pos)) : SB G Y cf k C false (.cons a es) (.BoolOp .Or (a' :: b' :: es') pos) := fun τ X cm o cx ρ H mh σ fr st Q h => by
  unfold evB at h
  refine of_pe (pe_or pe_w pe_w) ?_
  refine ha τ X cm o cx ρ H mh σ fr st _ (h.seq fun d1 mh1 ρ1 H1 v1 _ e1 g1 r1 h1 => ?_)
  split at h1
  · rename_i c _
    unfold rep at r1
    refine ⟨c, r1, ?_⟩
    rw [hn, if_neg Bool.false_ne_true] at h1
    cases c
    · rw [if_neg Bool.false_ne_true]
      exact hb τ X cm o cx ρ1 H1 mh1 σ fr (st.step e1 g1) Q h1
    · rw [if_pos rfl]
      exact h1 ρ1 H1 _ (Ext.refl _ _) g1 rfl
  · exact False.elim h1
theorem se_bop {an : Bool} (ha : SB G Y cf k C an es a') : SE G Y cf k C (.bop an es) a' := fun τ X cm o cx ρ H mh σ fr st Q h => by
  unfold evE at h
  refine ha τ X cm o cx ρ H mh σ fr st Q (h.seq fun d1 mh1 ρ1 H1 v1 _ e1 g1 r1 h1 => ?_)
  have r1 : d1 = v1 := r1
  subst r1
  exact h1 ρ1 H1 _ (Ext.refl _ _) g1 (by unfold rep; rfl)
theorem sw_and1 (ha : ST G Y cf k C t a') : SW G Y cf k C true (.cons t .nil) (.BoolOp .And [a'] pos) := fun τ X cm o cx ρ H mh σ fr st Q h => by
  unfold evTs at h
  refine of_pw (pw_and1 pt_w) ?_
  refine ha τ X cm o cx ρ H mh σ fr st _ (h.seq fun d1 mh1 ρ1 H1 v1 _ e1 g1 r1 h1 => ?_)
  have r1 : d1 = v1 := r1
  subst r1
  unfold evTs at h1
  cases d1
  · exact rb_ok g1 h1
  · exact rb_ok g1 h1
theorem sw_or1 (ha : ST G Y cf k C t a') : SW G Y cf k C false (.cons t .nil) (.BoolOp .Or [a'] pos) := fun τ X cm o cx ρ H mh σ fr st Q h => by
  unfold evTs at h
  refine of_pw (pw_or1 pt_w) ?_
  refine ha τ X cm o cx ρ H mh σ fr st _ (h.seq fun d1 mh1 ρ1 H1 v1 _ e1 g1 r1 h1 => ?_)
  have r1 : d1 = v1 := r1
  subst r1
  unfold evTs at h1
  cases d1
  · exact rb_ok g1 h1
  · exact rb_ok g1 h1
theorem sw_and (ha : ST G Y cf k C t a') (hb : SW G Y cf k C true cs (.BoolOp .And (b' :: es') pos)) : SW G Y cf k C true (.cons t cs) (.BoolOp .And (a' :: b' :: es') pos) := fun τ X cm o cx ρ H mh σ fr st Q h => by
  unfold evTs at h
  refine of_pw (pw_and pt_w pw_w) ?_
  refine ha τ X cm o cx ρ H mh σ fr st _ (h.seq fun d1 mh1 ρ1 H1 v1 _ e1 g1 r1 h1 => ?_)
  have r1 : d1 = v1 := r1
  subst r1
  cases d1
  · exact rb_ok g1 h1
  · rw [if_pos rfl]
    exact hb τ X cm o cx ρ1 H1 mh1 σ fr (st.step e1 g1) Q h1
theorem sw_or (ha : ST G Y cf k C t a') (hb : SW G Y cf k C false cs (.BoolOp .Or (b' :: es') pos)) : SW G Y cf k C false (.cons t cs) (.BoolOp .Or (a' :: b' :: es') pos) := fun τ X cm o cx ρ H mh σ fr st Q h => by
  unfold evTs at h
  refine of_pw (pw_or pt_w pw_w) ?_
  refine ha τ X cm o cx ρ H mh σ fr st _ (h.seq fun d1 mh1 ρ1 H1 v1 _ e1 g1 r1 h1 => ?_)
  have r1 : d1 = v1 := r1
  subst r1
  cases d1
  · rw [if_neg Bool.false_ne_true]
    exact hb τ X cm o cx ρ1 H1 mh1 σ fr (st.step e1 g1) Q h1
  · exact rb_ok g1 h1
theorem st_bop {an : Bool} (ha : SW G Y cf k C an cs a') : ST G Y cf k C (.bop an cs) a' := fun τ X cm o cx ρ H mh σ fr st Q h => by
  unfold evT at h
  exact of_pt pw_w.pt (ha τ X cm o cx ρ H mh σ fr st Q h)

/-! ### argument lists, displays -/
theorem ses_nil : SEs G Y cf k C .nil [] := fun τ X cm o cx ρ H mh σ fr st Q h => by
  unfold evEs at h
  exact of_pa pa_nil (h ρ H [] (Ext.refl _ _) st.gd reps.nil)
theorem ses_cons (hp : pl a' = true) (ha : SE G Y cf k C a a') (hb : SEs G Y cf k C es es') : SEs G Y cf k C (.cons a es) (a' :: es') := fun τ X cm o cx ρ H mh σ fr st Q h => by
  unfold evEs at h
  refine of_pa (pa_cons pe_w pa_w (pl_star hp)) ?_
  refine ha τ X cm o cx ρ H mh σ fr st _ (h.seq fun d1 mh1 ρ1 H1 v1 _ e1 g1 r1 h1 => ?_)
  refine hb τ X cm o cx ρ1 H1 mh1 σ fr (st.step e1 g1) _ (h1.seq fun d2 mh2 ρ2 H2 v2 _ e2 g2 r2 h2 => ?_)
  exact h2 ρ2 H2 _ (Ext.refl _ _) g2 (reps.cons (r1.mono (Deeper.refl _) e2) r2)
theorem se_tup {i : Nat} (ha : SEs G Y cf k C es es') : SE G Y cf k C (.tup es) (.Tuple es' i pos) := fun τ X cm o cx ρ H mh σ fr st Q h => by
  unfold evE at h
  refine of_pe (pe_tup pa_w) ?_
  refine ha τ X cm o cx ρ H mh σ fr st _ (h.seq fun d1 mh1 ρ1 H1 v1 _ e1 g1 r1 h1 => ?_)
  split at h1
  · rename_i hz
    refine ⟨by rw [← r1.length]; exact le_line hz, fun p hp => h1 ρ1 _ _ (Ext.upd hp) (g1.new hp) ?_⟩
    unfold rep
    exact ⟨p, v1, rfl, .inl ⟨g1.fresh2 hp, upd_same⟩, r1.mono (Deeper.refl _) (Ext.upd hp) _ _⟩
  · exact False.elim h1
theorem se_lst {m : Bool} (ha : SEs G Y cf k C es es') : SE G Y cf k C (.lst m es) (.List es' pos) := fun τ X cm o cx ρ H mh σ fr st Q h => by
  unfold evE at h
  refine of_pe (pe_lst pa_w) ?_
  refine ha τ X cm o cx ρ H mh σ fr st _ (h.seq fun d1 mh1 ρ1 H1 v1 _ e1 g1 r1 h1 => ?_)
  split at h1
  · rename_i hz
    refine ⟨by rw [← r1.length]; exact le_line hz, fun p hp => ?_⟩
    cases m
    · refine h1 ρ1 _ _ (Ext.upd hp) (g1.new hp) ?_
      unfold rep
      exact ⟨p, v1, rfl, ⟨g1.fresh2 hp, upd_same⟩, r1.mono (Deeper.refl _) (Ext.upd hp) _ _⟩
    · dsimp only at h1
      split at h1
      · rename_i hc
        refine h1 _ _ _ (Ext.mutNew hp) (g1.mutNew hp (r1.bare _ _ hc)) ?_
        unfold rep
        refine ⟨p, rfl, ?_⟩
        rw [← g1.len, List.getElem?_append_right (Nat.le_refl _), Nat.sub_self]
        rfl
      · exact False.elim h1
  · exact False.elim h1
/-- texts of parts -/
theorem txtV_ok {d : D} {x : List Nat} {v : V} {ρ : List Addr} {H : Hp} {Q : VK} (h : txtV d = some x) (r : rep G cm ρ H d v) (q : Q (.str (SX.S x)) H) :
    (∃ y : Str, v = .str y ∧ y.length ≤ sizeLine ∧ Q (.str y) H) ∨ ∃ i : Int, v = .int i ∧ i.natAbs.log2 < 1920 ∧ Q (.str (toString i)) H := by
  unfold txtV at h
  split at h
  · split at h
    · rename_i hz
      cases h
      unfold rep at r
      exact .inl ⟨_, r, by rw [SX.S_len]; exact le_line hz, q⟩
    · cases h
  · split at h
    · rename_i hz
      cases h
      unfold rep at r
      exact .inr ⟨_, r, of_decide_eq_true hz, by rw [show ((toString _ : String) : Str) = SX.S _ from str_int _]; exact q⟩
    · cases h
  · cases h
/-- a part of an f-string -/
def SP (G : GD) (Y : GX) (cf : CF) (k : Nat) (C : SC) (e : E) (p : Expr) : Prop := ∀ τ X cm o, CtxOk (G.tm τ) Y C k cm o X → ∀ ρ H mh σ fr, StR (G.tm τ) cm X o ρ H mh σ fr → ∀ Q : VK,
  RK (G.tm τ) Y X σ (rep (G.tm τ) cm) ρ H (evE Y.g cf o e fr mh) (fun v H' => (∃ y : Str, v = .str y ∧ y.length ≤ sizeLine ∧ Q (.str y) H') ∨ ∃ i : Int, v = .int i ∧ i.natAbs.log2 < 1920 ∧ Q (.str (toString i)) H') → wE X p σ H Q
theorem sp_fmt (ha : SE G Y cf k C a a') : SP G Y cf k C a (.FormattedValue a' (-1) none pos) := fun τ X cm o cx ρ H mh σ fr st Q h => of_pe (pe_fmt pe_w) (ha τ X cm o cx ρ H mh σ fr st _ h)
theorem sp_str {x : List Nat} {y : Str} {i : Nat} (e : y = SX.S x) : SP G Y cf k C (.k (.str x)) (.Constant (.str y) i pos) := fun τ X cm o cx ρ H mh σ fr st Q h => by
  unfold evE at h
  subst e
  rcases h ρ H _ (Ext.refl _ _) st.gd (by unfold rep; rfl) with ⟨y, e1, _, q⟩ | ⟨i, e1, _, _⟩
  · cases e1
    exact of_pe pe_str q
  · cases e1
inductive SPs (G : GD) (Y : GX) (cf : CF) (k : Nat) (C : SC) : Es → List Expr → Prop
  | nil : SPs G Y cf k C .nil []
  | cons {e : E} {p : Expr} {es : Es} {ps : List Expr} : SP G Y cf k C e p → SPs G Y cf k C es ps → SPs G Y cf k C (.cons e es) (p :: ps)
theorem pj_w {X : Cx} : ∀ {ps : List Expr}, PJ X ps (ps.map (wE X))
  | [] => .nil
  | _ :: _ => .cons pe_w pj_w
theorem sps_run {τ : List Addr} {es : Es} {ps : List Expr} (hs : SPs G Y cf k C es ps) (cx : CtxOk (G.tm τ) Y C k cm o X) {σ : L2.St} {fr : Fr} {Q : VK} : ∀ (acc : List Nat) (ρ : List Addr) (H : Hp) (mh : MH), StR (G.tm τ) cm X o ρ H mh σ fr →
    RK (G.tm τ) Y X σ (rep (G.tm τ) cm) ρ H ((evJ Y.g cf o acc es fr mh).bind fun l h1 => .ok (.str l) h1) Q → tJs (ps.map (wE X)) (SX.S acc) σ H fun out H1 => Q (.str out) H1 := by
  induction hs with
  | nil =>
    intro acc ρ H mh st h
    unfold evJ at h
    exact h ρ H _ (Ext.refl _ _) st.gd (by unfold rep; rfl)
  | @cons e p es ps h1 h2 ih =>
    intro acc ρ H mh st h
    unfold evJ at h
    show wE X p σ H fun x H1 => ∃ y : Str, x = .str y ∧ (SX.S acc ++ y).length ≤ sizeLine ∧ tJs (ps.map (wE X)) (SX.S acc ++ y) σ H1 fun out H1 => Q (.str out) H1
    refine h1 τ X cm o cx ρ H mh σ fr st _ ?_
    have h' : RK (G.tm τ) Y X σ (rep (G.tm τ) cm) ρ H ((evE Y.g cf o e fr mh).bind fun x h1 => ((match txtV x with
      | some t => if Nat.ble (acc.length + t.length) line then evJ Y.g cf o (acc ++ t) es fr h1 else .stk
      | none => .stk : R (List Nat)).bind fun l h1 => .ok (.str l) h1)) Q := by
      revert h
      cases evE Y.g cf o e fr mh <;> exact fun h => h
    refine h'.seq fun d mh1 ρ1 H1 v _ e1 g1 r1 q1 => ?_
    split at q1
    · rename_i x hx
      split at q1
      · rename_i hz
        refine txtV_ok (Q := fun v H' => ∃ y : Str, v = .str y ∧ (SX.S acc ++ y).length ≤ sizeLine ∧ tJs (ps.map (wE X)) (SX.S acc ++ y) σ H' fun out H2 => Q (.str out) H2) hx r1 ⟨_, rfl, ?_, ?_⟩
        · rw [SX.S_cat, SX.S_len, List.length_append]
          exact le_line hz
        · rw [SX.S_cat]
          exact ih (acc ++ x) ρ1 H1 mh1 (st.step e1 g1) q1
      · exact False.elim q1
    · exact False.elim q1
theorem se_fs {p1 p2 : Expr} {ps : List Expr} (hs : SPs G Y cf k C es (p1 :: p2 :: ps)) : SE G Y cf k C (.fs es) (.JoinedStr (p1 :: p2 :: ps) pos) := fun τ X cm o cx ρ H mh σ fr st Q h => by
  unfold evE at h
  exact of_pe (pe_joined pj_w) (sps_run hs cx [] ρ H mh st h)

/-! ### built-ins, methods -/
theorem se_bi {J : JC} (ok : GOk J G Y) {b : Bi} {p : Pos} (hg : C.sc.names.lookup (nmBi b) = some .globalImplicit) (hb : J.bok (nmBi b) = true) (hp : pl a' = true) (hps : es'.all pl = true) (ha : SEs G Y cf k C es (a' :: es')) :
    SE G Y cf k C (.bi b es) (.Call (.Name (nmBi b) p) (a' :: es') [] pos) := fun τ X cm o cx ρ H mh σ fr st Q h => by
  unfold evE at h
  have hm : X.mg (nmBi b) = none := by rw [cx.mg]; exact ok.bok _ hb
  have hn : nmBi b ≠ "__name__" := by cases b <;> decide
  have hd : (nmBi b == ("__debug__" : Str)) = false := by cases b <;> decide
  have h0 : wA X (a' :: es') σ H fun vs H1 => rBi X.K b vs H1 Q := by
    refine ha τ X cm o cx ρ H mh σ fr st _ (h.seq fun d1 mh1 ρ1 H1 v1 _ e1 g1 r1 h1 => ?_)
    rw [cx.K]
    exact (biV_ok g1 r1).use h1
  have hc := call_Bi (X := X) cx.calm b
  have hv := boot_Bi b
  cases hq : vlBi b with
  | builtin id =>
    rw [hq] at hc hv
    exact of_pe (pe_callB hc (gl_of cx hg) hm hv pa_w hn hd (pl_star hp) (pl_none hps)) h0
  | type T =>
    rw [hq] at hc hv
    exact of_pe (pe_callTy hc (gl_of cx hg) hm hv pa_w hn hd (pl_star hp) (pl_none hps)) h0
  | _ => cases b <;> cases hq
/-- an object whose attribute is plainly looked up: no call of super -/
def plO : Expr → Bool
  | .Call (.Name x _) [] [] _ => !(x == ("super" : Str))
  | _ => true
theorem plO_eq {a : Expr} {m : Str} {env : Env} (h : plO a = true) : attributeBase a m env (eval a env) = eval a env := by
  unfold attributeBase
  split
  · rename_i x p q
    unfold plO at h
    have hx : (x != ("super" : Str)) = true := h
    rw [hx]
    rfl
  · rfl
theorem few_ok {env : Env} {cpos : Pos} : ∀ {es : List Expr}, es.all pl = true → (backTo cpos (starEach es env)).all (fun x => !x.1) = true
  | [], _ => rfl
  | e :: es, h => by
    rw [List.all_cons, Bool.and_eq_true] at h
    rw [pl_star h.1]
    unfold backTo
    rw [List.map_cons, List.all_cons]
    exact few_ok (cpos := cpos) h.2
theorem se_me0 {m : Me} {apos cpos : Pos} (hb : plO a' = true) (hl : (apos.endLine == cpos.line) = true) (ha : SE G Y cf k C a a') : SE G Y cf k C (.me m a .nil) (.Call (.Attribute a' (nmMe m) apos) [] [] cpos) := fun τ X cm o cx ρ H mh σ fr st Q h => by
  unfold evE at h
  refine of_pe (pe_bm0 F.plainAttrs_str (slot_Me m) (type_Me m) (mt_Me m) pe_w (plO_eq hb) hl) ?_
  refine ha τ X cm o cx ρ H mh σ fr st _ (h.seq fun d1 mh1 ρ1 H1 v1 _ e1 g1 r1 h1 => ?_)
  split at h1
  · unfold evEs at h1
    have r1' := r1
    unfold rep at r1'
    subst r1'
    exact ⟨rfl, by rw [cx.K]; exact (meV_ok g1 r1 reps.nil).use h1⟩
  · exact False.elim h1
theorem few_all {n : Nat} {es : List Expr} {env : Env} {cpos : Pos} (h : es.all pl = true) (hl : es.length < 30) : ((backTo cpos (starEach es env)).all (fun x => !x.1) && (backToKw cpos (keywordEach [] env)).all (fun x => x.1.isSome)
      && decide (es.length + ([] : List Keyword).length + (if ([] : List Keyword).isEmpty then 0 else 1) < 30)) = true := by
  rw [few_ok h, Bool.true_and]
  have e2 : (backToKw cpos (keywordEach [] env)).all (fun x => x.1.isSome) = true := rfl
  rw [e2, Bool.true_and, decide_eq_true_eq]
  exact hl
theorem se_me {m : Me} {apos cpos : Pos} (hb : plO a' = true) (hl : (apos.endLine == cpos.line) = true) (hp : pl b' = true) (hps : es'.all pl = true) (hn : es'.length < 29) (ha : SE G Y cf k C a a') (hes : SEs G Y cf k C es (b' :: es')) : SE G Y cf k C (.me m a es) (.Call (.Attribute a' (nmMe m) apos) (b' :: es') [] cpos) := fun τ X cm o cx ρ H mh σ fr st Q h => by
  unfold evE at h
  refine of_pe (pe_bm F.plainAttrs_str (slot_Me m) (type_Me m) (mt_Me m) pe_w pa_w (plO_eq hb) (few_all (n := 0) (by rw [List.all_cons, hp, hps]; rfl) (by rw [List.length_cons]; omega)) hl (pl_star hp) (pl_none hps)) ?_
  refine ha τ X cm o cx ρ H mh σ fr st _ (h.seq fun d1 mh1 ρ1 H1 v1 _ e1 g1 r1 h1 => ?_)
  split at h1
  · have r1' := r1
    unfold rep at r1'
    subst r1'
    refine ⟨rfl, ?_⟩
    refine hes τ X cm o cx ρ1 H1 mh1 σ fr (st.step e1 g1) _ (h1.seq fun d2 mh2 ρ2 H2 v2 _ e2 g2 r2 h2 => ?_)
    rw [cx.K]
    exact (meV_ok g2 (r1.mono (Deeper.refl _) e2) r2).use h2
  · exact False.elim h1
end
end FS

-- text FsI
set_option Elab.async false
set_option linter.all false
set_option maxHeartbeats 1000000
/-! FsI: lambdas made; calls by name; comprehensions. -/
namespace FS
open PySem PySem.Spec PyProof.Rows L2 LamX

/-- no parameters -/
def noPar : Arguments → Bool
  | ⟨[], [], none, [], [], none, []⟩ => true
  | _ => false
theorem noPar_def {p : Arguments} (h : noPar p = true) (env : Env) : defaultsOf p env = ([], []) := by
  unfold noPar at h
  split at h
  · rfl
  · cases h
section
variable {G : GD} {X : Cx} {pins : List (Addr × Obj)} {σ : L2.St} {H : Hp} {s : Shared} {ρ : List Addr} {mh : MH}
theorem TabR.snoc {P c : Addr} {q : Str} {L : Pos → Bool} {pos : Pos} {ps : Array Value} {H1 : Hp} (hP : H P = some (.tbl ps)) (t : TabR H P q L) (hk : ∀ b o, H b = some o → (∀ ps, o ≠ .tbl ps) → H1 b = some o) (h1 : H1 P = some (.tbl (ps ++ #[rawInt pos.line, rawInt pos.col, .ref c])))
    (h2 : H1 c = some (CodeO c q) ∨ ∀ pos' cv, L pos' = true → codeAmong pos' (ps.toList ++ [rawInt pos.line, rawInt pos.col, .ref c]) = some cv → codeAmong pos' ps.toList = some cv) : TabR H1 P q L := by
  obtain ⟨ps', e1, e2, e3⟩ := t
  rw [hP] at e1
  cases e1
  have eL : (ps ++ #[rawInt pos.line, rawInt pos.col, .ref c]).toList = ps.toList ++ [rawInt pos.line, rawInt pos.col, .ref c] := by simp
  refine ⟨_, h1, by rw [eL]; exact PySem.TriplesOk_snoc _ _ _ _ e2, fun pos' cv hl hcv => ?_⟩
  rw [eL] at hcv
  have old : codeAmong pos' ps.toList = some cv → ∃ c, cv = .ref c ∧ H1 c = some (CodeO c q) := fun z => by
    obtain ⟨c0, q1, q2⟩ := e3 pos' cv hl z
    exact ⟨c0, q1, hk _ _ q2 codeO_ne⟩
  rcases h2 with h2 | h2
  · rcases among_app _ e2 hcv with z | z
    · exact old z
    · exact ⟨c, z, h2⟩
  · exact old (h2 pos' cv hl hcv)
theorem TabR.kept {P : Addr} {q : Str} {L : Pos → Bool} {H1 : Hp} (t : TabR H P q L) (hk : ∀ b o, H b = some o → (∀ ps, o ≠ .tbl ps) → H1 b = some o) (hP : ∀ ps, H P = some (.tbl ps) → H1 P = some (.tbl ps)) : TabR H1 P q L := by
  obtain ⟨ps', e1, e2, e3⟩ := t
  refine ⟨ps', hP _ e1, e2, fun pos' cv hl hcv => ?_⟩
  obtain ⟨c0, q1, q2⟩ := e3 pos' cv hl hcv
  exact ⟨c0, q1, hk _ _ q2 codeO_ne⟩
/-- a table has grown: all that is known goes on -/
theorem Gd.grown {P : Addr} {H1 : Hp} {ps more : Array Value} (g : Gd G ρ H mh) (hP : H P = some (.tbl ps)) (hk : ∀ b o, H b = some o → (∀ ps, o ≠ .tbl ps) → H1 b = some o) (h1 : H1 P = some (.tbl (ps ++ more)))
    (ho : ∀ b qs, b ≠ P → H b = some (.tbl qs) → H1 b = some (.tbl qs)) (ht : ∀ q L, G.TQ P = some (q, L) → TabR H1 P q L) : Ext ρ H ρ H1 ∧ Gd G ρ H1 mh := by
  have ex : Ext ρ H ρ H1 := by
    refine ⟨⟨[], by simp⟩, fun b o e _ nt => hk b o e nt, fun b qs e _ => ?_, fun _ h => .inl h⟩
    by_cases hb : b = P
    · subst hb
      rw [hP] at e
      cases e
      exact ⟨more, h1⟩
    · exact ⟨#[], by rw [ho b qs hb e]; simp⟩
  refine ⟨ex, g.len, g.nd, fun n b u e1 e2 => ?_, fun P' q L e => ⟨(g.tab P' q L e).1, ?_⟩, fun a m => ?_⟩
  · have k := g.chg n b u e1 e2
    refine k.ext ex ?_
    obtain ⟨v, e3, e4⟩ := k.there
    rw [hk b v e3 (Mu.nt e4), e3]
  · by_cases hb : P' = P
    · subst hb
      exact ht q L e
    · exact (g.tab P' q L e).2.kept hk fun ps e => ho P' ps hb e
  · obtain ⟨n, o, e, nt⟩ := g.tmp a m
    exact ⟨n, o, hk a o e (Mu.nt nt), nt⟩
/-- a lambda is made -/
theorem lam_mk {c P : Addr} {L : Pos → Bool} {params : Arguments} {body : Expr} {scope : Scope} {pos : Pos} {Q : Value → Shared → Prop} (I : Inv X pins σ H s) (g : Gd G ρ H mh) (TB : TabB X.base X.mg c P) (hcode : X.env.code = .ref c)
    (hT : G.TQ P = some (X.env.qual ++ "<lambda>", L)) (hL : L pos = true) (hp : noPar params = true) (hfree : ∀ y ∈ scope.names, y.2 = .free → ∃ c, X.env.cells.lookup y.1 = some c)
    (h : ∀ (f c' : Addr) (pm ctv : Value) (H1 : Hp) (s' : Shared), Inv X pins σ H1 s' → Ext ρ H ρ H1 → Gd G ρ H1 mh →
      Im G ρ H1 f (CloO (X.env.qual ++ "<lambda>") params body scope (cloFrom X.env.cells scope.names []) pm c' ctv f) → Im G ρ H1 c' (CodeO c' (X.env.qual ++ "<lambda>")) → Q (.ref f) s') :
    wpAny (model X.prog X.w) X.A (eval (.Lambda params body scope pos) X.env) Q X.xe s := by
  obtain ⟨hPρ, tr⟩ := g.tab P _ _ hT
  obtain ⟨ps, hP, ht, ha⟩ := _root_.id tr
  refine PySem.W.kla_eval (noPar_def hp _) ?_
  have bP : s.heap.BuiltinsAt X.mg P := TB.bm.keeps I.bk
  have oP : s.heap.get? P = some { cls := .none, data := .fields ps } := I.hok P _ hP
  -- the function's object, laid last
  have lay : ∀ {H' : Hp} {h' : Heap} {tk : Nat} {c' : Addr} {ctv : Value}, Inv X pins σ H' { s with heap := h', toks := tk } → Ext ρ H ρ H' → Gd G ρ H' mh → Im G ρ H' c' (CodeO c' (X.env.qual ++ "<lambda>")) →
      Q (.ref h'.objs.size) { s with heap := h'.push (PySem.W.kla_obj "<lambda>" (X.env.qual ++ "<lambda>") params body scope (cloFrom X.env.cells scope.names []) ((X.mg "__name__").getD .none) c' ctv), toks := tk } := fun {H' h' tk c' ctv} J ex gd hc => by
    have nf : H' h'.objs.size = none := J.hok.fresh (Nat.le_refl _)
    have ol : (h'.push (PySem.W.kla_obj "<lambda>" (X.env.qual ++ "<lambda>") params body scope (cloFrom X.env.cells scope.names []) ((X.mg "__name__").getD .none) c' ctv)).get? h'.objs.size = some (PySem.W.kla_obj "<lambda>" (X.env.qual ++ "<lambda>") params body scope (cloFrom X.env.cells scope.names []) ((X.mg "__name__").getD .none) c' ctv) := Heap.get?_push_size _ rfl
    have J2 := J.laid (o := CloO (X.env.qual ++ "<lambda>") params body scope (cloFrom X.env.cells scope.names []) ((X.mg "__name__").getD .none) c' ctv h'.objs.size) (t' := tk) (fun b o e => Heap.get?_push_of_some (PySem.W.kla_obj "<lambda>" (X.env.qual ++ "<lambda>") params body scope (cloFrom X.env.cells scope.names []) ((X.mg "__name__").getD .none) c' ctv) e) (Nat.le_refl _)
      ⟨ol, ⟨_, ol⟩, fun h1 h2 e st => st _ e⟩
    exact h h'.objs.size c' _ ctv _ _ J2 (ex.trans (Ext.upd nf)) (gd.new nf) ⟨gd.fresh2 nf, upd_same⟩ (hc.ext (Ext.upd nf) codeO_ne)
  cases hc : codeAmong pos ps.toList with
  | none =>
    refine PySem.W.kla_makeFunction (mg := X.mg) (c := c) (P := P) (ps := ps) (closure_ok hfree) I.ok.glob (I.mod.glob.keeps I.bk) hcode (TB.code.keeps I.bk) oP ht hc TB.gP bP fun c' ctv h' tk hx hge hlt hrec htb => ?_
    obtain ⟨c2, oc, vs, t, e2, hoc, hd, hv⟩ := hrec
    cases e2
    have nC : H c' = none := I.hok.fresh hge
    have J := inv_table (t' := tk) (more := #[rawInt pos.line, rawInt pos.col, .ref c']) I hP hx htb hge ⟨oc, vs, t, hoc, hd, hv⟩
    have nPc : P ≠ c' := ne_of_none hP nC
    have hk : ∀ b o, H b = some o → (∀ ps, o ≠ .tbl ps) → upd (upd H P (.tbl (ps ++ #[rawInt pos.line, rawInt pos.col, .ref c']))) c' (CodeO c' (X.env.qual ++ "<lambda>")) b = some o := fun b o e nt => by
      rw [upd_ne (ne_of_none e nC), upd_ne (fun z => by rw [z, hP] at e; exact nt ps (Option.some.inj e).symm)]
      exact e
    have atP : upd (upd H P (.tbl (ps ++ #[rawInt pos.line, rawInt pos.col, .ref c']))) c' (CodeO c' (X.env.qual ++ "<lambda>")) P = some (.tbl (ps ++ #[rawInt pos.line, rawInt pos.col, .ref c'])) := by rw [upd_ne nPc, upd_same]
    obtain ⟨ex, gd⟩ := g.grown hP hk atP (fun b qs hb e => by rw [upd_ne (ne_of_none e nC), upd_ne hb]; exact e) (fun q L' e => by
      rw [hT] at e
      cases e
      exact tr.snoc hP hk atP (.inl upd_same))
    have nc : c' ∉ ρ ∧ c' ∉ G.tmp := g.fresh2 nC
    exact lay J ex gd ⟨nc, upd_same⟩
  | some cv =>
    obtain ⟨c', e, hco⟩ := ha pos cv hL hc
    subst e
    refine PySem.W.kla_makeFunctionHit (mg := X.mg) (c := c) (P := P) (ps := ps) (closure_ok hfree) I.ok.glob (I.mod.glob.keeps I.bk) hcode (TB.code.keeps I.bk) oP ht hc bP fun ctv h' tk hx hsz => ?_
    have J : Inv X pins σ H { s with heap := h', toks := tk } := I.kept hx
    exact lay J (Ext.refl _ _) g ⟨g.code hco, hco⟩
end
section
variable {G : GD} {Y : GX} {cf : CF} {k : Nat} {C : SC} {J : JC}
theorem vis_of {X : Cx} {τ : List Addr} {cm : List (Option CI)} {o : List Fr} (cx : CtxOk (G.tm τ) Y C k cm o X) {x : Str} (h : Vis C.sc x) : Vis X.env.scope x := by
  rw [cx.sc]
  exact h
theorem tab_up {base h : Heap} {mg : Str → Option Value} {c P : Addr} (t : TabB base mg c P) (k : ∀ b o, base.get? b = some o → h.get? b = some o) : TabB h mg c P := ⟨t.code.keeps k, t.bm.keeps k, t.gP⟩
theorem se_lam (ok : GOk J G Y) {l : Nat} {params : Arguments} {body : Expr} {scope : Scope} {pos : Pos} (h1 : C.hasT = true) (h2 : C.hasL = true) (h3 : posB C.L pos = true) (h4 : noPar params = true) (h5 : lamSB C.sc scope = true) (h6 : J.lamB l C params body scope = true) :
    SE G Y cf k C (.lam l) (.Lambda params body scope pos) := fun τ X cm o cx ρ H mh σ fr st Q h => by
  unfold evE at h
  intro pins s I
  obtain ⟨c, P, e1, e2, e3⟩ := cx.code h1
  obtain ⟨ci, hci⟩ := cx.lamc h2
  obtain ⟨q1, q2, q3, q4⟩ := cx.own ci hci
  have hL : LamS X.env.scope scope := by
    rw [cx.sc]
    exact lamS_by h5
  refine lam_mk I st.gd (by rw [cx.mg]; exact tab_up e2 cx.base) e1 e3 h3 h4 (hL.has I.ok) fun f c' pm ctv H1 s' I1 ex gd f1 f2 => ?_
  refine ⟨.ref f, H1, I1, rfl, h ρ H1 _ ex gd ?_⟩
  unfold rep
  refine ⟨f, c', ci, pm, ctv, params, body, scope, rfl, hci, ok.lam l C params body scope ci h6 q2 q3, ?_, ?_⟩
  · rw [q1, q4]
    exact f1
  · rw [q4]
    exact f2
theorem se_app {i : Nat} {x : Str} {p1 p2 : Pos} (hL : CallL G Y cf k) (hN : C.N[i]? = some x) (hv : Vis C.sc x) (hd : (x == ("__debug__" : Str)) = false) (hcd : (x == ("__classdict__" : Str)) = false) : SE G Y cf k C (.app i) (.Call (.Name x p1) [] [] p2) := fun τ X cm o cx ρ H mh σ fr st Q h => by
  unfold evE at h
  split at h
  · rename_i l d hg
    split at h
    · rename_i L f h1 h2
      have hcap : L.cap.all (fun i => Nat.blt i f.length) = true := by
        cases q : L.cap.all (fun i => Nat.blt i f.length) with
        | true => rfl
        | false =>
          rw [q] at h
          exact False.elim h
      rw [hcap, if_pos rfl] at h
      obtain ⟨v, e1, e2⟩ := st.fr.at_ i _ hg
      intro pins s I
      refine wpAny_Call_Name_kw (thn ((pe_var (X := X) (pos := p1) (i := i) (by rw [cx.N]; exact hN) (vis_of cx hv) hd hcd).run pins s σ H (fun w H1 => w = v ∧ H1 = H) I ⟨v, e1, rfl, rfl⟩) fun u s1 ⟨w, H1, I1, r1, q1⟩ => ?_)
      obtain ⟨rfl, rfl⟩ := q1
      have e2' := e2
      unfold rep at e2'
      obtain ⟨fa, c', ci, pm, ctv, params, body, scope, rfl, _, _, hf, _⟩ := e2'
      obtain rfl : u = Value.ref fa := r1
      have of1 := (I1.hok fa _ hf.2).1
      exact PySem.W.callWith_F0 ⟨_, _, _, _, of1⟩ (hL τ C X cm o cx ρ H1 mh σ fr st l d _ L f pins s1 Q I1 e2 h1 h2 hcap h fa rfl)
    · exact False.elim h
  · exact False.elim h
theorem se_call (ok : GOk J G Y) (hF : CallF G Y cf k) {f : Nat} {es : Es} {x : Str} {a' : Expr} {es' : List Expr} {p pos : Pos} (hf : J.fnn[f]? = some x) (hg : C.sc.names.lookup x = some .globalImplicit) (hd : (x == ("__debug__" : Str)) = false) (hp : pl a' = true) (hps : es'.all pl = true)
    (ha : SEs G Y cf k C es (a' :: es')) : SE G Y cf k C (.call f es) (.Call (.Name x p) (a' :: es') [] pos) := fun τ X cm o cx ρ H mh σ fr st Q h => by
  unfold evE at h
  intro pins s I
  obtain ⟨e1, e2⟩ := ok.fns f x hf
  refine wpAny_Call_Name_kw (ld_glob I (gl_of cx hg) (by rw [cx.mg]; exact e1) ?_ hd)
  have h0 : wA X (a' :: es') σ H fun vs H1 => ∀ us s1, Inv X pins σ H1 s1 → Vals vs us → wpAny (model X.prog X.w) X.A (call (.ref (Y.fad f)) us) (EP X pins σ Q) X.xe s1 := by
    refine ha τ X cm o cx ρ H mh σ fr st _ (h.seq fun d1 mh1 ρ1 H1 v1 _ e1 g1 r1 h1 => ?_)
    exact fun us s1 I1 r => hF.1 τ C X cm o cx ρ1 H1 mh1 σ fr (st.step e1 g1) f d1 v1 us pins s1 Q I1 r1 r h1
  exact PySem.W.callWith_K (h₀ := X.base) I.ok.mod.kin (by rw [cx.K]; exact e2) (thn (h0 pos pins s I) fun us s1 ⟨vs, H1, I1, r, q⟩ => ⟨I1.kIn, q us s1 I1 r⟩) (pl_star hp) (pl_none hps)
theorem se_call0 (ok : GOk J G Y) (hF : CallF G Y cf k) {f : Nat} {x : Str} {p pos : Pos} (hf : J.fnn[f]? = some x) (hg : C.sc.names.lookup x = some .globalImplicit) (hd : (x == ("__debug__" : Str)) = false) : SE G Y cf k C (.call f .nil) (.Call (.Name x p) [] [] pos) := fun τ X cm o cx ρ H mh σ fr st Q h => by
  unfold evE evEs at h
  intro pins s I
  obtain ⟨e1, e2⟩ := ok.fns f x hf
  refine wpAny_Call_Name_kw (ld_glob I (gl_of cx hg) (by rw [cx.mg]; exact e1) ?_ hd)
  exact PySem.W.callWith_K0 I.kIn (by rw [cx.K]; exact e2) (hF.1 τ C X cm o cx ρ H mh σ fr st f [] [] [] pins s Q I reps.nil .nil h)
end
end FS

-- text FsJ
set_option Elab.async false
set_option linter.all false
set_option maxHeartbeats 1000000
/-! FsJ: targets, what is walked, list comprehensions. -/
namespace FS
open PySem PySem.Spec PyProof.Rows L2 LamX

/-! ### targets -/
mutual
def tgOf (K : PySem.W.Frag) : T → TG
  | .nm i => gName i
  | .tup ts => gTup K ts.length (tgsOf K ts)
def tgsOf (K : PySem.W.Frag) : List T → TGs
  | [] => gNil
  | t :: ts => gCons (tgOf K t) (tgsOf K ts)
end
mutual
def tNs : T → List Nat
  | .nm i => [i]
  | .tup ts => tNss ts
def tNss : List T → List Nat
  | [] => []
  | t :: ts => tNs t ++ tNss ts
end
theorem set_comm' {σ : L2.St} {i j : Nat} {a b : Option V} (h : i ≠ j) : (σ.set i a).set j b = (σ.set j b).set i a := List.set_comm _ _ h
theorem wipe_set : ∀ {vs : List Nat} {σ : L2.St} {i : Nat} {x : Option V}, wipe (σ.set i x) vs = if i ∈ vs then wipe σ vs else (wipe σ vs).set i x
  | [], σ, i, x => by simp [wipe]
  | v :: vs, σ, i, x => by
    show (wipe (σ.set i x) vs).set v none = if i ∈ v :: vs then (wipe σ vs).set v none else ((wipe σ vs).set v none).set i x
    rw [wipe_set (vs := vs)]
    by_cases h : i ∈ vs
    · rw [if_pos h, if_pos (List.mem_cons_of_mem _ h)]
    · rw [if_neg h]
      by_cases e : i = v
      · subst e
        rw [if_pos List.mem_cons_self, List.set_set]
      · rw [if_neg (fun m => (List.mem_cons.mp m).elim e h), set_comm' e]
section
variable {G : GD} {cm : List (Option CI)} {ρ : List Addr} {H : Hp}
theorem asgs_len : ∀ {ts : List T} {xs : List D} {fr fr' : Fr}, asgs ts xs fr = some fr' → xs.length = ts.length
  | [], [], fr, fr', _ => rfl
  | t :: ts, x :: xs, fr, fr', h => by
    unfold asgs at h
    split at h
    · rw [List.length_cons, List.length_cons, asgs_len h]
    · cases h
  | [], _ :: _, _, _, h => by unfold asgs at h; cases h
  | _ :: _, [], _, _, h => by unfold asgs at h; cases h
mutual
theorem asg_ok : ∀ (t : T) (d : D) (v : V) (σ : L2.St) (fr fr' : Fr) (Q : L2.St → Hp → Prop), asg t d fr = some fr' → rep G cm ρ H d v → FrR G cm ρ H σ fr →
    (∀ σ', FrR G cm ρ H σ' fr' → (∀ vs, (∀ i ∈ tNs t, i ∈ vs) → wipe σ' vs = wipe σ vs) → Q σ' H) → tgOf G.K t v σ H Q
  | .nm i, d, v, σ, fr, fr', Q, h, r, f, q => by
    unfold asg at h
    split at h
    · rename_i hl
      cases h
      unfold tgOf gName
      exact q _ (f.put hl r) fun vs hv => by rw [wipe_set, if_pos (hv i (by unfold tNs; exact List.mem_cons_self))]
    · cases h
  | .tup ts, .tup xs, v, σ, fr, fr', Q, h, r, f, q => by
    unfold asg at h
    unfold rep at r
    obtain ⟨a, ys, rfl, e2, e3⟩ := r
    unfold tgOf gTup
    refine ⟨a, ys, rfl, ?_, by rw [← e3.length, asgs_len h], asgs_ok ts xs ys σ fr fr' Q h e3 f fun σ' f' hw => q σ' f' fun vs hv => hw vs (by unfold tNs at hv; exact hv)⟩
    rcases e2 with e2 | e2
    · exact SqT.of e2.2
    · exact .inr e2
  | .tup ts, .non, _, _, _, _, _, h, _, _, _ => by unfold asg at h; cases h
  | .tup ts, .bl _, _, _, _, _, _, h, _, _, _ => by unfold asg at h; cases h
  | .tup ts, .int _, _, _, _, _, _, h, _, _, _ => by unfold asg at h; cases h
  | .tup ts, .str _, _, _, _, _, _, h, _, _, _ => by unfold asg at h; cases h
  | .tup ts, .lst _, _, _, _, _, _, h, _, _, _ => by unfold asg at h; cases h
  | .tup ts, .dic _, _, _, _, _, _, h, _, _, _ => by unfold asg at h; cases h
  | .tup ts, .frl _, _, _, _, _, _, h, _, _, _ => by unfold asg at h; cases h
  | .tup ts, .ref _, _, _, _, _, _, h, _, _, _ => by unfold asg at h; cases h
  | .tup ts, .clo _ _, _, _, _, _, _, h, _, _, _ => by unfold asg at h; cases h
theorem asgs_ok : ∀ (ts : List T) (xs : List D) (ys : List V) (σ : L2.St) (fr fr' : Fr) (Q : L2.St → Hp → Prop), asgs ts xs fr = some fr' → reps G cm ρ H xs ys → FrR G cm ρ H σ fr →
    (∀ σ', FrR G cm ρ H σ' fr' → (∀ vs, (∀ i ∈ tNss ts, i ∈ vs) → wipe σ' vs = wipe σ vs) → Q σ' H) → tgsOf G.K ts ys σ H Q
  | [], [], ys, σ, fr, fr', Q, h, r, f, q => by
    unfold asgs at h
    cases h
    unfold reps at r
    subst r
    unfold tgsOf gNil
    exact ⟨rfl, q σ f fun _ _ => rfl⟩
  | t :: ts, x :: xs, ys, σ, fr, fr', Q, h, r, f, q => by
    unfold asgs at h
    unfold reps at r
    obtain ⟨y, zs, rfl, r1, r2⟩ := r
    split at h
    · rename_i fr1 h1
      unfold tgsOf gCons
      refine ⟨y, zs, rfl, asg_ok t x y σ fr fr1 _ h1 r1 f fun σ1 f1 w1 => ?_⟩
      refine asgs_ok ts xs zs σ1 fr1 fr' Q h r2 f1 fun σ2 f2 w2 => q σ2 f2 fun vs hv => ?_
      unfold tNss at hv
      rw [w2 vs (fun i m => hv i (List.mem_append_right _ m)), w1 vs (fun i m => hv i (List.mem_append_left _ m))]
    · cases h
  | [], _ :: _, _, _, _, _, _, h, _, _, _ => by unfold asgs at h; cases h
  | _ :: _, [], _, _, _, _, _, h, _, _, _ => by unfold asgs at h; cases h
end
end
/-- a target's look -/
def stT : Expr → Bool
  | .Starred .. => false
  | _ => true
mutual
def chkT (C : SC) : T → Expr → Bool
  | .nm i, .Name x _ => decide (C.N[i]? = some x) && (decide (C.sc.names.lookup x = some .local) || (decide (C.sc.names.lookup x = some .cell) && C.fnc x))
  | .tup ts, .Tuple es _ _ => chkTs C ts es
  | _, _ => false
def chkTs (C : SC) : List T → List Expr → Bool
  | [], [] => true
  | t :: ts, e :: es => chkT C t e && chkTs C ts es
  | _, _ => false
end
theorem asgE_cons {C : SC} {t : T} {e : Expr} {es : List Expr} {env : Env} (h : chkT C t e = true) : assignEach (e :: es) env = (false, assign e env) :: assignEach es env := by
  cases e <;> first | rfl | (cases t <;> (unfold chkT at h; cases h))
theorem chkTs_each {C : SC} {env : Env} : ∀ {ts : List T} {es : List Expr}, chkTs C ts es = true → (assignEach es env).length = ts.length ∧ (assignEach es env).findIdx? (·.1) = none
  | [], [], _ => ⟨rfl, rfl⟩
  | t :: ts, e :: es, h => by
    unfold chkTs at h
    rw [Bool.and_eq_true] at h
    obtain ⟨h1, h2⟩ := chkTs_each (env := env) h.2
    rw [asgE_cons h.1]
    refine ⟨by rw [List.length_cons, List.length_cons, h1], ?_⟩
    rw [List.findIdx?_cons, h2]
    rfl
  | [], _ :: _, h => by unfold chkTs at h; cases h
  | _ :: _, [], h => by unfold chkTs at h; cases h
section
variable {G : GD} {Y : GX} {k : Nat} {C : SC} {cm : List (Option CI)} {o : List Fr} {X : Cx}
theorem CtxOk.fnX (cx : CtxOk G Y C k cm o X) {x : Str} (h : C.sc.names.lookup x = some .local ∨ (C.sc.names.lookup x = some .cell ∧ C.fnc x = true)) : Loc X.env.scope x ∧ (X.fn x = true ∨ X.env.scope.names.lookup x = some .local) := by
  rw [cx.sc]
  rcases h with h | ⟨h1, h2⟩
  · exact ⟨.inl h, .inr h⟩
  · exact ⟨.inr h1, .inl (cx.fn x h2)⟩
mutual
theorem chkT_ok (cx : CtxOk G Y C k cm o X) : ∀ (t : T) (e : Expr), chkT C t e = true → PG X e (tgOf X.K t)
  | .nm i, e, h => by
    cases e <;> first | (unfold chkT at h; cases h) | skip
    unfold chkT at h
    simp only [Bool.and_eq_true, Bool.or_eq_true, decide_eq_true_eq] at h
    obtain ⟨h1, h2⟩ := cx.fnX h.2
    unfold tgOf
    exact pg_name cx.ndX (by rw [cx.N]; exact h.1) h1 h2
  | .tup ts, e, h => by
    cases e <;> first | (unfold chkT at h; cases h) | skip
    unfold chkT at h
    obtain ⟨h1, h2⟩ := chkTs_each (env := X.env) h
    unfold tgOf
    exact pg_tup cx.calm (chkTs_ok cx ts _ h) h1 h2
theorem chkTs_ok (cx : CtxOk G Y C k cm o X) : ∀ (ts : List T) (es : List Expr), chkTs C ts es = true → PGs X es (tgsOf X.K ts)
  | [], [], _ => by unfold tgsOf; exact pgs_nil
  | t :: ts, e :: es, h => by
    unfold chkTs at h
    rw [Bool.and_eq_true] at h
    unfold tgsOf
    exact pgs_cons (chkT_ok cx t e h.1) (chkTs_ok cx ts es h.2) (by rw [asgE_cons h.1]; rfl)
  | [], _ :: _, h => by unfold chkTs at h; cases h
  | _ :: _, [], h => by unfold chkTs at h; cases h
end
end

/-! ### what is walked -/
/-- an item, as the heap holds it -/
inductive WI where
  | pl (v : V) | nt (zs : List V) | rd (a : Addr) (i : Nat) | rp (a : Addr) (i : Nat) | fin (a : Addr) (k : Nat) | done
def repW (G : GD) (cm : List (Option CI)) (ρ : List Addr) (H : Hp) : W → WI → Prop
  | .pl d, .pl v => rep G cm ρ H d v
  | .pl d, .nt zs => ∃ ds, d = .tup ds ∧ reps G cm ρ H ds zs
  | .rd n i, .rd a j => i = j ∧ ρ[n]? = some a
  | .rp n i, .rp a j => i = j ∧ ρ[n]? = some a
  | .fin n k, .fin a m => k = m ∧ ρ[n]? = some a
  | .done, .done => True
  | _, _ => False
def RW (G : GD) (cm : List (Option CI)) (ρ : List Addr) (H : Hp) (ws : List W) (its : List WI) : Prop :=
  its.length = ws.length ∧ ∀ (i : Nat) (w : W) (x : WI), ws[i]? = some w → its[i]? = some x → repW G cm ρ H w x
/-- what a turn at this item asks -/
def okW (K : PySem.W.Frag) (H : Hp) : WI → Prop
  | .pl _ => True
  | .nt _ => True
  | .rd a i => ∃ ys y, SqL K H a ys ∧ ys[i]? = some y
  | .rp a i => ∃ ys y, SqL K H a ys ∧ ys[i]? = some y
  | _ => False
def yW (K : PySem.W.Frag) (H : Hp) (x : V) (H2 : Hp) : WI → Prop
  | .pl v => H2 = H ∧ x = v
  | .nt zs => ∃ T, x = .ref T ∧ H T = none ∧ H2 = upd H T (.tup zs)
  | .rd a i => H2 = H ∧ ∀ ys, SqL K H a ys → ys[i]? = some x
  | .rp a i => ∃ T z, x = .ref T ∧ H T = none ∧ H2 = upd H T (.tup [.int (i : Nat), z]) ∧ ∀ ys, SqL K H a ys → ys[i]? = some z
  | _ => True
def endW (K : PySem.W.Frag) (H : Hp) : WI → Prop
  | .done => True
  | .fin a k => ∃ ys, SqL K H a ys ∧ ys.length ≤ k
  | _ => False
structure Wk (K : PySem.W.Frag) (ρ : List Addr) (H : Hp) (J : L2.It) (its : List WI) : Prop where
  go : ∀ i ρ' H' it, Ext ρ H ρ' H' → its[i]? = some it → okW K H' it → J.go i H'
  yld : ∀ i ρ' H' it x H'', Ext ρ H ρ' H' → its[i]? = some it → okW K H' it → J.yld i H' x H'' → yW K H' x H'' it
  stop : ∀ i ρ' H' it, Ext ρ H ρ' H' → its[i]? = some it → endW K H' it → J.stop i H'
def rI (G : GD) (cm : List (Option CI)) (ρ : List Addr) (H : Hp) (ws : List W) (J : L2.It) : Prop := ∃ its, RW G cm ρ H ws its ∧ Wk G.K ρ H J its
theorem Mv.trans {G G1 G2 : GD} {cm cm1 cm2 : List (Option CI)} {ρ ρ1 ρ2 : List Addr} {H H1 H2 : Hp} (a : Mv G G1 cm cm1 ρ ρ1 H H1) (b : Mv G1 G2 cm1 cm2 ρ1 ρ2 H1 H2) : Mv G G2 cm cm2 ρ ρ2 H H2 :=
  ⟨b.K.trans a.K, b.lam.trans a.lam, b.atn.trans a.atn, b.nat.trans a.nat, fun d ci h => b.dp d ci (a.dp d ci h), fun x o nt h => b.im x o nt (a.im x o nt h), fun n x h => b.ix n x (a.ix n x h)⟩
theorem deep_nil {cm : List (Option CI)} : Deeper [] cm := fun d ci h => by cases h
section
variable {G G' : GD} {cm cm' : List (Option CI)} {ρ ρ' : List Addr} {H H' : Hp}
theorem rdW_rd {h : MH} {n i : Nat} {r : Option D} (e : rdW h (.rd n i) = some r) : ∃ xs d, h[n]? = some (.lst xs) ∧ xs[i]? = some d ∧ r = some d := by
  dsimp only [rdW] at e
  split at e
  · rename_i xs hx
    split at e
    · rename_i d hd
      cases e
      exact ⟨xs, d, hx, hd, rfl⟩
    · cases e
  · cases e
theorem rdW_rp {h : MH} {n i : Nat} {r : Option D} (e : rdW h (.rp n i) = some r) : ∃ xs d, h[n]? = some (.lst xs) ∧ xs[i]? = some d ∧ r = some (.tup [.int i, d]) := by
  dsimp only [rdW] at e
  split at e
  · rename_i xs hx
    split at e
    · rename_i d hd
      cases e
      exact ⟨xs, d, hx, hd, rfl⟩
    · cases e
  · cases e
theorem rdW_fin {h : MH} {n k : Nat} {r : Option D} (e : rdW h (.fin n k) = some r) : ∃ xs, h[n]? = some (.lst xs) ∧ xs.length = k ∧ r = none := by
  dsimp only [rdW] at e
  split at e
  · rename_i xs hx
    split at e
    · rename_i hk
      cases e
      exact ⟨xs, hx, Nat.eq_of_beq_eq_true hk, rfl⟩
    · cases e
  · cases e
theorem wk_turn {J : L2.It} {its : List WI} {ws : List W} {mh : MH} {i : Nat} {w : W} {d : D} (wk : Wk G.K ρ H J its) (rv : RW G cm ρ H ws its) (m : Mv G G' cm cm' ρ ρ' H H') (e : Ext ρ H ρ' H') (g : Gd G' ρ' H' mh) (hw : ws[i]? = some w) (hd : rdW mh w = some (some d)) :
    J.go i H' ∧ ∀ x H2, J.yld i H' x H2 → Ext ρ' H' ρ' H2 ∧ Gd G' ρ' H2 mh ∧ rep G' cm' ρ' H2 d x := by
  obtain ⟨hl, hr⟩ := rv
  have hi : i < its.length := by rw [hl]; exact (List.getElem?_eq_some_iff.mp hw).1
  have hit : its[i]? = some its[i] := List.getElem?_eq_getElem hi
  have r0 := hr i w _ hw hit
  generalize its[i] = it at hit r0
  have read : ∀ {n j : Nat} {a : Addr} {xs : List D} {d : D}, ρ[n]? = some a → mh[n]? = some (.lst xs) → xs[j]? = some d → ∃ ys y, H' a = some (.lst ys) ∧ ys[j]? = some y ∧ rep G' cm' ρ' H' d y := by
    intro n j a xs d ha hx hd'
    obtain ⟨ys, e1, e2⟩ := g.chg n a _ (m.ix _ _ ha) hx
    obtain ⟨y, hy, ry⟩ := e2.get hd'
    exact ⟨ys, y, e1, hy, ry.mono deep_nil (Ext.refl _ _) _ _⟩
  cases w with
  | pl dd =>
    have e0 : dd = d := by
      have : some (some dd) = some (some d) := hd
      cases this
      rfl
    subst e0
    cases it with
    | pl v =>
      refine ⟨wk.go i ρ' H' _ e hit trivial, fun x H2 hy => ?_⟩
      obtain ⟨rfl, rfl⟩ := wk.yld i ρ' H' _ x H2 e hit trivial hy
      exact ⟨Ext.refl _ _, g, rep.mv m _ _ r0⟩
    | nt zs =>
      obtain ⟨ds, rfl, r1⟩ := r0
      refine ⟨wk.go i ρ' H' _ e hit trivial, fun x H2 hy => ?_⟩
      obtain ⟨T, rfl, hT, rfl⟩ := wk.yld i ρ' H' _ x H2 e hit trivial hy
      refine ⟨Ext.upd hT, g.new hT, ?_⟩
      unfold rep
      exact ⟨T, zs, rfl, .inl ⟨g.fresh2 hT, upd_same⟩, (reps.mv m _ _ r1).mono (Deeper.refl _) (Ext.upd hT) _ _⟩
    | _ => exact False.elim r0
  | rd n j =>
    cases it with
    | rd a j2 =>
      obtain ⟨rfl, ha⟩ := r0
      obtain ⟨xs, d2, hx, hd2, ed⟩ := rdW_rd hd
      cases ed
      obtain ⟨ys, y, h1, h2, h3⟩ := read ha hx hd2
      have ok : okW G.K H' (.rd a j) := ⟨ys, y, SqL.of h1, h2⟩
      refine ⟨wk.go i ρ' H' _ e hit ok, fun x H2 hy => ?_⟩
      obtain ⟨rfl, q⟩ := wk.yld i ρ' H' _ x H2 e hit ok hy
      have := q ys (SqL.of h1)
      rw [h2] at this
      cases this
      exact ⟨Ext.refl _ _, g, h3⟩
    | _ => exact False.elim r0
  | rp n j =>
    cases it with
    | rp a j2 =>
      obtain ⟨rfl, ha⟩ := r0
      obtain ⟨xs, d2, hx, hd2, ed⟩ := rdW_rp hd
      cases ed
      obtain ⟨ys, y, h1, h2, h3⟩ := read ha hx hd2
      have ok : okW G.K H' (.rp a j) := ⟨ys, y, SqL.of h1, h2⟩
      refine ⟨wk.go i ρ' H' _ e hit ok, fun x H2 hy => ?_⟩
      obtain ⟨T, z, rfl, hT, rfl, q⟩ := wk.yld i ρ' H' _ x H2 e hit ok hy
      have := q ys (SqL.of h1)
      rw [h2] at this
      cases this
      refine ⟨Ext.upd hT, g.new hT, ?_⟩
      unfold rep
      exact ⟨T, _, rfl, .inl ⟨g.fresh2 hT, upd_same⟩, reps.cons (by unfold rep; rfl) (reps.one (h3.mono (Deeper.refl _) (Ext.upd hT) _ _))⟩
    | _ => exact False.elim r0
  | fin n k =>
    obtain ⟨_, _, _, ed⟩ := rdW_fin hd
    cases ed
  | done => cases hd
theorem wk_end {J : L2.It} {its : List WI} {ws : List W} {mh : MH} {i : Nat} {w : W} (wk : Wk G.K ρ H J its) (rv : RW G cm ρ H ws its) (m : Mv G G' cm cm' ρ ρ' H H') (e : Ext ρ H ρ' H') (g : Gd G' ρ' H' mh) (hw : ws[i]? = some w) (hd : rdW mh w = some none) : J.stop i H' := by
  obtain ⟨hl, hr⟩ := rv
  have hi : i < its.length := by rw [hl]; exact (List.getElem?_eq_some_iff.mp hw).1
  have hit : its[i]? = some its[i] := List.getElem?_eq_getElem hi
  have r0 := hr i w _ hw hit
  generalize its[i] = it at hit r0
  cases w with
  | pl dd => cases hd
  | rd n j =>
    obtain ⟨_, _, _, _, ed⟩ := rdW_rd hd
    cases ed
  | rp n j =>
    obtain ⟨_, _, _, _, ed⟩ := rdW_rp hd
    cases ed
  | fin n k =>
    cases it with
    | fin a k2 =>
      obtain ⟨rfl, ha⟩ := r0
      obtain ⟨xs, hx, hk, _⟩ := rdW_fin hd
      obtain ⟨ys, e1, e2⟩ := g.chg n a _ (m.ix _ _ ha) hx
      exact wk.stop i ρ' H' _ e hit ⟨ys, SqL.of e1, by rw [← e2.length, hk]; exact Nat.le_refl _⟩
    | _ => exact False.elim r0
  | done =>
    cases it with
    | done => exact wk.stop i ρ' H' _ e hit trivial
    | _ => exact False.elim r0
end
def plI : List V → List WI
  | [] => [.done]
  | v :: r => .pl v :: plI r
theorem plI_at : ∀ {ys : List V} {i : Nat} {it : WI}, (plI ys)[i]? = some it → (∃ v, it = .pl v ∧ ys[i]? = some v) ∨ (it = .done ∧ i = ys.length)
  | [], 0, it, h => by
    cases h
    exact .inr ⟨rfl, rfl⟩
  | [], i + 1, it, h => by cases h
  | y :: ys, 0, it, h => by
    cases h
    exact .inl ⟨y, rfl, rfl⟩
  | y :: ys, i + 1, it, h => by
    rcases plI_at (ys := ys) (i := i) h with ⟨v, e1, e2⟩ | ⟨e1, e2⟩
    · exact .inl ⟨v, e1, e2⟩
    · exact .inr ⟨e1, by rw [e2]; rfl⟩
section
variable {G : GD} {cm : List (Option CI)} {ρ : List Addr} {H : Hp}
theorem RW.cons {w : W} {x : WI} {ws : List W} {its : List WI} (h : repW G cm ρ H w x) (r : RW G cm ρ H ws its) : RW G cm ρ H (w :: ws) (x :: its) := by
  refine ⟨by rw [List.length_cons, List.length_cons, r.1], fun i w' x' h1 h2 => ?_⟩
  cases i with
  | zero =>
    cases h1
    cases h2
    exact h
  | succ i => exact r.2 i w' x' h1 h2
theorem RW.end_ : RW G cm ρ H [.done] [.done] := by
  refine ⟨rfl, fun i w' x' h1 h2 => ?_⟩
  cases i with
  | zero =>
    cases h1
    cases h2
    trivial
  | succ i => cases h1
theorem rw_pl : ∀ {xs : List D} {ys : List V}, reps G cm ρ H xs ys → RW G cm ρ H (plW xs) (plI ys)
  | [], ys, h => by
    unfold reps at h
    subst h
    exact RW.end_
  | x :: xs, ys, h => by
    unfold reps at h
    obtain ⟨y, r, rfl, h1, h2⟩ := h
    exact RW.cons h1 (rw_pl h2)
theorem wk_list {a : Addr} {ys : List V} (h : Im G ρ H a (.lst ys)) : Wk G.K ρ H (Itl G.K a) (plI ys) where
  go := fun i ρ' H' it e hi ok => by
    have sq : SqL G.K H' a ys := SqL.of (h.ext e fun _ q => by cases q).2
    rcases plI_at hi with ⟨v, rfl, hv⟩ | ⟨rfl, _⟩
    · exact ⟨ys, v, sq, hv⟩
    · exact False.elim ok
  yld := fun i ρ' H' it x H'' e hi ok y => by
    have sq : SqL G.K H' a ys := SqL.of (h.ext e fun _ q => by cases q).2
    rcases plI_at hi with ⟨v, rfl, hv⟩ | ⟨rfl, _⟩
    · have := y.2 ys sq
      rw [hv] at this
      exact ⟨y.1, (Option.some.inj this).symm⟩
    · exact False.elim ok
  stop := fun i ρ' H' it e hi ok => by
    have sq : SqL G.K H' a ys := SqL.of (h.ext e fun _ q => by cases q).2
    rcases plI_at hi with ⟨v, rfl, hv⟩ | ⟨rfl, q⟩
    · exact False.elim ok
    · exact ⟨ys, sq, by rw [q]; exact Nat.le_refl _⟩
theorem wk_tup {a : Addr} {ys : List V} (h : Im G ρ H a (.tup ys) ∨ KT G.K a ys) : Wk G.K ρ H (Itt G.K a) (plI ys) := by
  have key : ∀ {ρ' H'}, Ext ρ H ρ' H' → SqT G.K H' a ys := fun e => by
    rcases h with h | h
    · exact SqT.of (h.ext e fun _ q => by cases q).2
    · exact .inr h
  refine ⟨fun i ρ' H' it e hi ok => ?_, fun i ρ' H' it x H'' e hi ok y => ?_, fun i ρ' H' it e hi ok => ?_⟩
  · rcases plI_at hi with ⟨v, rfl, hv⟩ | ⟨rfl, _⟩
    · exact ⟨ys, v, key e, hv⟩
    · exact False.elim ok
  · rcases plI_at hi with ⟨v, rfl, hv⟩ | ⟨rfl, _⟩
    · have := y.2 ys (key e)
      rw [hv] at this
      exact ⟨y.1, (Option.some.inj this).symm⟩
    · exact False.elim ok
  · rcases plI_at hi with ⟨v, rfl, hv⟩ | ⟨rfl, q⟩
    · exact False.elim ok
    · exact ⟨ys, key e, by rw [q]; exact Nat.le_refl _⟩
theorem wk_str (x : List Nat) : Wk G.K ρ H (Its (SX.S x)) (plI (x.map fun c => V.str (SX.S [c]))) := by
  have lt : ∀ {i v}, (x.map fun c => V.str (SX.S [c]))[i]? = some v → i < (SX.S x).cps.size ∧ ∃ c, x[i]? = some c ∧ v = .str (SX.S [c]) := fun {i v} h => by
    rw [List.getElem?_map] at h
    cases hc : x[i]? with
    | none =>
      rw [hc] at h
      cases h
    | some c =>
      rw [hc] at h
      cases h
      have := (List.getElem?_eq_some_iff.mp hc).1
      exact ⟨by simpa using this, c, rfl, rfl⟩
  refine ⟨fun i ρ' H' it e hi ok => ?_, fun i ρ' H' it y H'' e hi ok h => ?_, fun i ρ' H' it e hi ok => ?_⟩
  · rcases plI_at hi with ⟨v, rfl, hv⟩ | ⟨rfl, _⟩
    · exact (lt hv).1
    · exact False.elim ok
  · rcases plI_at hi with ⟨v, rfl, hv⟩ | ⟨rfl, _⟩
    · obtain ⟨h1, c, h2, h3⟩ := h
      obtain ⟨_, c2, q1, q2⟩ := lt hv
      have : x[i]? = some c := by simpa using h2
      rw [q1] at this
      cases this
      exact ⟨h1, by rw [h3, q2]⟩
    · exact False.elim ok
  · rcases plI_at hi with ⟨v, rfl, hv⟩ | ⟨rfl, q⟩
    · exact False.elim ok
    · rw [List.length_map] at q
      show (SX.S x).cps.size ≤ i
      rw [q]
      simp
theorem reps_signs : ∀ x : List Nat, reps G cm ρ H (x.map fun c => D.str [c]) (x.map fun c => V.str (SX.S [c]))
  | [] => reps.nil
  | c :: x => reps.cons (by unfold rep; rfl) (reps_signs x)
def intsV (lo : Int) (n : Nat) : List V := (List.range n).map fun i => V.int (lo + (i : Nat))
theorem intsV_succ (lo : Int) (n : Nat) : intsV lo (n + 1) = V.int lo :: intsV (lo + 1) n := by
  unfold intsV
  rw [List.range_succ_eq_map, List.map_cons, List.map_map]
  congr 1
  · simp
  · apply List.map_congr_left
    intro i _
    show V.int (lo + ((i + 1 : Nat) : Int)) = V.int (lo + 1 + (i : Int))
    congr 1
    omega
theorem reps_ints : ∀ (n : Nat) (lo : Int), reps G cm ρ H (intsFrom lo n) (intsV lo n)
  | 0, lo => reps.nil
  | n + 1, lo => by
    rw [intsV_succ]
    unfold intsFrom
    exact reps.cons (by unfold rep; rfl) (reps_ints n (lo + 1))
theorem intsV_at {lo : Int} {n i : Nat} {v : V} (h : (intsV lo n)[i]? = some v) : i < n ∧ v = .int (lo + (i : Nat)) := by
  unfold intsV at h
  rw [List.getElem?_map] at h
  have hi : i < n := by
    by_cases hi : i < n
    · exact hi
    · rw [List.getElem?_eq_none (by rw [List.length_range]; omega)] at h
      cases h
  rw [List.getElem?_range hi] at h
  cases h
  exact ⟨hi, rfl⟩
theorem wk_rng (lo : Int) (n : Nat) : Wk G.K ρ H (Itr lo n) (plI (intsV lo n)) where
  go := fun i ρ' H' it e hi ok => by
    rcases plI_at hi with ⟨v, rfl, hv⟩ | ⟨rfl, _⟩
    · exact (intsV_at hv).1
    · exact False.elim ok
  yld := fun i ρ' H' it x H'' e hi ok h => by
    rcases plI_at hi with ⟨v, rfl, hv⟩ | ⟨rfl, _⟩
    · exact ⟨h.1, by rw [h.2, (intsV_at hv).2]⟩
    · exact False.elim ok
  stop := fun i ρ' H' it e hi ok => by
    rcases plI_at hi with ⟨v, rfl, hv⟩ | ⟨rfl, q⟩
    · exact False.elim ok
    · show n ≤ i
      unfold intsV at q
      rw [List.length_map, List.length_range] at q
      omega
/-! changed lists, pairs -/
def upI (f : Nat → WI) (z : WI) : Nat → Nat → List WI
  | _, 0 => [z]
  | i, m + 1 => f i :: upI f z (i + 1) m
theorem upI_at {f : Nat → WI} {z : WI} : ∀ {m b i : Nat} {it : WI}, (upI f z b m)[i]? = some it → (i < m ∧ it = f (b + i)) ∨ (i = m ∧ it = z)
  | 0, b, 0, it, h => by
    cases h
    exact .inr ⟨rfl, rfl⟩
  | 0, b, i + 1, it, h => by cases h
  | m + 1, b, 0, it, h => by
    cases h
    exact .inl ⟨Nat.succ_pos _, rfl⟩
  | m + 1, b, i + 1, it, h => by
    rcases upI_at (m := m) (b := b + 1) (i := i) h with ⟨e1, e2⟩ | ⟨e1, e2⟩
    · exact .inl ⟨by omega, by rw [e2]; congr 1; omega⟩
    · exact .inr ⟨by omega, e2⟩
theorem rw_up {f : Nat → W} {f' : Nat → WI} {z : W} {z' : WI} (hf : ∀ i, repW G cm ρ H (f i) (f' i)) (hz : repW G cm ρ H z z') : ∀ (m b : Nat), RW G cm ρ H (upW f z b m) (upI f' z' b m)
  | 0, b => by
    refine ⟨rfl, fun i w' x' h1 h2 => ?_⟩
    cases i with
    | zero =>
      cases h1
      cases h2
      exact hz
    | succ i => cases h1
  | m + 1, b => RW.cons (hf b) (rw_up hf hz m (b + 1))
theorem wk_ref (K : PySem.W.Frag) (a : Addr) (m : Nat) : Wk K ρ H (Itl K a) (upI (.rd a) (.fin a m) 0 m) where
  go := fun i ρ' H' it e hi ok => by
    rcases upI_at hi with ⟨_, rfl⟩ | ⟨_, rfl⟩
    · rw [Nat.zero_add] at ok
      exact ok
    · exact False.elim ok
  yld := fun i ρ' H' it x H'' e hi ok h => by
    rcases upI_at hi with ⟨_, rfl⟩ | ⟨_, rfl⟩
    · rw [Nat.zero_add]
      exact h
    · exact False.elim ok
  stop := fun i ρ' H' it e hi ok => by
    rcases upI_at hi with ⟨_, rfl⟩ | ⟨q, rfl⟩
    · exact False.elim ok
    · rw [← q] at ok
      exact ok
theorem wk_refE (K : PySem.W.Frag) (a : Addr) (m : Nat) : Wk K ρ H (Ite K a) (upI (.rp a) (.fin a m) 0 m) where
  go := fun i ρ' H' it e hi ok => by
    rcases upI_at hi with ⟨_, rfl⟩ | ⟨_, rfl⟩
    · rw [Nat.zero_add] at ok
      exact ok
    · exact False.elim ok
  yld := fun i ρ' H' it x H'' e hi ok h => by
    rcases upI_at hi with ⟨_, rfl⟩ | ⟨_, rfl⟩
    · rw [Nat.zero_add]
      obtain ⟨T, z, q1, q2, q3, q4⟩ := h
      exact ⟨T, z, q1, q2, q3, q4⟩
    · exact False.elim ok
  stop := fun i ρ' H' it e hi ok => by
    rcases upI_at hi with ⟨_, rfl⟩ | ⟨q, rfl⟩
    · exact False.elim ok
    · rw [← q] at ok
      exact ok
def enI : Nat → List V → List WI
  | _, [] => [.done]
  | i, v :: r => .nt [.int (i : Nat), v] :: enI (i + 1) r
theorem enI_at : ∀ {ys : List V} {b i : Nat} {it : WI}, (enI b ys)[i]? = some it → (∃ v, it = .nt [.int ((b + i : Nat) : Int), v] ∧ ys[i]? = some v) ∨ (it = .done ∧ i = ys.length)
  | [], b, 0, it, h => by
    cases h
    exact .inr ⟨rfl, rfl⟩
  | [], b, i + 1, it, h => by cases h
  | y :: ys, b, 0, it, h => by
    cases h
    exact .inl ⟨y, rfl, rfl⟩
  | y :: ys, b, i + 1, it, h => by
    rcases enI_at (ys := ys) (b := b + 1) (i := i) h with ⟨v, e1, e2⟩ | ⟨e1, e2⟩
    · exact .inl ⟨v, by rw [e1, show b + 1 + i = b + (i + 1) by omega], e2⟩
    · exact .inr ⟨e1, by rw [e2]; rfl⟩
theorem rw_en : ∀ {xs : List D} {ys : List V} (b : Nat), reps G cm ρ H xs ys → RW G cm ρ H (enumL b xs) (enI b ys)
  | [], ys, b, h => by
    unfold reps at h
    subst h
    exact RW.end_
  | x :: xs, ys, b, h => by
    unfold reps at h
    obtain ⟨y, r, rfl, h1, h2⟩ := h
    exact RW.cons ⟨_, rfl, reps.cons (by unfold rep; rfl) (reps.one h1)⟩ (rw_en (b + 1) h2)
theorem wk_en {a : Addr} {ys : List V} (h : Im G ρ H a (.lst ys)) : Wk G.K ρ H (Ite G.K a) (enI 0 ys) where
  go := fun i ρ' H' it e hi ok => by
    have sq : SqL G.K H' a ys := SqL.of (h.ext e fun _ q => by cases q).2
    rcases enI_at hi with ⟨v, rfl, hv⟩ | ⟨rfl, _⟩
    · exact ⟨ys, v, sq, hv⟩
    · exact False.elim ok
  yld := fun i ρ' H' it x H'' e hi ok y => by
    have sq : SqL G.K H' a ys := SqL.of (h.ext e fun _ q => by cases q).2
    rcases enI_at hi with ⟨v, rfl, hv⟩ | ⟨rfl, _⟩
    · obtain ⟨T, z, q1, q2, q3, q4⟩ := y
      have := q4 ys sq
      rw [hv] at this
      cases this
      rw [Nat.zero_add]
      exact ⟨T, q1, q2, q3⟩
    · exact False.elim ok
  stop := fun i ρ' H' it e hi ok => by
    have sq : SqL G.K H' a ys := SqL.of (h.ext e fun _ q => by cases q).2
    rcases enI_at hi with ⟨v, rfl, hv⟩ | ⟨rfl, q⟩
    · exact False.elim ok
    · exact ⟨ys, sq, by rw [q]; exact Nat.le_refl _⟩
def ziI : List V → List V → List WI
  | a :: r, b :: s => .nt [a, b] :: ziI r s
  | _, _ => [.done]
theorem ziI_at : ∀ {ys zs : List V} {i : Nat} {it : WI}, (ziI ys zs)[i]? = some it → (∃ v w, it = .nt [v, w] ∧ ys[i]? = some v ∧ zs[i]? = some w) ∨ (it = .done ∧ (ys.length ≤ i ∨ zs.length ≤ i))
  | [], zs, 0, it, h => by
    unfold ziI at h
    cases h
    exact .inr ⟨rfl, .inl (Nat.le_refl _)⟩
  | [], zs, i + 1, it, h => by
    unfold ziI at h
    cases h
  | y :: ys, [], 0, it, h => by
    unfold ziI at h
    cases h
    exact .inr ⟨rfl, .inr (Nat.le_refl _)⟩
  | y :: ys, [], i + 1, it, h => by
    unfold ziI at h
    cases h
  | y :: ys, z :: zs, 0, it, h => by
    unfold ziI at h
    cases h
    exact .inl ⟨y, z, rfl, rfl, rfl⟩
  | y :: ys, z :: zs, i + 1, it, h => by
    unfold ziI at h
    rcases ziI_at (ys := ys) (zs := zs) (i := i) h with ⟨v, w, e1, e2⟩ | ⟨e1, e2⟩
    · exact .inl ⟨v, w, e1, e2⟩
    · exact .inr ⟨e1, e2.imp (fun q => Nat.succ_le_succ q) fun q => Nat.succ_le_succ q⟩
theorem rw_zi : ∀ {xs us : List D} {ys vs : List V}, reps G cm ρ H xs ys → reps G cm ρ H us vs → RW G cm ρ H (zipL xs us) (ziI ys vs)
  | [], us, ys, vs, h, _ => by
    unfold reps at h
    subst h
    unfold zipL ziI
    exact RW.end_
  | x :: xs, [], ys, vs, h, h2 => by
    unfold reps at h h2
    obtain ⟨y, r, rfl, _⟩ := h
    subst h2
    unfold zipL ziI
    exact RW.end_
  | x :: xs, u :: us, ys, vs, h, h2 => by
    unfold reps at h h2
    obtain ⟨y, r, rfl, h1, h3⟩ := h
    obtain ⟨z, s, rfl, h4, h5⟩ := h2
    unfold zipL ziI
    exact RW.cons ⟨_, rfl, reps.cons h1 (reps.one h4)⟩ (rw_zi h3 h5)
theorem wk_zi {a b : Addr} {ys zs : List V} (h : Im G ρ H a (.lst ys)) (h2 : Im G ρ H b (.lst zs)) : Wk G.K ρ H (Itz G.K a b) (ziI ys zs) where
  go := fun i ρ' H' it e hi ok => by
    have sq : SqL G.K H' a ys := SqL.of (h.ext e fun _ q => by cases q).2
    have sq2 : SqL G.K H' b zs := SqL.of (h2.ext e fun _ q => by cases q).2
    rcases ziI_at hi with ⟨v, w, rfl, hv, hw⟩ | ⟨rfl, _⟩
    · exact ⟨ys, zs, v, w, sq, sq2, hv, hw⟩
    · exact False.elim ok
  yld := fun i ρ' H' it x H'' e hi ok y => by
    have sq : SqL G.K H' a ys := SqL.of (h.ext e fun _ q => by cases q).2
    have sq2 : SqL G.K H' b zs := SqL.of (h2.ext e fun _ q => by cases q).2
    rcases ziI_at hi with ⟨v, w, rfl, hv, hw⟩ | ⟨rfl, _⟩
    · obtain ⟨T, x1, x2, q1, q2, q3, q4, q5⟩ := y
      have t1 := q4 ys sq
      have t2 := q5 zs sq2
      rw [hv] at t1
      rw [hw] at t2
      cases t1
      cases t2
      exact ⟨T, q1, q2, q3⟩
    · exact False.elim ok
  stop := fun i ρ' H' it e hi ok => by
    have sq : SqL G.K H' a ys := SqL.of (h.ext e fun _ q => by cases q).2
    have sq2 : SqL G.K H' b zs := SqL.of (h2.ext e fun _ q => by cases q).2
    rcases ziI_at hi with ⟨v, w, rfl, _⟩ | ⟨rfl, q⟩
    · exact False.elim ok
    · exact ⟨ys, zs, sq, sq2, q⟩
end
section
variable {G : GD} {Y : GX} {cf : CF} {k : Nat} {C : SC} {J : JC} {cm : List (Option CI)} {o : List Fr} {X : Cx}
/-- a walked thing, sound -/
def SI (G : GD) (Y : GX) (cf : CF) (k : Nat) (C : SC) (it : Iw) (tg a : Expr) : Prop := ∀ τ X cm o, CtxOk (G.tm τ) Y C k cm o X → ∀ ρ H mh σ fr, StR (G.tm τ) cm X o ρ H mh σ fr → ∀ Rq : L2.It → Hp → Prop,
  RK (G.tm τ) Y X σ (rI (G.tm τ) cm) ρ H (evI Y.g cf o it fr mh) Rq → wI X tg a σ H Rq
theorem si_e {a : E} {a' tg : Expr} (ha : SE G Y cf k C a a') : SI G Y cf k C (.e a) tg a' := fun τ X cm o cx ρ H mh σ fr st Rq h => by
  unfold evI at h
  have h1 := ha τ X cm o cx ρ H mh σ fr st
  revert h h1
  cases evE Y.g cf o a fr mh with
  | stk => exact fun h _ => False.elim h
  | exc c mh1 => exact fun h h1 => of_pi (pi_list pe_w) (h1 _ h)
  | ok d mh1 =>
    intro h h1
    have h : RK (G.tm τ) Y X σ (rI (G.tm τ) cm) ρ H (R.opt mh1 (walkOf mh1 d)) Rq := h
    cases d with
    | str x =>
      refine of_pi (pi_str pe_w) (h1 _ fun ρ' H' v e g r => ?_)
      unfold rep at r
      refine ⟨_, r, ?_⟩
      by_cases hz : Nat.ble x.length line = true
      · have e1 : walkOf mh1 (.str x) = some (plW (x.map fun c => .str [c])) := by
          have e0 : itemsOf mh1 (.str x) = some (x.map fun c => .str [c]) := if_pos hz
          show (match itemsOf mh1 (.str x) with
            | some xs => some (plW xs)
            | none => none) = _
          rw [e0]
        rw [e1] at h
        exact h ρ' H' _ e g ⟨_, rw_pl (reps_signs x), wk_str x⟩
      · have e1 : walkOf mh1 (.str x) = none := by
          have e0 : itemsOf mh1 (.str x) = none := if_neg hz
          show (match itemsOf mh1 (.str x) with
            | some xs => some (plW xs)
            | none => none) = _
          rw [e0]
        rw [e1] at h
        exact False.elim h
    | lst xs =>
      refine of_pi (pi_list pe_w) (h1 _ fun ρ' H' v e g r => ?_)
      unfold rep at r
      obtain ⟨a, ys, rfl, e2, e3⟩ := r
      refine ⟨a, rfl, ⟨ys, SqL.of e2.2⟩, ?_⟩
      rw [cx.K]
      exact h ρ' H' _ e g ⟨_, rw_pl e3, wk_list (G := G.tm τ) e2⟩
    | tup xs =>
      refine of_pi (pi_tup pe_w) (h1 _ fun ρ' H' v e g r => ?_)
      unfold rep at r
      obtain ⟨a, ys, rfl, e2, e3⟩ := r
      refine ⟨a, rfl, ⟨ys, ?_⟩, ?_⟩
      · rw [cx.K]
        rcases e2 with e2 | e2
        · exact SqT.of e2.2
        · exact .inr e2
      · rw [cx.K]
        exact h ρ' H' _ e g ⟨_, rw_pl e3, wk_tup (G := G.tm τ) e2⟩
    | ref n =>
      unfold walkOf at h
      refine of_pi (pi_list pe_w) (h1 _ fun ρ' H' v e g r => ?_)
      unfold rep at r
      obtain ⟨a, rfl, ha⟩ := r
      dsimp only at h
      split at h
      · rename_i xs hx
        obtain ⟨ys, q1, q2⟩ := g.chg n a _ ha hx
        refine ⟨a, rfl, ⟨ys, SqL.of q1⟩, ?_⟩
        rw [cx.K]
        exact h ρ' H' _ e g ⟨_, rw_up (f := .rd n) (f' := .rd a) (z := .fin n _) (z' := .fin a _) (fun i => ⟨rfl, ha⟩) ⟨rfl, ha⟩ _ 0, wk_ref _ a _⟩
      · exact False.elim h
    | _ => exact False.elim h
theorem rng_of {j : Int} (h : rngOk j = true) : -(2 ^ 62) ≤ j ∧ j < 2 ^ 62 := by
  unfold rngOk at h
  rw [Bool.and_eq_true, decide_eq_true_eq, decide_eq_true_eq] at h
  constructor
  · have := h.1; omega
  · have := h.2; omega
def Es.len : Es → Nat
  | .nil => 0
  | .cons _ es => es.len + 1
theorem bind_ok {α β : Type} {r : R α} {f : α → MH → R β} {b : β} {h' : MH} (h : r.bind f = .ok b h') : ∃ a h1, r = .ok a h1 ∧ f a h1 = .ok b h' := by
  cases r with
  | ok a h1 => exact ⟨a, h1, rfl, h⟩
  | exc c h1 => cases h
  | stk => cases h
theorem evEs_len {g : Pg} {cf : CF} {o : List Fr} : ∀ {es : Es} {fr : Fr} {h h' : MH} {ds : List D}, evEs g cf o es fr h = .ok ds h' → ds.length = es.len
  | .nil, fr, h, h', ds, e => by
    unfold evEs at e
    cases e
    rfl
  | .cons a es, fr, h, h', ds, e => by
    unfold evEs at e
    obtain ⟨x, h1, e1, e2⟩ := bind_ok e
    obtain ⟨xs, h2, e3, e4⟩ := bind_ok e2
    cases e4
    show xs.length + 1 = es.len + 1
    rw [evEs_len e3]
theorem si_rng1 (ok : GOk J G Y) {es : Es} {a' tg : Expr} {p pos : Pos} (hg : C.sc.names.lookup ("range" : Str) = some .globalImplicit) (hb : J.bok "range" = true) (hp : pl a' = true) (hn : es.len = 1) (ha : SEs G Y cf k C es [a']) : SI G Y cf k C (.rng es) tg (.Call (.Name "range" p) [a'] [] pos) := fun τ X cm o cx ρ H mh σ fr st Rq h => by
  unfold evI at h
  refine of_pi (pi_range1 (gl_of cx hg) (by rw [cx.mg]; exact ok.bok _ hb) pa_w (pl_star hp)) ?_
  refine ha τ X cm o cx ρ H mh σ fr st _ (h.seq fun d1 mh1 ρ1 H1 v1 eq e1 g1 r1 h1 => ?_)
  have hl := evEs_len eq
  rw [hn] at hl
  unfold R.opt at h1
  split at h1
  · rename_i xs hx
    obtain ⟨xs0, hx, exs⟩ := Option.map_eq_some_iff.mp hx
    unfold rngV at hx
    split at hx
    · split at hx
      · rename_i hj
        cases hx
        subst exs
        rw [Bool.and_eq_true] at hj
        obtain ⟨v, rfl, rv⟩ := one_of r1
        unfold rep at rv
        subst rv
        obtain ⟨b1, b2⟩ := rng_of hj.1
        exact ⟨_, rfl, b1, b2, h1 ρ1 H1 _ (Ext.refl _ _) g1 ⟨_, rw_pl (reps_ints _ _), wk_rng _ _⟩⟩
      · cases hx
    · cases hl
    · cases hx
  · exact False.elim h1
theorem si_rng2 (ok : GOk J G Y) {es : Es} {a' b' tg : Expr} {p pos : Pos} (hg : C.sc.names.lookup ("range" : Str) = some .globalImplicit) (hb : J.bok "range" = true) (hp : pl a' = true) (hp2 : pl b' = true) (hn : es.len = 2) (ha : SEs G Y cf k C es [a', b']) : SI G Y cf k C (.rng es) tg (.Call (.Name "range" p) [a', b'] [] pos) := fun τ X cm o cx ρ H mh σ fr st Rq h => by
  unfold evI at h
  have s2 : starEach [b'] X.env = [(false, eval b' X.env)] := pl_star hp2
  refine of_pi (pi_range2 (gl_of cx hg) (by rw [cx.mg]; exact ok.bok _ hb) pa_w (by rw [pl_star hp, s2]) s2) ?_
  refine ha τ X cm o cx ρ H mh σ fr st _ (h.seq fun d1 mh1 ρ1 H1 v1 eq e1 g1 r1 h1 => ?_)
  have hl := evEs_len eq
  rw [hn] at hl
  unfold R.opt at h1
  split at h1
  · rename_i xs hx
    obtain ⟨xs0, hx, exs⟩ := Option.map_eq_some_iff.mp hx
    unfold rngV at hx
    split at hx
    · cases hl
    · split at hx
      · rename_i hj
        cases hx
        subst exs
        rw [Bool.and_eq_true, Bool.and_eq_true] at hj
        obtain ⟨v, w, rfl, rv, rw'⟩ := two_of r1
        unfold rep at rv rw'
        subst rv rw'
        obtain ⟨b1, b2⟩ := rng_of hj.1.1
        obtain ⟨b3, b4⟩ := rng_of hj.1.2
        exact ⟨_, _, rfl, ⟨b1, b2, b3, b4⟩, h1 ρ1 H1 _ (Ext.refl _ _) g1 ⟨_, rw_pl (reps_ints _ _), wk_rng _ _⟩⟩
      · cases hx
    · cases hx
  · exact False.elim h1

theorem si_enum (ok : GOk J G Y) {es : Es} {a' : Expr} {elts : List Expr} {kk : Nat} {tpos p pos : Pos} (hg : C.sc.names.lookup ("enumerate" : Str) = some .globalImplicit) (hb : J.bok "enumerate" = true) (hp : pl a' = true) (ha : SEs G Y cf k C es [a']) : SI G Y cf k C (.enum es) (.Tuple elts kk tpos) (.Call (.Name "enumerate" p) [a'] [] pos) := fun τ X cm o cx ρ H mh σ fr st Rq h => by
  unfold evI at h
  refine of_pi (pi_enum (gl_of cx hg) (by rw [cx.mg]; exact ok.bok _ hb) pa_w (pl_star hp)) ?_
  refine ha τ X cm o cx ρ H mh σ fr st _ (h.seq fun d1 mh1 ρ1 H1 v1 eq e1 g1 r1 h1 => ?_)
  unfold R.opt at h1
  split at h1
  · rename_i xs hx
    unfold enumOf at hx
    split at hx
    · rename_i n
      split at hx
      · rename_i ls hl
        cases hx
        obtain ⟨v, rfl, rv⟩ := one_of r1
        unfold rep at rv
        obtain ⟨a, rfl, ha⟩ := rv
        obtain ⟨ys, q1, q2⟩ := g1.chg n a _ ha hl
        refine ⟨a, ys, rfl, SqL.of q1, ?_⟩
        rw [cx.K]
        exact h1 ρ1 H1 _ (Ext.refl _ _) g1 ⟨_, rw_up (f := .rp n) (f' := .rp a) (z := .fin n _) (z' := .fin a _) (fun i => ⟨rfl, ha⟩) ⟨rfl, ha⟩ _ 0, wk_refE _ a _⟩
      · cases hx
    · rename_i ls
      cases hx
      obtain ⟨v, rfl, rv⟩ := one_of r1
      unfold rep at rv
      obtain ⟨a, ys, rfl, e2, e3⟩ := rv
      refine ⟨a, ys, rfl, SqL.of e2.2, ?_⟩
      rw [cx.K]
      exact h1 ρ1 H1 _ (Ext.refl _ _) g1 ⟨_, rw_en 0 e3, wk_en (G := G.tm τ) e2⟩
    · cases hx
  · exact False.elim h1
theorem si_zip (ok : GOk J G Y) {es : Es} {a' b' : Expr} {elts : List Expr} {kk : Nat} {tpos p pos : Pos} (hg : C.sc.names.lookup ("zip" : Str) = some .globalImplicit) (hb : J.bok "zip" = true) (hp : pl a' = true) (hp2 : pl b' = true) (ha : SEs G Y cf k C es [a', b']) : SI G Y cf k C (.zip es) (.Tuple elts kk tpos) (.Call (.Name "zip" p) [a', b'] [] pos) := fun τ X cm o cx ρ H mh σ fr st Rq h => by
  unfold evI at h
  have s2 : starEach [b'] X.env = [(false, eval b' X.env)] := pl_star hp2
  refine of_pi (pi_zip (gl_of cx hg) (by rw [cx.mg]; exact ok.bok _ hb) pa_w (by rw [pl_star hp, s2]) (by rw [s2]; rfl)) ?_
  refine ha τ X cm o cx ρ H mh σ fr st _ (h.seq fun d1 mh1 ρ1 H1 v1 eq e1 g1 r1 h1 => ?_)
  unfold R.opt at h1
  split at h1
  · rename_i xs hx
    unfold zipOf at hx
    split at hx
    · rename_i ls ms
      cases hx
      obtain ⟨v, w, rfl, rv, rw'⟩ := two_of r1
      unfold rep at rv rw'
      obtain ⟨a, ys, rfl, e2, e3⟩ := rv
      obtain ⟨b, zs, rfl, f2, f3⟩ := rw'
      refine ⟨a, b, ys, zs, rfl, SqL.of e2.2, SqL.of f2.2, ?_⟩
      rw [cx.K]
      exact h1 ρ1 H1 _ (Ext.refl _ _) g1 ⟨_, rw_zi e3 f3, wk_zi (G := G.tm τ) e2 f2⟩
    · cases hx
  · exact False.elim h1

/-! ### list comprehensions -/
/-- the text of a comprehension's block -/
def blkSC (C : SC) (scope : Scope) : SC := { N := C.N, sc := relS scope C.sc, fnc := fun x => decide (scope.names.lookup x = some .cell), hasT := C.hasT, hasL := false, L := C.L, gn := C.gn }
theorem CtxOk.blk {scope : Scope} {f : Fr} (cx : CtxOk G Y C k cm o X) (hk : scope.kind = .function) (s : Shared) (H : Hp) (cl : List (Str × Addr)) (D : Addr) (fp : List Addr) : CtxOk G Y (blkSC C scope) k (cm ++ [none]) (f :: o) (X.blk s H scope (compEnvC scope cl D X.env) fp) where
  prog := cx.prog
  w := cx.w
  K := cx.K
  mg := cx.mg
  N := cx.N
  nd := cx.nd
  sc := by
    show relabel scope X.env = relS scope C.sc
    rw [← cx.sc]
    rfl
  kind := hk
  calm := cx.calm
  fn := fun x h => by
    have h : decide (scope.names.lookup x = some .cell) = true := h
    show (scope.names.lookup x == some .cell) = true
    rw [of_decide_eq_true h]
    rfl
  room := cx.room
  base := cx.base
  code := cx.code
  lamf := fun h => by cases h
  nlam := fun _ => by
    have e : (f :: o).length = cm.length := by rw [cx.len]; rfl
    rw [e, List.getElem?_append_right (Nat.le_refl _), Nat.sub_self]
    rfl
  lamc := fun h => by cases h
  own := fun ci h => by
    have e : (f :: o).length = cm.length := by rw [cx.len]; rfl
    rw [e, List.getElem?_append_right (Nat.le_refl _), Nat.sub_self] at h
    cases h
  len := by rw [List.length_append, cx.len]; rfl
  pa := fun h => by cases h
theorem frameAt_blk {o : List Fr} {d : Nat} {f : Fr} (h : frameAt ([] :: o) d = some f) : (d < o.length ∧ frameAt o d = some f) ∨ f = [] := by
  unfold frameAt at h ⊢
  rw [List.length_cons] at h
  by_cases hd : d < o.length
  · left
    refine ⟨hd, ?_⟩
    rw [if_pos hd]
    rw [if_pos (by omega)] at h
    have e : o.length + 1 - 1 - d = (o.length - 1 - d) + 1 := by omega
    rw [e] at h
    exact h
  · right
    by_cases hd2 : d < o.length + 1
    · rw [if_pos hd2] at h
      have e : o.length + 1 - 1 - d = 0 := by omega
      rw [e] at h
      exact (Option.some.inj h).symm
    · rw [if_neg hd2] at h
      cases h
theorem OutB.blk {base : Heap} {ρ : List Addr} {H : Hp} (hl : cm.length = o.length + 1) (r : OutB G cm base ρ H o) : OutB G (cm ++ [none]) base ρ H ([] :: o) := fun d ci f h1 h2 h3 => by
  rcases frameAt_blk h2 with ⟨hd, h2⟩ | h2
  · rw [List.getElem?_append_left (by omega)] at h1
    exact (r d ci f h1 h2 h3).mv (fun _ _ z => z) fun d v z => z.mono (Deeper.app _ _) (Ext.refl _ _)
  · exact absurd h2 h3
/-- the tests of a comprehension -/
inductive SIf (G : GD) (Y : GX) (cf : CF) (k : Nat) (C : SC) : Cs → List Expr → Prop
  | none : SIf G Y cf k C .nil []
  | one {t : Ct} {e : Expr} : ST G Y cf k C t e → SIf G Y cf k C (.cons t .nil) [e]
def wTs (X : Cx) (ifs : List Expr) : TT := fun σ H Q => ∀ pins s, Inv X pins σ H s → wpAny (model X.prog X.w) X.A (forIn ifs true fun c r => if r = true then do let ok ← isTrue c X.env (eval c X.env); pure (ForInStep.yield ok) else pure (ForInStep.yield r)) (TP X pins σ Q) X.xe s
theorem sif_run {τ : List Addr} {cs : Cs} {ifs : List Expr} (hs : SIf G Y cf k C cs ifs) (cx : CtxOk (G.tm τ) Y C k cm o X) {ρ : List Addr} {H : Hp} {mh : MH} {σ : L2.St} {fr : Fr} (st : StR (G.tm τ) cm X o ρ H mh σ fr) {Q : Bool → Hp → Prop}
    (h : RK (G.tm τ) Y X σ rB1 ρ H (evTs Y.g cf o true cs fr mh) Q) : wTs X ifs σ H Q := by
  cases hs with
  | none =>
    unfold evTs at h
    exact fun pins s I => pts_nil.run pins s σ H Q I (rb_ok st.gd h)
  | one ht =>
    unfold evTs at h
    have key := ht τ X cm o cx ρ H mh σ fr st Q (h.seq fun d1 mh1 ρ1 H1 v1 _ e1 g1 r1 h1 => by
      have r1 : d1 = v1 := r1
      subst r1
      unfold evTs at h1
      cases d1
      · exact rb_ok g1 h1
      · exact rb_ok g1 h1)
    exact fun pins s I => (pts_one pt_w).run pins s σ H Q I key
theorem mapW_noexc {f : D → MH → R (Option D)} (hf : ∀ x h c h', f x h ≠ .exc c h') : ∀ (xs : List W) (h : MH) (c : Nat) (h' : MH), mapW f xs h ≠ .exc c h'
  | [], h, c, h', e => by unfold mapW at e; cases e
  | x :: xs, h, c, h', e => by
    unfold mapW at e
    split at e
    · rename_i x' _
      cases hx : f x' h with
      | ok o h1 =>
        rw [hx] at e
        have e : (mapW f xs h1).bind _ = .exc c h' := e
        cases hr : mapW f xs h1 with
        | ok ys h2 =>
          rw [hr] at e
          cases e
        | exc c2 h2 => exact mapW_noexc hf xs h1 c2 h2 hr
        | stk =>
          rw [hr] at e
          cases e
      | exc c2 h2 => exact hf x' h c2 h2 hx
      | stk =>
        rw [hx] at e
        cases e
    · cases e
    · cases e
theorem noX_ok {α : Type} {r : R α} {a : α} {h : MH} (e : r.noX = .ok a h) : r = .ok a h := by
  cases r with
  | ok b h2 => exact e
  | exc c h2 => cases e
  | stk => cases e
theorem noX_exc {α : Type} {r : R α} {c : Nat} {h : MH} : r.noX ≠ .exc c h := by
  cases r <;> (intro e; cases e)
/-- a turn of a comprehension -/
def lcF (g : Pg) (cf : CF) (o : List Fr) (own : List Nat) (t : T) (ifs : Cs) (e : E) (fr : Fr) (x : D) (h2 : MH) : R (Option D) :=
  match asg t x (wipeF fr own) with
  | some fr1 => (evTs g cf o true ifs fr1 h2).noX.bind fun b h3 => (match b with
    | true => (evE g cf o e fr1 h3).noX.bind fun y h4 => .ok (some y) h4
    | false => .ok none h3)
  | none => .stk
theorem lcF_noexc {g : Pg} {cf : CF} {o : List Fr} {own : List Nat} {t : T} {ifs : Cs} {e : E} {fr : Fr} (x : D) (h : MH) (c : Nat) (h' : MH) : lcF g cf o own t ifs e fr x h ≠ .exc c h' := by
  intro q
  unfold lcF at q
  split at q
  · rename_i fr1 _
    cases h1 : (evTs g cf o true ifs fr1 h).noX with
    | ok b h3 =>
      rw [h1] at q
      cases b with
      | true =>
        have q : (evE g cf o e fr1 h3).noX.bind (fun y h4 => R.ok (some y) h4) = .exc c h' := q
        cases h2 : (evE g cf o e fr1 h3).noX with
        | ok y h4 =>
          rw [h2] at q
          cases q
        | exc c2 h4 => exact noX_exc h2
        | stk =>
          rw [h2] at q
          cases q
      | false => cases q
    | exc c2 h3 => exact noX_exc h1
    | stk =>
      rw [h1] at q
      cases q
  · cases q
/-- a turn, or the end -/
theorem mapW_cons {f : D → MH → R (Option D)} {w : W} {xs : List W} {zs : List D} {h h' : MH} (e : mapW f (w :: xs) h = .ok zs h') :
    (∃ x o h1 ys, rdW h w = some (some x) ∧ f x h = .ok o h1 ∧ mapW f xs h1 = .ok ys h' ∧ zs = (match o with | some y => y :: ys | none => ys)) ∨ (rdW h w = some none ∧ zs = [] ∧ h' = h) := by
  unfold mapW at e
  split at e
  · rename_i x hx
    obtain ⟨o, h1, e1, e2⟩ := bind_ok e
    obtain ⟨ys, h2, e3, e4⟩ := bind_ok e2
    cases e4
    exact .inl ⟨x, o, h1, ys, hx, e1, e3, rfl⟩
  · rename_i hx
    cases e
    exact .inr ⟨hx, rfl, rfl⟩
  · cases e
theorem Gd.less {τ τ' : List Addr} {ρ : List Addr} {H : Hp} {mh : MH} (g : Gd (G.tm τ) ρ H mh) (h : ∀ a ∈ τ', a ∈ τ) : Gd (G.tm τ') ρ H mh where
  len := g.len
  nd := g.nd
  chg := fun n a o e1 e2 => by
    have := g.chg n a o e1 e2
    cases o with
    | gone => exact this
    | lst xs =>
      obtain ⟨ys, q1, q2⟩ := this
      exact ⟨ys, q1, q2.mv (Mv.less h) _ _⟩
    | dic xs =>
      obtain ⟨ys, q1, q2⟩ := this
      exact ⟨ys, q1, q2.mv (Mv.less h) _ _⟩
    | ins c fs =>
      obtain ⟨dx, ys, q1, q2⟩ := this
      exact ⟨dx, ys, q1, q2.mv (Mv.less h) _ _⟩
  tab := g.tab
  tmp := fun a m => g.tmp a (h a m)
/-- a new list, to be filled -/
theorem Gd.more {τ : List Addr} {ρ : List Addr} {H : Hp} {mh : MH} {p : Addr} (g : Gd (G.tm τ) ρ H mh) (h : H p = none) (xs : List V) : Gd (G.tm (p :: τ)) ρ (upd H p (.lst xs)) mh := by
  have g2 : Gd (G.tm τ) ρ (upd H p (.lst xs)) mh := g.new h
  refine ⟨g2.len, g2.nd, fun n a o e1 e2 => ?_, g2.tab, fun a m => ?_⟩
  · have k0 := g.chg n a o e1 e2
    obtain ⟨u, hu, _⟩ := k0.there
    have ha : upd H p (.lst xs) a = H a := by rw [upd_ne (ne_of_none hu h)]
    have ex : Ext ρ H ρ (upd H p (.lst xs)) := Ext.upd h
    cases o with
    | gone =>
      obtain ⟨o', q1, q2⟩ := k0
      exact ⟨o', by rw [ha]; exact q1, q2⟩
    | lst zs =>
      obtain ⟨ys, q1, q2⟩ := k0
      exact ⟨ys, by rw [ha]; exact q1, (q2.mv (Mv.more (p := p) h) _ _).mono (Deeper.refl _) ex _ _⟩
    | dic zs =>
      obtain ⟨ys, q1, q2⟩ := k0
      exact ⟨ys, by rw [ha]; exact q1, (q2.mv (Mv.more (p := p) h) _ _).mono (Deeper.refl _) ex _ _⟩
    | ins c fs =>
      obtain ⟨dx, ys, q1, q2⟩ := k0
      exact ⟨dx, ys, by rw [ha]; exact q1, (q2.mv (Mv.more (p := p) h) _ _).mono (Deeper.refl _) ex _ _⟩
  · rcases List.mem_cons.mp m with e | m
    · rw [e]
      exact ⟨g.fresh h, _, upd_same, rfl⟩
    · exact g2.tmp a m
/-- the list that is being made is written -/
theorem Gd.wr {τ : List Addr} {ρ : List Addr} {H : Hp} {mh : MH} {p : Addr} (g : Gd (G.tm τ) ρ H mh) (hp : p ∈ τ) (xs : List V) : Gd (G.tm τ) ρ (upd H p (.lst xs)) mh := by
  obtain ⟨np, u, hu, mu⟩ := g.tmp p hp
  have nt : ∀ b ps, H b = some (.tbl ps) → b ≠ p := fun b ps e z => by
    rw [z, hu] at e
    cases e
    cases mu
  refine ⟨g.len, g.nd, fun n a o e1 e2 => ?_, fun P q L e => ⟨(g.tab P q L e).1, (g.tab P q L e).2.kept' hu mu⟩, fun a m => ?_⟩
  · have k0 := g.chg n a o e1 e2
    have ha : upd H p (.lst xs) a = H a := by
      rw [upd_ne]
      intro z
      exact np (by rw [← z]; exact List.mem_of_getElem? e1)
    cases o with
    | gone =>
      obtain ⟨o', q1, q2⟩ := k0
      exact ⟨o', by rw [ha]; exact q1, q2⟩
    | lst zs =>
      obtain ⟨ys, q1, q2⟩ := k0
      exact ⟨ys, by rw [ha]; exact q1, q2.mv (Mv.wr hp) _ _⟩
    | dic zs =>
      obtain ⟨ys, q1, q2⟩ := k0
      exact ⟨ys, by rw [ha]; exact q1, q2.mv (Mv.wr hp) _ _⟩
    | ins c fs =>
      obtain ⟨dx, ys, q1, q2⟩ := k0
      exact ⟨dx, ys, by rw [ha]; exact q1, q2.mv (Mv.wr hp) _ _⟩
  · obtain ⟨n1, o, e, m1⟩ := g.tmp a m
    by_cases hb : a = p
    · subst hb
      exact ⟨n1, _, upd_same, rfl⟩
    · exact ⟨n1, o, by rw [upd_ne hb]; exact e, m1⟩
end
end FS

-- text FsR
set_option Elab.async false
set_option linter.all false
set_option maxHeartbeats 1000000
/-! FsR: any, all of a generator expression: the walk. -/
namespace FS
open PySem PySem.Spec PyProof.Rows L2 GxR GenW

/-- the context of a generator expression's body -/
abbrev gctx (X : Cx) (A : Around) (s : Shared) (H : Hp) (cenv : Env) (fp : List Addr) (pn : List (Addr × Obj)) : Cx :=
  { X with A := A, s_0 := s, H_0 := H, env := cenv, outer := X.stack, stack := cenv :: X.stack, ex := fp, fn := fun _ => false, pn := pn, xe := fun _ _ => False }
structure GSc (N : List Str) (sc scope : Scope) (own : List (Str × Nat)) : Prop where
  blk : BlkOk N sc scope own
  co : scope.isCoroutine = false
  cell : ∀ y ∈ scope.names, y.2 ≠ .cell
  dot : scope.names.lookup (".0" : Str) = some NameKind.local
section
variable {X : Cx} {pins : List (Addr × Obj)} {σ : L2.St} {H : Hp} {s s' : Shared}
theorem Inv.same (I : Inv X pins σ H s) (h : s'.heap = s.heap) (os : s'.os = s.os) (b : AllBare s'.gens) : Inv X pins σ H s' :=
  I.call' (ch := []) os (Un.kept fun b o e => by rw [h]; exact e) (I.hok.kept fun b o e => by rw [h]; exact e) b fun b z => by cases z
theorem Inv.more (I : Inv X pins σ H s) (h : ∀ b o, s.heap.get? b = some o → s'.heap.get? b = some o) (os : s'.os = s.os) (b : AllBare s'.gens) : Inv X pins σ H s' :=
  I.call' (ch := []) os (Un.kept h) (I.hok.kept h) b fun b z => by cases z
theorem gen_start {own : List (Str × Nat)} {scope : Scope} {fp : List Addr} {A : Around} {code : Value} {cenv : Env} {a : Addr} {gob : Obj} {m : Str → Option Value} (I : Inv X pins σ H s) (S : GSc X.N X.env.scope scope own) (hN : X.N.Nodup)
    (hfp : ∀ b ∈ fp, FpOk X pins H b ∧ b < s.heap.objs.size) (hcenv : cenv = genEnv scope (cloFrom X.env.cells scope.names []) s.heap.objs.size code builtinsNs X.env) (hA : A.frames = some (cenv :: X.stack)) (hh : X.calm = true → A.handled = none)
    (kp : ∀ b o, s.heap.get? b = some o → s'.heap.get? b = some o) (os : s'.os = s.os) (bare : AllBare s'.gens) (ns : s'.heap.Ns s.heap.objs.size m) (ha : s.heap.objs.size < a) (hg : s'.heap.get? a = some gob) (hgd : ∀ v, gob.data ≠ .cell v) :
    Inv (gctx X A s H cenv fp [(a, gob)]) [] (wipe σ (own.map (·.2))) H s' := by
  have ok := S.blk
  have hfree : ∀ y ∈ scope.names, y.2 = .free → ∃ c, X.env.cells.lookup y.1 = some c := fun y hy e => by
    rcases ok.free y hy e with k | k
    · exact I.ok.has _ (.inl k)
    · exact I.ok.has _ (.inr k)
  have hL : cenv.locals = s.heap.objs.size := by rw [hcenv]; rfl
  have hcl : cenv.cells = cloFrom X.env.cells scope.names [] := by rw [hcenv]; rfl
  have hsc : cenv.scope = scope := by rw [hcenv]; rfl
  have mem : ∀ {y c}, cenv.cells.lookup y = some c → X.env.cells.lookup y = some c ∧ c < s.heap.objs.size := fun {y c} e => by
    rw [hcl] at e
    rcases cloFrom_mem (PySem.mem_of_lookup e) with hm | ⟨h1, rfl⟩
    · cases hm
    · obtain ⟨c, hc⟩ := hfree _ h1 rfl
      rw [hc]
      obtain ⟨w, z⟩ := I.cell _ _ hc
      exact ⟨rfl, z.lt⟩
  have look : ∀ {y}, scope.names.lookup y = some .free → ∃ c, cenv.cells.lookup y = some c ∧ X.env.cells.lookup y = some c := fun {y} hl => by
    obtain ⟨c', e'⟩ := mem_lookup (cloFrom_has (cells := X.env.cells) (acc := []) (PySem.mem_of_lookup hl))
    rw [← hcl] at e'
    exact ⟨c', e', (mem e').1⟩
  have noc : ∀ y, scope.names.lookup y ≠ some .cell := fun y e => S.cell _ (PySem.mem_of_lookup e) rfl
  have okB : (gctx X A s H cenv fp [(a, gob)]).Ok := by
    refine ⟨I.ok.mod, by show cenv.scope.kind = _; rw [hsc]; exact ok.kind, by show cenv.globals = _; rw [hcenv]; exact I.ok.glob, by show cenv.builtins = _; rw [hcenv]; rfl, by show s.heap.objs.size ≤ cenv.locals; rw [hL]; exact Nat.le_refl _,
      fun y z c e1 e2 => I.ok.inj y z c (mem e1).1 (mem e2).1, fun y hy => ?_, fun y c z e => (by cases z), hh, hA, .inr ⟨rfl, by rw [hcenv]; rfl⟩, fun b hb => ⟨?_, fun y c e z => ?_⟩, I.bs, Nat.le_trans I.ok.bsz I.sz, fun b o e hb => ?_, fun b hb z => ?_, I.stack, I.stkFree⟩
    · show ∃ c, cenv.cells.lookup y = some c
      have hy : cenv.scope.names.lookup y = some .cell ∨ cenv.scope.names.lookup y = some .free := hy
      rw [hsc] at hy
      rcases hy with hy | hy
      · exact absurd hy (noc y)
      · obtain ⟨c, h1, _⟩ := look hy
        exact ⟨c, h1⟩
    · show b ≠ cenv.locals
      rw [hL]; exact Nat.ne_of_lt (hfp b hb).2
    · exact (hfp b hb).1.2.2.2.2.1 y c (mem e).1 z
    · rcases (hfp b hb).1.2.2.2.1 with z | z
      · exact I.ok.noex b o e z
      · exact absurd (Nat.lt_of_lt_of_le (Heap.lt_size e) (Nat.le_trans I.ok.bsz z)) (Nat.lt_irrefl _)
    · rcases List.mem_cons.mp (I.stkSub b z) with z | z
      · exact (hfp b hb).1.2.1 z
      · exact (hfp b hb).1.2.2.1 z
  refine ⟨okB, os, bare, Un.kept kp, ⟨m, ?_, fun i y av e1 e2 e3 => ?_⟩, fun y c e => ?_, ?_, fun y c e => ?_, fun p hp => ?_, I.hok.kept kp, by rw [wipe_length]; exact I.len⟩
  · show Heap.Ns _ cenv.locals _
    rw [hL]; exact ns
  · obtain ⟨e2, hne⟩ := wipe_some e2
    have e3 : Vis cenv.scope y := e3
    unfold Vis at e3
    rw [hsc] at e3
    have no : scope.names.lookup y ≠ some .local := fun e => by
      rcases ok.own _ (PySem.mem_of_lookup e) (.inl rfl) with e' | e'
      · obtain ⟨p, hp, hpy⟩ := List.mem_map.mp e'
        have e3 := ok.ix p hp
        have : p.1 = y := hpy
        rw [this] at e3
        exact hne (List.mem_map.mpr ⟨p, hp, nodup_ix hN e3 e1⟩)
      · exact e' (List.mem_of_getElem? e1)
    have hfr : scope.names.lookup y = some .free := by
      rcases e3 with e3 | e3 | e3
      · exact absurd e3 no
      · exact absurd e3 (noc y)
      · exact e3
    obtain ⟨m', hn, hl⟩ := I.loc
    have hvis : Vis X.env.scope y := (ok.free _ (PySem.mem_of_lookup hfr) rfl).elim (fun k => .inr (.inl k)) (fun k => .inr (.inr k))
    obtain ⟨w, r, q⟩ := hl i y av e1 e2 hvis
    refine ⟨w, r, .inr ⟨.inr (by show cenv.scope.names.lookup y = _; rw [hsc]; exact hfr), ?_⟩⟩
    obtain ⟨c, h1, h2⟩ := look hfr
    rcases q with ⟨k, _⟩ | ⟨_, c', e', z⟩
    · have k : X.env.scope.names.lookup y = some .local := k
      rcases ok.free _ (PySem.mem_of_lookup hfr) rfl with k' | k' <;> rw [show X.env.scope.names.lookup y = _ from k'] at k <;> cases k
    · rw [h2] at e'; cases e'
      exact ⟨c, h1, z.keeps kp⟩
  · obtain ⟨w, z⟩ := I.cell y c (mem e).1
    exact ⟨w, z.keeps kp⟩
  · show H cenv.locals = none
    rw [hL]; exact I.hok.fresh (Nat.le_refl _)
  · exact I.freeC y c (mem e).1
  · have hp : p ∈ [(a, gob)] ++ ([] : List (Addr × Obj)) := hp
    rw [List.append_nil] at hp
    rw [List.mem_singleton.mp hp]
    refine ⟨hg, I.hok.fresh (Nat.le_of_lt ha), by show a ≠ cenv.locals; rw [hL]; exact Nat.ne_of_gt ha, fun z => ?_, hgd⟩
    have z : a ∈ frs X.stack := z
    rcases List.mem_cons.mp (I.stkSub a z) with z | z
    · have := I.lt
      rw [← z] at this
      exact absurd (Nat.lt_trans ha this) (Nat.lt_irrefl _)
    · exact I.nofs (Nat.le_of_lt ha) z

/-! ### the generator, between two steps -/
def gEnd (X : Cx) (pins : List (Addr × Obj)) (σ : L2.St) (w : Bool) (Q : VK) : GenEnd := fun _ _ r s1 => r = .ok .next ∧ ∃ H', Inv X pins σ H' s1 ∧ Q (.bl (!w)) H'
def gY (X : Cx) (pins : List (Addr × Obj)) (σ : L2.St) (w : Bool) (Q : VK) (a : Addr) (g : Nat) : Protocol := fun _ _ v s kap =>
  ∃ H' c, Inv X pins σ H' s ∧ s.heap.IsGen a g ∧ v = .bool c ∧ (if c = w then Q (.bl w) H' else ∀ s'' : Shared, s''.heap = s.heap → s''.os = s.os → AllBare s''.gens → kap (.send .none) s'')
structure GRun (X : Cx) (pins : List (Addr × Obj)) (σ : L2.St) (w : Bool) (Q : VK) (a : Addr) (g n : Nat) (gs : GenState) (s : Shared) : Prop where
  isgen : s.heap.IsGen a g
  lim : s.heap.NoLimit
  bare : AllBare s.gens
  at_ : s.gens[g]? = some gs
  go : ∀ s'' : Shared, s''.heap = s.heap → s''.os = s.os → AllBare s''.gens → gs.Goes (model X.prog X.w) X.A.in1.in1 (gEnd X pins σ w Q) (gY X pins σ w Q a g) n (.send .none) s''
theorem gen_next {w : Bool} {Q : VK} {a : Addr} {g n : Nat} {gs : GenState} {K : Option Value → Shared → Prop} {E : Value → Shared → Prop} (hh : X.A.handled = none) (hd : X.A.depth < recursionLimit) (r : GRun X pins σ w Q a g n gs s)
    (h1 : ∀ s', (∃ H', Inv X pins σ H' s' ∧ Q (.bl (!w)) H') → K none s') (h2 : ∀ s', (∃ H', Inv X pins σ H' s' ∧ Q (.bl w) H') → K (some (.bool w)) s')
    (h3 : ∀ s' m gs', n = m + 1 → GRun X pins σ w Q a g m gs' s' → K (some (.bool (!w))) s') : wpAny (model X.prog X.w) X.A.in1 (pyNext (.ref a)) K E s := by
  have hlt : g + 1 ≤ s.gens.size := by
    have := r.at_
    obtain ⟨hi, _⟩ := Array.getElem?_eq_some_iff.mp this
    exact hi
  refine wpAny_gsz (n := g + 1) hlt (wpAny_pyNext_genexpQ (P := fun _ _ s1 => ∃ H', Inv X pins σ H' s1 ∧ Q (.bl (!w)) H') hh r.lim hd r.isgen r.at_ (r.go _ rfl rfl (allBare_setGen r.bare rfl)) (fun v s1 gs' hb hv => ?_) (fun s1 hp h' hk => ?_))
  · obtain ⟨H', c, I, hg, rfl, hq⟩ := hv
    intro hsz
    have hsz : g + 1 ≤ s1.gens.size := by
      rw [setGen_size] at hsz
      exact hsz
    by_cases hc : c = w
    · subst hc
      rw [if_pos rfl] at hq
      exact h2 _ ⟨H', Inv.same I rfl rfl (allBare_setGen I.bare hb), hq⟩
    · rw [if_neg hc] at hq
      have e : c = !w := by cases c <;> cases w <;> first | rfl | exact absurd rfl hc
      subst e
      cases n with
      | zero => exact False.elim (hq s1 rfl rfl I.bare)
      | succ m =>
        refine h3 _ m gs' rfl ⟨hg, I.nolimit, allBare_setGen I.bare hb, setGen_at hsz, fun s'' e1 e2 e3 => ?_⟩
        exact hq s'' e1 e2 e3
  · obtain ⟨H', I, q⟩ := hp
    intro _
    exact h1 _ ⟨H', Inv.more (s' := { s1.setGen g .finished with heap := h' }) I hk rfl (allBare_setGen I.bare rfl), q⟩
theorem any_loop {Q : VK} {a : Addr} {g : Nat} {R : Result → Shared → Prop} (hh : X.A.handled = none) (hd : X.A.depth < recursionLimit) (hR : ∀ b s' H', Inv X pins σ H' s' → Q (.bl b) H' → R (.ok (.ret (.bool b))) s') :
    ∀ (n : Nat) (gs : GenState) (s : Shared), GRun X pins σ true Q a g n gs s → codeAny (model X.prog X.w) X.A (.builtin "any.loop" ⟨[.ref a], []⟩) R s := by
  intro n
  induction n with
  | zero =>
    intro gs s r
    refine codeAny_builtin F.entry_any_loop ?_
    rw [Around.under_plainId F.plain_any_loop _]
    show wpAny _ X.A.in1 (pyNext (.ref a) >>= _) _ _ s
    refine wpAny_bind (gen_next hh hd r (fun s' ⟨H', I, q⟩ => ?_) (fun s' ⟨H', I, q⟩ => ?_) fun s' m gs' e _ => by cases e)
    · exact wpAny_bind (wpAny_rule (wpAny_pure (hR false s' H' I q)))
    · refine wpAny_bind (wpAny_holding (wpAny_truthy_bool ?_))
      refine wpAny_bind (wpAny_letGo ?_)
      simp only [if_true]
      exact wpAny_bind (wpAny_rule (wpAny_pure (hR true s' H' I q)))
  | succ n ih =>
    intro gs s r
    refine codeAny_builtin F.entry_any_loop ?_
    rw [Around.under_plainId F.plain_any_loop _]
    show wpAny _ X.A.in1 (pyNext (.ref a) >>= _) _ _ s
    refine wpAny_bind (gen_next hh hd r (fun s' ⟨H', I, q⟩ => ?_) (fun s' ⟨H', I, q⟩ => ?_) fun s' m gs' e r' => ?_)
    · exact wpAny_bind (wpAny_rule (wpAny_pure (hR false s' H' I q)))
    · refine wpAny_bind (wpAny_holding (wpAny_truthy_bool ?_))
      refine wpAny_bind (wpAny_letGo ?_)
      simp only [if_true]
      exact wpAny_bind (wpAny_rule (wpAny_pure (hR true s' H' I q)))
    · cases e
      refine wpAny_bind (wpAny_holding (wpAny_truthy_bool ?_))
      refine wpAny_bind (wpAny_letGo ?_)
      simp only [Bool.not_true, Bool.false_eq_true, if_false]
      exact wpAny_pure ⟨plainId_quiet F.plain_any_loop _, ih gs' s' r'⟩
theorem all_loop {Q : VK} {a : Addr} {g : Nat} {R : Result → Shared → Prop} (hh : X.A.handled = none) (hd : X.A.depth < recursionLimit) (hR : ∀ b s' H', Inv X pins σ H' s' → Q (.bl b) H' → R (.ok (.ret (.bool b))) s') :
    ∀ (n : Nat) (gs : GenState) (s : Shared), GRun X pins σ false Q a g n gs s → codeAny (model X.prog X.w) X.A (.builtin "all.loop" ⟨[.ref a], []⟩) R s := by
  intro n
  induction n with
  | zero =>
    intro gs s r
    refine codeAny_builtin F.entry_all_loop ?_
    rw [Around.under_plainId F.plain_all_loop _]
    show wpAny _ X.A.in1 (pyNext (.ref a) >>= _) _ _ s
    refine wpAny_bind (gen_next hh hd r (fun s' ⟨H', I, q⟩ => ?_) (fun s' ⟨H', I, q⟩ => ?_) fun s' m gs' e _ => by cases e)
    · exact wpAny_bind (wpAny_rule (wpAny_pure (hR true s' H' I q)))
    · refine wpAny_bind (wpAny_holding (wpAny_truthy_bool ?_))
      refine wpAny_bind (wpAny_letGo ?_)
      simp only [Bool.false_eq_true, if_false]
      exact wpAny_bind (wpAny_rule (wpAny_pure (hR false s' H' I q)))
  | succ n ih =>
    intro gs s r
    refine codeAny_builtin F.entry_all_loop ?_
    rw [Around.under_plainId F.plain_all_loop _]
    show wpAny _ X.A.in1 (pyNext (.ref a) >>= _) _ _ s
    refine wpAny_bind (gen_next hh hd r (fun s' ⟨H', I, q⟩ => ?_) (fun s' ⟨H', I, q⟩ => ?_) fun s' m gs' e r' => ?_)
    · exact wpAny_bind (wpAny_rule (wpAny_pure (hR true s' H' I q)))
    · refine wpAny_bind (wpAny_holding (wpAny_truthy_bool ?_))
      refine wpAny_bind (wpAny_letGo ?_)
      simp only [Bool.false_eq_true, if_false]
      exact wpAny_bind (wpAny_rule (wpAny_pure (hR false s' H' I q)))
    · cases e
      refine wpAny_bind (wpAny_holding (wpAny_truthy_bool ?_))
      refine wpAny_bind (wpAny_letGo ?_)
      simp only [Bool.not_false, if_true]
      exact wpAny_pure ⟨plainId_quiet F.plain_all_loop _, ih gs' s' r'⟩
end
end FS

-- text FsR2
set_option Elab.async false
set_option linter.all false
set_option maxHeartbeats 1000000
/-! FsR2: any, all of a generator expression: the rule. -/
namespace FS
open PySem PySem.Spec PyProof.Rows L2 GxR GenW

/-- the table at P has grown by the place gpos, or it had it -/
def Grew (P : Addr) (gpos : Pos) (ps : Array Value) (H1 H2 : Hp) : Prop :=
  ∃ more : Array Value, H2 = upd H1 P (.tbl (ps ++ more)) ∧ (more = #[] ∨ (codeAmong gpos ps.toList = none ∧ ∃ c, more = #[rawInt gpos.line, rawInt gpos.col, .ref c]))
/-- what a turn is to reach -/
def GTurn (w : Bool) (J : It) (g : TG) (tt : TT) (te : TE) (vs : List Nat) (σ : L2.St) (Q : VK) (W : Nat → Nat → Hp → Prop) : Prop := ∀ i m H, W i m H →
  (J.stop i H ∧ Q (.bl (!w)) H) ∨ (J.go i H ∧ ∃ Nx : Hp → Prop, (∀ H', Nx H' → ∃ m', m' < m ∧ W (i + 1) m' H') ∧ ∀ x H', J.yld i H x H' → g x (wipe σ vs) H' fun σ2 H2 => wipe σ2 vs = wipe σ vs ∧ tt σ2 H2 fun b H3 =>
    if b = true then te σ2 H3 fun y H4 => ∃ c, y = .bl c ∧ (if c = w then Q (.bl w) H4 else Nx H4) else Nx H3)
def tGen (w : Bool) (P : Addr) (gpos : Pos) (wi : TI) (g : TG) (tt : TT) (te : TE) (vs : List Nat) : TE := fun σ H Q => wi σ H fun J H1 => ∃ ps : Array Value, H1 P = some (.tbl ps) ∧ TriplesOk ps.toList ∧
  ∀ H2, Grew P gpos ps H1 H2 → ∃ W : Nat → Nat → Hp → Prop, (∃ m, W 0 m H2) ∧ GTurn w J g tt te vs σ Q W
section
variable {X : Cx} {pins : List (Addr × Obj)} {σ : L2.St} {H : Hp} {s s' : Shared}
theorem seg_gen {w : Bool} {Q : VK} {elt tg iter : Expr} {ifs : List Expr} {scope : Scope} {own : List (Str × Nat)} {pos : Pos} {g : TG} {tt : TT} {te : TE} {it a : Addr} {gi : Nat} {fp : List Addr} {tn : Nat → Heap → Prop} {J : It} {cenv : Env} {gob : Obj} {s4 : Shared} {H4 : Hp} {A : Around}
    (hc : X.calm = true) (I4 : Inv X pins σ H4 s4) (hfp : ∀ b ∈ fp, FpOk X pins H4 b ∧ b < s4.heap.objs.size) (T : Turn X.prog X.w X.K tg J fp it tn) (hgen : ∀ h : Heap, h.get? a = some gob → h.IsGen a gi) (hL : cenv.locals = s4.heap.objs.size) (ha : s4.heap.objs.size < a)
    (hco : cenv.scope.isCoroutine = false) (hA : A = X.A.in1.in1.over (.compLoop (.GeneratorExp elt [⟨tg, iter, ifs, 0⟩] scope pos) 0 (.ref it) .none cenv) [])
    (pg : PG (gctx X A s4 H4 cenv fp [(a, gob)]) tg g) (pt : PTs (gctx X A s4 H4 cenv fp [(a, gob)]) ifs tt) (pe : PE (gctx X A s4 H4 cenv fp [(a, gob)]) elt te) {W : Nat → Nat → Hp → Prop} (turn : GTurn w J g tt te (own.map (·.2)) σ Q W) :
    ∀ (m n i : Nat) (s0 s : Shared) (H : Hp), m < n → Inv (gctx X A s4 H4 cenv fp [(a, gob)]) [] (wipe σ (own.map (·.2))) H s → tn i s.heap → (∀ b ∈ fp, H b = none) → W i m H →
      Seg (model X.prog X.w) X.A.in1.in1 (gEnd X pins σ w Q) (gY X pins σ w Q a gi) n s0 (.compLoop (.GeneratorExp elt [⟨tg, iter, ifs, 0⟩] scope pos) 0 (.ref it) .none cenv) ((model X.prog X.w).den (.compLoop (.GeneratorExp elt [⟨tg, iter, ifs, 0⟩] scope pos) 0 (.ref it) .none cenv)) [] s := by
  subst hA
  generalize hX' : gctx X (X.A.in1.in1.over (.compLoop (.GeneratorExp elt [⟨tg, iter, ifs, 0⟩] scope pos) 0 (.ref it) .none cenv) []) s4 H4 cenv fp [(a, gob)] = X' at pg pt pe ⊢
  have xA : X'.A = X.A.in1.in1.over (.compLoop (.GeneratorExp elt [⟨tg, iter, ifs, 0⟩] scope pos) 0 (.ref it) .none cenv) [] := by rw [← hX']
  have xP : X'.prog = X.prog := by rw [← hX']
  have xW : X'.w = X.w := by rw [← hX']
  have xK : X'.K = X.K := by rw [← hX']
  have xe : X'.xe = fun _ _ => False := by rw [← hX']
  have xv : X'.env = cenv := by rw [← hX']
  have xx : X'.ex = fp := by rw [← hX']
  have xp : X'.pn = [(a, gob)] := by rw [← hX']
  have back : ∀ {pins' : List (Addr × Obj)} {σ' : L2.St} {H' : Hp} {s' : Shared}, Inv X' pins' σ' H' s' → Inv X pins σ H' s' := fun {pins' σ' H' s'} I' => by
    rw [← hX'] at I'
    exact I4.call' (ch := fp) I'.os I'.base I'.hok I'.bare fun b hb => ⟨(hfp b hb).1.2.2.2.1, (hfp b hb).1.2.1, (hfp b hb).1.2.2.2.2.1, (hfp b hb).1.2.2.2.2.2⟩
  have isg : ∀ {pins' : List (Addr × Obj)} {σ' : L2.St} {H' : Hp} {s' : Shared}, Inv X' pins' σ' H' s' → s'.heap.IsGen a gi := fun {pins' σ' H' s'} I' =>
    hgen _ (I'.pin (a, gob) (List.mem_append_left _ (by rw [xp]; exact List.mem_singleton.mpr rfl))).1
  have stat : ∀ {σ' : L2.St} {H' : Hp} {s' : Shared}, Inv X' [] σ' H' s' → (∀ b ∈ fp, H' b = none) → ∀ b ∈ fp, FpOk X' [] H' b := fun {σ' H' s'} I' hn b hb =>
    ⟨hn b hb, (I'.ok.exf b (by rw [xx]; exact hb)).1, I'.ok.exfs b (by rw [xx]; exact hb), .inl (by rw [xx]; exact hb), fun x c e => (I'.ok.exf b (by rw [xx]; exact hb)).2 x c e, fun p hp => by
      rw [xp, List.append_nil] at hp
      rw [List.mem_singleton.mp hp]
      exact Nat.ne_of_gt (Nat.lt_trans (hfp b hb).2 ha)⟩
  have hcX : X'.calm = true := by rw [← hX']; exact hc
  intro m
  induction m using Nat.strongRecOn with
  | ind m ih =>
    intro n i s0 s H hmn I st hn hw
    show Seg _ X.A.in1.in1 _ _ _ s0 _ ((compTurn (.GeneratorExp elt [⟨tg, iter, ifs, 0⟩] scope pos) 0 (.ref it) .none cenv).onRaise (leaving cenv)) [] s
    rw [compTurn_gen, Sem.onRaise_eq_wrap]
    refine seg_bind_wrap (wpAny_standAt ?_)
    rcases turn i m H hw with ⟨stop, qq⟩ | ⟨go, Nx, hNx, step⟩
    · have td := T.done X' xP xW xK hcX i [] s _ H (fun _ _ => False) I (stat I hn) st stop
      rw [xA] at td
      refine seg_bind_wrap (thnF td fun r s6 ⟨hr, I6⟩ => ?_)
      subst hr
      exact seg_end (.ok .next) ⟨rfl, H, back I6, qq⟩
    · have ti := T.item X' xP xW xK hcX i [] s _ H (fun _ _ => False) I (stat I hn) st go
      rw [xA] at ti
      refine seg_bind_wrap (thnF ti fun r s6 ⟨u, hr, h6⟩ => ?_)
      subst hr
      refine seg_bind_wrap (thnF h6 fun _ s7 ⟨x, H7, I7, r7, y7, st7, n7⟩ => ?_)
      have I7' := I7.pinned (stat I7 n7) (T.obj _ _ st7)
      have g7 := pg.run _ s7 _ H7 x u _ I7' r7 (step x H7 y7)
      rw [xA, xP, xW, xv, xe] at g7
      refine seg_bind_wrap (thnF g7 fun _ s8 ⟨σ8, H8, I8, hw8, q8⟩ => ?_)
      have g8 := pt.run _ s8 σ8 H8 _ I8 q8
      rw [xA, xP, xW, xv, xe] at g8
      refine seg_bind_wrap (thnF g8 fun b s9 ⟨H9, I9, q9⟩ => ?_)
      have fin : ∀ {s' : Shared} {H' : Hp}, Inv X' ([] ++ pinsAt fp s7.heap) σ8 H' s' → Nx H' → ∀ n' s0' s'', n = n' ∨ n = n' + 1 → s''.heap = s'.heap → s''.os = s'.os → AllBare s''.gens →
          Seg (model X.prog X.w) X.A.in1.in1 (gEnd X pins σ w Q) (gY X pins σ w Q a gi) n' s0' (.compLoop (.GeneratorExp elt [⟨tg, iter, ifs, 0⟩] scope pos) 0 (.ref it) .none cenv) ((model X.prog X.w).den (.compLoop (.GeneratorExp elt [⟨tg, iter, ifs, 0⟩] scope pos) 0 (.ref it) .none cenv)) [] s'' := fun {s' H'} I' nx n' s0' s'' hn' e1 e2 e3 => by
        obtain ⟨m', hm, w'⟩ := hNx H' nx
        have pin' : ∀ b ∈ fp, ∀ o, s7.heap.get? b = some o → s'.heap.get? b = some o ∧ H' b = none := fun b hb o e =>
          let z := I'.pin (b, o) (List.mem_append_right _ (List.mem_append_right _ (mem_pinsAt hb e)))
          ⟨z.1, z.2.1⟩
        have hl : (wipe σ (own.map (·.2))).length = σ8.length := by rw [← hw8, wipe_length]
        have I2 : Inv X' [] (wipe σ (own.map (·.2))) H' s' := (I'.unpinned (pins := [])).weak hl (fun j v e => by
          rw [← hw8] at e
          exact (wipe_some e).1)
        refine ih m' hm n' (i + 1) s0' s'' H' (by omega) (Inv.same I2 e1 e2 e3) (T.keep _ _ _ st7 fun b hb o e => ?_) (fun b hb => ?_) w'
        · rw [e1]
          exact (pin' b hb o e).1
        · obtain ⟨o, e, _⟩ := T.obj _ _ st7 b hb
          exact (pin' b hb o e).2
      cases b with
      | false =>
        simp only [Bool.false_eq_true, if_false] at q9 ⊢
        exact seg_again rfl (fin I9 q9 n s0 s9 (.inl rfl) rfl rfl I9.bare)
      | true =>
        simp only [if_true] at q9 ⊢
        have hy : ∀ v, yieldOut cenv v = yieldValue v := fun v => by simp only [yieldOut, hco, Bool.false_eq_true, if_false]
        simp only [hy]
        rw [Sem.bind_eq_wrap', Sem.bind_eq_wrap', Sem.wrap_wrap, Sem.wrap_wrap]
        have g9 := pe.run _ s9 σ8 H9 _ I9 q9
        rw [xA, xP, xW, xv, xe] at g9
        refine seg_wrap (thnF g9 fun z s10 ⟨yv, H10, I10, r10, c, ey, hcw⟩ => ?_)
        subst ey
        obtain rfl : z = Value.bool c := r10
        cases n with
        | zero => exact absurd hmn (Nat.not_lt_zero _)
        | succ n' =>
          refine seg_at (seg_yield rfl rfl rfl ⟨H10, c, back I10, isg I10, rfl, ?_⟩)
          by_cases hcc : c = w
          · rw [if_pos hcc] at hcw ⊢
            exact hcw
          · rw [if_neg hcc] at hcw ⊢
            intro s'' e1 e2 e3
            exact seg_again rfl (fin I10 hcw n' s'' s'' (.inr rfl) e1 e2 e3)
theorem gen_core {w : Bool} {c P : Addr} {Q : VK} {elt tg iter : Expr} {ifs : List Expr} {scope : Scope} {own : List (Str × Nat)} {pos : Pos} {wi : TI} {g : TG} {tt : TT} {te : TE} {k : Nat} {K : Value → Shared → Prop}
    (hc : X.calm = true) (hN : X.N.Nodup) (hr : Room (k + 1) X.A) (TB : TabB X.base X.mg c P) (hcode : X.env.code = .ref c) (I : Inv X pins σ H s) (hi : PI X tg iter wi) (S : GSc X.N X.env.scope scope own)
    (hg : ∀ A s H C code fp pn, Room k A → PG (gctx X A s H (genEnv scope (cloFrom X.env.cells scope.names []) C code builtinsNs X.env) fp pn) tg g) (ht : ∀ A s H C code fp pn, Room k A → PTs (gctx X A s H (genEnv scope (cloFrom X.env.cells scope.names []) C code builtinsNs X.env) fp pn) ifs tt)
    (he : ∀ A s H C code fp pn, Room k A → PE (gctx X A s H (genEnv scope (cloFrom X.env.cells scope.names []) C code builtinsNs X.env) fp pn) elt te) (hs : ∀ x, genFold iter X.env x = pure x) (h : tGen w P pos wi g tt te (own.map (·.2)) σ H Q)
    (hK : ∀ a g n gs s', GRun X pins σ w Q a g n gs s' → K (.ref a) s') :
    wpAny (model X.prog X.w) X.A (eval (.GeneratorExp elt [⟨tg, iter, ifs, 0⟩] scope pos) X.env) K X.xe s := by
  have hh : X.A.handled = none := hr.hd
  have hd : X.A.depth < recursionLimit := by have := hr.dp; omega
  have hfree : ∀ y ∈ scope.names, y.2 = .free → ∃ c, X.env.cells.lookup y.1 = some c := fun y hy e => by
    rcases S.blk.free y hy e with k | k
    · exact I.ok.has _ (.inl k)
    · exact I.ok.has _ (.inr k)
  refine wpAny_GeneratorExp_make S.co (closure_ok hfree) S.cell S.dot S.blk.kind hd (thn (hi.run pins s σ H _ I h) fun xv s1 hx => thn hx fun itv s2 h2 => ?_) hs
  obtain ⟨it, fp, tn, J, H2, e, I2, T, st2, f2, ps, hP, htr, q⟩ := h2
  subst e
  refine ⟨I2.nolimit, ?_⟩
  have hPs : s2.heap.get? P = some { cls := .none, data := .fields ps } := I2.hok P _ hP
  have hPlt : P < s2.heap.objs.size := Heap.lt_size hPs
  have cd : PySem.W.CodeHd s2.heap c P := TB.code.keeps fun b u e => I2.bk b u e
  have nfP : ∀ b ∈ fp, b ≠ P := fun b hb z => by
    have := (f2 b hb).1
    rw [z, hP] at this
    cases this
  have cont : ∀ (code : Value) (h3 : Heap) (tk : Nat) (ps' more : Array Value), Heap.ExtBut P s2.heap h3 → s2.heap.objs.size ≤ h3.objs.size → h3.get? P = some { cls := .none, data := .fields ps' } → ps' = ps ++ more → (more = #[] ∨ (codeAmong pos ps.toList = none ∧ ∃ c, more = #[rawInt pos.line, rawInt pos.col, .ref c])) →
      wpAny (model X.prog X.w) X.A (builtinsFor X.env.globals X.env.builtins) (fun bi s₄ => ∀ h', h'.Ns s₄.heap.objs.size (fun y => if y = ".0" then some (Value.ref it) else none) → Heap.SameBut s₄.heap.objs.size (s₄.heap.push { cls := .type "frame", data := .dict #[] }) h' →
          K (.ref h'.objs.size) { s₄ with
            gens := s₄.gens.push (.fresh (.compStart (.GeneratorExp elt [⟨tg, iter, ifs, 0⟩] scope pos) 0 (.ref it) .none (genEnv scope (cloFrom X.env.cells scope.names []) s₄.heap.objs.size code bi X.env))),
            toks := s₄.toks + 1 + 1 + 1,
            heap := h'.push { cls := .type "generator", data := .fields #[.int s₄.gens.size 0, .str "<genexpr>" (s₄.toks + 1), .str (X.env.qual ++ "<genexpr>") (s₄.toks + 1 + 1)] } }) X.xe { s2 with heap := h3, toks := tk } := by
    intro code h3 tk ps' more hx hsz hP3 eps hmore
    obtain ⟨bm, ob, e1, e2, e3, e4, e5, e6, e7, e8⟩ := TB.bm
    have keep3 : ∀ b u, b ≠ P → s2.heap.get? b = some u → h3.get? b = some u := fun b u hb e => hx b u hb e
    refine wpAny_builtinsFor (m := X.mg) (by rw [I2.ok.glob]; exact (I2.mod.glob.keeps I2.bk).extBut hx TB.gP) e1 e2 (keep3 _ _ e4 (I2.bk _ _ e5)) e6 e7 e8 ?_
    generalize hH3 : upd H2 P (.tbl (ps ++ more)) = H3
    have I4 : Inv X pins σ H3 { s2 with heap := h3, toks := tk } := by
      rw [← hH3]
      exact inv_tab (g' := s2.gens) (d' := s2.drawn) (t' := tk) I2 hP keep3 (by rw [← eps]; exact hP3) I2.bare
    generalize hs4 : ({ s2 with heap := h3, toks := tk } : Shared) = s4 at I4 ⊢
    have s4h : s4.heap = h3 := by rw [← hs4]
    intro h' hn' hsb
    have ez : h'.objs.size = s4.heap.objs.size + 1 := by rw [hsb.1, Heap.size_push]
    have keep' : ∀ b o, s4.heap.get? b = some o → h'.get? b = some o := fun b o e => hsb.extBut b o (Nat.ne_of_lt (Heap.lt_size e)) (Heap.get?_push_of_some _ e)
    have main : ∀ (go : Obj) (tk2 : Nat), (∀ h : Heap, h.get? h'.objs.size = some go → h.IsGen h'.objs.size s4.gens.size) → (∀ h : Heap, (h.push go).get? h.objs.size = some go) → (∀ v, go.data ≠ .cell v) →
        K (.ref h'.objs.size) { s4 with gens := s4.gens.push (.fresh (.compStart (.GeneratorExp elt [⟨tg, iter, ifs, 0⟩] scope pos) 0 (.ref it) .none (genEnv scope (cloFrom X.env.cells scope.names []) s4.heap.objs.size code builtinsNs X.env))), toks := tk2, heap := h'.push go } := by
      intro go tk2 hgen hgp hgd
      generalize hcenv : genEnv scope (cloFrom X.env.cells scope.names []) s4.heap.objs.size code builtinsNs X.env = cenv
      have keep5 : ∀ b o, s4.heap.get? b = some o → (h'.push go).get? b = some o := fun b o e => Heap.get?_push_of_some _ (keep' b o e)
      have ogo := hgp h'
      obtain ⟨W, ⟨m0, w0⟩, turn⟩ := q H3 ⟨more, hH3.symm, hmore⟩
      have f4 : ∀ b ∈ fp, FpOk X pins H3 b ∧ b < s4.heap.objs.size := fun b hb => by
        refine ⟨⟨?_, (f2 b hb).2⟩, ?_⟩
        · rw [← hH3, upd_ne (nfP b hb)]
          exact (f2 b hb).1
        · obtain ⟨o, e, _⟩ := T.obj _ _ st2 b hb
          rw [s4h]
          exact Nat.lt_of_lt_of_le (Heap.lt_size e) hsz
      have st4 : tn 0 s4.heap := T.keep _ _ _ st2 fun b hb o e => by rw [s4h]; exact keep3 b o (nfP b hb) e
      generalize hs5 : ({ s4 with gens := s4.gens.push (.fresh (.compStart (.GeneratorExp elt [⟨tg, iter, ifs, 0⟩] scope pos) 0 (.ref it) .none cenv)), toks := tk2, heap := h'.push go } : Shared) = s5
      have h5 : s5.heap = h'.push go := by rw [← hs5]
      have o5 : s5.os = s4.os := by rw [← hs5]
      have g5 : s5.gens = s4.gens.push (.fresh (.compStart (.GeneratorExp elt [⟨tg, iter, ifs, 0⟩] scope pos) 0 (.ref it) .none cenv)) := by rw [← hs5]
      have b5 : AllBare s5.gens := by rw [g5]; exact AllBare.push I4.bare rfl
      have k5 : ∀ b o, s4.heap.get? b = some o → s5.heap.get? b = some o := fun b o e => by rw [h5]; exact keep5 b o e
      have ha : s4.heap.objs.size < h'.objs.size := by rw [ez]; exact Nat.lt_succ_self _
      generalize hA : X.A.in1.in1.over (.compLoop (.GeneratorExp elt [⟨tg, iter, ifs, 0⟩] scope pos) 0 (.ref it) .none cenv) [] = A
      have rA : Room k A := by
        rw [← hA]
        refine ⟨hh, ?_, ?_⟩
        · have := hr.dp
          show X.A.depth + 1 + 3 * k + 5 < _
          omega
        · have := hr.un
          show X.A.units + 1 + 1 + 3 + 16 * k + 200 < _
          omega
      have frA : A.frames = some (cenv :: X.stack) := by
        rw [← hA]
        show pushEnvs [cenv] (pushEnvs [] X.A.frames) = _
        rw [I4.ok.frames]
        rfl
      have I5 : ∀ s'' : Shared, s''.heap = s5.heap → s''.os = s5.os → AllBare s''.gens → Inv (gctx X A s4 H3 cenv fp [(h'.objs.size, go)]) [] (wipe σ (own.map (·.2))) H3 s'' := fun s'' z1 z2 z3 =>
        gen_start (m := fun y => if y = ".0" then some (Value.ref it) else none) I4 S hN f4 hcenv.symm frA (fun _ => rA.hd) (fun b o e => by rw [z1]; exact k5 b o e) (z2.trans o5) z3 (by rw [z1, h5]; exact hn'.push _) ha (by rw [z1, h5]; exact ogo) hgd
      have hco : cenv.scope.isCoroutine = false := by rw [← hcenv]; exact S.co
      have hL : cenv.locals = s4.heap.objs.size := by rw [← hcenv]; rfl
      have loop := seg_gen (w := w) (Q := Q) (iter := iter) (scope := scope) (pos := pos) (own := own) (gi := s4.gens.size) hc I4 f4 T hgen hL ha hco hA.symm (by rw [← hcenv]; exact hg A s4 H3 _ code fp _ rA) (by rw [← hcenv]; exact ht A s4 H3 _ code fp _ rA) (by rw [← hcenv]; exact he A s4 H3 _ code fp _ rA) turn
      refine hK _ s4.gens.size (m0 + 1) (.fresh (.compStart (.GeneratorExp elt [⟨tg, iter, ifs, 0⟩] scope pos) 0 (.ref it) .none cenv)) s5 ⟨by rw [h5]; exact hgen _ ogo, I4.nolimit.keeps k5, b5, by rw [g5]; exact Array.getElem?_push_size .., fun s'' z1 z2 z3 => ⟨rfl, ?_⟩⟩
      have J5 := I5 s'' z1 z2 z3
      have st5 : tn 0 s''.heap := T.keep _ _ _ st4 fun b hb o e => by rw [z1]; exact k5 b o e
      have go2 := loop m0 (m0 + 1) 0 s'' s'' H3 (Nat.lt_succ_self _) J5 st5 (fun b hb => (f4 b hb).1.1) w0
      show Seg _ X.A.in1.in1 _ _ _ s'' _ ((compStart (.GeneratorExp elt [⟨tg, iter, ifs, 0⟩] scope pos) 0 (.ref it) .none cenv).onRaise (leaving cenv)) [] s''
      unfold compStart
      rw [Sem.onRaise_eq_wrap]
      show Seg _ X.A.in1.in1 _ _ _ s'' _ ((ask >>= _).wrap _ _ _ _) [] s''
      refine seg_bind_wrap (wpAny_askSetting ?_)
      split
      · exact seg_again rfl go2
      · refine seg_bind_wrap (wpAny_rule ?_)
        show Seg _ X.A.in1.in1 _ _ _ s'' _ ((standAt iter.pos >>= _).wrap _ _ _ _) [] s''
        exact seg_bind_wrap (wpAny_standAt (seg_bind_wrap (T.self _ 0 _ _ _ st5 (seg_again rfl go2))))
    exact main _ _ (fun h e => ⟨_, _, _, e, rfl, rfl, rfl⟩) (fun h => Heap.get?_push_size _ rfl) (fun v z => by cases z)
  cases hf : codeAmong pos ps.toList with
  | none =>
    refine wpAny_genexprCodeX hcode (cd.code hPs htr) (cd.tab hPs) hf fun c' h' tk hx hge hlt hco' _ htab' _ => ?_
    exact cont _ h' tk _ _ hx (Nat.le_trans hge (Nat.le_of_lt hlt)) htab'.2 rfl (.inr ⟨hf, c', rfl⟩)
  | some cv =>
    refine wpAny_genexprCode_hit hcode (cd.code hPs htr) hf ?_
    exact cont cv s2.heap s2.toks ps #[] (Heap.ExtBut.refl _ _) (Nat.le_refl _) hPs (by simp) (.inl rfl)
theorem pe_genAny {c P : Addr} {elt tg iter : Expr} {ifs : List Expr} {scope : Scope} {own : List (Str × Nat)} {p pos gpos : Pos} {wi : TI} {g : TG} {tt : TT} {te : TE} {k : Nat}
    (hc : X.calm = true) (hN : X.N.Nodup) (hr : Room (k + 1) X.A) (TB : TabB X.base X.mg c P) (hcode : X.env.code = .ref c) (hgl : Gl X "any") (hm : X.mg "any" = none) (hi : PI X tg iter wi) (S : GSc X.N X.env.scope scope own)
    (hg : ∀ A s H C code fp pn, Room k A → PG (gctx X A s H (genEnv scope (cloFrom X.env.cells scope.names []) C code builtinsNs X.env) fp pn) tg g) (ht : ∀ A s H C code fp pn, Room k A → PTs (gctx X A s H (genEnv scope (cloFrom X.env.cells scope.names []) C code builtinsNs X.env) fp pn) ifs tt)
    (he : ∀ A s H C code fp pn, Room k A → PE (gctx X A s H (genEnv scope (cloFrom X.env.cells scope.names []) C code builtinsNs X.env) fp pn) elt te) (hs : ∀ x, genFold iter X.env x = pure x) :
    PE X (.Call (.Name "any" p) [.GeneratorExp elt [⟨tg, iter, ifs, 0⟩] scope gpos] [] pos) (tGen true P gpos wi g tt te (own.map (·.2))) := by
  refine ⟨fun pins s σ H Q I h => ?_⟩
  refine wpAny_Call_Name_kw (ld_blt I hgl hm boot_any ?_)
  refine PyProof.Rows.callWith_builtin1 ?_ (by rfl) (by rfl)
  show wpAny _ _ (spliced ((false, eval (.GeneratorExp elt [⟨tg, iter, ifs, 0⟩] scope gpos) X.env) :: backTo pos (starEach [] X.env))) _ _ s
  refine Calls.spliced_cons (gen_core hc hN hr TB hcode I hi S hg ht he hs h fun a gi n gs s5 r => ?_)
  refine Calls.spliced_nil ?_
  refine call_function_tree F.kind_any F.plain_any F.entry_any (F.args_any1 _) ?_
  unfold Builtin.«any»
  refine wpAny_bind (m := oneArg "any" _) (wpAny_pure ?_)
  refine wpAny_bind (wpAny_pyIter_gen r.isgen ?_)
  exact wpAny_pure ⟨plainId_quiet F.plain_any_loop _, any_loop hr.hd (by have := hr.dp; omega) (fun b s' H' I' q => ⟨.bl b, H', I', rfl, q⟩) n gs s5 r⟩
theorem pe_genAll {c P : Addr} {elt tg iter : Expr} {ifs : List Expr} {scope : Scope} {own : List (Str × Nat)} {p pos gpos : Pos} {wi : TI} {g : TG} {tt : TT} {te : TE} {k : Nat}
    (hc : X.calm = true) (hN : X.N.Nodup) (hr : Room (k + 1) X.A) (TB : TabB X.base X.mg c P) (hcode : X.env.code = .ref c) (hgl : Gl X "all") (hm : X.mg "all" = none) (hi : PI X tg iter wi) (S : GSc X.N X.env.scope scope own)
    (hg : ∀ A s H C code fp pn, Room k A → PG (gctx X A s H (genEnv scope (cloFrom X.env.cells scope.names []) C code builtinsNs X.env) fp pn) tg g) (ht : ∀ A s H C code fp pn, Room k A → PTs (gctx X A s H (genEnv scope (cloFrom X.env.cells scope.names []) C code builtinsNs X.env) fp pn) ifs tt)
    (he : ∀ A s H C code fp pn, Room k A → PE (gctx X A s H (genEnv scope (cloFrom X.env.cells scope.names []) C code builtinsNs X.env) fp pn) elt te) (hs : ∀ x, genFold iter X.env x = pure x) :
    PE X (.Call (.Name "all" p) [.GeneratorExp elt [⟨tg, iter, ifs, 0⟩] scope gpos] [] pos) (tGen false P gpos wi g tt te (own.map (·.2))) := by
  refine ⟨fun pins s σ H Q I h => ?_⟩
  refine wpAny_Call_Name_kw (ld_blt I hgl hm (show bootBuiltins "all" = some (.builtin "all") by kernel_rfl) ?_)
  refine PyProof.Rows.callWith_builtin1 ?_ (by rfl) (by rfl)
  show wpAny _ _ (spliced ((false, eval (.GeneratorExp elt [⟨tg, iter, ifs, 0⟩] scope gpos) X.env) :: backTo pos (starEach [] X.env))) _ _ s
  refine Calls.spliced_cons (gen_core hc hN hr TB hcode I hi S hg ht he hs h fun a gi n gs s5 r => ?_)
  refine Calls.spliced_nil ?_
  refine call_function_tree F.kind_all F.plain_all F.entry_all (F.args_all1 _) ?_
  unfold Builtin.«all»
  refine wpAny_bind (m := oneArg "all" _) (wpAny_pure ?_)
  refine wpAny_bind (wpAny_pyIter_gen r.isgen ?_)
  exact wpAny_pure ⟨plainId_quiet F.plain_all_loop _, all_loop hr.hd (by have := hr.dp; omega) (fun b s' H' I' q => ⟨.bl b, H', I', rfl, q⟩) n gs s5 r⟩
end
end FS

-- text FsR3
set_option Elab.async false
set_option linter.all false
set_option maxHeartbeats 1000000
/-! FsR3: tuple of a generator expression. -/
namespace FS
open PySem PySem.Spec PyProof.Rows L2 GxR GenW

/-- what a turn is to reach: ys is out -/
def GTurnT (J : It) (g : TG) (tt : TT) (te : TE) (vs : List Nat) (σ : L2.St) (Q : List V → Hp → Prop) (W : Nat → Nat → List V → Hp → Prop) : Prop := ∀ i m ys H, W i m ys H →
  (J.stop i H ∧ Q ys H) ∨ (J.go i H ∧ ∃ Nx : List V → Hp → Prop, (∀ ys' H', Nx ys' H' → ∃ m', m' < m ∧ W (i + 1) m' ys' H') ∧ ∀ x H', J.yld i H x H' → g x (wipe σ vs) H' fun σ2 H2 => wipe σ2 vs = wipe σ vs ∧ tt σ2 H2 fun b H3 =>
    if b = true then te σ2 H3 fun y H4 => Nx (ys ++ [y]) H4 else Nx ys H3)
def tGenT (P : Addr) (gpos : Pos) (wi : TI) (g : TG) (tt : TT) (te : TE) (vs : List Nat) : TGen := fun σ H Q => wi σ H fun J H1 => ∃ ps : Array Value, H1 P = some (.tbl ps) ∧ TriplesOk ps.toList ∧
  ∀ H2, Grew P gpos ps H1 H2 → ∃ W : Nat → Nat → List V → Hp → Prop, (∃ m, m < sizeLine ∧ W 0 m [] H2) ∧ GTurnT J g tt te vs σ Q W
section
variable {X : Cx} {pins : List (Addr × Obj)} {σ : L2.St} {H : Hp} {s s' : Shared}
theorem seg_genT {Q : List V → Hp → Prop} {EX : XK} {elt tg iter : Expr} {ifs : List Expr} {scope : Scope} {own : List (Str × Nat)} {pos : Pos} {g : TG} {tt : TT} {te : TE} {it a S : Addr} {gi : Nat} {fp : List Addr} {tn : Nat → Heap → Prop} {J : It} {cenv : Env} {gob : Obj} {s4 : Shared} {H4 : Hp} {A A0 : Around}
    (hc : X.calm = true) (I4 : Inv X pins σ H4 s4) (hfp : ∀ b ∈ fp, FpOk X pins H4 b ∧ b < s4.heap.objs.size) (T : Turn X.prog X.w X.K tg J fp it tn) (hgen : ∀ h : Heap, h.get? a = some gob → h.IsGen a gi) (hL : cenv.locals = s4.heap.objs.size) (ha : s4.heap.objs.size < a) (hS : a < S)
    (hcells : ∀ y c, cenv.cells.lookup y = some c → c < s4.heap.objs.size) (hco : cenv.scope.isCoroutine = false) (hA : A = A0.over (.compLoop (.GeneratorExp elt [⟨tg, iter, ifs, 0⟩] scope pos) 0 (.ref it) .none cenv) [])
    (pg : PG (gctx X A s4 H4 cenv fp [(a, gob)]) tg g) (pt : PTs (gctx X A s4 H4 cenv fp [(a, gob)]) ifs tt) (pe : PE (gctx X A s4 H4 cenv fp [(a, gob)]) elt te) {W : Nat → Nat → List V → Hp → Prop} (turn : GTurnT J g tt te (own.map (·.2)) σ Q W) :
    ∀ (m n i : Nat) (s0 s : Shared) (H : Hp) (ys : List V), m < n → n + ys.length = sizeLine → GI (gctx X A s4 H4 cenv fp [(a, gob)]) S [] ys (wipe σ (own.map (·.2))) H s → tn i s.heap → (∀ b ∈ fp, H b = none) → W i m ys H →
      Seg (model X.prog X.w) A0 (REnd X.prog X.w X.stack H4 s4 fp S a gi Q EX) (YItem s4 S a gi) n s0 (.compLoop (.GeneratorExp elt [⟨tg, iter, ifs, 0⟩] scope pos) 0 (.ref it) .none cenv) ((model X.prog X.w).den (.compLoop (.GeneratorExp elt [⟨tg, iter, ifs, 0⟩] scope pos) 0 (.ref it) .none cenv)) [] s := by
  subst hA
  generalize hX' : gctx X (A0.over (.compLoop (.GeneratorExp elt [⟨tg, iter, ifs, 0⟩] scope pos) 0 (.ref it) .none cenv) []) s4 H4 cenv fp [(a, gob)] = X' at pg pt pe ⊢
  have xA : X'.A = A0.over (.compLoop (.GeneratorExp elt [⟨tg, iter, ifs, 0⟩] scope pos) 0 (.ref it) .none cenv) [] := by rw [← hX']
  have xP : X'.prog = X.prog := by rw [← hX']
  have xW : X'.w = X.w := by rw [← hX']
  have xK : X'.K = X.K := by rw [← hX']
  have xe : X'.xe = fun _ _ => False := by rw [← hX']
  have xv : X'.env = cenv := by rw [← hX']
  have xx : X'.ex = fp := by rw [← hX']
  have xp : X'.pn = [(a, gob)] := by rw [← hX']
  have xs : X'.s_0 = s4 := by rw [← hX']
  have ends : ∀ {pins' : List (Addr × Obj)} {σ' : L2.St} {H' : Hp} {s' : Shared}, Inv X' pins' σ' H' s' → Un (frs X.stack) fp H4 H' s4.heap s'.heap ∧ HOk X.prog X.w H' s'.heap ∧ s'.os = s4.os := fun {pins' σ' H' s'} I' => by
    rw [← hX'] at I'
    exact ⟨I'.base, I'.hok, I'.os⟩
  have isg : ∀ {pins' : List (Addr × Obj)} {σ' : L2.St} {H' : Hp} {s' : Shared}, Inv X' pins' σ' H' s' → s'.heap.IsGen a gi := fun {pins' σ' H' s'} I' =>
    hgen _ (I'.pin (a, gob) (List.mem_append_left _ (by rw [xp]; exact List.mem_singleton.mpr rfl))).1
  have fpS : ∀ b ∈ fp, b ≠ S := fun b hb => Nat.ne_of_lt (Nat.lt_trans (hfp b hb).2 (Nat.lt_trans ha hS))
  have stat : ∀ {o : Obj} {σ' : L2.St} {H' : Hp} {s' : Shared}, Inv X' [(S, o)] σ' H' s' → (∀ b ∈ fp, H' b = none) → ∀ b ∈ fp, FpOk X' [(S, o)] H' b := fun {o σ' H' s'} I' hn b hb =>
    ⟨hn b hb, (I'.ok.exf b (by rw [xx]; exact hb)).1, I'.ok.exfs b (by rw [xx]; exact hb), .inl (by rw [xx]; exact hb), fun x c e => (I'.ok.exf b (by rw [xx]; exact hb)).2 x c e, fun p hp => by
      rw [xp] at hp
      rcases List.mem_append.mp hp with hp | hp
      · rw [List.mem_singleton.mp hp]
        exact Nat.ne_of_gt (Nat.lt_trans (hfp b hb).2 ha)
      · rw [List.mem_singleton.mp hp]
        exact Ne.symm (fpS b hb)⟩
  have hcX : X'.calm = true := by rw [← hX']; exact hc
  have hap : Apart X' S := by
    refine ⟨by rw [xs]; exact Nat.le_of_lt (Nat.lt_trans ha hS), by rw [xv, hL]; exact Nat.ne_of_gt (Nat.lt_trans ha hS), fun y c e => ?_⟩
    rw [xv] at e
    exact Nat.ne_of_lt (Nat.lt_trans (hcells y c e) (Nat.lt_trans ha hS))
  have hpnS : ∀ p ∈ X'.pn, p.1 ≠ S := fun p hp => by
    rw [xp] at hp
    rw [List.mem_singleton.mp hp]
    exact Nat.ne_of_lt hS
  intro m
  induction m using Nat.strongRecOn with
  | ind m ih =>
    intro n i s0 s H ys hmn hnl hG st hn hw
    obtain ⟨acc, cc, rys, I⟩ := hG
    show Seg _ A0 _ _ _ s0 _ ((compTurn (.GeneratorExp elt [⟨tg, iter, ifs, 0⟩] scope pos) 0 (.ref it) .none cenv).onRaise (leaving cenv)) [] s
    rw [compTurn_gen, Sem.onRaise_eq_wrap]
    refine seg_bind_wrap (wpAny_standAt ?_)
    rcases turn i m ys H hw with ⟨stop, qq⟩ | ⟨go, Nx, hNx, step⟩
    · have td := T.done X' xP xW xK hcX i [(S, lstObj acc cc)] s _ H (fun _ _ => False) I (stat I hn) st stop
      rw [xA] at td
      refine seg_bind_wrap (thnF td fun r s6 ⟨hr, I6⟩ => ?_)
      subst hr
      obtain ⟨e1, e2, e3⟩ := ends I6
      have pS := I6.pin (S, lstObj acc cc) (List.mem_append_right _ List.mem_cons_self)
      exact seg_end (.ok .next) (.inl ⟨.inr rfl, H, ys, acc, cc, e3, I6.bare, e1, e2, pS.2.1, pS.1, rys, by omega, qq⟩)
    · have ti := T.item X' xP xW xK hcX i [(S, lstObj acc cc)] s _ H (fun _ _ => False) I (stat I hn) st go
      rw [xA] at ti
      refine seg_bind_wrap (thnF ti fun r s6 ⟨u, hr, h6⟩ => ?_)
      subst hr
      refine seg_bind_wrap (thnF h6 fun _ s7 ⟨x, H7, I7, r7, y7, st7, n7⟩ => ?_)
      have I7' := I7.pinned (stat I7 n7) (T.obj _ _ st7)
      have g7 := pg.run _ s7 _ H7 x u _ I7' r7 (step x H7 y7)
      rw [xA, xP, xW, xv, xe] at g7
      refine seg_bind_wrap (thnF g7 fun _ s8 ⟨σ8, H8, I8, hw8, q8⟩ => ?_)
      have g8 := pt.run _ s8 σ8 H8 _ I8 q8
      rw [xA, xP, xW, xv, xe] at g8
      refine seg_bind_wrap (thnF g8 fun b s9 ⟨H9, I9, q9⟩ => ?_)
      have fin : ∀ {s' : Shared} {H' : Hp} {ys' : List V}, GI X' S (pinsAt fp s7.heap) ys' σ8 H' s' → Nx ys' H' → ∀ n' s0', n' + ys'.length = sizeLine → n ≤ n' + 1 →
          Seg (model X.prog X.w) A0 (REnd X.prog X.w X.stack H4 s4 fp S a gi Q EX) (YItem s4 S a gi) n' s0' (.compLoop (.GeneratorExp elt [⟨tg, iter, ifs, 0⟩] scope pos) 0 (.ref it) .none cenv) ((model X.prog X.w).den (.compLoop (.GeneratorExp elt [⟨tg, iter, ifs, 0⟩] scope pos) 0 (.ref it) .none cenv)) [] s' := fun {s' H' ys'} hG' nx n' s0' hn' hle => by
        obtain ⟨m', hm, w'⟩ := hNx ys' H' nx
        obtain ⟨acc', cc', rys', I'⟩ := hG'
        have pin' : ∀ b ∈ fp, ∀ o, s7.heap.get? b = some o → s'.heap.get? b = some o ∧ H' b = none := fun b hb o e =>
          let z := I'.pin (b, o) (List.mem_append_right _ (List.mem_cons_of_mem _ (mem_pinsAt hb e)))
          ⟨z.1, z.2.1⟩
        have hl : (wipe σ (own.map (·.2))).length = σ8.length := by rw [← hw8, wipe_length]
        have I1 : Inv X' ([(S, lstObj acc' cc')] ++ pinsAt fp s7.heap) σ8 H' s' := I'
        have I2 : Inv X' [(S, lstObj acc' cc')] (wipe σ (own.map (·.2))) H' s' := I1.unpinned.weak hl (fun j v e => by
          rw [← hw8] at e
          exact (wipe_some e).1)
        refine ih m' hm n' (i + 1) s0' s' H' ys' (by omega) hn' ⟨acc', cc', rys', I2⟩ (T.keep _ _ _ st7 fun b hb o e => (pin' b hb o e).1) (fun b hb => ?_) w'
        obtain ⟨o, e, _⟩ := T.obj _ _ st7 b hb
        exact (pin' b hb o e).2
      cases b with
      | false =>
        simp only [Bool.false_eq_true, if_false] at q9 ⊢
        exact seg_again rfl (fin ⟨acc, cc, rys, I9⟩ q9 n s0 hnl (Nat.le_succ _))
      | true =>
        simp only [if_true] at q9 ⊢
        have hy : ∀ v, yieldOut cenv v = yieldValue v := fun v => by simp only [yieldOut, hco, Bool.false_eq_true, if_false]
        simp only [hy]
        rw [Sem.bind_eq_wrap', Sem.bind_eq_wrap', Sem.wrap_wrap, Sem.wrap_wrap]
        have g9 := pe.run _ s9 σ8 H9 _ I9 q9
        rw [xA, xP, xW, xv, xe] at g9
        refine seg_wrap (thnF g9 fun z s10 ⟨yv, H10, I10, r10, hnx⟩ => ?_)
        cases n with
        | zero => exact absurd hmn (Nat.not_lt_zero _)
        | succ n' =>
          obtain ⟨e1, e2, e3⟩ := ends I10
          have pS := I10.pin (S, lstObj acc cc) (List.mem_append_right _ List.mem_cons_self)
          have hsz : ys.length = acc.size := by rw [Paired.length rys, Array.length_toList]
          refine seg_at (seg_yield rfl rfl rfl ⟨e3, I10.bare, I10.nolimit, isg I10, ⟨acc, cc, pS.1, by omega⟩, fun s'' hz => ?_⟩)
          have G10 : GI X' S (pinsAt fp s7.heap) ys σ8 H10 s10 := ⟨acc, cc, rys, I10⟩
          have G11 := G10.woken hpnS (fun p hp => ?_) hap r10 hz
          · exact seg_again rfl (fin G11 hnx n' s'' (by rw [List.length_append]; show n' + (ys.length + 1) = _; omega) (Nat.le_refl _))
          · obtain ⟨b, hb, hp⟩ := List.mem_filterMap.mp hp
            cases hq : s7.heap.get? b with
            | none =>
              rw [hq] at hp
              cases hp
            | some ob =>
              rw [hq] at hp
              cases hp
              exact fpS b hb
theorem gen_coreT {c P : Addr} {Q : List V → Hp → Prop} {EX : XK} {elt tg iter : Expr} {ifs : List Expr} {scope : Scope} {own : List (Str × Nat)} {pos : Pos} {wi : TI} {g : TG} {tt : TT} {te : TE} {k : Nat}
    (hc : X.calm = true) (hN : X.N.Nodup) (hr : Room (k + 1) X.A) (TB : TabB X.base X.mg c P) (hcode : X.env.code = .ref c) (I : Inv X pins σ H s) (hi : PI X tg iter wi) (S : GSc X.N X.env.scope scope own)
    (hg : ∀ A s H C code fp pn, Room k A → PG (gctx X A s H (genEnv scope (cloFrom X.env.cells scope.names []) C code builtinsNs X.env) fp pn) tg g) (ht : ∀ A s H C code fp pn, Room k A → PTs (gctx X A s H (genEnv scope (cloFrom X.env.cells scope.names []) C code builtinsNs X.env) fp pn) ifs tt)
    (he : ∀ A s H C code fp pn, Room k A → PE (gctx X A s H (genEnv scope (cloFrom X.env.cells scope.names []) C code builtinsNs X.env) fp pn) elt te) (hs : ∀ x, genFold iter X.env x = pure x) (h : tGenT P pos wi g tt te (own.map (·.2)) σ H Q) :
    wpAny (model X.prog X.w) X.A (eval (.GeneratorExp elt [⟨tg, iter, ifs, 0⟩] scope pos) X.env) (fun u s' => ∃ H1 sc ex, Inv X pins σ H1 sc ∧ ExOk X pins ex ∧ GMade X.prog X.w (k + 1) X.stack H1 sc ex Q EX u s') X.xe s := by
  have hh : X.A.handled = none := hr.hd
  have hd : X.A.depth < recursionLimit := by have := hr.dp; omega
  have hfree : ∀ y ∈ scope.names, y.2 = .free → ∃ c, X.env.cells.lookup y.1 = some c := fun y hy e => by
    rcases S.blk.free y hy e with k | k
    · exact I.ok.has _ (.inl k)
    · exact I.ok.has _ (.inr k)
  refine wpAny_GeneratorExp_make S.co (closure_ok hfree) S.cell S.dot S.blk.kind hd (thn (hi.run pins s σ H _ I h) fun xv s1 hx => thn hx fun itv s2 h2 => ?_) hs
  obtain ⟨it, fp, tn, J, H2, e, I2, T, st2, f2, ps, hP, htr, q⟩ := h2
  subst e
  refine ⟨I2.nolimit, ?_⟩
  have hPs : s2.heap.get? P = some { cls := .none, data := .fields ps } := I2.hok P _ hP
  have hPlt : P < s2.heap.objs.size := Heap.lt_size hPs
  have cd : PySem.W.CodeHd s2.heap c P := TB.code.keeps fun b u e => I2.bk b u e
  have nfP : ∀ b ∈ fp, b ≠ P := fun b hb z => by
    have := (f2 b hb).1
    rw [z, hP] at this
    cases this
  have cont : ∀ (code : Value) (h3 : Heap) (tk : Nat) (ps' more : Array Value), Heap.ExtBut P s2.heap h3 → s2.heap.objs.size ≤ h3.objs.size → h3.get? P = some { cls := .none, data := .fields ps' } → ps' = ps ++ more → (more = #[] ∨ (codeAmong pos ps.toList = none ∧ ∃ c, more = #[rawInt pos.line, rawInt pos.col, .ref c])) →
      wpAny (model X.prog X.w) X.A (builtinsFor X.env.globals X.env.builtins) (fun bi s₄ => ∀ h', h'.Ns s₄.heap.objs.size (fun y => if y = ".0" then some (Value.ref it) else none) → Heap.SameBut s₄.heap.objs.size (s₄.heap.push { cls := .type "frame", data := .dict #[] }) h' →
          (fun u s' => ∃ H1 sc ex, Inv X pins σ H1 sc ∧ ExOk X pins ex ∧ GMade X.prog X.w (k + 1) X.stack H1 sc ex Q EX u s') (.ref h'.objs.size) { s₄ with
            gens := s₄.gens.push (.fresh (.compStart (.GeneratorExp elt [⟨tg, iter, ifs, 0⟩] scope pos) 0 (.ref it) .none (genEnv scope (cloFrom X.env.cells scope.names []) s₄.heap.objs.size code bi X.env))),
            toks := s₄.toks + 1 + 1 + 1,
            heap := h'.push { cls := .type "generator", data := .fields #[.int s₄.gens.size 0, .str "<genexpr>" (s₄.toks + 1), .str (X.env.qual ++ "<genexpr>") (s₄.toks + 1 + 1)] } }) X.xe { s2 with heap := h3, toks := tk } := by
    intro code h3 tk ps' more hx hsz hP3 eps hmore
    obtain ⟨bm, ob, e1, e2, e3, e4, e5, e6, e7, e8⟩ := TB.bm
    have keep3 : ∀ b u, b ≠ P → s2.heap.get? b = some u → h3.get? b = some u := fun b u hb e => hx b u hb e
    refine wpAny_builtinsFor (m := X.mg) (by rw [I2.ok.glob]; exact (I2.mod.glob.keeps I2.bk).extBut hx TB.gP) e1 e2 (keep3 _ _ e4 (I2.bk _ _ e5)) e6 e7 e8 ?_
    generalize hH3 : upd H2 P (.tbl (ps ++ more)) = H3
    have I4 : Inv X pins σ H3 { s2 with heap := h3, toks := tk } := by
      rw [← hH3]
      exact inv_tab (g' := s2.gens) (d' := s2.drawn) (t' := tk) I2 hP keep3 (by rw [← eps]; exact hP3) I2.bare
    generalize hs4 : ({ s2 with heap := h3, toks := tk } : Shared) = s4 at I4 ⊢
    have s4h : s4.heap = h3 := by rw [← hs4]
    intro h' hn' hsb
    have ez : h'.objs.size = s4.heap.objs.size + 1 := by rw [hsb.1, Heap.size_push]
    have keep' : ∀ b o, s4.heap.get? b = some o → h'.get? b = some o := fun b o e => hsb.extBut b o (Nat.ne_of_lt (Heap.lt_size e)) (Heap.get?_push_of_some _ e)
    have main : ∀ (go : Obj) (tk2 : Nat), (∀ h : Heap, h.get? h'.objs.size = some go → h.IsGen h'.objs.size s4.gens.size) → (∀ h : Heap, (h.push go).get? h.objs.size = some go) → (∀ v, go.data ≠ .cell v) →
        (fun u s' => ∃ H1 sc ex, Inv X pins σ H1 sc ∧ ExOk X pins ex ∧ GMade X.prog X.w (k + 1) X.stack H1 sc ex Q EX u s') (.ref h'.objs.size) { s4 with gens := s4.gens.push (.fresh (.compStart (.GeneratorExp elt [⟨tg, iter, ifs, 0⟩] scope pos) 0 (.ref it) .none (genEnv scope (cloFrom X.env.cells scope.names []) s4.heap.objs.size code builtinsNs X.env))), toks := tk2, heap := h'.push go } := by
      intro go tk2 hgen hgp hgd
      generalize hcenv : genEnv scope (cloFrom X.env.cells scope.names []) s4.heap.objs.size code builtinsNs X.env = cenv
      have keep5 : ∀ b o, s4.heap.get? b = some o → (h'.push go).get? b = some o := fun b o e => Heap.get?_push_of_some _ (keep' b o e)
      have ogo := hgp h'
      obtain ⟨W, ⟨m0, hm0, w0⟩, turn⟩ := q H3 ⟨more, hH3.symm, hmore⟩
      have f4 : ∀ b ∈ fp, FpOk X pins H3 b ∧ b < s4.heap.objs.size := fun b hb => by
        refine ⟨⟨?_, (f2 b hb).2⟩, ?_⟩
        · rw [← hH3, upd_ne (nfP b hb)]
          exact (f2 b hb).1
        · obtain ⟨o, e, _⟩ := T.obj _ _ st2 b hb
          rw [s4h]
          exact Nat.lt_of_lt_of_le (Heap.lt_size e) hsz
      have st4 : tn 0 s4.heap := T.keep _ _ _ st2 fun b hb o e => by rw [s4h]; exact keep3 b o (nfP b hb) e
      generalize hs5 : ({ s4 with gens := s4.gens.push (.fresh (.compStart (.GeneratorExp elt [⟨tg, iter, ifs, 0⟩] scope pos) 0 (.ref it) .none cenv)), toks := tk2, heap := h'.push go } : Shared) = s5
      have h5 : s5.heap = h'.push go := by rw [← hs5]
      have o5 : s5.os = s4.os := by rw [← hs5]
      have g5 : s5.gens = s4.gens.push (.fresh (.compStart (.GeneratorExp elt [⟨tg, iter, ifs, 0⟩] scope pos) 0 (.ref it) .none cenv)) := by rw [← hs5]
      have b5 : AllBare s5.gens := by rw [g5]; exact AllBare.push I4.bare rfl
      have k5 : ∀ b o, s4.heap.get? b = some o → s5.heap.get? b = some o := fun b o e => by rw [h5]; exact keep5 b o e
      have ha : s4.heap.objs.size < h'.objs.size := by rw [ez]; exact Nat.lt_succ_self _
      have hco : cenv.scope.isCoroutine = false := by rw [← hcenv]; exact S.co
      have hL : cenv.locals = s4.heap.objs.size := by rw [← hcenv]; rfl
      have hcells : ∀ y c, cenv.cells.lookup y = some c → c < s4.heap.objs.size := fun y c e => by
        rw [← hcenv] at e
        rcases cloFrom_mem (PySem.mem_of_lookup e) with hm | ⟨h1, rfl⟩
        · cases hm
        · obtain ⟨c, hc⟩ := hfree _ h1 rfl
          rw [hc]
          obtain ⟨w, z⟩ := I4.cell _ _ hc
          exact z.lt
      refine ⟨H3, s4, fp, I4, fun b hb => ⟨(f4 b hb).1.2.2.2.1, (f4 b hb).1.2.1, (f4 b hb).1.2.2.2.2.1, (f4 b hb).1.2.2.2.2.2⟩, h'.objs.size, s4.gens.size, .compStart (.GeneratorExp elt [⟨tg, iter, ifs, 0⟩] scope pos) 0 (.ref it) .none cenv, rfl, Nat.le_of_lt ha, ?_, ?_, ?_, ?_, ?_, ?_, ?_, fun A S2 s2' rA0 frA0 hS2 kp2 hS3 os2 b2 => ?_⟩
      · show _ < s5.heap.objs.size
        rw [h5, Heap.size_push]
        exact Nat.lt_succ_self _
      · show s5.heap.IsGen _ _
        rw [h5]
        exact hgen _ ogo
      · show s5.gens[s4.gens.size]? = _
        rw [g5]
        exact Array.getElem?_push_size ..
      · exact o5
      · exact b5
      · exact I4.nolimit.keeps k5
      · exact k5
      generalize hA : A.over (.compLoop (.GeneratorExp elt [⟨tg, iter, ifs, 0⟩] scope pos) 0 (.ref it) .none cenv) [] = A2
      have rA : Room k A2 := by
        rw [← hA]
        refine ⟨rA0.hd, ?_, ?_⟩
        · have := rA0.dp
          show A.depth + 1 + 3 * k + 5 < _
          omega
        · have := rA0.un
          show A.units + 3 + 16 * k + 200 < _
          omega
      have frA : A2.frames = some (cenv :: X.stack) := by
        rw [← hA]
        show pushEnvs [cenv] (pushEnvs [] A.frames) = _
        rw [frA0]
        rfl
      have kall : ∀ b o, s4.heap.get? b = some o → s2'.heap.get? b = some o := fun b o e => kp2 b o (k5 b o e)
      have hS2' : h'.objs.size < S2 := by
        have : s5.heap.objs.size ≤ S2 := hS2
        rw [h5, Heap.size_push] at this
        exact Nat.lt_of_succ_le this
      obtain ⟨cS, eS⟩ := hS3
      have J5 : Inv (gctx X A2 s4 H3 cenv fp [(h'.objs.size, go)]) [] (wipe σ (own.map (·.2))) H3 s2' :=
        gen_start (m := fun y => if y = ".0" then some (Value.ref it) else none) I4 S hN f4 hcenv.symm frA (fun _ => rA.hd) kall os2 b2 ((hn'.push _).keeps fun b o e => kp2 b o (by show s5.heap.get? b = _; rw [h5]; exact e)) ha (kp2 _ _ (by show s5.heap.get? _ = _; rw [h5]; exact ogo)) hgd
      have hnS : H3 S2 = none := I4.hok.fresh (Nat.le_of_lt (Nat.lt_trans ha hS2'))
      have G5 : GI (gctx X A2 s4 H3 cenv fp [(h'.objs.size, go)]) S2 [] [] (wipe σ (own.map (·.2))) H3 s2' := by
        refine ⟨#[], cS, .nil, J5.pins_of fun p hp => ?_⟩
        rw [List.mem_singleton.mp hp]
        refine ⟨eS, hnS, ?_, fun z => ?_, fun v z => by cases z⟩
        · show S2 ≠ cenv.locals
          rw [hL]
          exact Nat.ne_of_gt (Nat.lt_trans ha hS2')
        · have z : S2 ∈ frs X.stack := z
          rcases List.mem_cons.mp (I4.stkSub S2 z) with z | z
          · have h1 := I4.lt
            rw [← z] at h1
            exact absurd (Nat.lt_trans (Nat.lt_trans ha hS2') h1) (Nat.lt_irrefl _)
          · exact I4.nofs (Nat.le_of_lt (Nat.lt_trans ha hS2')) z
      have st5 : tn 0 s2'.heap := T.keep _ _ _ st4 fun b hb o e => kall b o e
      have go2 := seg_genT (EX := EX) (S := S2) (Q := Q) (iter := iter) (scope := scope) (pos := pos) (own := own) (gi := s4.gens.size) hc I4 f4 T hgen hL ha hS2' hcells hco hA.symm (by rw [← hcenv]; exact hg A2 s4 H3 _ code fp _ rA) (by rw [← hcenv]; exact ht A2 s4 H3 _ code fp _ rA) (by rw [← hcenv]; exact he A2 s4 H3 _ code fp _ rA) turn
        m0 sizeLine 0 s2' s2' H3 [] hm0 rfl G5 st5 (fun b hb => (f4 b hb).1.1) w0
      show Seg _ A _ _ _ s2' _ ((compStart (.GeneratorExp elt [⟨tg, iter, ifs, 0⟩] scope pos) 0 (.ref it) .none cenv).onRaise (leaving cenv)) [] s2'
      unfold compStart
      rw [Sem.onRaise_eq_wrap]
      show Seg _ A _ _ _ s2' _ ((ask >>= _).wrap _ _ _ _) [] s2'
      refine seg_bind_wrap (wpAny_askSetting ?_)
      split
      · exact seg_again rfl go2
      · refine seg_bind_wrap (wpAny_rule ?_)
        show Seg _ A _ _ _ s2' _ ((standAt iter.pos >>= _).wrap _ _ _ _) [] s2'
        exact seg_bind_wrap (wpAny_standAt (seg_bind_wrap (T.self _ 0 _ _ _ st5 (seg_again rfl go2))))
    exact main _ _ (fun h e => ⟨_, _, _, e, rfl, rfl, rfl⟩) (fun h => Heap.get?_push_size _ rfl) (fun v z => by cases z)
  cases hf : codeAmong pos ps.toList with
  | none =>
    refine wpAny_genexprCodeX hcode (cd.code hPs htr) (cd.tab hPs) hf fun c' h' tk hx hge hlt hco' _ htab' _ => ?_
    exact cont _ h' tk _ _ hx (Nat.le_trans hge (Nat.le_of_lt hlt)) htab'.2 rfl (.inr ⟨hf, c', rfl⟩)
  | some cv =>
    refine wpAny_genexprCode_hit hcode (cd.code hPs htr) hf ?_
    exact cont cv s2.heap s2.toks ps #[] (Heap.ExtBut.refl _ _) (Nat.le_refl _) hPs (by simp) (.inl rfl)
end
end FS

-- text FsR4
set_option Elab.async false
set_option linter.all false
set_option maxHeartbeats 1000000
/-! FsR4: tuple(generator expression): the call. -/
namespace FS
open PySem PySem.Spec PyProof.Rows L2 GxR GenW
open AutoSeq1 (wpAny_loadPart')
section
variable {P : Program} {w : World} {outer : List Env} {H : Hp} {sc s : Shared} {ex : List Addr} {Q : List V → Hp → Prop} {A : Around} {k : Nat} {u : Value}
/-- what stands behind the draining -/
def Drained (P : Program) (w : World) (outer : List Env) (H : Hp) (sc : Shared) (ex : List Addr) (n0 : Nat) (Q : List V → Hp → Prop) (items : List Value) (z : Shared) : Prop :=
  ∃ H' ys, Vals ys items ∧ ys.length ≤ sizeLine ∧ z.os = sc.os ∧ AllBare z.gens ∧ Un (frs outer) ex H H' sc.heap z.heap ∧ HOk P w H' z.heap ∧ n0 ≤ z.heap.objs.size ∧ Q ys H'
set_option maxRecDepth 90000 in
theorem collect_made {K : List Value → Shared → Prop} {E : Value → Shared → Prop} (room : Room (k + 1) A) (frames : A.frames = some outer) (made : GMade P w k outer H sc ex Q (fun _ _ _ => False) u s) (fin : ∀ items z, Drained P w outer H sc ex s.heap.objs.size Q items z → K items z) :
    wpAny (model P w) A (collect u) K E s := by
  obtain ⟨a, gi, cd, eu, low, high, gen, fresh, os0, bare0, lim, kept, run⟩ := made
  subst eu
  have stat : cStatics < s.heap.objs.size := by
    obtain ⟨_, ns, _⟩ := lim
    exact ns.lt
  have entry := F.entry_proto_collect
  unfold collect
  refine wpAny_bind (wpAny_runValue (codeAny_builtin entry ?_))
  have pl1 := F.plain_proto_collect
  rw [Around.under_plainId pl1 _]
  have entry2 := F.entry_list_iadd
  show wpAny _ A.in1 (newList [] >>= fun l => again (.builtin "list.__iadd__" ⟨[l, Value.ref a], []⟩)) _ _ s
  refine wpAny_bind (wpAny_newObj_type (wpAny_pure ⟨plainId_quiet F.plain_list_iadd _, codeAny_builtin entry2 ?_⟩))
  have pl2 := F.plain_list_iadd
  rw [Around.under_plainId pl2 _]
  generalize eS : s.heap.objs.size = S at *
  generalize eh : s.heap.push { cls := .type "list", data := .seq ([] : List Value).toArray } = h1
  have at1 : h1.get? S = some (lstObj #[] 0) := by
    rw [← eh, ← eS]
    exact Heap.get?_push_size _ rfl
  have keep1 : ∀ b o, s.heap.get? b = some o → h1.get? b = some o := fun b o q => by
    rw [← eh]
    exact Heap.get?_push_of_some _ q
  have neS : ∀ b o, s.heap.get? b = some o → S ≠ b := fun b o q => by
    have := Heap.lt_size q
    rw [eS] at this
    exact Nat.ne_of_gt this
  have upd1 : ∀ (h : Heap) (f : Obj → Obj), (∀ b o, s.heap.get? b = some o → h.get? b = some o) → ∀ b o, s.heap.get? b = some o → (h.update S f).get? b = some o := fun h f q b o z => (Heap.get?_update_other _ _ (neS b o z)).trans (q b o z)
  have Sa : S ≠ a := Nat.ne_of_gt high
  show wpAny _ A.in1 (Builtin.List.listExtendWith (.ref S) (.ref a) (.ref S)) _ _ _
  unfold Builtin.List.listExtendWith
  have tyG : ∀ (h : Heap), (∀ b o, s.heap.get? b = some o → h.get? b = some o) → Shared.TypeIs { s with heap := h } (.ref a) "generator" := fun h q => Heap.IsGen.typeIs (s := { s with heap := h }) (gen.keeps q)
  refine wpAny_bind (wpAny_typeOf (tyG _ keep1) ?_)
  have no1 : Builtin.List.listSameRef (.ref S) (.ref a) = false := by
    unfold Builtin.List.listSameRef
    simp [Sa]
  have no2 : (Value.type "generator" == Value.type "list") = false := by rfl
  have no3 : (Value.type "generator" == Value.type "tuple") = false := by rfl
  simp only [no1, no2, no3, Bool.or_false, Bool.false_eq_true, if_false]
  refine wpAny_bind (wpAny_pyIter_gen (s := { s with heap := h1 }) (gen.keeps keep1) ?_)
  unfold Builtin.List.listLengthHint
  refine wpAny_bind (wpAny_holding (wpAny_bind (wpAny_specialOf (tyG _ keep1) F.gen_no_len ?_)))
  show wpAny _ A.in1 (specialOf (Value.ref a) (Str.ofString "__length_hint__") >>= fun _ => _) _ _ _
  refine wpAny_bind (wpAny_specialOf (tyG _ keep1) F.gen_no_hint (wpAny_pure ?_))
  show wpAny _ A.in1 (rule "list.extend.makes-room" >>= fun _ => Builtin.List.listTouch (.ref S) >>= fun _ => again (.builtin "list.extend.loop" ⟨[.ref S, .ref a, .ref S], []⟩)) _ _ _
  refine wpAny_bind (wpAny_rule (wpAny_bind ?_))
  show wpAny _ A.in1 (updateSeq S (·.push .none) >>= fun _ => updateSeq S (·.pop)) _ _ _
  have at2 := Heap.get?_update_self (Obj.mapSeq (·.push Value.none)) at1 rfl
  have at3 := Heap.get?_update_self (Obj.mapSeq (·.pop)) at2 rfl
  have keep3 := upd1 _ (Obj.mapSeq (·.pop)) (upd1 _ (Obj.mapSeq (·.push Value.none)) keep1)
  have l0 : (#[] : Array Value).size ≤ sizeLine := Nat.zero_le _
  have l1 : ((#[] : Array Value).push Value.none).size ≤ sizeLine := by rw [sizeLine_eq, Array.size_push]; exact Nat.le_of_ble_eq_true rfl
  have l2 : ((#[] : Array Value).push Value.none).pop.size ≤ sizeLine + 1 := by rw [Array.size_pop]; exact Nat.le_trans (Nat.sub_le _ _) (Nat.le_succ_of_le l1)
  refine wpAny_bind (wpAny_updateSeq (hz := l0) (_hz' := Nat.le_succ_of_le l1) at1 rfl ?_)
  refine wpAny_updateSeq (hz := l1) (_hz' := l2) at2 rfl ?_
  refine wpAny_pure ⟨plainId_quiet F.plain_extend_loop _, ?_⟩
  refine drain (outer := outer) (H := H) (sc := sc) (ex := ex) (Q := Q) (EX := fun _ _ _ => False) (A := A) (g := gi) room.hd (by have := room.dp; omega) Sa (Nat.ne_of_gt stat)
    (fun z acc c H' ys q1 q2 q3 q4 q5 q6 q7 q8 q9 => ?_) (fun e z bad => ?_) sizeLine _ (gen.keeps keep3) (lim.keeps keep3) ⟨_, fresh, rfl, ?_⟩
  · show wpAny _ A (load S >>= _) _ _ z
    refine wpAny_bind (wpAny_load q1 (wpAny_pure (fin _ _ ⟨H', ys, q2, q3, q4, q5, q6, q7, ?_, q9⟩)))
    exact Nat.le_of_lt (Heap.lt_size q1)
  · obtain ⟨_, _, _, _, _, _, _, _, _, _, _, _, no⟩ := bad
    exact False.elim no
  · refine run _ _ _ ⟨room.hd, ?_, ?_⟩ frames (Nat.le_refl _) keep3 ⟨_, at3⟩ os0 (allBare_setGen (s := { s with heap := _ }) bare0 rfl)
    · have := room.dp
      show A.depth + 3 * k + 5 < _
      omega
    · have := room.un
      show A.units + 1 + 1 + 16 * k + 200 < _
      omega

set_option maxRecDepth 90000 in
theorem call_tuple_made {K : Value → Shared → Prop} {E : Value → Shared → Prop} (room : Room (k + 2) A) (frames : A.frames = some outer) (made : GMade P w k outer H sc ex Q (fun _ _ _ => False) u s)
    (fin : ∀ items z, Drained P w outer H sc ex s.heap.objs.size Q items z → K (.ref z.heap.objs.size) { z with heap := z.heap.push { cls := .type "tuple", data := .seq items.toArray } }) : wpAny (model P w) A (call (.type "tuple") [u]) K E s := by
  obtain ⟨a, gi, cd, eu, low, high, gen, rest⟩ := id made
  subst eu
  have tyG : s.TypeIs (.ref a) "generator" := gen.typeIs
  have room2 : Room (k + 1) A.in1.in1 := ⟨room.hd, by have := room.dp; show A.depth + 3 * (k + 1) + 5 < _; omega, by have := room.un; show A.units + 1 + 1 + 16 * (k + 1) + 200 < _; omega⟩
  refine callType_codes (Q₁ := fun o z => z.TypeIs o "tuple" ∧ K o z) F.called_tuple (F.typeCall_tuple_1 _) F.entry_object_init ?_ fun o z hz => ⟨hz.1, F.args_object_init_2 o _, object_init_meets F.called_tuple.init.lookup F.called_tuple.made (by decide) P w A.in1 _ z ⟨hz.1, rfl, hz.2⟩⟩
  refine codeAny_of_tree ?_
  have en := F.entry_tuple_new
  show wpAny _ A.in1.in1 (do checkBuiltinCall "tuple.__new__" ⟨[.type "tuple", Value.ref a], []⟩; again (.builtin "tuple.__new__" ⟨[.type "tuple", Value.ref a], []⟩)) _ _ s
  refine wpAny_bind (wpAny_of_eq (F.newCall_tuple_1 _) (wpAny_pure ⟨plainId_quiet F.plain_tuple_new _, codeAny_builtin en ?_⟩))
  have pl := F.plain_tuple_new
  rw [Around.under_plainId pl _]
  have z1 := sub_tuple_self
  have z2 := init_tuple_lookup
  have z3 := madeHere_tuple
  wp_walk using wpAny_typeOf tyG, collect_made room2 frames made
  intros
  rename_i items z dz
  show wpAny _ _ (Builtin.Tuple.tupleExact items.toArray >>= fun t => ret t) _ _ _
  obtain ⟨H', ys, r1, r2, r3⟩ := id dz
  unfold Builtin.Tuple.tupleExact
  refine wpAny_bind (wpAny_newObj_type (wpAny_pure ?_) (by show items.toArray.size ≤ sizeLine; rw [List.size_toArray, ← Paired.length r1]; exact r2))
  exact ⟨⟨_, Heap.get?_push_size _ rfl, rfl⟩, fin items z dz⟩
end
section
variable {X : Cx} {k : Nat} {p pos : Pos}
def tTupG (tg : TGen) : TE := fun σ H Q => tg σ H fun out H2 => ∀ p, H2 p = none → Q (.ref p) (upd H2 p (.tup out))
theorem pe_tupG {e : Expr} {tg : TGen} (h : PGen X k e tg fun _ _ _ => False) (room : Room (k + 2) X.A) (hg : Gl X "tuple") (hm : X.mg "tuple" = none) (he : starEach [e] X.env = (false, eval e X.env) :: starEach [] X.env := by rfl) : PE X (.Call (.Name "tuple" p) [e] [] pos) (tTupG tg) := by
  refine ⟨fun pins s σ H Q I hq => ?_⟩
  have bt : bootBuiltins "tuple" = some (.type "tuple") := by kernel_rfl
  refine wpAny_Call_Name_kw (ld_blt I hg hm bt ?_ (by decide) (by decide))
  refine PyProof.Rows.callWith_type1 ?_ he rfl
  rw [he]
  show wpAny _ _ (spliced ((false, eval e X.env) :: backTo pos (starEach [] X.env))) _ _ s
  refine Calls.spliced_cons (thn (h.run pins s σ H _ I hq) fun u z ⟨H1, sc, ex, I1, hex, made⟩ => Calls.spliced_nil ?_)
  have hsz : sc.heap.objs.size ≤ z.heap.objs.size := by
    obtain ⟨a, g, c, _, h1, h2, _⟩ := made
    exact Nat.le_trans h1 (Nat.le_of_lt h2)
  refine call_tuple_made room I1.ok.frames made fun items y ⟨H', ys, r1, r2, r3, r4, r5, r6, r7, r8⟩ => ?_
  have I2 : Inv X pins σ H' y := I1.call' (ch := ex) r3 r5 r6 r4 hex
  have hn : H' y.heap.objs.size = none := r6.fresh (Nat.le_refl _)
  refine ⟨.ref y.heap.objs.size, upd H' y.heap.objs.size (.tup ys), I2.laid (t' := y.toks) (fun b o q => Heap.get?_push_of_some _ q) (Nat.le_refl _) ⟨r2, items, r1, ⟨_, Heap.get?_push_size _ rfl, rfl, _, rfl⟩⟩, rfl, r8 _ hn⟩
end
end FS

-- text FsN1
set_option Elab.async false
set_option linter.all false
set_option maxHeartbeats 1000000
/-! FsN1: a context whose ground is made larger; the ground with the cells of the def that runs. -/
namespace FS
open PySem PySem.Spec PyProof.Rows L2 LamX
section
variable {X : Cx} {B : Heap} {pins : List (Addr × Obj)} {σ : L2.St} {H : Hp} {s : Shared}
/-- B may be X's ground -/
structure Grd (X : Cx) (B : Heap) : Prop where
  mod : Mod X.K X.mg B
  bs : ∀ b o, B.get? b = some o → X.s_0.heap.get? b = some o ∧ X.H_0 b = none
  sz : B.objs.size ≤ X.s_0.heap.objs.size
  noex : ∀ b o, B.get? b = some o → b ∉ X.ex
  funs : X.s_0.heap.FunFrames B X.outer
theorem Inv.based (I : Inv X pins σ H s) (g : Grd X B) : Inv { X with base := B } pins σ H s := by
  have k := I.ok
  exact ⟨⟨g.mod, k.kind, k.glob, k.blt, k.above, k.inj, k.has, k.cab, k.hd, k.frames, k.stk, k.exf, g.bs, g.sz, g.noex, k.exfs, g.funs, k.frf⟩, I.os, I.bare, I.base, I.loc, I.cell, I.free, I.freeC, I.pin, I.hok, I.len⟩
theorem Inv.unbased (I : Inv { X with base := B } pins σ H s) (ok : X.Ok) : Inv X pins σ H s := ⟨ok, I.os, I.bare, I.base, I.loc, I.cell, I.free, I.freeC, I.pin, I.hok, I.len⟩
end
section
variable {X : Cx} {pins : List (Addr × Obj)} {σ : L2.St} {H : Hp} {s : Shared}
def keepA (X : Cx) (b : Addr) : Bool := (X.base.get? b).isSome || ((X.env.cells.map (·.1)).any fun x => decide (X.env.cells.lookup x = some b))
/-- the ground with the cells of the frame that runs -/
def upBase (X : Cx) (h : Heap) : Heap := PySem.W.hideAll h ((List.range h.objs.size).filter fun b => !keepA X b)
theorem upBase_get {h : Heap} {b : Addr} {o : Obj} (e : h.get? b = some o) (hk : keepA X b = true) : (upBase X h).get? b = some o := by
  unfold upBase
  refine PySem.W.hideAll_get _ e fun m => ?_
  have := (List.mem_filter.mp m).2
  rw [hk] at this
  cases this
theorem of_upBase {h : Heap} {b : Addr} {o : Obj} (e : (upBase X h).get? b = some o) : h.get? b = some o ∧ keepA X b = true := by
  have e1 : h.get? b = some o := PySem.W.of_hideAll _ e
  refine ⟨e1, ?_⟩
  cases hk : keepA X b with
  | true => rfl
  | false =>
    exfalso
    have m : b ∈ (List.range h.objs.size).filter fun b => !keepA X b := List.mem_filter.mpr ⟨List.mem_range.mpr (Heap.lt_size e1), by rw [hk]; rfl⟩
    have z : (upBase X h).get? b = none := PySem.W.hideAll_none _ m
    rw [z] at e
    cases e
theorem keepA_cell {x : Str} {c : Addr} (h : X.env.cells.lookup x = some c) : keepA X c = true := by
  unfold keepA
  rw [Bool.or_eq_true]
  right
  rw [List.any_eq_true]
  exact ⟨x, List.mem_map.mpr ⟨(x, c), PySem.mem_of_lookup h, rfl⟩, decide_eq_true h⟩
theorem keepA_base {b : Addr} {o : Obj} (h : X.base.get? b = some o) : keepA X b = true := by
  unfold keepA
  rw [h]
  rfl
theorem of_keepA {b : Addr} (h : keepA X b = true) : (∃ o, X.base.get? b = some o) ∨ ∃ x, X.env.cells.lookup x = some b := by
  unfold keepA at h
  rw [Bool.or_eq_true] at h
  rcases h with h | h
  · exact .inl (Option.isSome_iff_exists.mp h)
  · rw [List.any_eq_true] at h
    obtain ⟨x, _, e⟩ := h
    exact .inr ⟨x, of_decide_eq_true e⟩
theorem env0_up (I : Inv X pins σ H s) (hfn : ∀ x, X.fn x = true) : Env0 X.prog X.w X.K X.mg (upBase X s.heap) X.A X.stack s H := by
  have up : ∀ b o, X.base.get? b = some o → (upBase X s.heap).get? b = some o := fun b o e => upBase_get (I.bk b o e) (keepA_base e)
  have e0 := I.env0
  refine ⟨e0.frames, ⟨e0.mod.kin.keeps up, e0.mod.glob.keeps up, ?_, e0.mod.nolimit.keeps up⟩, fun b o e => ?_, ?_, ?_, e0.frf, e0.hok, e0.bare⟩
  · obtain ⟨mb, h1, h2⟩ := e0.mod.blt
    exact ⟨mb, h1.keeps up, h2⟩
  · obtain ⟨e1, hk⟩ := of_upBase e
    refine ⟨e1, ?_⟩
    rcases of_keepA hk with ⟨o', hb⟩ | ⟨x, hx⟩
    · exact (I.bs b o' hb).2
    · exact I.freeC x b hx
  · unfold upBase
    rw [PySem.W.hideAll_size]
    exact Nat.le_refl _
  · refine funFrames_none e0.funs fun L hL => ?_
    cases q : (upBase X s.heap).get? L with
    | none => rfl
    | some o =>
      exfalso
      obtain ⟨_, hk⟩ := of_upBase q
      rcases of_keepA hk with ⟨o', hb⟩ | ⟨x, hx⟩
      · have := (I.stack.mem hL).1
        rw [hb] at this
        cases this
      · rcases List.mem_cons.mp (I.stkSub L hL) with z | z
        · exact I.cne x L hx z
        · obtain ⟨_, o2, ho2, _⟩ := I.ok.funs.mem z
          exact Nat.lt_irrefl _ (Nat.lt_of_lt_of_le (Heap.lt_size ho2) (I.ok.cab x L (hfn x) hx))
end
section
variable {G : GD} {Y : GX} {cf : CF} {k : Nat} {C : SC} {cm : List (Option CI)} {o : List Fr} {X : Cx} {J : JC}
variable {ρ ρ1 : List Addr} {H H1 : Hp} {mh : MH} {σ : L2.St} {fr : Fr} {pins : List (Addr × Obj)} {s : Shared}
theorem frameAt_cons {o : List Fr} {fr f : Fr} {d : Nat} (h : frameAt (fr :: o) d = some f) : (d < o.length ∧ frameAt o d = some f) ∨ (d = o.length ∧ f = fr) := by
  unfold frameAt at h ⊢
  rw [List.length_cons] at h
  by_cases hd : d < o.length
  · left
    refine ⟨hd, ?_⟩
    rw [if_pos hd]
    rw [if_pos (by omega)] at h
    have e : o.length + 1 - 1 - d = (o.length - 1 - d) + 1 := by omega
    rw [e] at h
    exact h
  · right
    by_cases hd2 : d < o.length + 1
    · rw [if_pos hd2] at h
      have e : o.length + 1 - 1 - d = 0 := by omega
      rw [e] at h
      exact ⟨by omega, (Option.some.inj h).symm⟩
    · rw [if_neg hd2] at h
      cases h
/-- what a callee finds: the ground, its callers' frames -/
theorem callee_out2 (cx : CtxOk G Y C k cm o X) (st : StR G cm X o ρ H1 mh σ fr) (I : Inv X pins σ H s) : ∃ B : Heap, (∀ b o, X.base.get? b = some o → B.get? b = some o) ∧ Env0 X.prog X.w X.K X.mg B X.A X.stack s H ∧ (∀ e, OutB G (cm ++ [e]) B ρ H1 (fr :: o)) ∧
    ∀ b o, B.get? b = some o → (∃ o, X.base.get? b = some o) ∨ ∃ x, X.env.cells.lookup x = some b := by
  have old : ∀ (e : Option CI) (B : Heap), (∀ b o, X.base.get? b = some o → B.get? b = some o) → ∀ (d : Nat) (ci : CI) (f : Fr), (cm ++ [e])[d]? = some (some ci) → d < o.length → frameAt o d = some f → f ≠ [] → OutF G (cm ++ [e]) B ρ H1 ci f := fun e B up d ci f h1 hd h2 h3 => by
    have hl := cx.len
    rw [List.getElem?_append_left (by omega)] at h1
    exact (st.out d ci f h1 h2 h3).mv up fun d v z => z.mono (Deeper.app _ _) (Ext.refl _ _)
  cases hL : C.hasL with
  | false =>
    refine ⟨X.base, fun _ _ h => h, I.env0, fun e d ci f h1 h2 h3 => ?_, fun b o e => .inl ⟨o, e⟩⟩
    rcases frameAt_cons h2 with ⟨hd, h2⟩ | ⟨hd, rfl⟩
    · exact old e X.base (fun _ _ h => h) d ci f h1 hd h2 h3
    · exfalso
      have hl := cx.len
      rw [hd, List.getElem?_append_left (by omega), cx.nlam hL] at h1
      cases h1
  | true =>
    have up : ∀ b o, X.base.get? b = some o → (upBase X s.heap).get? b = some o := fun b o e => upBase_get (I.bk b o e) (keepA_base e)
    refine ⟨upBase X s.heap, up, env0_up I (cx.lamf hL), fun e d ci f h1 h2 h3 => ?_, fun b o e => of_keepA (of_upBase e).2⟩
    rcases frameAt_cons h2 with ⟨hd, h2⟩ | ⟨hd, rfl⟩
    · exact old e _ up d ci f h1 hd h2 h3
    · have hl := cx.len
      rw [hd, List.getElem?_append_left (by omega)] at h1
      obtain ⟨q1, q2, q3, q4⟩ := cx.own ci h1
      refine ⟨fun x y c p1 p2 => I.ok.inj x y c (by rw [← q1]; exact p1) (by rw [← q1]; exact p2), fun i x p1 p2 => ?_⟩
      rw [q3] at p2
      rw [q2] at p1
      have hk : X.env.kindOf x = some .cell := by
        show X.env.scope.names.lookup x = _
        rw [cx.sc]
        exact p2
      obtain ⟨c, hc⟩ := I.ok.has x (.inl hk)
      obtain ⟨w, ob, hob, hdw⟩ := I.cell x c hc
      refine ⟨c, ob, w, by rw [q1]; exact hc, upBase_get hob (keepA_cell hc), hdw, fun dd hdd => ?_⟩
      obtain ⟨v, e1, e2⟩ := st.fr.at_ i dd hdd
      obtain ⟨m, hn, hlk⟩ := I.loc
      obtain ⟨u, ru, lk⟩ := hlk i x v (by rw [cx.N]; exact p1) e1 (.inr (.inl (by rw [cx.sc]; exact p2)))
      refine ⟨u, v, ?_, ru, e2.mono (Deeper.app _ _) (Ext.refl _ _) _ _⟩
      rcases lk with ⟨k1, _⟩ | ⟨_, c2, hc2, ob2, hob2, hd2⟩
      · rw [hk] at k1
        cases k1
      · rw [hc] at hc2
        cases hc2
        rw [hob] at hob2
        cases hob2
        rw [hdw] at hd2
        cases hd2
        rfl
theorem callee_out (cx : CtxOk G Y C k cm o X) (st : StR G cm X o ρ H mh σ fr) (I : Inv X pins σ H s) : ∃ B : Heap, (∀ b o, X.base.get? b = some o → B.get? b = some o) ∧ Env0 X.prog X.w X.K X.mg B X.A X.stack s H ∧ ∀ e, OutB G (cm ++ [e]) B ρ H (fr :: o) := by
  obtain ⟨B, h1, h2, h3, _⟩ := callee_out2 cx st I
  exact ⟨B, h1, h2, h3⟩
/-! ### the block of a comprehension, over what a callee finds -/
theorem blk_grd {B : Heap} {scope : Scope} {cenv : Env} {fp : List Addr} (I : Inv X pins σ H s) (hf : ∀ b ∈ fp, FpOk X pins H b) (e0 : Env0 X.prog X.w X.K X.mg B X.A X.stack s H) (hB : ∀ b o, B.get? b = some o → (∃ o, X.base.get? b = some o) ∨ ∃ x, X.env.cells.lookup x = some b) : Grd (X.blk s H scope cenv fp) B :=
  ⟨e0.mod, e0.bs, e0.bsz, fun b o e m => by
    obtain ⟨_, _, _, h4, h5, _⟩ := hf b m
    rcases hB b o e with ⟨o2, z⟩ | ⟨x, z⟩
    · rcases h4 with h4 | h4
      · exact I.ok.noex b o2 z h4
      · exact absurd (Nat.lt_of_lt_of_le (Heap.lt_size z) I.ok.bsz) (Nat.not_lt_of_le h4)
    · exact h5 x b z rfl, e0.funs⟩
theorem CtxOk.based {B : Heap} (cx : CtxOk G Y C k cm o X) (up : ∀ b o, X.base.get? b = some o → B.get? b = some o) : CtxOk G Y C k cm o { X with base := B } :=
  ⟨cx.prog, cx.w, cx.K, cx.mg, cx.N, cx.nd, cx.sc, cx.kind, cx.calm, cx.fn, cx.room, fun b o e => up b o (cx.base b o e), cx.code, cx.lamf, cx.nlam, cx.lamc, cx.own, cx.len, cx.pa⟩
theorem wE.unbased {B : Heap} {e : Expr} {Q : VK} (h : wE { X with base := B } e σ H Q) (g : Grd X B) : wE X e σ H Q := fun pins s I =>
  thn (h pins s (Inv.based I g)) fun u s' ⟨v, H', I', r, q⟩ => ⟨v, H', Inv.unbased I' I.ok, r, q⟩
theorem wTs.unbased {B : Heap} {ifs : List Expr} {Q : Bool → Hp → Prop} (h : wTs { X with base := B } ifs σ H Q) (g : Grd X B) : wTs X ifs σ H Q := fun pins s I =>
  thn (h pins s (Inv.based I g)) fun u s' ⟨H', I', q⟩ => ⟨H', Inv.unbased I' I.ok, q⟩
end
end FS

-- text FsK0
set_option Elab.async false
set_option linter.all false
set_option maxHeartbeats 1000000
/-! FsK0: list comprehensions whose parts are asked for only where their def stands right. -/
namespace FS
open PySem PySem.Spec PyProof.Rows L2 LamX

/-- the parts of a comprehension's block -/
structure LcP (X : Cx) (pins : List (Addr × Obj)) (σ : L2.St) (scope : Scope) (tg : Expr) (ifs : List Expr) (elt : Expr) (g : TG) (tt : TT) (te : TE) : Prop where
  g : ∀ {s : Shared} {H : Hp} {fp : List Addr}, Inv X pins σ H s → (∀ b ∈ fp, FpOk X pins H b) → ∀ (n : Addr) (cl : List (Str × Addr)), PG (X.blk s H scope (compEnvC scope cl n X.env) fp) tg g
  t : ∀ {s : Shared} {H : Hp} {fp : List Addr}, Inv X pins σ H s → (∀ b ∈ fp, FpOk X pins H b) → ∀ (n : Addr) (cl : List (Str × Addr)), PTs (X.blk s H scope (compEnvC scope cl n X.env) fp) ifs tt
  e : ∀ {s : Shared} {H : Hp} {fp : List Addr}, Inv X pins σ H s → (∀ b ∈ fp, FpOk X pins H b) → ∀ (n : Addr) (cl : List (Str × Addr)), PE (X.blk s H scope (compEnvC scope cl n X.env) fp) elt te
/-- what each turn of the block is to reach -/
def LTurn (D : Addr) (J : It) (g : TG) (tt : TT) (te : TE) (vs : List Nat) (σ : L2.St) (Q : VK) (W : Nat → Nat → Hp → Prop) : Prop := ∀ i m H, W i m H →
  (J.stop i H ∧ Q (.ref D) H) ∨ (J.go i H ∧ ∃ Nx : Hp → Prop, (∀ H', Nx H' → ∃ m', m' < m ∧ W (i + 1) m' H') ∧ ∀ x H', J.yld i H x H' → g x (wipe σ vs) H' fun σ2 H2 => wipe σ2 vs = wipe σ vs ∧ tt σ2 H2 fun b H3 =>
    if b = true then te σ2 H3 fun y H4 => ∃ acc, H4 D = some (.lst acc) ∧ acc.length < sizeLine ∧ Nx (upd H4 D (.lst (acc ++ [y]))) else Nx H3)
section
variable {Z : Cx} {σ : L2.St} {vs : List Nat} {fp : List Addr} {it D : Addr} {tn : Nat → Heap → Prop} {J : It} {tg iter elt : Expr} {ifs : List Expr} {scope : Scope} {pos : Pos} {g : TG} {tt : TT} {te : TE} {Q : VK} {W : Nat → Nat → Hp → Prop} {R : Result → Shared → Prop}
/-- the block's loop -/
theorem lc_walk (hx : Z.xe = fun _ _ => False) (hc : Z.calm = true) (hp : Z.pn = []) (he : Z.ex = fp) (T : Turn Z.prog Z.w Z.K tg J fp it tn) (pg : PG Z tg g) (pt : PTs Z ifs tt) (pe : PE Z elt te) (turn : LTurn D J g tt te vs σ Q W)
    (fin : ∀ s H, Inv Z [] (wipe σ vs) H s → Q (.ref D) H → R (.ok .next) s) {m : Nat} {s : Shared} {H : Hp} (I : Inv Z [] (wipe σ vs) H s) (st : tn 0 s.heap) (hn : ∀ b ∈ fp, H b = none) (hw : W 0 m H) :
    codeAny (model Z.prog Z.w) Z.A (.compLoop (.ListComp elt [⟨tg, iter, ifs, 0⟩] scope pos) 0 (.ref it) (.ref D) Z.env) R s := by
  refine compLoop_any (fun n s' => ∃ i H', Inv Z [] (wipe σ vs) H' s' ∧ tn i s'.heap ∧ (∀ b ∈ fp, H' b = none) ∧ W i n H') (fun n s1 hI => ?_) m ⟨0, H, I, st, hn, hw⟩
  obtain ⟨i, H1, I1, t1, n1, w1⟩ := hI
  have can : ∀ {s' : Shared} {H' : Hp}, Inv Z [] (wipe σ vs) H' s' → (∀ b ∈ fp, H' b = none) → ∀ b ∈ fp, FpOk Z [] H' b := fun {s' H'} I' no b hb => by
    have hbx : b ∈ Z.ex := by rw [he]; exact hb
    refine ⟨no b hb, (I'.ok.exf b hbx).1, I'.ok.exfs b hbx, .inl hbx, fun x c e => (I'.ok.exf b hbx).2 x c e, fun p z => ?_⟩
    rw [hp] at z
    cases z
  rcases turn i n H1 w1 with ⟨stop, qq⟩ | ⟨go, Nx, hNx, step⟩
  · refine thnF (T.done Z rfl rfl rfl hc i [] s1 _ H1 _ I1 (can I1 n1) t1 stop) fun r s2 h2 => ?_
    obtain ⟨rfl, I2⟩ := h2
    exact fin s2 H1 I2 qq
  refine thnF (T.item Z rfl rfl rfl hc i [] s1 _ H1 _ I1 (can I1 n1) t1 go) fun r s2 h2 => ?_
  obtain ⟨u, rfl, h2⟩ := h2
  refine thnF h2 fun _ s3 h3 => ?_
  obtain ⟨x, H3, I3, r3, y3, t3, n3⟩ := h3
  have pg := pg.run _ s3 _ H3 x u _ (I3.pinned (can (I3) n3) (T.obj _ _ t3)) r3 (step x H3 y3)
  rw [hx] at pg
  refine thnF pg fun _ s4 h4 => ?_
  obtain ⟨σ4, H4, I4, w4, q4⟩ := h4
  have pt := pt.run _ s4 σ4 H4 _ I4 q4
  rw [hx] at pt
  -- a turn's end
  have fin2 : ∀ {s' : Shared} {H' : Hp}, Inv Z ([] ++ pinsAt fp s3.heap) σ4 H' s' → Nx H' → ∃ m, m < n ∧ ∃ i H', Inv Z [] (wipe σ vs) H' s' ∧ tn i s'.heap ∧ (∀ b ∈ fp, H' b = none) ∧ W i m H' := fun {s' H'} I' nx => by
    obtain ⟨m', lt, w'⟩ := hNx H' nx
    have keep : ∀ b ∈ fp, ∀ o, s3.heap.get? b = some o → s'.heap.get? b = some o ∧ H' b = none := fun b hb o e => by
      have z := I'.pin (b, o) (List.mem_append_right _ (List.mem_append_right _ (mem_pinsAt hb e)))
      exact ⟨z.1, z.2.1⟩
    refine ⟨m', lt, i + 1, H', (I'.unpinned (pins := [])).weak (by rw [← w4, wipe_length]) (fun j v e => ?_), T.keep _ _ _ t3 fun b hb o e => (keep b hb o e).1, fun b hb => ?_, w'⟩
    · rw [← w4] at e
      exact (wipe_some e).1
    · obtain ⟨o, e, _⟩ := T.obj _ _ t3 b hb
      exact (keep b hb o e).2
  refine thnF pt fun b s5 h5 => ?_
  obtain ⟨H5, I5, q5⟩ := h5
  cases b with
  | false =>
    rw [if_neg Bool.false_ne_true] at q5 ⊢
    exact fin2 I5 q5
  | true =>
    rw [if_pos rfl] at q5 ⊢
    have pe := pe.run _ s5 σ4 H5 _ I5 q5
    rw [hx] at pe
    refine thnF pe fun z s6 h6 => ?_
    obtain ⟨yv, H6, I6, r6, acc, hD, hz, nx⟩ := h6
    exact app_ok I6 hD hz r6 fun s7 I7 => fin2 I7 nx
end
section
variable {X : Cx} {pins : List (Addr × Obj)} {σ : L2.St} {H : Hp} {s : Shared} {Q : VK} {elt tg iter : Expr} {ifs : List Expr} {scope : Scope} {own : List (Str × Nat)} {pos pos2 : Pos} {wi : TI} {g : TG} {tt : TT} {te : TE} {use : Option (Value → Sem Unit)} {Qf : Value → Shared → Prop}
theorem lc_at (hc : X.calm = true) (hN : X.N.Nodup) (I : Inv X pins σ H s) (hi : PI X tg iter wi) (ok : BlkOk X.N X.env.scope scope own) (P : LcP X pins σ scope tg ifs elt g tt te) (hs : ∀ x, foldedSetIterable iter X.env x = pure x) (h : tLc wi g tt te (own.map (·.2)) σ H Q)
    (hend : ∀ D n s' m H', Inv X pins σ H' s' → Q (.ref D) H' → s'.heap.Ns n m → FpOk X pins H' n → compPost (model X.prog X.w) X.A X.xe use Qf (.ref D) n (.ok .next) s') :
    wpAny (model X.prog X.w) X.A (comprehension (.ListComp elt [⟨tg, iter, ifs, 0⟩] scope pos) scope X.env pos2 (newList []) false (eval iter X.env) use) Qf X.xe s := by
  have fre : ∀ y ∈ scope.names, y.2 = .free → ∃ c, X.env.cells.lookup y.1 = some c := fun y my e => (ok.free y my e).elim (fun z => I.ok.has _ (.inl z)) fun z => I.ok.has _ (.inr z)
  refine wpAny_comprehension_free (use := use) rfl hs (closure_ok fre) ok.kind (fun y my e => by rw [ok.uniq y my, e]) ?_
  refine thn (hi.run pins s σ H _ I h) fun v1 s1 w1 => thn w1 fun v2 s2 w2 => ?_
  obtain ⟨it, fp, tn, J, H2, rfl, I2, T, t2, f2, q⟩ := w2
  refine wpAny_newObj_type (newEnv_comp ?_) (Nat.zero_le _)
  have hDn : H2 s2.heap.objs.size = none := I2.hok.fresh (Nat.le_refl _)
  obtain ⟨W, ⟨m0, w0⟩, turn⟩ := q s2.heap.objs.size hDn
  -- with the new list at D
  have key : ∀ (D : Addr) (H3 : Hp) (s3 : Shared), Inv X pins σ H3 s3 → (∀ b ∈ fp, FpOk X pins H3 b) → (∀ b ∈ fp, b < s3.heap.objs.size) → tn 0 s3.heap → W 0 m0 H3 → LTurn D J g tt te (own.map (·.2)) σ Q W →
      codeAny (model X.prog X.w) X.A (.compStart (.ListComp elt [⟨tg, iter, ifs, 0⟩] scope pos) 0 (.ref it) (.ref D) (compEnvC scope (cellsFrom (s3.heap.objs.size + 1) scope.names (cloFrom X.env.cells scope.names [])) s3.heap.objs.size X.env)) (compPost (model X.prog X.w) X.A X.xe use Qf (.ref D) s3.heap.objs.size)
        { s3 with heap := pushCells (s3.heap.push { cls := .type "dict", data := .dict #[] }) scope.names } := by
    intro D H3 s3 I3 f3 lt3 t3 w3 turn
    have I4 := block_start I3 ok hN fun b hb => ⟨f3 b hb, lt3 b hb⟩
    have pg := P.g I3 f3 s3.heap.objs.size (cellsFrom (s3.heap.objs.size + 1) scope.names (cloFrom X.env.cells scope.names []))
    have pt := P.t I3 f3 s3.heap.objs.size (cellsFrom (s3.heap.objs.size + 1) scope.names (cloFrom X.env.cells scope.names []))
    have pe := P.e I3 f3 s3.heap.objs.size (cellsFrom (s3.heap.objs.size + 1) scope.names (cloFrom X.env.cells scope.names []))
    have t4 : tn 0 (pushCells (s3.heap.push { cls := .type "dict", data := .dict #[] }) scope.names) := T.keep _ _ _ t3 fun b _ o e => pushCells_keeps _ _ _ _ (Heap.get?_push_of_some _ e)
    have loop := lc_walk (Z := X.blk s3 H3 scope (compEnvC scope (cellsFrom (s3.heap.objs.size + 1) scope.names (cloFrom X.env.cells scope.names [])) s3.heap.objs.size X.env) fp) (iter := iter) (scope := scope) (pos := pos) (R := compPost (model X.prog X.w) X.A X.xe use Qf (.ref D) s3.heap.objs.size)
      rfl hc rfl rfl T pg pt pe turn (fun s5 H5 I5 q5 => ?_) I4 t4 (fun b hb => (f3 b hb).1) w3
    · exact codeAny_compStart_list loop (T.self X.A 0 _ _ _ t4 loop)
    · have I6 : Inv X pins σ H5 s5 := I3.call' (ch := fp) I5.os I5.base I5.hok I5.bare fun b hb => ⟨(f3 b hb).2.2.2.1, (f3 b hb).2.1, (f3 b hb).2.2.2.2.1, (f3 b hb).2.2.2.2.2⟩
      obtain ⟨m, ns, _⟩ := I5.loc
      exact hend D _ s5 m H5 I6 q5 ns (I3.fpOk (Nat.le_refl _) I5.free)
  have lt2 : ∀ b ∈ fp, b < s2.heap.objs.size := fun b hb => by
    obtain ⟨o, e, _⟩ := T.obj _ _ t2 b hb
    exact Heap.lt_size e
  refine key s2.heap.objs.size (upd H2 s2.heap.objs.size (.lst [])) { s2 with heap := s2.heap.push { cls := .type "list", data := .seq ([] : List Value).toArray } } ?_ (fun b hb => ⟨?_, (f2 b hb).2⟩) (fun b hb => ?_) ?_ w0 turn
  · exact I2.laid (t' := s2.toks) (fun b o e => Heap.get?_push_of_some _ e) (Nat.le_refl _) ⟨Nat.zero_le _, [], 0, .nil, Heap.get?_push_size _ rfl⟩
  · rw [upd_ne (Nat.ne_of_lt (lt2 b hb))]
    exact (f2 b hb).1
  · rw [Heap.size_push]
    exact Nat.lt_succ_of_lt (lt2 b hb)
  · exact T.keep _ _ _ t2 fun b _ o e => Heap.get?_push_of_some _ e
/-- what a list comprehension wants, where its parts may know their def's state -/
def tLcP (wi : TI) (g : TG) (tt : List (Addr × Obj) → L2.St → TT) (te : List (Addr × Obj) → L2.St → TE) (vs : List Nat) : TE := fun σ H Q => ∀ pins, tLc wi g (tt pins σ) (te pins σ) vs σ H Q
theorem pe_lcP {tt : List (Addr × Obj) → L2.St → TT} {te : List (Addr × Obj) → L2.St → TE} (hc : X.calm = true) (hN : X.N.Nodup) (hi : PI X tg iter wi) (ok : BlkOk X.N X.env.scope scope own) (P : ∀ pins σ, LcP X pins σ scope tg ifs elt g (tt pins σ) (te pins σ)) (hs : ∀ x, foldedSetIterable iter X.env x = pure x) :
    PE X (.ListComp elt [⟨tg, iter, ifs, 0⟩] scope pos) (tLcP wi g tt te (own.map (·.2))) := ⟨fun pins s σ H Q I h => by
  rw [eval_ListComp]
  refine lc_at hc hN I hi ok (P pins σ) hs (h pins) fun D n s' m H' I' q ns f => ?_
  refine ⟨m, ns, fun h2 sb => ⟨.ref D, H', ?_, rfl, q⟩⟩
  exact I'.turned (t' := s'.toks) (fun b o nb e => (sb.2 b nb).trans e) f.1 f.2.1 f.2.2.2.1 f.2.2.2.2.1 f.2.2.2.2.2⟩
/-- name = [..] on one line -/
theorem ps_setLcP {i : Nat} {y : Str} {py spos : Pos} {tt : List (Addr × Obj) → L2.St → TT} {te : List (Addr × Obj) → L2.St → TE} (hc : X.calm = true) (hN : X.N.Nodup) (hy : X.N[i]? = some y) (hyl : X.env.scope.names.lookup y = some .local)
    (hsw : swapsWith (.ListComp elt [⟨tg, iter, ifs, 0⟩] scope pos) (some (.Name y py)) spos.line X.env = pure true) (hi : PI X tg iter wi) (ok : BlkOk X.N X.env.scope scope own) (P : ∀ pins σ, LcP X pins σ scope tg ifs elt g (tt pins σ) (te pins σ)) (hs : ∀ x, foldedSetIterable iter X.env x = pure x) :
    PS X (.Assign [.Name y py] (.ListComp elt [⟨tg, iter, ifs, 0⟩] scope pos) spos) (tAsg (tLcP wi g tt te (own.map (·.2))) (gName i)) := ⟨fun pins s σ H D I h => by
  rw [exec_Assign_Name_used _ _ _ _ hsw]
  refine wpAny_bind (wpAny_standAt (wpAny_bind (wpAny_bind (thn ?_ fun _ s' hq => wpAny_pure (wpAny_pure hq)))))
  refine lc_at (Qf := fun _ s' => L2.SP X pins D .next s') hc hN I hi ok (P pins σ) hs (h pins) fun L n s' m H' I' q ns f => ?_
  refine wpAny_assign_Name (store_ok2 (v := V.ref L) I' hN hy (.inl hyl) rfl (fun s2 I2 w => ?_) (.inr hyl))
  obtain ⟨a, sb, ha⟩ := w
  have na : n ≠ a := fun e => ha.elim (fun z => f.2.1 (e.trans z)) fun z => f.2.2.2.2.1 y a z e.symm
  refine ⟨m, ns.sameBut sb na, fun h3 sb3 => ⟨_, H', ?_, q⟩⟩
  exact I2.turned (t' := s2.toks) (fun b o nb e => (sb3.2 b nb).trans e) f.1 f.2.1 f.2.2.2.1 f.2.2.2.2.1 f.2.2.2.2.2⟩
end
end FS

-- text FsK
set_option Elab.async false
set_option linter.all false
set_option maxHeartbeats 1000000
/-! FsK: the list comprehension, sound. -/
namespace FS
open PySem PySem.Spec PyProof.Rows L2 LamX

section
variable {G : GD} {Y : GX} {cf : CF} {k : Nat} {C : SC} {cm : List (Option CI)} {o : List Fr} {X : Cx}
def ttLc (X : Cx) (scope : Scope) (ifs : List Expr) (pins : List (Addr × Obj)) (σ0 : L2.St) : TT := fun σ H Q => ∀ s0 H0 fp D cl, Inv X pins σ0 H0 s0 → (∀ b ∈ fp, FpOk X pins H0 b) → wTs (X.blk s0 H0 scope (compEnvC scope cl D X.env) fp) ifs σ H Q
def teLc (X : Cx) (scope : Scope) (e : Expr) (pins : List (Addr × Obj)) (σ0 : L2.St) : TE := fun σ H Q => ∀ s0 H0 fp D cl, Inv X pins σ0 H0 s0 → (∀ b ∈ fp, FpOk X pins H0 b) → wE (X.blk s0 H0 scope (compEnvC scope cl D X.env) fp) e σ H Q
theorem lcp {scope : Scope} {tg elt : Expr} {ifs : List Expr} {g : TG} (h : ∀ s H D cl fp, PG (X.blk s H scope (compEnvC scope cl D X.env) fp) tg g) (pins : List (Addr × Obj)) (σ : L2.St) : LcP X pins σ scope tg ifs elt g (ttLc X scope ifs pins σ) (teLc X scope elt pins σ) :=
  ⟨fun {s H fp} _ _ n cl => h s H n cl fp, fun {s H fp} I f n cl => ⟨fun pins2 s2 σ2 H2 Q I2 z => z s H fp n cl I f pins2 s2 I2⟩, fun {s H fp} I f n cl => ⟨fun pins2 s2 σ2 H2 Q I2 z => z s H fp n cl I f pins2 s2 I2⟩⟩
theorem reps_snoc {ρ : List Addr} {H : Hp} {xs : List D} {ys : List V} {x : D} {y : V} (h : reps G cm ρ H xs ys) (r : rep G cm ρ H x y) : reps G cm ρ H (xs ++ [x]) (ys ++ [y]) := h.app (reps.one r)
theorem wipe_wipe {σ : L2.St} : ∀ (vs ws : List Nat), (∀ v ∈ vs, v ∈ ws) → wipe (wipe σ vs) ws = wipe σ ws
  | [], ws, _ => rfl
  | v :: vs, ws, h => by
    show wipe ((wipe σ vs).set v none) ws = wipe σ ws
    rw [wipe_set, if_pos (h v List.mem_cons_self)]
    exact wipe_wipe vs ws fun u m => h u (List.mem_cons_of_mem _ m)
/-- what is true at the turn i of a comprehension that fills D -/
def LcW (G : GD) (τ : List Addr) (cm : List (Option CI)) (F : D → MH → R (Option D)) (xs : List W) (ys : List D) (h5 : MH) (ρ1 : List Addr) (H1 : Hp) (D : Addr) (i m : Nat) (H : Hp) : Prop :=
  m = xs.length - i ∧ i ≤ xs.length ∧ ∃ ρi mhi acc yd zs, Ext ρ1 H1 ρi H ∧ Gd (G.tm (D :: τ)) ρi H mhi ∧ H D = some (.lst acc) ∧ reps (G.tm (D :: τ)) cm ρi H yd acc ∧ mapW F (xs.drop i) mhi = .ok zs h5 ∧ yd ++ zs = ys ∧ acc.length ≤ i
theorem lc_h {τ : List Addr} {own : List Nat} {t : T} {it : Iw} {ifs : Cs} {e : E} {tg iter' e' : Expr} {ifs' : List Expr} {scope : Scope} (hk : scope.kind = .function) (hown : ∀ i ∈ tNs t, i ∈ own)
    (hi : SI G Y cf k C it tg iter') (hif : SIf G Y cf k (blkSC C scope) ifs ifs') (he : SE G Y cf k (blkSC C scope) e e') (cx : CtxOk (G.tm τ) Y C k cm o X) {ρ : List Addr} {H : Hp} {mh : MH} {σ : L2.St} {fr : Fr} (st : StR (G.tm τ) cm X o ρ H mh σ fr) {Q : VK}
    (h : RK (G.tm τ) Y X σ (rep (G.tm τ) cm) ρ H (evE Y.g cf o (.lc own t it ifs e) fr mh) Q) : tLcP (wI X tg iter') (tgOf X.K t) (ttLc X scope ifs') (teLc X scope e') own σ H Q := by
  intro pins0
  unfold evE at h
  have h : RK (G.tm τ) Y X σ (rep (G.tm τ) cm) ρ H ((evI Y.g cf o it fr mh).bind fun xs h1 => if Nat.ble xs.length line then ((mapW (lcF Y.g cf (fr :: o) own t ifs e fr) xs h1).bind fun ys h5 => .ok (.lst ys) h5) else .stk) Q := h
  refine hi τ X cm o cx ρ H mh σ fr st _ (h.seq fun xs mh1 ρ1 H1 J _ e1 g1 r1 h1 => ?_)
  obtain ⟨its, rv, wk⟩ := r1
  intro D hD
  split at h1
  · rename_i hz
    cases hm : mapW (lcF Y.g cf (fr :: o) own t ifs e fr) xs mh1 with
    | exc c h5 => exact absurd hm (mapW_noexc lcF_noexc _ _ _ _)
    | stk =>
      rw [hm] at h1
      exact False.elim h1
    | ok ys h5 =>
      rw [hm] at h1
      have h1 : RK (G.tm τ) Y X σ (rep (G.tm τ) cm) ρ1 H1 (R.ok (.lst ys) h5) Q := h1
      have hsz : xs.length ≤ sizeLine := le_line hz
      have st1 : StR (G.tm τ) cm X o ρ1 H1 mh1 σ fr := st.step e1 g1
      have Dρ : D ∉ ρ1 ∧ D ∉ τ := g1.fresh2 hD
      refine ⟨LcW G τ cm (lcF Y.g cf (fr :: o) own t ifs e fr) xs ys h5 ρ1 H1 D, ⟨xs.length, rfl, Nat.zero_le _, ρ1, mh1, [], [], ys, Ext.upd hD, g1.more hD [], upd_same, reps.nil, hm, rfl, Nat.le_refl _⟩, ?_⟩
      rintro i m Hi ⟨hm1, hi1, ρi, mhi, acc, yd, zs, ei, gi, hDi, ri, hrun, hyz, hacc⟩
      by_cases hend : i = xs.length
      · subst hend
        rw [List.drop_length] at hrun
        unfold mapW at hrun
        cases hrun
      have hlt : i < xs.length := by omega
      have hxs : xs[i]? = some xs[i] := List.getElem?_eq_getElem hlt
      have mvD : Mv (G.tm τ) (G.tm (D :: τ)) cm (cm ++ [none]) ρ1 ρi H1 Hi := (Mv.more (p := D) hD).trans (Mv.of (Deeper.app _ _) ei)
      rw [List.drop_eq_getElem_cons hlt] at hrun
      rcases mapW_cons hrun with ⟨d, op, hq, zs', hd, hf, hrest, hzs⟩ | ⟨hd, rfl, rfl⟩
      rotate_left
      · left
        refine ⟨wk_end wk rv mvD ei gi hxs hd, ?_⟩
        rw [List.append_nil] at hyz
        subst hyz
        refine h1 ρi Hi _ ei (gi.less fun a m => List.mem_cons_of_mem _ m) ?_
        unfold rep
        refine ⟨D, acc, rfl, ⟨⟨(gi.tmp D List.mem_cons_self).1, Dρ.2⟩, hDi⟩, ri.mv (Mv.less fun a m => List.mem_cons_of_mem _ m) _ _⟩
      · right
        obtain ⟨hgo, hyld⟩ := wk_turn wk rv mvD ei gi hxs hd
        refine ⟨hgo, fun H' => ∃ m', m' < m ∧ LcW G τ cm (lcF Y.g cf (fr :: o) own t ifs e fr) xs ys h5 ρ1 H1 D (i + 1) m' H', fun H' z => z, fun x H2 hy => ?_⟩
        obtain ⟨e2, g2, rx2⟩ := hyld x H2 hy
        have hD2 : H2 D = some (.lst acc) := e2.keep D _ hDi (gi.tmp D List.mem_cons_self).1 (fun _ q => by cases q)
        replace ri := ri.mono (Deeper.refl _) e2 _ _
        replace ei := ei.trans e2
        replace hDi := hD2
        replace gi := g2
        unfold lcF at hf
        split at hf
        · rename_i fr1 hasg
          obtain ⟨b, hb3, ht, hrest2⟩ := bind_ok hf
          have ht := noX_ok ht
          -- the frame of the block
          have fr2 : FrR (G.tm (D :: τ)) (cm ++ [none]) ρi H2 (wipe σ own) (wipeF fr own) := by
            have f0 := st1.fr.wipe own
            refine ⟨f0.len, fun j d hj => ?_⟩
            obtain ⟨v, q1, q2⟩ := f0.at_ j d hj
            exact ⟨v, q1, (q2.mv (Mv.more (p := D) hD) _ _).mono (Deeper.app _ _) ei _ _⟩
          have ob : ∀ B, OutB (G.tm τ) (cm ++ [none]) B ρ1 H1 (fr :: o) → OutB (G.tm (D :: τ)) (cm ++ [none]) B ρi H2 (fr :: o) := fun B ob1 d ci f q1 q2 q3 => (ob1 d ci f q1 q2 q3).mv (fun _ _ z => z) fun d v z => (z.mv (Mv.more (p := D) hD) _ _).mono (Deeper.refl _) ei _ _
          have eK : X.K = (G.tm (D :: τ)).K := cx.K
          rw [eK]
          refine asg_ok (G := G.tm (D :: τ)) t _ x _ _ fr1 _ hasg rx2 fr2 fun σ2 f2 w2 => ⟨(w2 own hown).trans (wipe_wipe own own fun _ m => m), ?_⟩
          intro s0 H0 fp D0 cl I0 f0
          obtain ⟨B, up, e0, ob1, hB⟩ := callee_out2 cx st1 I0
          refine wTs.unbased (B := B) ?_ (blk_grd I0 f0 e0 hB)
          have cx1 : CtxOk (G.tm (D :: τ)) Y (blkSC C scope) k (cm ++ [none]) (fr :: o) (X.blk s0 H0 scope (compEnvC scope cl D0 X.env) fp) := CtxOk.blk (G := G.tm (D :: τ)) ⟨cx.prog, cx.w, cx.K, cx.mg, cx.N, cx.nd, cx.sc, cx.kind, cx.calm, cx.fn, cx.room, cx.base, cx.code, cx.lamf, cx.nlam, cx.lamc, cx.own, cx.len, cx.pa⟩ hk s0 H0 cl D0 fp
          have cx2 := cx1.based up
          have st2 : StR (G.tm (D :: τ)) (cm ++ [none]) { X.blk s0 H0 scope (compEnvC scope cl D0 X.env) fp with base := B } (fr :: o) ρi H2 mhi σ2 fr1 := ⟨gi, f2, ob B (ob1 none)⟩
          refine sif_run hif cx2 st2 ?_
          rw [ht]
          intro ρ3 H3 b' e3 g3 rb
          have rb : b = b' := rb
          subst rb
          cases b with
          | false =>
            rw [if_neg Bool.false_ne_true]
            cases hrest2
            refine ⟨xs.length - (i + 1), by omega, rfl, by omega, ρ3, _, acc, yd, zs', ei.trans e3, g3, e3.keep D _ hDi (gi.tmp D List.mem_cons_self).1 (fun _ q => by cases q), ri.mono (Deeper.refl _) e3 _ _, hrest, by rw [← hyz, hzs], by omega⟩
          | true =>
            rw [if_pos rfl]
            obtain ⟨y, h4, hev, hfin⟩ := bind_ok hrest2
            have hev := noX_ok hev
            cases hfin
            intro s1 H01 fp1 D1 cl1 J0 f1
            obtain ⟨B1, up1, e01, ob2, hB1⟩ := callee_out2 cx st1 J0
            refine wE.unbased (B := B1) ?_ (blk_grd J0 f1 e01 hB1)
            have cx4 : CtxOk (G.tm (D :: τ)) Y (blkSC C scope) k (cm ++ [none]) (fr :: o) (X.blk s1 H01 scope (compEnvC scope cl1 D1 X.env) fp1) := CtxOk.blk (G := G.tm (D :: τ)) ⟨cx.prog, cx.w, cx.K, cx.mg, cx.N, cx.nd, cx.sc, cx.kind, cx.calm, cx.fn, cx.room, cx.base, cx.code, cx.lamf, cx.nlam, cx.lamc, cx.own, cx.len, cx.pa⟩ hk s1 H01 cl1 D1 fp1
            have cx3 := cx4.based up1
            have st3 : StR (G.tm (D :: τ)) (cm ++ [none]) { X.blk s1 H01 scope (compEnvC scope cl1 D1 X.env) fp1 with base := B1 } (fr :: o) ρ3 H3 hb3 σ2 fr1 := ⟨g3, f2.ext e3, (ob B1 (ob2 none)).ext e3⟩
            refine he (D :: τ) _ _ _ cx3 ρ3 H3 hb3 σ2 fr1 st3 _ ?_
            rw [hev]
            intro ρ4 H4 yv e4 g4 ry
            have hD4 : H4 D = some (.lst acc) := e4.keep D _ (e3.keep D _ hDi (gi.tmp D List.mem_cons_self).1 (fun _ q => by cases q)) (g3.tmp D List.mem_cons_self).1 (fun _ q => by cases q)
            refine ⟨acc, hD4, by omega, xs.length - (i + 1), by omega, rfl, by omega, ρ4, _, acc ++ [yv], yd ++ [y], zs', ?_, g4.wr List.mem_cons_self _, upd_same, ?_, hrest, by rw [← hyz, hzs, List.append_assoc]; rfl, by rw [List.length_append]; show acc.length + 1 ≤ i + 1; omega⟩
            · have e5 : Ext ρ1 H1 ρ4 H4 := (ei.trans e3).trans e4
              refine ⟨e5.pre, fun a o ha na nt => ?_, fun a ps ha na => ?_, e5.new⟩
              · rw [upd_ne (ne_of_none ha hD)]
                exact e5.keep a o ha na nt
              · rw [upd_ne (ne_of_none ha hD)]
                exact e5.tbl a ps ha na
            · have r0 : reps (G.tm (D :: τ)) cm ρ4 H4 (yd ++ [y]) (acc ++ [yv]) := reps_snoc ((ri.mono (Deeper.refl _) e3 _ _).mono (Deeper.refl _) e4 _ _) ry.top
              exact r0.mv (Mv.wr List.mem_cons_self) _ _
        · cases hf
  · exact False.elim h1
end
end FS

-- text FsL
set_option Elab.async false
set_option linter.all false
set_option maxHeartbeats 1000000
/-! FsL: statements. -/
namespace FS
open PySem PySem.Spec PyProof.Rows L2 LamX

/-- the walked thing is no set's display -/
def nset : Expr → Bool
  | .Set .. => false
  | _ => true
theorem nset_eq {e : Expr} (h : nset e = true) (env : Env) (x : Value) : foldedSetIterable e env x = pure x := by
  cases e <;> first | rfl | (cases h)
section
variable {G : GD} {Y : GX} {cf : CF} {k : Nat} {C : SC} {cm : List (Option CI)} {o : List Fr} {X : Cx} {J : JC}
theorem blk_of {scope : Scope} {ownN : List (Str × Nat)} {τ : List Addr} (cx : CtxOk (G.tm τ) Y C k cm o X) (h : blkC C.N C.sc scope ownN = true) : BlkOk X.N X.env.scope scope ownN := by
  rw [cx.N, cx.sc]
  exact blkOk_by h
theorem se_lc {own : List Nat} {ownN : List (Str × Nat)} {t : T} {it : Iw} {ifs : Cs} {e : E} {tg iter' e' : Expr} {ifs' : List Expr} {scope : Scope} {pos : Pos} (hb : blkC C.N C.sc scope ownN = true) (ho : ownN.map (·.2) = own) (ht : chkT (blkSC C scope) t tg = true) (hown : ∀ i ∈ tNs t, i ∈ own)
    (hn : nset iter' = true) (hi : SI G Y cf k C it tg iter') (hif : SIf G Y cf k (blkSC C scope) ifs ifs') (he : SE G Y cf k (blkSC C scope) e e') : SE G Y cf k C (.lc own t it ifs e) (.ListComp e' [⟨tg, iter', ifs', 0⟩] scope pos) := fun τ X cm o cx ρ H mh σ fr st Q h => by
  have hk := (blkOk_by hb).kind
  refine of_pe (pe_lcP (own := ownN) (g := tgOf X.K t) (tt := ttLc X scope ifs') (te := teLc X scope e') cx.calm cx.ndX pi_w (blk_of cx hb) (lcp fun s0 H0 D cl fp => chkT_ok (CtxOk.blk (G := G.tm τ) (f := fr) cx hk s0 H0 cl D fp) t tg ht) (nset_eq hn _)) ?_
  rw [ho]
  exact lc_h hk hown hi hif he cx st h

/-! ### statements -/
def RSK (G : GD) (Y : GX) (X : Cx) (cm : List (Option CI)) (ρ : List Addr) (H : Hp) (r : RS) (D : Ends) : Prop :=
  match r with
  | .nx fr mh => ∀ ρ' H' σ', Ext ρ H ρ' H' → Gd G ρ' H' mh → FrR G cm ρ' H' σ' fr → D.nx σ' H'
  | .brk fr mh => ∀ ρ' H' σ', Ext ρ H ρ' H' → Gd G ρ' H' mh → FrR G cm ρ' H' σ' fr → D.bk σ' H'
  | .cnt fr mh => ∀ ρ' H' σ', Ext ρ H ρ' H' → Gd G ρ' H' mh → FrR G cm ρ' H' σ' fr → D.ct σ' H'
  | .ret d mh => ∀ ρ' H' v, Ext ρ H ρ' H' → Gd G ρ' H' mh → rep G cm ρ' H' d v → D.rt v H'
  | .exc c fr mh => ∃ W : WX, TkC Y X c W ∧ ∀ ρ' H' σ' dd, Ext ρ H ρ' H' → Gd G ρ' H' mh → FrR G cm ρ' H' σ' fr → W (Y.cls c) dd σ' H'
  | .stk => False
structure StX (X : Cx) : Prop where
  stk : X.stack = X.env :: X.outer
  frame : X.env.frame = some X.env.locals
  passes : PassesOwn (model X.prog X.w) X.A X.env X.xe
variable {ρ ρ1 : List Addr} {H H1 : Hp} {mh : MH} {σ : L2.St} {fr : Fr} {D : Ends}
theorem RSK.step {r : RS} (h : RSK G Y X cm ρ H r D) (e : Ext ρ H ρ1 H1) : RSK G Y X cm ρ1 H1 r D := by
  cases r with
  | nx fr mh => exact fun ρ' H' σ' e2 => h ρ' H' σ' (e.trans e2)
  | brk fr mh => exact fun ρ' H' σ' e2 => h ρ' H' σ' (e.trans e2)
  | cnt fr mh => exact fun ρ' H' σ' e2 => h ρ' H' σ' (e.trans e2)
  | ret d mh => exact fun ρ' H' v e2 => h ρ' H' v (e.trans e2)
  | exc c fr mh =>
    obtain ⟨W, t, h⟩ := h
    exact ⟨W, t, fun ρ' H' σ' dd e2 => h ρ' H' σ' dd (e.trans e2)⟩
  | stk => exact h
theorem RSK.seq {α β : Type} {rl : List Addr → Hp → α → β → Prop} {r : R α} {f : α → MH → RS} {Q1 : β → Hp → Prop} (h : RSK G Y X cm ρ H (r.toS fr f) D) (hf : FrR G cm ρ H σ fr)
    (kk : ∀ d mh1 ρ1 H1 v, r = .ok d mh1 → Ext ρ H ρ1 H1 → Gd G ρ1 H1 mh1 → rl ρ1 H1 d v → RSK G Y X cm ρ1 H1 (f d mh1) D → Q1 v H1) : RK G Y X σ rl ρ H r Q1 := by
  cases r with
  | ok d mh1 => exact fun ρ' H' v e g r => kk d mh1 ρ' H' v rfl e g r (RSK.step h e)
  | exc c mh1 =>
    obtain ⟨W, t, h⟩ := h
    exact ⟨W, t, fun ρ' H' dd e g => h ρ' H' σ dd e g (hf.ext e)⟩
  | stk => exact h
def SSt (G : GD) (Y : GX) (cf : CF) (k : Nat) (C : SC) (s : S) (a : Stmt) : Prop := ∀ τ X cm o, CtxOk (G.tm τ) Y C k cm o X → StX X → ∀ ρ H mh σ fr, StR (G.tm τ) cm X o ρ H mh σ fr → ∀ D, RSK (G.tm τ) Y X cm ρ H (evS Y.g cf o s fr mh) D → wS X a D σ H
def SSs (G : GD) (Y : GX) (cf : CF) (k : Nat) (C : SC) (s : Ss) (a : List Stmt) : Prop := ∀ τ X cm o, CtxOk (G.tm τ) Y C k cm o X → StX X → ∀ ρ H mh σ fr, StR (G.tm τ) cm X o ρ H mh σ fr → ∀ D, RSK (G.tm τ) Y X cm ρ H (evSs Y.g cf o s fr mh) D → wSs X a D σ H
theorem StR.with {σ' : L2.St} {fr' : Fr} (s : StR G cm X o ρ H mh σ fr) (f : FrR G cm ρ H σ' fr') : StR G cm X o ρ H mh σ' fr' := ⟨s.gd, f, s.out⟩
variable {s : S} {r : Ss} {a : E} {a' : Expr} {sa : Stmt} {ra : List Stmt} {pos : Pos}
theorem ss_nil : SSs G Y cf k C .nil [] := fun τ X cm o cx sx ρ H mh σ fr st D h => by
  unfold evSs at h
  exact of_pss pss_nil (h ρ H σ (Ext.refl _ _) st.gd st.fr)
theorem ss_cons (h1 : SSt G Y cf k C s sa) (h2 : SSs G Y cf k C r ra) : SSs G Y cf k C (.cons s r) (sa :: ra) := fun τ X cm o cx sx ρ H mh σ fr st D h => by
  unfold evSs at h
  refine of_pss (pss_cons ps_w pss_w) ?_
  show wS X sa { D with nx := fun σ' H' => wSs X ra D σ' H' } σ H
  refine h1 τ X cm o cx sx ρ H mh σ fr st _ ?_
  revert h
  cases evS Y.g cf o s fr mh with
  | nx fr1 mh1 => exact fun h ρ' H' σ' e g f => h2 τ X cm o cx sx ρ' H' mh1 σ' fr1 ⟨g, f, st.out.ext e⟩ D (RSK.step h e)
  | brk fr1 mh1 => exact fun h => h
  | cnt fr1 mh1 => exact fun h => h
  | ret d mh1 => exact fun h => h
  | exc c fr1 mh1 => exact fun h => h
  | stk => exact fun h => h
/-- no comprehension -/
def ncomp : Expr → Bool
  | .ListComp .. => false
  | .SetComp .. => false
  | .DictComp .. => false
  | _ => true
theorem ncomp_sw {e : Expr} (h : ncomp e = true) (t : Option Expr) (l : Nat) (env : Env) : swapsWith e t l env = pure false := by
  cases e <;> first | rfl | (cases h)
theorem ss_doc {x : Str} {j : Nat} {p : Pos} : SSt G Y cf k C .doc (.Expr (.Constant (.str x) j p) pos) := fun τ X cm o cx sx ρ H mh σ fr st D h => by
  unfold evS at h
  exact of_ps ps_doc (h ρ H σ (Ext.refl _ _) st.gd st.fr)
theorem ss_pas : SSt G Y cf k C .pas (.Pass pos) := fun τ X cm o cx sx ρ H mh σ fr st D h => by
  unfold evS at h
  exact of_ps ps_pass (h ρ H σ (Ext.refl _ _) st.gd st.fr)
theorem ss_cnt : SSt G Y cf k C .cnt (.Continue pos) := fun τ X cm o cx sx ρ H mh σ fr st D h => by
  unfold evS at h
  exact of_ps ps_continue (h ρ H σ (Ext.refl _ _) st.gd st.fr)
theorem ss_brk : SSt G Y cf k C .brk (.Break pos) := fun τ X cm o cx sx ρ H mh σ fr st D h => by
  unfold evS at h
  exact of_ps ps_break (h ρ H σ (Ext.refl _ _) st.gd st.fr)
theorem ss_retn : SSt G Y cf k C .retn (.Return none pos) := fun τ X cm o cx sx ρ H mh σ fr st D h => by
  unfold evS at h
  exact of_ps ps_retN (h ρ H _ (Ext.refl _ _) st.gd (by unfold rep; rfl))
theorem ss_ret (ha : SE G Y cf k C a a') : SSt G Y cf k C (.ret a) (.Return (some a') pos) := fun τ X cm o cx sx ρ H mh σ fr st D h => by
  unfold evS at h
  refine of_ps (ps_ret pe_w) ?_
  refine ha τ X cm o cx ρ H mh σ fr st _ (h.seq st.fr fun d1 mh1 ρ1 H1 v1 _ e1 g1 r1 h1 => ?_)
  exact h1 ρ1 H1 v1 (Ext.refl _ _) g1 r1
theorem ss_exp (hn : ncomp a' = true) (ha : SE G Y cf k C a a') : SSt G Y cf k C (.exp a) (.Expr a' pos) := fun τ X cm o cx sx ρ H mh σ fr st D h => by
  unfold evS at h
  refine of_ps (ps_expr pe_w (ncomp_sw hn _ _ _)) ?_
  refine ha τ X cm o cx ρ H mh σ fr st _ (h.seq st.fr fun d1 mh1 ρ1 H1 v1 _ e1 g1 r1 h1 => ?_)
  exact h1 ρ1 H1 σ (Ext.refl _ _) g1 (st.fr.ext e1)
theorem ss_ife {c : Ct} {t u : Ss} {ta ua : List Stmt} (hc : ST G Y cf k C c a') (ht : SSs G Y cf k C t ta) (hu : SSs G Y cf k C u ua) : SSt G Y cf k C (.ife c t u) (.If a' ta ua pos) := fun τ X cm o cx sx ρ H mh σ fr st D h => by
  unfold evS at h
  refine of_ps (ps_if pt_w pss_w pss_w) ?_
  refine hc τ X cm o cx ρ H mh σ fr st _ (h.seq st.fr fun d1 mh1 ρ1 H1 v1 _ e1 g1 r1 h1 => ?_)
  have r1 : d1 = v1 := r1
  subst r1
  cases d1
  · rw [if_neg Bool.false_ne_true]
    exact hu τ X cm o cx sx ρ1 H1 mh1 σ fr (st.step e1 g1) D h1
  · rw [if_pos rfl]
    exact ht τ X cm o cx sx ρ1 H1 mh1 σ fr (st.step e1 g1) D h1
/-- the stores of target = value go from the left -/
def nsw : Expr → Expr → Bool
  | .Tuple ts _ _, .Tuple vs _ _ => !(ts.length == 2 || ts.length == 3) || vs.length != ts.length
  | .List _ _, _ => false
  | _, _ => true
theorem nsw_eq {t e : Expr} (h : nsw t e = true) (env : Env) : swappedStores [t] e env = pure none := by
  cases t <;> first | (cases h) | skip
  all_goals (cases e <;> first | rfl | skip)
  rename_i ts _ _ vs _ _
  have h' : (!(ts.length == 2 || ts.length == 3) || vs.length != ts.length) = true := h
  unfold swappedStores
  have h2 : (!(ts.length == 2 || ts.length == 3) || vs.length != ts.length || env.blockKind != .function) = true := by rw [h']; rfl
  simp only [h2, if_true]
/-- names of the def's own, on one line -/
def swN (C : SC) (line : Nat) : List Expr → List Str
  | [] => []
  | .Name x p :: r => if C.sc.names.lookup x == some NameKind.local && p.line == line then x :: swN C line r else swN C line r
  | _ :: r => swN C line r
/-- a pair of names that is stored as a pair -/
def nswC (C : SC) (t e : Expr) : Bool := nsw t e || (match t, e with
  | .Tuple ts _ _, .Tuple vs _ _ => (swN C ((ts.head?.map (·.pos.line)).getD 0) ts).length != ts.length || vs.all (foldedForSure 8)
  | _, _ => false)
theorem swN_eq {C : SC} {env : Env} (hs : env.scope = C.sc) (l : Nat) : ∀ ts : List Expr, (ts.filterMap fun
    | .Name id pos => if env.kindOf id == some .local && pos.line == l then some id else none
    | _ => none) = swN C l ts
  | [] => rfl
  | t :: ts => by
    have ih := swN_eq hs l ts
    cases t <;> first
      | (rw [List.filterMap_cons]; unfold swN; exact ih)
      | skip
    rename_i x p
    rw [List.filterMap_cons]
    unfold swN
    have hk : env.kindOf x = C.sc.names.lookup x := by rw [← hs]; rfl
    dsimp only
    rw [hk, ih]
    by_cases q : (C.sc.names.lookup x == some NameKind.local && p.line == l) = true
    · rw [if_pos q, if_pos q]
    · rw [if_neg q, if_neg q]
theorem nswC_eq {C : SC} {t e : Expr} (h : nswC C t e = true) {env : Env} (hs : env.scope = C.sc) : swappedStores [t] e env = pure none := by
  unfold nswC at h
  rcases (Bool.or_eq_true _ _).mp h with h | h
  · exact nsw_eq h env
  · split at h
    · rename_i ts _ _ vs _ _ _
      have e0 := swN_eq (env := env) hs ((ts.head?.map (·.pos.line)).getD 0) ts
      unfold swappedStores
      dsimp only
      split
      · rfl
      · split
        · rfl
        · split
          · rfl
          · rename_i h3
            split
            · rfl
            · rename_i h4
              exfalso
              rcases (Bool.or_eq_true _ _).mp h with h | h
              · rw [← e0] at h
                exact h3 ((Bool.or_eq_true _ _).mpr (.inl h))
              · exact h4 h
    · cases h
theorem chkT_each {C : SC} {t : T} {e : Expr} (env : Env) (h : chkT C t e = true) : (assignEach [e] env).map (·.2) = [assign e env] := by
  rw [asgE_cons h]
  rfl
/-- no comprehension that is made beside its name -/
def ncompC (C : SC) (tg e : Expr) : Bool := ncomp e || (match e, tg with
  | .ListComp _ _ s p, .Name y py => !(C.sc.names.lookup y == some NameKind.local && py.line == p.line && !(s.names.any fun (n, k) => n == y && (k == .local || k == .cell)))
  | _, _ => false)
theorem ncompC_sw {C : SC} {tg e : Expr} (h : ncompC C tg e = true) {env : Env} (hs : env.scope = C.sc) (l : Nat) : swapsWith e (some tg) l env = pure false := by
  unfold ncompC at h
  rcases (Bool.or_eq_true _ _).mp h with h | h
  · exact ncomp_sw h _ _ _
  · split at h
    · rename_i sc p y py _
      have hk : env.kindOf y = C.sc.names.lookup y := by rw [← hs]; rfl
      rw [Bool.not_eq_true'] at h
      unfold swapsWith
      dsimp only
      rw [hk]
      have e1 : ∀ b : Bool, (b && C.sc.names.lookup y == some NameKind.local && py.line == p.line && !(sc.names.any fun (n, k) => n == y && (k == .local || k == .cell))) = false := fun b => by
        rw [Bool.and_assoc, Bool.and_assoc]
        rw [Bool.and_assoc] at h
        rw [h, Bool.and_false]
      exact congrArg pure (e1 _)
    · cases h
theorem ss_set {t : T} {tg : Expr} (ht : chkT C t tg = true) (hn : ncompC C tg a' = true) (hs : nswC C tg a' = true) (ha : SE G Y cf k C a a') : SSt G Y cf k C (.set t a) (.Assign [tg] a' pos) := fun τ X cm o cx sx ρ H mh σ fr st D h => by
  unfold evS at h
  refine of_ps (ps_asg pe_w (chkT_ok cx t tg ht) (ncompC_sw hn cx.sc _) (nswC_eq hs cx.sc) (chkT_each _ ht)) ?_
  refine ha τ X cm o cx ρ H mh σ fr st _ (h.seq st.fr fun d1 mh1 ρ1 H1 v1 _ e1 g1 r1 h1 => ?_)
  split at h1
  · rename_i fr1 hq
    rw [cx.K]
    exact asg_ok (G := G.tm τ) t d1 v1 σ fr fr1 _ hq r1 (st.fr.ext e1) fun σ' f' _ => h1 ρ1 H1 σ' (Ext.refl _ _) g1 f'
  · exact False.elim h1
/-- name = [..] on one line -/
theorem ss_setLc {i : Nat} {own : List Nat} {ownN : List (Str × Nat)} {t : T} {it : Iw} {ifs : Cs} {e : E} {tg iter' e' : Expr} {ifs' : List Expr} {scope : Scope} {p py spos : Pos} {y : Str} (hb : blkC C.N C.sc scope ownN = true) (ho : ownN.map (·.2) = own) (ht : chkT (blkSC C scope) t tg = true) (hown : ∀ i ∈ tNs t, i ∈ own)
    (hn : nset iter' = true) (hi : SI G Y cf k C it tg iter') (hif : SIf G Y cf k (blkSC C scope) ifs ifs') (he : SE G Y cf k (blkSC C scope) e e') (hy : C.N[i]? = some y) (hyl : C.sc.names.lookup y = some .local) (hl : (py.line == p.line) = true) (hsc : (scope.names.any fun (n, k) => n == y && (k == .local || k == .cell)) = false) :
    SSt G Y cf k C (.set (.nm i) (.lc own t it ifs e)) (.Assign [.Name y py] (.ListComp e' [⟨tg, iter', ifs', 0⟩] scope p) spos) := fun τ X cm o cx sx ρ H mh σ fr st D h => by
  have hk := (blkOk_by hb).kind
  have hyX : X.env.scope.names.lookup y = some .local := by rw [cx.sc]; exact hyl
  refine of_ps (ps_setLcP (own := ownN) (i := i) (g := tgOf X.K t) (tt := ttLc X scope ifs') (te := teLc X scope e') cx.calm cx.ndX (by rw [cx.N]; exact hy) hyX (sw_true (by rw [cx.sc]; exact cx.kind) hyX hl hsc) pi_w (blk_of cx hb) (lcp fun s0 H0 D cl fp => chkT_ok (CtxOk.blk (G := G.tm τ) (f := fr) cx hk s0 H0 cl D fp) t tg ht) (nset_eq hn _)) ?_
  rw [ho]
  refine lc_h hk hown hi hif he cx st ?_
  unfold evS at h
  refine h.seq st.fr fun d1 mh1 ρ1 H1 v1 _ e1 g1 r1 h1 => ?_
  split at h1
  · rename_i fr1 hq
    exact asg_ok (G := G.tm τ) (.nm i) d1 v1 σ fr fr1 _ hq r1 (st.fr.ext e1) fun σ' f' _ => h1 ρ1 H1 σ' (Ext.refl _ _) g1 f'
  · exact False.elim h1
end
end FS

-- text FsL2
set_option Elab.async false
set_option linter.all false
set_option maxHeartbeats 1000000
/-! FsL2: generator expressions under any, all: sound. -/
namespace FS
open PySem PySem.Spec PyProof.Rows L2 LamX GxR

def genSC (C : SC) (scope : Scope) : SC := { N := C.N, sc := scope, fnc := fun _ => false, hasT := false, hasL := false, L := [], gn := 0 }
def genC (C : SC) (scope : Scope) (own : List (Str × Nat)) : Bool :=
  blkC C.N C.sc scope own && !scope.isCoroutine && (scope.names.all fun y => !decide (y.2 = .cell)) && decide (scope.names.lookup (".0" : Str) = some NameKind.local)
theorem genC_of {C : SC} {scope : Scope} {own : List (Str × Nat)} (h : genC C scope own = true) : GSc C.N C.sc scope own := by
  unfold genC at h
  simp only [Bool.and_eq_true, Bool.not_eq_true', decide_eq_true_eq, List.all_eq_true, decide_eq_false_iff_not] at h
  exact ⟨blkOk_by h.1.1.1, h.1.1.2, h.1.2, h.2⟩
/-- the walked thing is no display -/
def gfold : Expr → Bool
  | .List .. => false
  | .Set .. => false
  | _ => true
theorem gfold_eq {e : Expr} (h : gfold e = true) (env : Env) (x : Value) : genFold e env x = pure x := by
  cases e <;> first | rfl | (cases h)
def gW : Gq → Bool
  | .any => true
  | .all => false
def gN : Gq → Str
  | .any => "any"
  | .all => "all"
theorem among_snoc {p q : Pos} {c : Value} : ∀ (l : List Value), TriplesOk l → ¬ (p.line = q.line ∧ p.col = q.col) → ∀ cv, codeAmong p (l ++ [rawInt q.line, rawInt q.col, c]) = some cv → codeAmong p l = some cv := by
  intro l
  fun_induction TriplesOk l with
  | case1 =>
    intro _ hne cv h
    simp only [List.nil_append, codeAmong, rawInt] at h
    split at h
    · rename_i hc
      rw [Bool.and_eq_true, beq_iff_eq, beq_iff_eq] at hc
      exact absurd ⟨(Int.ofNat.inj hc.1).symm, (Int.ofNat.inj hc.2).symm⟩ hne
    · cases h
  | case2 a t b u x rest ih =>
    intro ht hne cv h
    simp only [List.cons_append, codeAmong] at h ⊢
    split at h
    · rename_i hc
      rw [if_pos hc]
      exact h
    · rename_i hc
      rw [if_neg hc]
      exact ih ht hne cv h
  | case3 l h1 h2 => exact fun h => h.elim
theorem posB_ne {L : List (Nat × Nat)} {p q : Pos} (hq : posB L q = false) (hp : posB L p = true) : ¬ (p.line = q.line ∧ p.col = q.col) := by
  intro ⟨h1, h2⟩
  unfold posB at hp hq
  rw [h1, h2, hq] at hp
  cases hp
/-- a turn of a generator expression -/
def anF (g : Pg) (cf : CF) (o : List Fr) (own : List Nat) (t : T) (ifs : Cs) (e : E) (fr : Fr) (x : D) (h2 : MH) : R (Option Bool) :=
  match asg t x (wipeF fr own) with
  | some fr1 => (evTs g cf ([] :: o) true ifs fr1 h2).noX.bind fun b h3 => (match b with
    | true => (evE g cf ([] :: o) e fr1 h3).noX.bind fun y h4 => (match y with
      | .bl c => .ok (some c) h4
      | _ => .stk)
    | false => .ok none h3)
  | none => .stk
theorem anF_noexc {g : Pg} {cf : CF} {o : List Fr} {own : List Nat} {t : T} {ifs : Cs} {e : E} {fr : Fr} (x : D) (h : MH) (c : Nat) (h' : MH) : anF g cf o own t ifs e fr x h ≠ .exc c h' := by
  intro q
  unfold anF at q
  split at q
  · rename_i fr1 _
    cases h1 : (evTs g cf ([] :: o) true ifs fr1 h).noX with
    | ok b h3 =>
      rw [h1] at q
      cases b with
      | true =>
        have q : (evE g cf ([] :: o) e fr1 h3).noX.bind (fun y h4 => (match y with
          | .bl c => R.ok (some c) h4
          | _ => .stk)) = .exc c h' := q
        cases h2 : (evE g cf ([] :: o) e fr1 h3).noX with
        | ok y h4 =>
          rw [h2] at q
          cases y <;> cases q
        | exc c' h4 => exact absurd h2 noX_exc
        | stk =>
          rw [h2] at q
          cases q
      | false => cases q
    | exc c' h3 => exact absurd h1 noX_exc
    | stk =>
      rw [h1] at q
      cases q
  · cases q
theorem anyW_noexc {w : Bool} {f : D → MH → R (Option Bool)} (hf : ∀ x h c h', f x h ≠ .exc c h') : ∀ (xs : List W) (h : MH) (c : Nat) (h' : MH), anyW w f xs h ≠ .exc c h'
  | [], h, c, h', e => by unfold anyW at e; cases e
  | x :: xs, h, c, h', e => by
    unfold anyW at e
    split at e
    · rename_i x' _
      cases hx : f x' h with
      | ok o h1 =>
        rw [hx] at e
        cases o with
        | none => exact anyW_noexc hf xs h1 c h' e
        | some b =>
          have e : (if b == w then R.ok w h1 else anyW w f xs h1) = .exc c h' := e
          split at e
          · cases e
          · exact anyW_noexc hf xs h1 c h' e
      | exc c2 h1 => exact absurd hx (hf _ _ _ _)
      | stk =>
        rw [hx] at e
        cases e
    · cases e
    · cases e
/-- a turn, or the end -/
theorem anyW_cons {v : Bool} {f : D → MH → R (Option Bool)} {w : W} {xs : List W} {b : Bool} {h h' : MH} (e : anyW v f (w :: xs) h = .ok b h') :
    (∃ x o h1, rdW h w = some (some x) ∧ f x h = .ok o h1 ∧ (match o with | some b => if b == v then R.ok v h1 else anyW v f xs h1 | none => anyW v f xs h1) = .ok b h') ∨ (rdW h w = some none ∧ b = (!v) ∧ h' = h) := by
  unfold anyW at e
  split at e
  · rename_i x hx
    obtain ⟨o, h1, e1, e2⟩ := bind_ok e
    exact .inl ⟨x, o, h1, hx, e1, e2⟩
  · rename_i hx
    cases e
    exact .inr ⟨hx, rfl, rfl⟩
  · cases e
section
variable {G : GD} {Y : GX} {cf : CF} {k : Nat} {C : SC} {cm : List (Option CI)} {o : List Fr} {X : Cx} {J : JC}
theorem CtxOk.gen {scope : Scope} {A : Around} {code : Value} (cx : CtxOk G Y C k cm o X) (hk : scope.kind = .function) (hr : Room (5 * k) A) (s : Shared) (H : Hp) (cl : List (Str × Addr)) (D : Addr) (fp : List Addr) (pn : List (Addr × Obj)) :
    CtxOk G Y (genSC C scope) k (cm ++ [none]) ([] :: o) (gctx X A s H (genEnv scope cl D code builtinsNs X.env) fp pn) where
  prog := cx.prog
  w := cx.w
  K := cx.K
  mg := cx.mg
  N := cx.N
  nd := cx.nd
  sc := rfl
  kind := hk
  calm := cx.calm
  fn := fun x h => by cases h
  room := hr
  base := cx.base
  code := fun h => by cases h
  lamf := fun h => by cases h
  nlam := fun _ => by
    have e : ([] :: o).length = cm.length := by rw [cx.len]; rfl
    rw [e, List.getElem?_append_right (Nat.le_refl _), Nat.sub_self]
    rfl
  lamc := fun h => by cases h
  own := fun ci h => by
    have e : ([] :: o).length = cm.length := by rw [cx.len]; rfl
    rw [e, List.getElem?_append_right (Nat.le_refl _), Nat.sub_self] at h
    cases h
  len := by rw [List.length_append, cx.len]; rfl
  pa := fun h => by cases h
def ttG (X : Cx) (k : Nat) (scope : Scope) (ifs : List Expr) : TT := fun σ H Q => ∀ A s0 H0 D cl code fp pn, Room k A → wTs (gctx X A s0 H0 (genEnv scope cl D code builtinsNs X.env) fp pn) ifs σ H Q
def teG (X : Cx) (k : Nat) (scope : Scope) (e : Expr) : TE := fun σ H Q => ∀ A s0 H0 D cl code fp pn, Room k A → wE (gctx X A s0 H0 (genEnv scope cl D code builtinsNs X.env) fp pn) e σ H Q
def GnW (G : GD) (w : Bool) (F : D → MH → R (Option Bool)) (xs : List W) (b : Bool) (h5 : MH) (ρ1 : List Addr) (H1 : Hp) (i m : Nat) (H : Hp) : Prop :=
  m = xs.length - i ∧ i ≤ xs.length ∧ ∃ ρi mhi, Ext ρ1 H1 ρi H ∧ Gd G ρi H mhi ∧ anyW w F (xs.drop i) mhi = .ok b h5
theorem gen_h {τ : List Addr} {q : Gq} {own : List Nat} {t : T} {it : Iw} {ifs : Cs} {e : E} {tg iter' e' : Expr} {ifs' : List Expr} {scope : Scope} {gpos : Pos} {P : Addr} (hk : scope.kind = .function) (hown : ∀ i ∈ tNs t, i ∈ own)
    (hi : SI G Y cf k C it tg iter') (hif : SIf G Y cf k (genSC C scope) ifs ifs') (he : SE G Y cf k (genSC C scope) e e') (cx : CtxOk (G.tm τ) Y C k cm o X) (hT : (G.tm τ).TQ P = some (X.env.qual ++ "<lambda>", posB C.L)) (hL : posB C.L gpos = false)
    {ρ : List Addr} {H : Hp} {mh : MH} {σ : L2.St} {fr : Fr} (st : StR (G.tm τ) cm X o ρ H mh σ fr) {Q : VK}
    (h : RK (G.tm τ) Y X σ (rep (G.tm τ) cm) ρ H (evE Y.g cf o (.gen q own t it ifs e) fr mh) Q) : tGen (gW q) P gpos (wI X tg iter') (tgOf X.K t) (ttG X (5 * k) scope ifs') (teG X (5 * k) scope e') own σ H Q := by
  unfold evE at h
  have h : RK (G.tm τ) Y X σ (rep (G.tm τ) cm) ρ H ((evI Y.g cf o it fr mh).bind fun xs h1 => (anyW (gW q) (anF Y.g cf o own t ifs e fr) xs h1).bind fun c h5 => .ok (.bl c) h5) Q := by
    cases q <;> exact h
  generalize gW q = w at h ⊢
  refine hi τ X cm o cx ρ H mh σ fr st _ (h.seq fun xs mh1 ρ1 H1 J _ e1 g1 r1 h1 => ?_)
  obtain ⟨its, rv, wk⟩ := r1
  obtain ⟨hPρ, tr⟩ := g1.tab P _ _ hT
  obtain ⟨ps, hP, htr, ha⟩ := _root_.id tr
  refine ⟨ps, hP, htr, fun H2 ⟨more, eH, hmore⟩ => ?_⟩
  cases hm : anyW w (anF Y.g cf o own t ifs e fr) xs mh1 with
  | exc c h5 => exact absurd hm (anyW_noexc anF_noexc _ _ _ _)
  | stk =>
    rw [hm] at h1
    exact False.elim h1
  | ok b h5 =>
    rw [hm] at h1
    have h1 : RK (G.tm τ) Y X σ (rep (G.tm τ) cm) ρ1 H1 (R.ok (.bl b) h5) Q := h1
    have st1 : StR (G.tm τ) cm X o ρ1 H1 mh1 σ fr := st.step e1 g1
    -- the table has grown
    have hk1 : ∀ b o, H1 b = some o → (∀ ps, o ≠ .tbl ps) → H2 b = some o := fun b o e nt => by
      rw [eH, upd_ne (fun z => by rw [z, hP] at e; exact nt ps (Option.some.inj e).symm)]
      exact e
    have atP : H2 P = some (.tbl (ps ++ more)) := by rw [eH, upd_same]
    obtain ⟨eg, gg⟩ := g1.grown hP hk1 atP (fun b qs hb e => by rw [eH, upd_ne hb]; exact e) (fun q L' e => by
      rw [hT] at e
      cases e
      rcases hmore with hmore | ⟨_, c, hmore⟩
      · subst hmore
        rw [show ps ++ #[] = ps by simp] at atP
        exact tr.kept hk1 fun ps' e => by
          rw [hP] at e
          cases e
          exact atP
      · subst hmore
        exact tr.snoc hP hk1 atP (.inr fun pos' cv hl hcv => among_snoc _ htr (posB_ne hL hl) cv hcv))
    refine ⟨GnW (G.tm τ) w (anF Y.g cf o own t ifs e fr) xs b h5 ρ1 H1, ⟨xs.length, rfl, Nat.zero_le _, ρ1, mh1, eg, gg, hm⟩, ?_⟩
    rintro i m Hi ⟨hm1, hi1, ρi, mhi, ei, gi, hrun⟩
    by_cases hend : i = xs.length
    · subst hend
      rw [List.drop_length] at hrun
      unfold anyW at hrun
      cases hrun
    have hlt : i < xs.length := by omega
    have hxs : xs[i]? = some xs[i] := List.getElem?_eq_getElem hlt
    have mvD : Mv (G.tm τ) (G.tm τ) cm (cm ++ [none]) ρ1 ρi H1 Hi := Mv.of (Deeper.app _ _) ei
    rw [List.drop_eq_getElem_cons hlt] at hrun
    rcases anyW_cons hrun with ⟨d, op, hq, hd, hf, hrest⟩ | ⟨hd, rfl, rfl⟩
    rotate_left
    · left
      refine ⟨wk_end wk rv mvD ei gi hxs hd, ?_⟩
      refine h1 ρi Hi _ ei gi ?_
      unfold rep
      rfl
    · right
      obtain ⟨hgo, hyld⟩ := wk_turn wk rv mvD ei gi hxs hd
      refine ⟨hgo, fun H' => ∃ m', m' < m ∧ GnW (G.tm τ) w (anF Y.g cf o own t ifs e fr) xs b h5 ρ1 H1 (i + 1) m' H', fun H' z => z, fun x H3 hy => ?_⟩
      obtain ⟨e2, g2, rx2⟩ := hyld x H3 hy
      replace ei := ei.trans e2
      replace gi := g2
      unfold anF at hf
      split at hf
      · rename_i fr1 hasg
        obtain ⟨b0, hb3, ht, hrest2⟩ := bind_ok hf
        have ht := noX_ok ht
        have fr2 : FrR (G.tm τ) (cm ++ [none]) ρi H3 (wipe σ own) (wipeF fr own) := by
          have f0 := st1.fr.wipe own
          refine ⟨f0.len, fun j d hj => ?_⟩
          obtain ⟨v, q1, q2⟩ := f0.at_ j d hj
          exact ⟨v, q1, q2.mono (Deeper.app _ _) ei _ _⟩
        have ob : OutB (G.tm τ) (cm ++ [none]) X.base ρi H3 ([] :: o) := (st1.out.ext ei).blk cx.len
        have eK : X.K = (G.tm τ).K := cx.K
        rw [eK]
        refine asg_ok (G := G.tm τ) t _ x _ _ fr1 _ hasg rx2 fr2 fun σ2 f2 w2 => ⟨(w2 own hown).trans (wipe_wipe own own fun _ m => m), ?_⟩
        intro A s0 H0 D0 cl code fp pn hrA
        have cx2 : CtxOk (G.tm τ) Y (genSC C scope) k (cm ++ [none]) ([] :: o) (gctx X A s0 H0 (genEnv scope cl D0 code builtinsNs X.env) fp pn) := cx.gen hk hrA s0 H0 cl D0 fp pn
        have st2 : StR (G.tm τ) (cm ++ [none]) (gctx X A s0 H0 (genEnv scope cl D0 code builtinsNs X.env) fp pn) ([] :: o) ρi H3 mhi σ2 fr1 := ⟨gi, f2, ob⟩
        refine sif_run hif cx2 st2 ?_
        rw [ht]
        intro ρ3 H4 b' e3 g3 rb
        have rb : b0 = b' := rb
        subst rb
        cases b0 with
        | false =>
          rw [if_neg Bool.false_ne_true]
          cases hrest2
          exact ⟨xs.length - (i + 1), by omega, rfl, by omega, ρ3, _, ei.trans e3, g3, hrest⟩
        | true =>
          rw [if_pos rfl]
          obtain ⟨y, h4, hev, hfin⟩ := bind_ok hrest2
          have hev := noX_ok hev
          intro A2 s1 H01 D1 cl1 code1 fp1 pn1 hrA2
          have cx3 : CtxOk (G.tm τ) Y (genSC C scope) k (cm ++ [none]) ([] :: o) (gctx X A2 s1 H01 (genEnv scope cl1 D1 code1 builtinsNs X.env) fp1 pn1) := cx.gen hk hrA2 s1 H01 cl1 D1 fp1 pn1
          have st3 : StR (G.tm τ) (cm ++ [none]) (gctx X A2 s1 H01 (genEnv scope cl1 D1 code1 builtinsNs X.env) fp1 pn1) ([] :: o) ρ3 H4 hb3 σ2 fr1 := ⟨g3, f2.ext e3, ob.ext e3⟩
          refine he τ _ _ _ cx3 ρ3 H4 hb3 σ2 fr1 st3 _ ?_
          rw [hev]
          intro ρ4 H5 yv e4 g4 ry
          obtain ⟨c, rfl⟩ : ∃ c, y = .bl c := by
            cases y <;> first | exact ⟨_, rfl⟩ | cases hfin
          have hfin : R.ok (some c) h4 = R.ok op hq := hfin
          cases hfin
          have ry := ry.top
          unfold rep at ry
          refine ⟨c, ry, ?_⟩
          have hrest : (if c == w then R.ok w _ else anyW w (anF Y.g cf o own t ifs e fr) (xs.drop (i + 1)) _) = .ok b h5 := hrest
          by_cases hcw : c = w
          · rw [if_pos hcw]
            rw [if_pos (by rw [hcw]; exact beq_self_eq_true w)] at hrest
            cases hrest
            refine h1 ρ4 H5 _ ((ei.trans e3).trans e4) g4 ?_
            unfold rep
            rfl
          · rw [if_neg hcw]
            rw [if_neg (by simpa using hcw)] at hrest
            exact ⟨xs.length - (i + 1), by omega, rfl, by omega, ρ4, _, (ei.trans e3).trans e4, g4, hrest⟩
      · cases hf
theorem se_gen (ok : GOk J G Y) {q : Gq} {own : List Nat} {ownN : List (Str × Nat)} {t : T} {it : Iw} {ifs : Cs} {e : E} {tg iter' e' : Expr} {ifs' : List Expr} {scope : Scope} {p pos gpos : Pos} {nm : Str} (h1 : C.hasT = true) (h2 : 0 < C.gn) (hn : nm = gN q) (hgl : C.sc.names.lookup nm = some .globalImplicit) (hb : J.bok nm = true) (hL : posB C.L gpos = false)
    (hS : genC C scope ownN = true) (ho : ownN.map (·.2) = own) (ht : chkT (genSC C scope) t tg = true) (hown : ∀ i ∈ tNs t, i ∈ own) (hf : gfold iter' = true) (hi : SI G Y cf k C it tg iter') (hif : SIf G Y cf k (genSC C scope) ifs ifs') (he : SE G Y cf k (genSC C scope) e e') :
    SE G Y cf k C (.gen q own t it ifs e) (.Call (.Name nm p) [.GeneratorExp e' [⟨tg, iter', ifs', 0⟩] scope gpos] [] pos) := fun τ X cm o cx ρ H mh σ fr st Q h => by
  have S := genC_of hS
  have hk := S.blk.kind
  obtain ⟨c, P, e1, e2, e3⟩ := cx.code h1
  have TB : GxR.TabB X.base X.mg c P := by
    rw [cx.mg]
    have z := tab_up e2 cx.base
    exact ⟨z.code, z.bm, z.gP⟩
  have S2 : GSc X.N X.env.scope scope ownN := by rw [cx.N, cx.sc]; exact S
  have hr : Room (5 * k + 1) X.A := cx.room.mono (by omega)
  have hg2 : Gl X nm := by
    show X.env.scope.names.lookup nm = _
    rw [cx.sc]
    exact hgl
  have hm : X.mg nm = none := by rw [cx.mg]; exact ok.bok nm hb
  have key := gen_h hk hown hi hif he cx e3 hL st h
  rw [← ho] at key
  subst hn
  cases q with
  | any =>
    exact of_pe (pe_genAny (own := ownN) (g := tgOf X.K t) (tt := ttG X (5 * k) scope ifs') (te := teG X (5 * k) scope e') cx.calm cx.ndX hr TB e1 hg2 hm pi_w S2 (fun A s0 H0 D code fp pn hrA => chkT_ok (cx.gen hk hrA s0 H0 _ D fp pn) t tg ht) (fun A s0 H0 D code fp pn hrA => ⟨fun pins s σ H Q I z => z A s0 H0 D _ code fp pn hrA pins s I⟩)
      (fun A s0 H0 D code fp pn hrA => ⟨fun pins s σ H Q I z => z A s0 H0 D _ code fp pn hrA pins s I⟩) (gfold_eq hf _)) key
  | all =>
    exact of_pe (pe_genAll (own := ownN) (g := tgOf X.K t) (tt := ttG X (5 * k) scope ifs') (te := teG X (5 * k) scope e') cx.calm cx.ndX hr TB e1 hg2 hm pi_w S2 (fun A s0 H0 D code fp pn hrA => chkT_ok (cx.gen hk hrA s0 H0 _ D fp pn) t tg ht) (fun A s0 H0 D code fp pn hrA => ⟨fun pins s σ H Q I z => z A s0 H0 D _ code fp pn hrA pins s I⟩)
      (fun A s0 H0 D code fp pn hrA => ⟨fun pins s σ H Q I z => z A s0 H0 D _ code fp pn hrA pins s I⟩) (gfold_eq hf _)) key
end
end FS

-- text FsL3
set_option Elab.async false
set_option linter.all false
set_option maxHeartbeats 1000000
/-! FsL3: tuple of a generator expression: sound. -/
namespace FS
open PySem PySem.Spec PyProof.Rows L2 LamX GxR
section
variable {G : GD} {Y : GX} {cf : CF} {k : Nat} {C : SC} {cm : List (Option CI)} {o : List Fr} {X : Cx} {J : JC}
/-- what is true at the turn i: ys is out -/
def TgW (G : GD) (cm : List (Option CI)) (F : D → MH → R (Option D)) (xs : List W) (dl : List D) (h5 : MH) (ρ1 : List Addr) (H1 : Hp) (i m : Nat) (ys : List V) (H : Hp) : Prop :=
  m = xs.length - i ∧ i ≤ xs.length ∧ ∃ ρi mhi yd zs, Ext ρ1 H1 ρi H ∧ Gd G ρi H mhi ∧ reps G cm ρi H yd ys ∧ mapW F (xs.drop i) mhi = .ok zs h5 ∧ yd ++ zs = dl
theorem tgen_h {τ : List Addr} {own : List Nat} {t : T} {it : Iw} {ifs : Cs} {e : E} {tg iter' e' : Expr} {ifs' : List Expr} {scope : Scope} {gpos : Pos} {P : Addr} (hk : scope.kind = .function) (hown : ∀ i ∈ tNs t, i ∈ own)
    (hi : SI G Y cf k C it tg iter') (hif : SIf G Y cf k (genSC C scope) ifs ifs') (he : SE G Y cf k (genSC C scope) e e') (cx : CtxOk (G.tm τ) Y C k cm o X) (hT : (G.tm τ).TQ P = some (X.env.qual ++ "<lambda>", posB C.L)) (hL : posB C.L gpos = false)
    {ρ : List Addr} {H : Hp} {mh : MH} {σ : L2.St} {fr : Fr} (st : StR (G.tm τ) cm X o ρ H mh σ fr) {Q : VK}
    (h : RK (G.tm τ) Y X σ (rep (G.tm τ) cm) ρ H (evE Y.g cf o (.tgen own t it ifs e) fr mh) Q) : tTupG (tGenT P gpos (wI X tg iter') (tgOf X.K t) (ttG X (5 * k) scope ifs') (teG X (5 * k) scope e') own) σ H Q := by
  unfold evE at h
  have h : RK (G.tm τ) Y X σ (rep (G.tm τ) cm) ρ H ((evI Y.g cf o it fr mh).bind fun xs h1 => if Nat.blt xs.length line then ((mapW (lcF Y.g cf ([] :: o) own t ifs e fr) xs h1).bind fun ys h5 => .ok (.tup ys) h5) else .stk) Q := h
  refine hi τ X cm o cx ρ H mh σ fr st _ (h.seq fun xs mh1 ρ1 H1 J _ e1 g1 r1 h1 => ?_)
  obtain ⟨its, rv, wk⟩ := r1
  obtain ⟨hPρ, tr⟩ := g1.tab P _ _ hT
  obtain ⟨ps, hP, htr, ha⟩ := _root_.id tr
  refine ⟨ps, hP, htr, fun H2 ⟨more, eH, hmore⟩ => ?_⟩
  split at h1
  rotate_left
  · exact False.elim h1
  rename_i hz
  cases hm : mapW (lcF Y.g cf ([] :: o) own t ifs e fr) xs mh1 with
  | exc c h5 => exact absurd hm (mapW_noexc lcF_noexc _ _ _ _)
  | stk =>
    rw [hm] at h1
    exact False.elim h1
  | ok dl h5 =>
    rw [hm] at h1
    have h1 : RK (G.tm τ) Y X σ (rep (G.tm τ) cm) ρ1 H1 (R.ok (.tup dl) h5) Q := h1
    have st1 : StR (G.tm τ) cm X o ρ1 H1 mh1 σ fr := st.step e1 g1
    have hk1 : ∀ b o, H1 b = some o → (∀ ps, o ≠ .tbl ps) → H2 b = some o := fun b o e nt => by
      rw [eH, upd_ne (fun z => by rw [z, hP] at e; exact nt ps (Option.some.inj e).symm)]
      exact e
    have atP : H2 P = some (.tbl (ps ++ more)) := by rw [eH, upd_same]
    obtain ⟨eg, gg⟩ := g1.grown hP hk1 atP (fun b qs hb e => by rw [eH, upd_ne hb]; exact e) (fun q L' e => by
      rw [hT] at e
      cases e
      rcases hmore with hmore | ⟨_, c, hmore⟩
      · subst hmore
        rw [show ps ++ #[] = ps by simp] at atP
        exact tr.kept hk1 fun ps' e => by
          rw [hP] at e
          cases e
          exact atP
      · subst hmore
        exact tr.snoc hP hk1 atP (.inr fun pos' cv hl hcv => among_snoc _ htr (posB_ne hL hl) cv hcv))
    refine ⟨TgW (G.tm τ) cm (lcF Y.g cf ([] :: o) own t ifs e fr) xs dl h5 ρ1 H1, ⟨xs.length, by rw [sizeLine_eq]; exact Nat.le_of_ble_eq_true hz, rfl, Nat.zero_le _, ρ1, mh1, [], dl, eg, gg, reps.nil, hm, rfl⟩, ?_⟩
    rintro i m ys Hi ⟨hm1, hi1, ρi, mhi, yd, zs, ei, gi, ri, hrun, hyz⟩
    by_cases hend : i = xs.length
    · subst hend
      rw [List.drop_length] at hrun
      unfold mapW at hrun
      cases hrun
    have hlt : i < xs.length := by omega
    have hxs : xs[i]? = some xs[i] := List.getElem?_eq_getElem hlt
    have mvD : Mv (G.tm τ) (G.tm τ) cm (cm ++ [none]) ρ1 ρi H1 Hi := Mv.of (Deeper.app _ _) ei
    rw [List.drop_eq_getElem_cons hlt] at hrun
    rcases mapW_cons hrun with ⟨d, op, hq, zs', hd, hf, hrest, hzs⟩ | ⟨hd, rfl, rfl⟩
    rotate_left
    · left
      refine ⟨wk_end wk rv mvD ei gi hxs hd, fun p hp => ?_⟩
      rw [List.append_nil] at hyz
      subst hyz
      refine h1 ρi _ _ (ei.trans (Ext.upd hp)) (gi.new hp) ?_
      unfold rep
      exact ⟨p, ys, rfl, .inl ⟨gi.fresh2 hp, upd_same⟩, ri.mono (Deeper.refl _) (Ext.upd hp) _ _⟩
    · right
      obtain ⟨hgo, hyld⟩ := wk_turn wk rv mvD ei gi hxs hd
      refine ⟨hgo, fun ys' H' => ∃ m', m' < m ∧ TgW (G.tm τ) cm (lcF Y.g cf ([] :: o) own t ifs e fr) xs dl h5 ρ1 H1 (i + 1) m' ys' H', fun ys' H' z => z, fun x H3 hy => ?_⟩
      obtain ⟨e2, g2, rx2⟩ := hyld x H3 hy
      replace ei := ei.trans e2
      replace gi := g2
      replace ri := ri.mono (Deeper.refl _) e2 _ _
      unfold lcF at hf
      split at hf
      · rename_i fr1 hasg
        obtain ⟨b0, hb3, ht, hrest2⟩ := bind_ok hf
        have ht := noX_ok ht
        have fr2 : FrR (G.tm τ) (cm ++ [none]) ρi H3 (wipe σ own) (wipeF fr own) := by
          have f0 := st1.fr.wipe own
          refine ⟨f0.len, fun j d hj => ?_⟩
          obtain ⟨v, q1, q2⟩ := f0.at_ j d hj
          exact ⟨v, q1, q2.mono (Deeper.app _ _) ei _ _⟩
        have ob : OutB (G.tm τ) (cm ++ [none]) X.base ρi H3 ([] :: o) := (st1.out.ext ei).blk cx.len
        have eK : X.K = (G.tm τ).K := cx.K
        rw [eK]
        refine asg_ok (G := G.tm τ) t _ x _ _ fr1 _ hasg rx2 fr2 fun σ2 f2 w2 => ⟨(w2 own hown).trans (wipe_wipe own own fun _ m => m), ?_⟩
        intro A s0 H0 D0 cl code fp pn hrA
        have cx2 : CtxOk (G.tm τ) Y (genSC C scope) k (cm ++ [none]) ([] :: o) (gctx X A s0 H0 (genEnv scope cl D0 code builtinsNs X.env) fp pn) := cx.gen hk hrA s0 H0 cl D0 fp pn
        have st2 : StR (G.tm τ) (cm ++ [none]) (gctx X A s0 H0 (genEnv scope cl D0 code builtinsNs X.env) fp pn) ([] :: o) ρi H3 mhi σ2 fr1 := ⟨gi, f2, ob⟩
        refine sif_run hif cx2 st2 ?_
        rw [ht]
        intro ρ3 H4 b' e3 g3 rb
        have rb : b0 = b' := rb
        subst rb
        cases b0 with
        | false =>
          rw [if_neg Bool.false_ne_true]
          cases hrest2
          exact ⟨xs.length - (i + 1), by omega, rfl, by omega, ρ3, _, yd, zs', ei.trans e3, g3, ri.mono (Deeper.refl _) e3 _ _, hrest, by rw [← hyz, hzs]⟩
        | true =>
          rw [if_pos rfl]
          obtain ⟨y, h4, hev, hfin⟩ := bind_ok hrest2
          have hev := noX_ok hev
          cases hfin
          intro A2 s1 H01 D1 cl1 code1 fp1 pn1 hrA2
          have cx3 : CtxOk (G.tm τ) Y (genSC C scope) k (cm ++ [none]) ([] :: o) (gctx X A2 s1 H01 (genEnv scope cl1 D1 code1 builtinsNs X.env) fp1 pn1) := cx.gen hk hrA2 s1 H01 cl1 D1 fp1 pn1
          have st3 : StR (G.tm τ) (cm ++ [none]) (gctx X A2 s1 H01 (genEnv scope cl1 D1 code1 builtinsNs X.env) fp1 pn1) ([] :: o) ρ3 H4 hb3 σ2 fr1 := ⟨g3, f2.ext e3, ob.ext e3⟩
          refine he τ _ _ _ cx3 ρ3 H4 hb3 σ2 fr1 st3 _ ?_
          rw [hev]
          intro ρ4 H5 yv e4 g4 ry
          have ri2 := (ri.mono (Deeper.refl _) e3 _ _).mono (Deeper.refl _) e4 _ _
          exact ⟨xs.length - (i + 1), by omega, rfl, by omega, ρ4, _, yd ++ [y], zs', (ei.trans e3).trans e4, g4, reps_snoc ri2 ry.top, hrest, by rw [← hyz, hzs, List.append_assoc]; rfl⟩
      · cases hf
theorem se_tgen (ok : GOk J G Y) {own : List Nat} {ownN : List (Str × Nat)} {t : T} {it : Iw} {ifs : Cs} {e : E} {tg iter' e' : Expr} {ifs' : List Expr} {scope : Scope} {p pos gpos : Pos} (h1 : C.hasT = true) (h2 : 2 < C.gn) (hgl : C.sc.names.lookup ("tuple" : Str) = some .globalImplicit) (hb : J.bok "tuple" = true) (hL : posB C.L gpos = false)
    (hS : genC C scope ownN = true) (ho : ownN.map (·.2) = own) (ht : chkT (genSC C scope) t tg = true) (hown : ∀ i ∈ tNs t, i ∈ own) (hf : gfold iter' = true) (hi : SI G Y cf k C it tg iter') (hif : SIf G Y cf k (genSC C scope) ifs ifs') (he : SE G Y cf k (genSC C scope) e e') :
    SE G Y cf k C (.tgen own t it ifs e) (.Call (.Name "tuple" p) [.GeneratorExp e' [⟨tg, iter', ifs', 0⟩] scope gpos] [] pos) := fun τ X cm o cx ρ H mh σ fr st Q h => by
  have S := genC_of hS
  have hk := S.blk.kind
  obtain ⟨c, P, e1, e2, e3⟩ := cx.code h1
  have TB : GxR.TabB X.base X.mg c P := by
    rw [cx.mg]
    have z := tab_up e2 cx.base
    exact ⟨z.code, z.bm, z.gP⟩
  have S2 : GSc X.N X.env.scope scope ownN := by rw [cx.N, cx.sc]; exact S
  have hr : Room (5 * k + 1 + 2) X.A := cx.room.mono (by omega)
  have hg2 : Gl X "tuple" := by
    show X.env.scope.names.lookup _ = _
    rw [cx.sc]
    exact hgl
  have hm : X.mg "tuple" = none := by rw [cx.mg]; exact ok.bok _ hb
  have key := tgen_h hk hown hi hif he cx e3 hL st h
  rw [← ho] at key
  refine of_pe (pe_tupG (k := 5 * k + 1) (tg := tGenT P gpos (wI X tg iter') (tgOf X.K t) (ttG X (5 * k) scope ifs') (teG X (5 * k) scope e') (ownN.map (·.2))) ⟨fun pins s σ' H' cont I z => ?_⟩ hr hg2 hm (by rfl)) key
  exact gen_coreT (own := ownN) cx.calm cx.ndX (hr.mono (by omega)) TB e1 I pi_w S2 (fun A s0 H0 D code fp pn hrA => chkT_ok (cx.gen hk hrA s0 H0 _ D fp pn) t tg ht) (fun A s0 H0 D code fp pn hrA => ⟨fun pins s σ H Q I z => z A s0 H0 D _ code fp pn hrA pins s I⟩)
    (fun A s0 H0 D code fp pn hrA => ⟨fun pins s σ H Q I z => z A s0 H0 D _ code fp pn hrA pins s I⟩) (gfold_eq hf _) z
end
end FS

-- text FsM
set_option Elab.async false
set_option linter.all false
set_option maxHeartbeats 1000000
/-! FsM: statements, the rest. -/
namespace FS
open PySem PySem.Spec PyProof.Rows L2 LamX

theorem blockKind_fn {env : Env} (h : env.scope.kind = .function) : env.blockKind = .function := by
  unfold Env.blockKind
  rw [h]
  rfl
theorem par2_eq {env : Env} {x y : Str} {a b : Expr} {px py pt pt2 : Pos} {kt k2 : Nat} (hk : env.scope.kind = .function) (hx : env.scope.names.lookup x = some .local) (hy : env.scope.names.lookup y = some .local) (hl : (py.line == px.line) = true) (ha : pl a = true) (hb : pl b = true) (hne : x ≠ y)
    (hf : (foldedForSure 8 a && foldedForSure 8 b) = false) (hc : (constantsAlone 8 a && constantsAlone 8 b) = false) : swappedStores [.Tuple [.Name x px, .Name y py] kt pt] (.Tuple [a, b] k2 pt2) env = pure (some [x, y]) := by
  have kx : env.kindOf x = some .local := hx
  have ky : env.kindOf y = some .local := hy
  have hl' : py.line = px.line := by simpa using hl
  have hd : [x, y].eraseDups = [x, y] := by
    rw [List.eraseDups_cons]
    have : (y == x) = false := by
      cases q : y == x
      · rfl
      · exact absurd (eq_of_beq q).symm hne
    simp [this, List.eraseDups_cons]
  have hp : (Expr.Name x px).pos = px := rfl
  unfold swappedStores
  simp only [List.length_cons, List.length_nil, blockKind_fn hk, List.any_cons, List.any_nil, List.all_cons, List.all_nil, Bool.and_true, Bool.or_false, hf, hc, List.filterMap_cons, List.filterMap_nil, kx, ky, hl', List.head?_cons, Option.map_some, Option.getD_some, hp, BEq.rfl, Bool.and_self, if_true, hd]
  refine (if_neg (by decide)).trans ((if_neg fun h => ?_).trans ((if_neg (by decide)).trans ((if_neg Bool.false_ne_true).trans (if_neg Bool.false_ne_true))))
  rcases (Bool.or_eq_true _ _).mp h with h | h
  · cases a <;> first | (cases ha; done) | (cases h; done)
  · cases b <;> first | (cases hb; done) | (cases h; done)
theorem par3_eq {env : Env} {x y z : Str} {a b c : Expr} {px py pz pt pt2 : Pos} {kt k2 : Nat} (hk : env.scope.kind = .function) (hx : env.scope.names.lookup x = some .local) (hy : env.scope.names.lookup y = some .local) (hz : env.scope.names.lookup z = some .local) (hl : (py.line == px.line) = true) (hl2 : (pz.line == px.line) = true) (ha : pl a = true) (hb : pl b = true) (hcc : pl c = true) (hne : x ≠ y) (hne2 : x ≠ z) (hne3 : y ≠ z)
    (hf : (foldedForSure 8 a && (foldedForSure 8 b && foldedForSure 8 c)) = false) (hc : (constantsAlone 8 a && (constantsAlone 8 b && constantsAlone 8 c)) = false) : swappedStores [.Tuple [.Name x px, .Name y py, .Name z pz] kt pt] (.Tuple [a, b, c] k2 pt2) env = pure (some [x, y, z]) := by
  have kx : env.kindOf x = some .local := hx
  have ky : env.kindOf y = some .local := hy
  have kz : env.kindOf z = some .local := hz
  have hl' : py.line = px.line := by simpa using hl
  have hl2' : pz.line = px.line := by simpa using hl2
  have nb : ∀ {u v : Str}, u ≠ v → (v == u) = false := fun {u v} h => by
    cases q : v == u
    · rfl
    · exact absurd (eq_of_beq q).symm h
  have hd : [x, y, z].eraseDups = [x, y, z] := by
    rw [List.eraseDups_cons]
    simp [nb hne, nb hne2, nb hne3, List.eraseDups_cons]
  have hp : (Expr.Name x px).pos = px := rfl
  unfold swappedStores
  simp only [List.length_cons, List.length_nil, blockKind_fn hk, List.any_cons, List.any_nil, List.all_cons, List.all_nil, Bool.and_true, Bool.or_false, hf, hc, List.filterMap_cons, List.filterMap_nil, kx, ky, kz, hl', hl2', List.head?_cons, Option.map_some, Option.getD_some, hp, BEq.rfl, Bool.and_self, if_true, hd]
  refine (if_neg (by decide)).trans ((if_neg fun h => ?_).trans ((if_neg (by decide)).trans ((if_neg Bool.false_ne_true).trans (if_neg Bool.false_ne_true))))
  rcases (Bool.or_eq_true _ _).mp h with h | h
  · cases a <;> first | (cases ha; done) | (cases h; done)
  · rcases (Bool.or_eq_true _ _).mp h with h | h
    · cases b <;> first | (cases hb; done) | (cases h; done)
    · cases c <;> first | (cases hcc; done) | (cases h; done)

section
variable {G : GD} {Y : GX} {cf : CF} {k : Nat} {C : SC} {cm : List (Option CI)} {o : List Fr} {X : Cx} {J : JC}
variable {ρ ρ1 : List Addr} {H H1 : Hp} {mh : MH} {σ : L2.St} {fr : Fr} {D : Ends} {pos : Pos} {a : E} {a' : Expr}
def setAll : L2.St → List Nat → List V → L2.St
  | σ, t :: ts, y :: ys => setAll (σ.set t (some y)) ts ys
  | σ, _, _ => σ
theorem asgNs_ok : ∀ {ts : List Nat} {xs : List FS.D} {ys : List V} {σ : L2.St} {fr fr' : Fr}, asgNs ts xs fr = some fr' → reps G cm ρ H xs ys → FrR G cm ρ H σ fr → ys.length = ts.length ∧ FrR G cm ρ H (setAll σ ts ys) fr'
  | [], [], ys, σ, fr, fr', h, r, f => by
    unfold asgNs at h
    cases h
    unfold reps at r
    subst r
    exact ⟨rfl, f⟩
  | t :: ts, x :: xs, ys, σ, fr, fr', h, r, f => by
    unfold asgNs at h
    split at h
    · rename_i hl
      unfold reps at r
      obtain ⟨y, zs, rfl, r1, r2⟩ := r
      obtain ⟨h1, h2⟩ := asgNs_ok h r2 (f.put hl r1)
      exact ⟨by rw [List.length_cons, List.length_cons, h1], h2⟩
    · cases h
  | [], _ :: _, _, _, _, _, h, _, _ => by unfold asgNs at h; cases h
  | _ :: _, [], _, _, _, _, h, _, _ => by unfold asgNs at h; cases h
theorem ss_par2 {i j : Nat} {es : Es} {x y : Str} {b c : Expr} {px py pt pt2 : Pos} {kt k2 : Nat} (hi : C.N[i]? = some x) (hj : C.N[j]? = some y) (hx : C.sc.names.lookup x = some .local) (hy : C.sc.names.lookup y = some .local) (hl : (py.line == px.line) = true) (hb : pl b = true) (hc : pl c = true) (hne : x ≠ y)
    (hf : (foldedForSure 8 b && foldedForSure 8 c) = false) (hcn : (constantsAlone 8 b && constantsAlone 8 c) = false) (ha : SEs G Y cf k C es [b, c]) : SSt G Y cf k C (.par [i, j] es) (.Assign [.Tuple [.Name x px, .Name y py] kt pt] (.Tuple [b, c] k2 pt2) pos) := fun τ X cm o cx sx ρ H mh σ fr st D h => by
  unfold evS at h
  have hij : i ≠ j := fun e => hne (by
    rw [e, hj] at hi
    exact (Option.some.inj hi).symm)
  refine of_ps (ps_par (i := i) (j := j) cx.calm cx.ndX (by rw [cx.N]; exact hi) (by rw [cx.N]; exact hj) hij (by rw [cx.sc]; exact hx) (by rw [cx.sc]; exact hy) pa_w (par2_eq (by rw [cx.sc]; exact cx.kind) (by rw [cx.sc]; exact hx) (by rw [cx.sc]; exact hy) hl hb hc hne hf hcn)) ?_
  refine ha τ X cm o cx ρ H mh σ fr st _ (h.seq st.fr fun d1 mh1 ρ1 H1 v1 _ e1 g1 r1 h1 => ?_)
  split at h1
  · rename_i fr1 hq
    obtain ⟨l1, f1⟩ := asgNs_ok hq r1 (st.fr.ext e1)
    match v1, l1 with
    | [v, w], _ => exact ⟨v, w, rfl, h1 ρ1 H1 _ (Ext.refl _ _) g1 f1⟩
  · exact False.elim h1
theorem ss_par3 {i j l : Nat} {es : Es} {x y z : Str} {b c d : Expr} {px py pz pt pt2 : Pos} {kt k2 : Nat} (hi : C.N[i]? = some x) (hj : C.N[j]? = some y) (hlz : C.N[l]? = some z) (hx : C.sc.names.lookup x = some .local) (hy : C.sc.names.lookup y = some .local) (hz : C.sc.names.lookup z = some .local)
    (hl : (py.line == px.line) = true) (hl2 : (pz.line == px.line) = true) (hb : pl b = true) (hc : pl c = true) (hd : pl d = true) (hne : x ≠ y) (hne2 : x ≠ z) (hne3 : y ≠ z)
    (hf : (foldedForSure 8 b && (foldedForSure 8 c && foldedForSure 8 d)) = false) (hcn : (constantsAlone 8 b && (constantsAlone 8 c && constantsAlone 8 d)) = false) (ha : SEs G Y cf k C es [b, c, d]) : SSt G Y cf k C (.par [i, j, l] es) (.Assign [.Tuple [.Name x px, .Name y py, .Name z pz] kt pt] (.Tuple [b, c, d] k2 pt2) pos) := fun τ X cm o cx sx ρ H mh σ fr st D h => by
  unfold evS at h
  have ne : ∀ {i j : Nat} {x y : Str}, C.N[i]? = some x → C.N[j]? = some y → x ≠ y → i ≠ j := fun {i j x y} hi hj hne e => hne (by
    rw [e, hj] at hi
    exact (Option.some.inj hi).symm)
  refine of_ps (ps_par3 (i := i) (j := j) (l := l) cx.calm cx.ndX (by rw [cx.N]; exact hi) (by rw [cx.N]; exact hj) (by rw [cx.N]; exact hlz) (ne hi hj hne) (ne hi hlz hne2) (ne hj hlz hne3) (by rw [cx.sc]; exact hx) (by rw [cx.sc]; exact hy) (by rw [cx.sc]; exact hz) pa_w (par3_eq (by rw [cx.sc]; exact cx.kind) (by rw [cx.sc]; exact hx) (by rw [cx.sc]; exact hy) (by rw [cx.sc]; exact hz) hl hl2 hb hc hd hne hne2 hne3 hf hcn)) ?_
  refine ha τ X cm o cx ρ H mh σ fr st _ (h.seq st.fr fun d1 mh1 ρ1 H1 v1 _ e1 g1 r1 h1 => ?_)
  split at h1
  · rename_i fr1 hq
    obtain ⟨l1, f1⟩ := asgNs_ok hq r1 (st.fr.ext e1)
    match v1, l1 with
    | [u, v, w], _ => exact ⟨u, v, w, rfl, h1 ρ1 H1 _ (Ext.refl _ _) g1 f1⟩
  · exact False.elim h1
/-- o[i] = e -/
theorem ss_sub {b c : E} {b' c' : Expr} {p : Pos} (hn : ncomp a' = true) (ha : SE G Y cf k C a a') (hb : SE G Y cf k C b b') (hc : SE G Y cf k C c c') (hpl : pl c' = true) : SSt G Y cf k C (.sub a b c) (.Assign [.Subscript b' c' p] a' pos) := fun τ X cm o cx sx ρ H mh σ fr st D h => by
  unfold evS at h
  have hsub : ∀ v, assign (.Subscript b' c' p) X.env v = (do
      let ov ← holding [v] (eval b' X.env)
      let iv ← holding [v, ov] (eval c' X.env)
      standAt p
      holding [v, ov, iv] (setItem ov iv v)
      release [v, ov, iv] []) := by
    intro v
    cases c' <;> first | rfl | (cases hpl)
  refine of_ps (ps_asg pe_w (pg_sub pe_w pe_w set_list hsub) (show swapsWith a' (some (.Subscript b' c' p)) pos.line X.env = pure false from ncomp_sw hn _ _ _) (by cases a' <;> rfl)) ?_
  refine ha τ X cm o cx ρ H mh σ fr st _ (h.seq st.fr fun d1 mh1 ρ1 H1 v1 _ e1 g1 r1 h1 => ?_)
  refine hb τ X cm o cx ρ1 H1 mh1 σ fr (st.step e1 g1) _ (h1.seq (st.fr.ext e1) fun d2 mh2 ρ2 H2 v2 _ e2 g2 r2 h2 => ?_)
  refine hc τ X cm o cx ρ2 H2 mh2 σ fr ((st.step e1 g1).step e2 g2) _ (h2.seq ((st.fr.ext e1).ext e2) fun d3 mh3 ρ3 H3 v3 _ e3 g3 r3 h3 => ?_)
  split at h3
  · rename_i mh4 hq
    unfold setAt at hq
    split at hq
    · split at hq
      · rename_i xs hxs
        split at hq
        · rename_i q hix
          split at hq
          · rename_i hcl
            cases hq
            have r2' := r2.mono (Deeper.refl _) e3
            unfold rep at r2' r3
            obtain ⟨ad, rfl, had⟩ := r2'
            subst r3
            obtain ⟨ys, hys, rys⟩ := g3.chg _ ad _ had hxs
            refine ⟨ad, ys, _, q, rfl, rfl, hys, by rw [ixN_eq, ← rys.length]; exact hix, ?_⟩
            have r1' : rep (G.tm τ) [] ρ3 H3 d1 v1 := (((r1.mono (Deeper.refl _) e2).mono (Deeper.refl _) e3).bare _ _ hcl)
            exact h3 ρ3 _ σ (Ext.store (List.mem_of_getElem? had)) (g3.store had hxs hys (rys.set q r1')) ((((st.fr.ext e1).ext e2).ext e3).ext (Ext.store (List.mem_of_getElem? had)))
          · cases hq
        · cases hq
      · cases hq
    · cases hq
  · exact False.elim h3
theorem ss_whl {n : Nat} {c : Ct} {b : Ss} {ba : List Stmt} (hc : ST G Y cf k C c a') (hb : SSs G Y cf k C b ba) : SSt G Y cf k C (.whl n c b) (.While a' ba [] pos) := fun τ X cm o cx sx ρ H mh σ fr st D h => by
  unfold evS at h
  refine of_ps (ps_while sx.passes pt_w pss_w) ?_
  refine ⟨fun m σ1 H1 => ∃ ρ1 mh1 fr1, StR (G.tm τ) cm X o ρ1 H1 mh1 σ1 fr1 ∧ RSK (G.tm τ) Y X cm ρ1 H1 (whileM (fun fr1 h1 => evT Y.g cf o c fr1 h1) (fun fr1 h1 => evSs Y.g cf o b fr1 h1) m fr1 mh1) D, ⟨n, ρ, mh, fr, st, h⟩, ?_⟩
  rintro m σ1 H1 ⟨ρ1, mh1, fr1, st1, h1⟩
  cases m with
  | zero => exact False.elim h1
  | succ m =>
    unfold whileM at h1
    have h1 : RSK (G.tm τ) Y X cm ρ1 H1 ((evT Y.g cf o c fr1 mh1).toS fr1 fun t h1 => match t with
      | false => .nx fr1 h1
      | true => (match evSs Y.g cf o b fr1 h1 with
        | .nx fr2 h2 => whileM (fun fr1 h1 => evT Y.g cf o c fr1 h1) (fun fr1 h1 => evSs Y.g cf o b fr1 h1) m fr2 h2
        | .cnt fr2 h2 => whileM (fun fr1 h1 => evT Y.g cf o c fr1 h1) (fun fr1 h1 => evSs Y.g cf o b fr1 h1) m fr2 h2
        | .brk fr2 h2 => .nx fr2 h2
        | r => r)) D := by
      revert h1
      cases evT Y.g cf o c fr1 mh1 with
      | ok t h1 => cases t <;> exact fun h => h
      | exc c h1 => exact fun h => h
      | stk => exact fun h => h
    refine hc τ X cm o cx ρ1 H1 mh1 σ1 fr1 st1 _ (h1.seq st1.fr fun d2 mh2 ρ2 H2 v2 _ e2 g2 r2 h2 => ?_)
    have r2 : d2 = v2 := r2
    subst r2
    cases d2
    · rw [if_neg Bool.false_ne_true]
      exact h2 ρ2 H2 σ1 (Ext.refl _ _) g2 (st1.fr.ext e2)
    · rw [if_pos rfl]
      refine ⟨fun σ' H' => ∃ ρ1 mh1 fr1, StR (G.tm τ) cm X o ρ1 H' mh1 σ' fr1 ∧ RSK (G.tm τ) Y X cm ρ1 H' (whileM (fun fr1 h1 => evT Y.g cf o c fr1 h1) (fun fr1 h1 => evSs Y.g cf o b fr1 h1) m fr1 mh1) D, fun σ' H' z => ⟨m, Nat.lt_succ_self m, z⟩, ?_⟩
      have st2 := st1.step e2 g2
      refine hb τ X cm o cx sx ρ2 H2 mh2 σ1 fr1 st2 _ ?_
      dsimp only at h2
      revert h2
      cases evSs Y.g cf o b fr1 mh2 with
      | nx fr3 mh3 => exact fun h2 ρ' H' σ' e g f => ⟨ρ', mh3, fr3, ⟨g, f, st2.out.ext e⟩, RSK.step h2 e⟩
      | cnt fr3 mh3 => exact fun h2 ρ' H' σ' e g f => ⟨ρ', mh3, fr3, ⟨g, f, st2.out.ext e⟩, RSK.step h2 e⟩
      | brk fr3 mh3 => exact fun h2 => h2
      | ret d mh3 => exact fun h2 => h2
      | exc c fr3 mh3 => exact fun h2 => h2
      | stk => exact fun h2 => h2
theorem ss_for {t : T} {it : Iw} {b : Ss} {tg : Expr} {ba : List Stmt} (ht : chkT C t tg = true) (hn : nset a' = true) (hi : SI G Y cf k C it tg a') (hb : SSs G Y cf k C b ba) : SSt G Y cf k C (.for_ t it b) (.For tg a' ba [] pos) := fun τ X cm o cx sx ρ H mh σ fr st D h => by
  unfold evS at h
  refine of_ps (ps_for sx.passes cx.calm pi_w (chkT_ok cx t tg ht) pss_w (nset_eq hn _)) ?_
  refine hi τ X cm o cx ρ H mh σ fr st _ (h.seq st.fr fun xs mh1 ρ1 H1 Jt _ e1 g1 r1 h1 => ?_)
  obtain ⟨its, rv, wk⟩ := r1
  generalize hF : (fun (x : FS.D) (fr1 : Fr) (h2 : MH) => match asg t x fr1 with
    | some fr2 => evSs Y.g cf o b fr2 h2
    | none => .stk) = F at h1
  refine ⟨fun i m σ2 H2 => m = xs.length - i ∧ i ≤ xs.length ∧ ∃ ρ2 mh2 fr2, Ext ρ1 H1 ρ2 H2 ∧ StR (G.tm τ) cm X o ρ2 H2 mh2 σ2 fr2 ∧ RSK (G.tm τ) Y X cm ρ2 H2 (forM F (xs.drop i) fr2 mh2) D, ⟨xs.length, rfl, Nat.zero_le _, ρ1, mh1, fr, Ext.refl _ _, st.step e1 g1, h1⟩, ?_⟩
  rintro i m σ2 H2 ⟨hm, hi2, ρ2, mh2, fr2, e2, st2, h2⟩
  by_cases hend : i = xs.length
  · subst hend
    rw [List.drop_length] at h2
    unfold forM at h2
    exact False.elim h2
  have hlt : i < xs.length := by omega
  have hxs : xs[i]? = some xs[i] := List.getElem?_eq_getElem hlt
  have mvD : Mv (G.tm τ) (G.tm τ) cm cm ρ1 ρ2 H1 H2 := Mv.of (Deeper.refl _) e2
  rw [List.drop_eq_getElem_cons hlt] at h2
  unfold forM at h2
  split at h2
  rotate_left
  · rename_i hd
    left
    exact ⟨wk_end wk rv mvD e2 st2.gd hxs hd, h2 ρ2 H2 σ2 (Ext.refl _ _) st2.gd st2.fr⟩
  · exact False.elim h2
  · rename_i d hd
    right
    obtain ⟨hgo, hyld⟩ := wk_turn wk rv mvD e2 st2.gd hxs hd
    refine ⟨hgo, fun σ' H' => ∃ m', m' < m ∧ (m' = xs.length - (i + 1) ∧ i + 1 ≤ xs.length ∧ ∃ ρ2 mh2 fr2, Ext ρ1 H1 ρ2 H' ∧ StR (G.tm τ) cm X o ρ2 H' mh2 σ' fr2 ∧ RSK (G.tm τ) Y X cm ρ2 H' (forM F (xs.drop (i + 1)) fr2 mh2) D), fun σ' H' z => z, fun x H3 hy => ?_⟩
    obtain ⟨e3, g3, rx⟩ := hyld x H3 hy
    replace e2 := e2.trans e3
    replace st2 := st2.step e3 g3
    replace h2 := RSK.step h2 e3
    have eF : F d fr2 mh2 = (match asg t d fr2 with
      | some fr3 => evSs Y.g cf o b fr3 mh2
      | none => .stk) := by rw [← hF]
    rw [eF] at h2
    rw [cx.K]
    cases hq : asg t d fr2 with
    | none =>
      rw [hq] at h2
      exact False.elim h2
    | some fr3 =>
      rw [hq] at h2
      dsimp only at h2
      refine asg_ok (G := G.tm τ) t _ x σ2 fr2 fr3 _ hq rx st2.fr fun σ3 f3 _ => ?_
      have st3 : StR (G.tm τ) cm X o ρ2 H3 mh2 σ3 fr3 := st2.with f3
      refine hb τ X cm o cx sx ρ2 H3 mh2 σ3 fr3 st3 _ ?_
      revert h2
      cases evSs Y.g cf o b fr3 mh2 with
      | nx fr4 mh4 => exact fun h2 ρ' H' σ' e g f => ⟨_, by omega, rfl, by omega, ρ', mh4, fr4, e2.trans e, ⟨g, f, st3.out.ext e⟩, RSK.step h2 e⟩
      | cnt fr4 mh4 => exact fun h2 ρ' H' σ' e g f => ⟨_, by omega, rfl, by omega, ρ', mh4, fr4, e2.trans e, ⟨g, f, st3.out.ext e⟩, RSK.step h2 e⟩
      | brk fr4 mh4 => exact fun h2 => h2
      | ret d mh4 => exact fun h2 => h2
      | exc c fr4 mh4 => exact fun h2 => h2
      | stk => exact fun h2 => h2
/-! ### raise, try -/
theorem ss_rai (ok : GOk J G Y) {c : Nat} {x : Str} {m : Str} {jj : Nat} {p p2 p3 : Pos} (hx : J.clsn[c]? = some x) (hg : C.sc.names.lookup x = some .globalImplicit) (hd : (x == ("__debug__" : Str)) = false) : SSt G Y cf k C (.rai c) (.Raise (some (.Call (.Name x p) [.Constant (.str m) jj p2] [] p3)) none pos) := fun τ X cm o cx sx ρ H mh σ fr st D h => by
  unfold evS at h
  split at h
  · rename_i hc
    obtain ⟨W, tk, h⟩ := h
    unfold TkC at tk
    rw [if_pos hc] at tk
    obtain ⟨ad, q1, q2, q3, q4, q5, q6⟩ := ok.exc c x hx
    have hK : X.K = G.K := cx.K
    refine of_ps (L2N.ps_raise cx.calm tk (L2N.pmk_own F.excBase_ValueError (by rw [hK]; exact q3) (by rw [cx.mg]; exact q2) (by rw [hK]; exact q4) (raises_own (by rw [hK]; exact q5) (by rw [hK]; exact q6)) (gl_of cx hg) hd)) ?_
    rw [← q1]
    exact h ρ H σ none (Ext.refl _ _) st.gd st.fr
  · exact False.elim h
/-- an own exception made of a text, its record whole -/
theorem pmk5_own {X : Cx} {C : Addr} {x m : Str} {j : Nat} {p p2 pos : Pos} (hq : PySem.W.excIn X.K C [.type "ValueError", .type "Exception", .type "BaseException", .type "object"] "ValueError.__new__" = true) (hgC : X.mg x = some (.ref C)) (hkC : PySem.W.keepIn X.K (.ref C) = true) (hr : Raises X (.ref C)) (hg : Gl X x)
    (hd : (x == ("__debug__" : Str)) = false) : L2H.PMk5 X (.Call (.Name x p) [.Constant (.str m) j p2] [] pos) (fun _ H Q => Q (.ref C) none H) := by
  intro pins s σ H Q J w
  have args : PA X [.Constant (.str m) j p2] (tCons (tC (.str m)) tNil) := pa_cons pe_str pa_nil
  have run := args.run pos pins s σ H (fun vs H2 => vs = [V.str m] ∧ H = H2) J ⟨rfl, rfl⟩
  refine wpAny_Call_Name_kw (ld_glob J hg hgC ?_ hd)
  refine PySem.W.callWith_K (h₀ := X.base) J.ok.mod.kin hkC (thn run fun us s2 h2 => ?_)
  obtain ⟨vs, H2, J2, rv, e1, e2⟩ := h2
  subst e1 e2
  refine ⟨J2.kIn, ?_⟩
  cases rv with
  | cons ru rt =>
    cases rt
    show wpAny _ _ (call (.ref C) [_]) _ _ _
    obtain ⟨_, _, _, _, _, _, _, _, _, _, _, _, _, _, _, _, z1, z2, z3, z4, z5⟩ := exc_obj J2.kIn hq
    refine wpAny_call_exc_subT F.excBase_ValueError z5 z2 z3 z4 (fun h' e hm => ?_) (by show 0 + 1 ≤ sizeLine; rw [sizeLine_eq]; decide)
    exact L2H.mk_of5 J2 hm hr w (J2.hok.gone hm.new)
/-- an except suite -/
def chkHd (J : JC) (C : SC) : Hd → List Stmt → Bool
  | .ret (.str x), [.Return (some (.Constant (.str y) _ _)) _] => decide (y = SX.S x)
  | .ret .non, [.Return (some (.Constant .none _ _)) _] => true
  | .ret (.bl b), [.Return (some (.Constant (.bool c) _ _)) _] => b == c
  | .pas, [.Pass _] => true
  | .rai c, [.Raise (some (.Call (.Name x _) [.Constant (.str _) _ _] [] _)) (some (.Constant .none _ _)) _] => decide (J.clsn[c]? = some x) && decide (C.sc.names.lookup x = some .globalImplicit) && !(x == ("__debug__" : Str))
  | _, _ => false
def Hd.calm : Hd → Bool
  | .rai _ => false
  | _ => true
/-- a suite that raises nothing, or is not come to -/
theorem chkHd_ok {hd : Hd} {su : List Stmt} (h : chkHd J C hd su = true) : ∃ b₀ rest, su = b₀ :: rest ∧ ∃ ts : TS, (∀ X' : Cx, PSs X' su ts) ∧ ∀ D σ H, (match hd with | .ret d => ∀ v, (∀ G cm ρ H, rep G cm ρ H d v) → D.rt v H | .pas => D.nx σ H | .rai _ => False) → ts D σ H := by
  unfold chkHd at h
  split at h
  · have e := of_decide_eq_true h
    subst e
    exact ⟨_, _, rfl, _, fun X' => pss_one (ps_ret pe_str), fun D σ H q => q _ fun G cm ρ H => by unfold rep; rfl⟩
  · exact ⟨_, _, rfl, _, fun X' => pss_one (ps_ret pe_non), fun D σ H q => q _ fun G cm ρ H => by unfold rep; rfl⟩
  · have e := eq_of_beq h
    subst e
    exact ⟨_, _, rfl, _, fun X' => pss_one (ps_ret pe_bl), fun D σ H q => q _ fun G cm ρ H => by unfold rep; rfl⟩
  · exact ⟨_, _, rfl, _, fun X' => pss_one ps_pass, fun D σ H q => q⟩
  · exact ⟨_, _, rfl, fun _ _ _ => False, fun X' => ⟨fun pins s σ H D I z => False.elim z⟩, fun D σ H q => q⟩
  · cases h
/-- the text within a try -/
def SC.nox (C : SC) : SC := { C with hx := false }
theorem CtxOk.tr (cx : CtxOk G Y C k cm o X) (pn : List (Addr × Obj)) (xe : Value → Shared → Prop) : CtxOk G Y C.nox k cm o (X.tr pn xe) := ⟨cx.prog, cx.w, cx.K, cx.mg, cx.N, cx.nd, cx.sc, cx.kind, cx.calm, cx.fn, cx.room, cx.base, cx.code, cx.lamf, cx.nlam, cx.lamc, cx.own, cx.len, fun h => by cases h⟩
/-- the clauses of a try, one by one -/
def chkHds (J : JC) (C : SC) : List (Nat × Hd) → List ExceptHandler → Bool
  | [], [] => true
  | (c, hd) :: r, .ExceptHandler (some (.Name x _)) none su _ :: r' => decide (J.clsn[c]? = some x) && decide (C.sc.names.lookup x = some .globalImplicit) && !(x == ("__debug__" : Str)) && chkHd J C hd su && chkHds J C r r'
  | _, _ => false
/-- a clause's wish -/
def HdT (hd : Hd) (ts : Addr → Value → Option Addr → TS) : Prop := ∀ a cls d D σ H, (match hd with | .ret d => ∀ v, (∀ G cm ρ H, rep G cm ρ H d v) → D.rt v H | .pas => D.nx σ H | .rai _ => False) → ts a cls d D σ H
inductive HdsT (Y : GX) : List (Nat × Hd) → List (Value × (Addr → Value → Option Addr → TS)) → Prop
  | nil : HdsT Y [] []
  | cons {c : Nat} {hd : Hd} {ts : Addr → Value → Option Addr → TS} {hs : List (Nat × Hd)} {l : List (Value × (Addr → Value → Option Addr → TS))} (n : ∃ x, x = c) (h : HdT hd ts) (r : HdsT Y hs l) : HdsT Y ((c, hd) :: hs) ((Y.cls c, ts) :: l)
theorem chkHds_ok {τ : List Addr} (ok : GOk J G Y) (cx : CtxOk (G.tm τ) Y C k cm o X) : ∀ {hs : List (Nat × Hd)} {hl : List ExceptHandler}, chkHds J C hs hl = true → ∃ l, L2.HdsOk X hl l ∧ L2N.HdsOk X hl l ∧ HdsT Y hs l ∧ ∀ p ∈ hs, ∃ x, J.clsn[p.1]? = some x
  | [], [], _ => ⟨[], .nil, .nil, .nil, fun p hp => by cases hp⟩
  | (c, hd) :: r, .ExceptHandler (some (.Name x p)) none su p2 :: r', h => by
    unfold chkHds at h
    simp only [Bool.and_eq_true, decide_eq_true_eq, Bool.not_eq_true'] at h
    obtain ⟨⟨⟨⟨h1, h2⟩, h3⟩, h4⟩, h5⟩ := h
    obtain ⟨l, q1, q2, q3, q4⟩ := chkHds_ok ok cx h5
    obtain ⟨b₀, rest, rfl, ts, hts, htd⟩ := chkHd_ok h4
    obtain ⟨ad, e1, e2, _⟩ := ok.exc c x h1
    have hnm : Names X x (Y.cls c) := ⟨gl_of cx h2, h3, .inl (by rw [cx.mg, e1]; exact e2)⟩
    refine ⟨(Y.cls c, fun _ _ _ => ts) :: l, .cons hnm (fun a oe cls d pn _ _ => hts _) q1, .cons hnm (fun a oe cls d pn _ _ => hts _) q2, .cons ⟨c, rfl⟩ (fun a cls d D σ H z => htd D σ H z) q3, fun p hp => ?_⟩
    rcases List.mem_cons.mp hp with e | hp
    · rw [e]
      exact ⟨x, h1⟩
    · exact q4 p hp
  | [], _ :: _, h => by unfold chkHds at h; cases h
  | (c, hd) :: r, [], h => by unfold chkHds at h; cases h
  | (c, hd) :: r, .ExceptHandler none n su p2 :: r', h => by unfold chkHds at h; cases h
  | (c, hd) :: r, .ExceptHandler (some e) (some n) su p2 :: r', h => by cases e <;> (unfold chkHds at h; cases h)
/-- the class e flies through the clauses -/
theorem many_of {K : PySem.W.Frag} {Wout : WX} {e : Nat} {dd : Option Addr} {σ' : L2.St} {H' : Hp} {D : Ends} : ∀ {hs : List (Nat × Hd)} {l : List (Value × (Addr → Value → Option Addr → TS))}, HdsT Y hs l → (∀ p ∈ hs, PySem.W.exmOne K (Y.cls e) (Y.cls p.1) = some (sub Y.g e p.1)) →
    (match hdOf Y.g e hs with
      | some (.ret d) => ∀ v, (∀ G cm ρ H, rep G cm ρ H d v) → D.rt v H'
      | some .pas => D.nx σ' H'
      | some (.rai _) => False
      | none => Wout (Y.cls e) dd σ' H') → wMany K Wout D l (Y.cls e) dd σ' H'
  | [], _, .nil, _, h => h
  | (c, hd) :: hs, _, .cons (ts := ts) _ ht r, hx, h => by
    unfold wMany
    have ex := hx (c, hd) List.mem_cons_self
    refine ⟨sub Y.g e c, ex, fun hs' ad _ => ?_, fun hs' => many_of r (fun p hp => hx p (List.mem_cons_of_mem _ hp)) ?_⟩
    · unfold hdOf at h
      rw [if_pos hs'] at h
      refine ht ad (Y.cls e) dd D σ' H' ?_
      cases hd with
      | ret d => exact h
      | pas => exact h
      | rai c2 => exact h
    · unfold hdOf at h
      rw [if_neg (by rw [hs']; exact Bool.false_ne_true)] at h
      exact h
theorem chkHd_rai {c2 : Nat} {su : List Stmt} (h : chkHd J C (.rai c2) su = true) : ∃ x m p p2 p3 p4 p5 j j2, su = [.Raise (some (.Call (.Name x p) [.Constant (.str m) j p2] [] p3)) (some (.Constant .none j2 p4)) p5] ∧ J.clsn[c2]? = some x ∧ C.sc.names.lookup x = some .globalImplicit ∧ (x == ("__debug__" : Str)) = false := by
  unfold chkHd at h
  split at h
  · rename_i e; cases e
  · rename_i e; cases e
  · rename_i e; cases e
  · rename_i e; cases e
  · rename_i c x p m j p2 p3 j2 p4 p5 e
    cases e
    simp only [Bool.and_eq_true, decide_eq_true_eq, Bool.not_eq_true'] at h
    exact ⟨x, m, p, p2, p3, p4, p5, j, j2, rfl, h.1.1, h.1.2, h.2⟩
  · cases h
theorem ss_tri (ok : GOk J G Y) {b : Ss} {hs : List (Nat × Hd)} {ba : List Stmt} {hl : List ExceptHandler} (hne : hl.isEmpty = false) (hone : (hs.all (·.2.calm) || (C.hx && decide (hs.length = 1))) = true) (hh : chkHds J C hs hl = true) (hb : SSs G Y cf k C.nox b ba) :
    SSt G Y cf k C (.tri b hs) (.Try ba hl [] [] pos) := fun τ X cm o cx sx ρ H mh σ fr st D h => by
  unfold evS at h
  obtain ⟨l, hok, hokN, hT, hcl⟩ := chkHds_ok ok cx hh
  cases hl with
  | nil => cases hne
  | cons h₀ hds =>
  have hexm : ∀ e, e < Y.g.ncl → ∀ p ∈ hs, PySem.W.exmOne X.K (Y.cls e) (Y.cls p.1) = some (sub Y.g e p.1) := fun e he p hp => by
    obtain ⟨x, hx⟩ := hcl p hp
    have hK : X.K = G.K := cx.K
    rw [hK]
    exact ok.exm e p.1 x he hx
  -- any exception of the body is taken
  have go : ∀ Wout : WX, L2.Takes X Wout → (∀ pn xe, L2.Takes (X.tr pn xe) (wMany X.K Wout D l) → PassesOwn (model X.prog X.w) X.A X.env xe → wSs (X.tr pn xe) ba D σ H) → wS X (.Try ba (h₀ :: hds) [] [] pos) D σ H := fun Wout tk hbody => by
    refine of_ps (L2.ps_try_many (tb := fun W D σ H => ∀ pn xe, L2.Takes (X.tr pn xe) W → PassesOwn (model X.prog X.w) X.A X.env xe → wSs (X.tr pn xe) ba D σ H) sx.stk sx.frame tk (fun W pn xe tk pa => ⟨fun pins s σ H D I z => z pn xe tk pa pins s I⟩) hok) ?_
    exact hbody
  have goN : ∀ Wout : WX, L2N.Takes X Wout → (∀ pn xe, L2N.Takes (X.tr pn xe) (wMany X.K Wout D l) → PassesOwn (model X.prog X.w) X.A X.env xe → wSs (X.tr pn xe) ba D σ H) → wS X (.Try ba (h₀ :: hds) [] [] pos) D σ H := fun Wout tk hbody => by
    refine of_ps (L2N.ps_try_many (tb := fun W D σ H => ∀ pn xe, L2N.Takes (X.tr pn xe) W → PassesOwn (model X.prog X.w) X.A X.env xe → wSs (X.tr pn xe) ba D σ H) sx.stk sx.frame tk (fun W pn xe tk pa => ⟨fun pins s σ H D I z => z pn xe tk pa pins s I⟩) hokN) ?_
    exact hbody
  have t0 : L2.Takes X (fun _ _ _ _ => False) := takes0
  have body : ∀ pn xe, PassesOwn (model X.prog X.w) X.A X.env xe → RSK (G.tm τ) Y (X.tr pn xe) cm ρ H (evSs Y.g cf o b fr mh) D → wSs (X.tr pn xe) ba D σ H := fun pn xe pa hR => hb τ (X.tr pn xe) cm o (cx.tr pn xe) ⟨sx.stk, sx.frame, pa⟩ ρ H mh σ fr ⟨st.gd, st.fr, st.out⟩ D hR
  revert h body
  cases hr : evSs Y.g cf o b fr mh with
  | exc e fr1 mh1 =>
    intro h body
    dsimp only at h
    split at h
    · rename_i hlt
      split at h
      · -- a suite that hands back a value
        rename_i d hd
        refine go _ t0 fun pn xe tk pa => body pn xe pa ⟨_, TkC.of tk, fun ρ' H' σ' dd ex g f => many_of hT (hexm e hlt) ?_⟩
        rw [hd]
        exact fun v rv => h ρ' H' v ex g (rv _ _ _ _)
      · rename_i hd
        refine go _ t0 fun pn xe tk pa => body pn xe pa ⟨_, TkC.of tk, fun ρ' H' σ' dd ex g f => many_of hT (hexm e hlt) ?_⟩
        rw [hd]
        exact h ρ' H' σ' ex g f
      · -- a suite that raises
        rename_i c2 hd
        split at h
        · rename_i hc
          rw [Bool.and_eq_true, Bool.not_eq_true'] at hc
          obtain ⟨Wout, tko, h⟩ := h
          unfold TkC at tko
          rw [if_neg (by rw [hc.2]; exact Bool.false_ne_true)] at tko
          have hrai : hs.all (·.2.calm) = false := by
            cases q : hs.all (·.2.calm) with
            | false => rfl
            | true =>
              exfalso
              have : ∀ {hs : List (Nat × Hd)}, hs.all (·.2.calm) = true → hdOf Y.g e hs ≠ some (.rai c2) := by
                intro hs
                induction hs with
                | nil => exact fun _ z => by cases z
                | cons p r ih =>
                  intro q z
                  rw [List.all_cons, Bool.and_eq_true] at q
                  unfold hdOf at z
                  split at z
                  · have z := Option.some.inj z
                    rw [z] at q
                    cases q.1
                  · exact ih q.2 z
              exact this q hd
          rw [hrai, Bool.false_or, Bool.and_eq_true, decide_eq_true_eq] at hone
          obtain ⟨hx, h1⟩ := hone
          match hs, h1 with
          | [(c, hd0)], _ =>
          have hd1 : sub Y.g e c = true ∧ hd0 = .rai c2 := by
            unfold hdOf at hd
            split at hd
            · rename_i q
              exact ⟨q, Option.some.inj hd⟩
            · unfold hdOf at hd
              cases hd
          obtain ⟨hs1, rfl⟩ := hd1
          match h₀, hds, hh with
          | .ExceptHandler (some (.Name x p)) none su p2, q :: r, hh =>
            exfalso
            unfold chkHds at hh
            rw [Bool.and_eq_true] at hh
            have hh := hh.2
            unfold chkHds at hh
            cases hh
          | .ExceptHandler (some (.Name x p)) none su p2, [], hh =>
            unfold chkHds at hh
            simp only [Bool.and_eq_true, decide_eq_true_eq, Bool.not_eq_true'] at hh
            obtain ⟨⟨⟨⟨g1, g2⟩, g3⟩, g4⟩, _⟩ := hh
            obtain ⟨y, m, p3, p4, p5, p6, p7, j, j2, rfl, y1, y2, y3⟩ := chkHd_rai g4
            obtain ⟨ad, a1, a2, _⟩ := ok.exc c x g1
            obtain ⟨bd, b1, b2, b3, b4, b5, b6⟩ := ok.exc c2 y y1
            have hK : X.K = G.K := cx.K
            have hnm : Names X x (Y.cls c) := ⟨gl_of cx g2, g3, .inl (by rw [cx.mg, a1]; exact a2)⟩
            refine of_ps (L2H.ps_try_onlyX (ts := fun _ _ _ _ σ H => Wout (.ref bd) none σ H) (tb := fun W D σ H => ∀ pn xe, L2N.Takes (X.tr pn xe) W → PassesOwn (model X.prog X.w) X.A X.env xe → wSs (X.tr pn xe) ba D σ H) sx.stk sx.frame hnm (cx.pa hx) tko (fun W pn xe tk _ pa => ⟨fun pins s σ H D I z => z pn xe tk pa pins s I⟩) (fun a oe cls d pn _ _ tkS hot => ?_)) ?_
            · exact pss_one (L2H.ps_raiseHN hot tkS (pmk5_own (by show PySem.W.excIn X.K _ _ _ = true; rw [hK]; exact b3) (by show X.mg y = _; rw [cx.mg]; exact b2) (by show PySem.W.keepIn X.K _ = true; rw [hK]; exact b4) (raises_own (by show PySem.W.subIn X.K _ _ = _; rw [hK]; exact b5) (by show PySem.W.typeIn X.K _ = _; rw [hK]; exact b6)) (show Gl X y from gl_of cx y2) y3))
            · intro pn xe tk pa
              refine body pn xe pa ⟨wOnly X.K (Y.cls c) (fun _ _ _ _ σ H => Wout (.ref bd) none σ H) Wout D, ?_, fun ρ' H' σ' dd ex g f => ⟨true, ?_, fun _ ad _ => ?_, fun q => by cases q⟩⟩
              · unfold TkC
                rw [if_pos hc.1]
                exact tk
              · rw [← hs1]
                exact hexm e hlt (c, .rai c2) List.mem_cons_self
              · rw [← b1]
                exact h ρ' H' σ' none ex g f
        · exact False.elim h
      · -- on
        rename_i hd
        obtain ⟨Wout, tko, h⟩ := h
        have many : ∀ ρ' H' σ' dd, Ext ρ H ρ' H' → Gd (G.tm τ) ρ' H' mh1 → FrR (G.tm τ) cm ρ' H' σ' fr1 → wMany X.K Wout D l (Y.cls e) dd σ' H' := fun ρ' H' σ' dd ex g f => many_of hT (hexm e hlt) (by
          rw [hd]
          exact h ρ' H' σ' dd ex g f)
        unfold TkC at tko
        by_cases hc : Nat.blt e Y.g.hot = true
        · rw [if_pos hc] at tko
          refine goN Wout tko fun pn xe tk pa => body pn xe pa ⟨_, ?_, many⟩
          unfold TkC
          rw [if_pos hc]
          exact tk
        · rw [if_neg hc] at tko
          exact go Wout tko fun pn xe tk pa => body pn xe pa ⟨_, TkC.of tk, many⟩
    · exact False.elim h
  | nx fr1 mh1 => exact fun h body => go _ t0 fun pn xe tk pa => body pn xe pa h
  | ret d mh1 => exact fun h body => go _ t0 fun pn xe tk pa => body pn xe pa h
  | brk fr1 mh1 => exact fun h body => go _ t0 fun pn xe tk pa => body pn xe pa h
  | cnt fr1 mh1 => exact fun h body => go _ t0 fun pn xe tk pa => body pn xe pa h
  | stk => exact fun h => False.elim h
end
end FS

-- text FsO
set_option Elab.async false
set_option linter.all false
set_option maxHeartbeats 1000000
/-! FsO: the calls' contracts, by the depth. -/
namespace FS
open PySem PySem.Spec PyProof.Rows L2 LamX

section
variable {G : GD} {Y : GX} {k : Nat}
/-- what must be known of the i-th def -/
def FnG (G : GD) (Y : GX) (i : Nat) (F : Fn) : Prop :=
  ∃ (x qual : Str) (params : Arguments) (body : List Stmt) (scope : Scope) (dvs : List V) (kws : List (Str × V)) (fd : FuncData) (C : SC) (ps : List Str),
    FunD G.K x qual params body scope dvs kws (Y.fad i) fd ∧ FnScope C.N ps scope ∧ C.sc = scope ∧ F.ar = ps.length ∧ F.nl = C.N.length ∧ C.hasL = F.lamf ∧ C.gn = 3 ∧ ps.length ≤ C.N.length ∧
    (C.hasT = true → ∃ c P, fd.code = .ref c ∧ TabB Y.base G.mg c P ∧ G.TQ P = some (qual ++ ".<locals>." ++ "<lambda>", posB C.L)) ∧
    (∀ cf k, CallF G Y cf k → CallL G Y cf k → SSs G Y cf k C F.body body) ∧
    ∀ n, n ≤ ps.length → ps.length ≤ n + F.dfl.length → ∃ ds dv, Vals dv ds ∧ (∀ τ cm ρ H, reps (G.tm τ) cm ρ H (F.dfl.drop (n + F.dfl.length - F.ar)) dv) ∧ ∀ (s : Shared) (us : List Value), G.K.In s.heap → us.length = n → BindsTo s fd ⟨us, []⟩ (ps.zip (us ++ ds))
theorem get_none {fr : Fr} {i : Nat} (h : fr.length ≤ i) : get fr i = none := by
  unfold get
  rw [List.getElem?_eq_none h]
theorem start_fr {cm : List (Option CI)} {ρ : List Addr} {H : Hp} {N : List Str} {xs : List D} {vs : List V} {m : Nat} (r : reps G cm ρ H xs vs) (hm : xs.length + m = N.length) : FrR G cm ρ H (L2.start N vs) (xs.map some ++ List.replicate m none) := by
  have hl := r.length
  refine ⟨?_, fun i d h => ?_⟩
  · unfold L2.start
    rw [List.length_append, List.length_append, List.length_map, List.length_map, List.length_replicate, List.length_replicate]
    omega
  · unfold get at h
    by_cases hi : i < xs.length
    · rw [List.getElem?_append_left (by rw [List.length_map]; exact hi), List.getElem?_map] at h
      have hx : xs[i]? = some xs[i] := List.getElem?_eq_getElem hi
      rw [hx] at h
      have e : xs[i] = d := by simpa using h
      obtain ⟨v, h1, h2⟩ := r.get hx
      refine ⟨v, ?_, by rw [← e]; exact h2⟩
      unfold L2.start
      rw [List.getElem?_append_left (by rw [List.length_map]; omega), List.getElem?_map, h1]
      rfl
    · rw [List.getElem?_append_right (by rw [List.length_map]; omega)] at h
      cases hq : (List.replicate m (none : Option D))[i - (xs.map some).length]? with
      | none =>
        rw [hq] at h
        cases h
      | some z =>
        have e := List.eq_of_mem_replicate (List.mem_of_getElem? hq)
        subst e
        rw [hq] at h
        cases h
/-- what is raised -/
def exE (G : GD) (Y : GX) (τ ρ : List Addr) (H : Hp) (r : R D) : XK := fun cls _ H' => ∃ c mh', r = .exc c mh' ∧ cls = Y.cls c ∧ ∃ ρ', Ext ρ H ρ' H' ∧ Gd (G.tm τ) ρ' H' mh'
/-- an exception of a call is taken -/
theorem take_call {α : Type} {X : Cx} {pins : List (Addr × Obj)} {σ : L2.St} {H : Hp} {s s' : Shared} {r : R α} {c : Nat} {mh1 : MH} {W : WX} {E : XK} {er : Value} (hr : r = .exc c mh1) (tk : TkC Y X c W) (I : Inv X pins σ H s) (hW : ∀ cls d H', E cls d H' → W cls d σ H') (hq : cxC Y r X.prog X.w X.stack H s E er s') : X.xe er s' := by
  subst hr
  unfold TkC at tk
  unfold cxC at hq
  dsimp only at hq
  split at tk
  · rename_i hc
    rw [if_pos hc] at hq
    exact tk er s' (L2N.XE.of_call I hW hq)
  · rename_i hc
    rw [if_neg hc] at hq
    exact tk er s' (L2.XE.of_call I hW hq)
theorem call_wish {α : Type} {P : Program} {w : World} {outer : List Env} {H : Hp} {s s' : Shared} {r : R α} {E : XK} {er : Value} (hq : cxC Y r P w outer H s E er s') : ∃ cls d H', E cls d H' := by
  unfold cxC at hq
  split at hq
  · split at hq
    · obtain ⟨_, _, H', cls, d, _, _, _, _, _, _, _, hE⟩ := hq
      exact ⟨_, _, _, hE⟩
    · obtain ⟨_, _, H', cls, d, _, _, _, _, _, _, _, hE⟩ := hq
      exact ⟨_, _, _, hE⟩
  · obtain ⟨_, _, H', cls, d, _, _, _, _, _, _, _, hE⟩ := hq
    exact ⟨_, _, _, hE⟩
/-- what a def's code does, wherever it is called from -/
theorem fn_code (hg : ∀ i F, Y.g.fns[i]? = some F → FnG G Y i F) (hF : CallF G Y (callK Y.g k) k) (hL : CallL G Y (callK Y.g k) k) {τ : List Addr} {cm : List (Option CI)} {o1 : List Fr} {ρ : List Addr} {H : Hp} {mh : MH} {i : Nat} {xs : List D} {vs : List V} {us : List Value} {A : Around} {outer : List Env} {s : Shared} {B : Heap}
    (hr : Room (5 * k + 4) A) (e0 : Env0 G.P G.w G.K G.mg B A outer s H) (up : ∀ b o, Y.base.get? b = some o → B.get? b = some o) (hl : cm.length = o1.length) (ob : ∀ e, OutB (G.tm τ) (cm ++ [e]) B ρ H o1) (gd : Gd (G.tm τ) ρ H mh) (kin : G.K.In s.heap)
    (rx : reps (G.tm τ) cm ρ H xs vs) (rv : Vals vs us) {Q : VK} (hns : callK Y.g (k + 1) (.fn i) o1 xs mh ≠ .stk)
    (hq : ∀ d mh', callK Y.g (k + 1) (.fn i) o1 xs mh = .ok d mh' → ∀ ρ' H' v, Ext ρ H ρ' H' → Gd (G.tm τ) ρ' H' mh' → rep (G.tm τ) cm ρ' H' d v → Q v H') :
    codeAny (model G.P G.w) A (.call (.ref (Y.fad i)) ⟨us, []⟩) (CR (cxC Y (callK Y.g (k + 1) (.fn i) o1 xs mh) G.P G.w) outer G.P G.w H s Q (exE G Y τ ρ H (callK Y.g (k + 1) (.fn i) o1 xs mh))) s := by
  cases hFi : Y.g.fns[i]? with
  | none =>
    exfalso
    apply hns
    unfold callK
    rw [hFi]
  | some F =>
    have ecall : callK Y.g (k + 1) (.fn i) o1 xs mh = (if xs.length ≤ F.ar ∧ F.ar ≤ xs.length + F.dfl.length then (match evSs Y.g (callK Y.g k) o1 F.body ((xs ++ F.dfl.drop (xs.length + F.dfl.length - F.ar)).map some ++ List.replicate (F.nl - F.ar) none) mh with
      | .ret d h1 => if F.lamf && !noClo d then .stk else .ok d h1
      | .nx _ h1 => .ok .non h1
      | .exc c _ h1 => .exc c h1
      | _ => .stk) else .stk) := by
      conv =>
        lhs
        unfold callK
      (rw [hFi]) <;> rfl
    by_cases hlen : xs.length ≤ F.ar ∧ F.ar ≤ xs.length + F.dfl.length
    rotate_left
    · exfalso
      apply hns
      rw [ecall, if_neg hlen]
    rw [if_pos hlen] at ecall
    obtain ⟨x, qual, params, body, scope, dvs, kws, fd, C', ps, FD, S, hsc, har, hnl, hlm, hgn, hpl, htab, hsound, hbind⟩ := hg i F hFi
    have hxv : xs.length = vs.length := rx.length
    have hvu : vs.length = us.length := rv.length
    obtain ⟨ds, dv, rd, rdd, hb⟩ := hbind xs.length (by omega) (by omega)
    -- the arguments, filled up
    have rall : reps (G.tm τ) cm ρ H (xs ++ F.dfl.drop (xs.length + F.dfl.length - F.ar)) (vs ++ dv) := rx.app (rdd τ cm ρ H)
    have rvall : Vals (vs ++ dv) (us ++ ds) := Vals.append rv rd
    have lall : (vs ++ dv).length = ps.length := by
      have h1 := (rdd τ cm ρ H).length
      rw [List.length_drop] at h1
      rw [List.length_append, ← h1]
      omega
    obtain ⟨oc, od, dV, kV, doc, pm, an, cdv, ct, osl, hfd, lk, hcd, _, _⟩ := FD.ex
    subst hfd
    -- the callee's level
    generalize hci : (if F.lamf = true then some (CI.mk (cellsFrom (s.heap.objs.size + 1) scope.names []) C'.N scope (qual ++ ".<locals>.")) else none : Option CI) = e
    generalize hfr : (xs ++ F.dfl.drop (xs.length + F.dfl.length - F.ar)).map some ++ List.replicate (F.nl - F.ar) none = fr0 at ecall
    generalize hE : exE G Y τ ρ H (callK Y.g (k + 1) (.fn i) o1 xs mh) = E
    generalize hCX : cxC Y (callK Y.g (k + 1) (.fn i) o1 xs mh) G.P G.w = CXr
    generalize hres : evSs Y.g (callK Y.g k) o1 F.body fr0 mh = res at ecall
    refine run_ofS (N := C'.N) (ps := ps) (us := us ++ ds) (vs := vs ++ dv) lk hcd S (hr.mono (j := 5 * k + 3 + 1) (by omega)) e0 (hb s us kin (by omega)) rvall lall fun hr => ?_
    refine ⟨_, pss_w, ?_⟩
    have cx' : CtxOk (G.tm τ) Y C' k (cm ++ [e]) o1 (cxOf CXr G.P G.w G.K G.mg B C'.N qual scope (Y.fad i) cdv A outer s H E) := by
      have etop : (cm ++ [e])[o1.length]? = some e := by
        rw [← hl, List.getElem?_append_right (Nat.le_refl _), Nat.sub_self]
        rfl
      refine ⟨rfl, rfl, rfl, rfl, rfl, S.nd, hsc.symm, by rw [hsc]; exact S.kind, rfl, fun _ _ => rfl, (by rw [hgn]; exact hr), fun b oo q => up _ _ q, fun ht => ?_, fun _ _ => rfl, fun hn => ?_, fun hy => ?_, fun ci hc => ?_, by rw [List.length_append, hl]; rfl, fun _ hd => L2H.passesAt_of rfl hd⟩
      · obtain ⟨c, P, q1, q2, q3⟩ := htab ht
        exact ⟨c, P, q1, q2, q3⟩
      · rw [etop, ← hci, ← hlm, hn]
        rfl
      · refine ⟨CI.mk (cellsFrom (s.heap.objs.size + 1) scope.names []) C'.N scope (qual ++ ".<locals>."), ?_⟩
        rw [etop, ← hci, ← hlm, hy]
        rfl
      · rw [etop, ← hci] at hc
        cases hl2 : F.lamf with
        | false =>
          rw [hl2] at hc
          cases hc
        | true =>
          rw [hl2] at hc
          have hc := Option.some.inj (Option.some.inj hc)
          rw [← hc]
          exact ⟨rfl, rfl, hsc.symm, rfl⟩
    have sx' : StX (cxOf CXr G.P G.w G.K G.mg B C'.N qual scope (Y.fad i) cdv A outer s H E) := ⟨rfl, rfl, passes_of rfl⟩
    have st' : StR (G.tm τ) (cm ++ [e]) (cxOf CXr G.P G.w G.K G.mg B C'.N qual scope (Y.fad i) cdv A outer s H E) o1 ρ H mh (L2.start C'.N (vs ++ dv)) fr0 := by
      refine ⟨gd, ?_, ob e⟩
      rw [← hfr]
      refine start_fr (rall.mono (Deeper.app _ _) (Ext.refl _ _) _ _) ?_
      rw [rall.length, lall, hnl, har]
      omega
    refine hsound _ k hF hL τ _ _ _ cx' sx' ρ H mh _ fr0 st' _ ?_
    rw [hres]
    -- a value goes back
    have back : ∀ {d : D} {ρ' : List Addr} {H' : Hp} {v : V}, (F.lamf && !noClo d) = false → rep (G.tm τ) (cm ++ [e]) ρ' H' d v → rep (G.tm τ) cm ρ' H' d v := fun {d ρ' H' v} hc r => by
      cases hl2 : F.lamf with
      | false =>
        rw [← hci, hl2] at r
        exact r.top
      | true =>
        rw [hl2, Bool.true_and] at hc
        have : noClo d = true := by
          cases q : noClo d with
          | true => rfl
          | false =>
            rw [q] at hc
            cases hc
        exact r.bare _ _ this
    cases res with
    | nx fr1 mh1 => exact fun ρ' H' σ' ex g f => hq .non mh1 ecall ρ' H' _ ex g (by unfold rep; rfl)
    | ret d mh1 =>
      have ecall : callK Y.g (k + 1) (.fn i) o1 xs mh = (if (F.lamf && !noClo d) = true then R.stk else R.ok d mh1) := ecall
      cases hc : (F.lamf && !noClo d) with
      | true =>
        rw [hc] at ecall
        exact absurd ecall hns
      | false =>
        rw [hc] at ecall
        exact fun ρ' H' v ex g r => hq d mh1 ecall ρ' H' v ex g (back hc r)
    | brk fr1 mh1 => exact absurd ecall hns
    | cnt fr1 mh1 => exact absurd ecall hns
    | exc c fr1 mh1 =>
      refine ⟨fun cls d _ H' => E cls d H', ?_, fun ρ' H' σ' dd ex g f => by
        rw [← hE]
        exact ⟨c, mh1, ecall, rfl, ρ', ex, g⟩⟩
      rw [ecall] at hCX
      unfold TkC
      by_cases hc : Nat.blt c Y.g.hot = true
      · rw [if_pos hc]
        have hCX : (if Nat.blt c Y.g.hot = true then L2N.CX G.P G.w else L2.CX G.P G.w) = CXr := hCX
        rw [if_pos hc] at hCX
        subst hCX
        exact L2N.takes_of (X := cxOf (L2N.CX G.P G.w) G.P G.w G.K G.mg B C'.N qual scope (Y.fad i) cdv A outer s H E) (E := E) rfl rfl rfl rfl
      · rw [if_neg hc]
        have hCX : (if Nat.blt c Y.g.hot = true then L2N.CX G.P G.w else L2.CX G.P G.w) = CXr := hCX
        rw [if_neg hc] at hCX
        subst hCX
        exact L2.takes_of (X := cxOf (L2.CX G.P G.w) G.P G.w G.K G.mg B C'.N qual scope (Y.fad i) cdv A outer s H E) (E := E) rfl rfl rfl rfl
    | stk => exact absurd ecall hns
theorem callF_succ (hg : ∀ i F, Y.g.fns[i]? = some F → FnG G Y i F) (hF : CallF G Y (callK Y.g k) k) (hL : CallL G Y (callK Y.g k) k) : CallFn G Y (callK Y.g (k + 1)) (k + 1) := by
  intro τ C X cm o cx ρ H mh σ fr st i xs vs us pins s Q I rx rv h
  obtain ⟨B, up, e0, ob⟩ := callee_out cx st I
  have eP : X.prog = G.P := cx.prog
  have ew : X.w = G.w := cx.w
  have eK : X.K = G.K := cx.K
  have em : X.mg = G.mg := cx.mg
  have hl := cx.len
  have kin : G.K.In s.heap := by
    rw [← eK]
    exact I.kIn
  rw [eP, ew, eK, em] at e0
  have rc := fn_code (Q := Q) hg hF hL (cm := cm) (o1 := fr :: o) (cx.room.mono (j := 5 * k + 4) (by omega)) e0 (fun b oo q => up _ _ (cx.base b oo q)) (by rw [hl]; rfl) ob st.gd kin rx rv (i := i) (fun z => by rw [z] at h; exact h) (fun d mh' e ρ' H' v ex g r => by
    rw [e] at h
    exact h ρ' H' v ex g r)
  rw [eP, ew]
  refine wpAny_call (codeAny_mono rc fun r s' hq => ?_)
  have I' := I
  cases r with
  | ok fl =>
    cases fl with
    | ret u =>
      rw [← eP, ← ew] at hq
      exact I.after hq
    | next => exact False.elim hq
    | brk => exact False.elim hq
    | cont => exact False.elim hq
  | error er =>
    rw [← eP, ← ew] at hq
    have hq : cxC Y (callK Y.g (k + 1) (.fn i) (fr :: o) xs mh) X.prog X.w X.stack H s (exE G Y τ ρ H (callK Y.g (k + 1) (.fn i) (fr :: o) xs mh)) er s' := hq
    cases hres : callK Y.g (k + 1) (.fn i) (fr :: o) xs mh with
    | exc c mh1 =>
      rw [hres] at h
      obtain ⟨W, tk, hW⟩ := h
      refine take_call hres tk I (fun cls d H' hE2 => ?_) hq
      obtain ⟨c2, mh2, e1, e2, ρ', ex, g⟩ := hE2
      rw [hres] at e1
      cases e1
      rw [e2]
      exact hW ρ' H' d ex g
    | _ =>
      exfalso
      obtain ⟨cls, d, H', hE2⟩ := call_wish hq
      obtain ⟨c2, mh2, e1, _⟩ := hE2
      rw [hres] at e1
      cases e1
/-- an object of an own class is made -/
theorem callN_succ (hg : ∀ i F, Y.g.fns[i]? = some F → FnG G Y i F) (hm : ∀ c i : Nat, lookN c Y.g.ini = some i → Mk G.K (G.cad c) (Y.fad i)) (hF : CallF G Y (callK Y.g k) k) (hL : CallL G Y (callK Y.g k) k) : CallN G Y (callK Y.g (k + 1)) (k + 1) := by
  intro τ C X cm o cx ρ H mh σ fr st c i xs vs us pins s Q I rx rv hi h
  have M := hm c i hi
  have eP : X.prog = G.P := cx.prog
  have ew : X.w = G.w := cx.w
  have eK : X.K = G.K := cx.K
  have em : X.mg = G.mg := cx.mg
  have hl := cx.len
  have I2 := Inv.made (C := G.cad c) I
  -- the object
  have n1 : H s.heap.objs.size = none := I.hok.fresh (Nat.le_refl _)
  have n2 : H (s.heap.objs.size + 1) = none := I.hok.fresh (Nat.le_succ _)
  have n3 : upd H s.heap.objs.size (.own (s.heap.objs.size + 1)) (s.heap.objs.size + 1) = none := by
    rw [upd_ne (Nat.ne_of_gt (Nat.lt_succ_self _))]
    exact n2
  have ex1 : Ext ρ H ρ (upd H s.heap.objs.size (.own (s.heap.objs.size + 1))) := Ext.upd n1
  have g1 : Gd (G.tm τ) ρ (upd H s.heap.objs.size (.own (s.heap.objs.size + 1))) mh := st.gd.new n1
  have ex2 : Ext ρ (upd H s.heap.objs.size (.own (s.heap.objs.size + 1))) (ρ ++ [s.heap.objs.size + 1]) (upd (upd H s.heap.objs.size (.own (s.heap.objs.size + 1))) (s.heap.objs.size + 1) (.ins (G.cad c) s.heap.objs.size [])) := Ext.mutNew n3
  have g2 : Gd (G.tm τ) (ρ ++ [s.heap.objs.size + 1]) (upd (upd H s.heap.objs.size (.own (s.heap.objs.size + 1))) (s.heap.objs.size + 1) (.ins (G.cad c) s.heap.objs.size [])) (mh ++ [.ins c []]) := g1.mutNewG n3 ⟨_, [], upd_same, rfl⟩
  have ex := ex1.trans ex2
  generalize hH2 : upd (upd H s.heap.objs.size (.own (s.heap.objs.size + 1))) (s.heap.objs.size + 1) (.ins (G.cad c) s.heap.objs.size []) = H2 at I2 ex2 g2 ex
  have at_ : (ρ ++ [s.heap.objs.size + 1])[mh.length]? = some (s.heap.objs.size + 1) := by
    rw [← st.gd.len, List.getElem?_append_right (Nat.le_refl _), Nat.sub_self]
    rfl
  generalize hρ2 : ρ ++ [s.heap.objs.size + 1] = ρ2 at ex2 g2 ex at_
  generalize hs2 : ({ s with heap := (s.heap.push PySem.W.emptyDict).push (PySem.W.instObj (G.cad c) s.heap.objs.size) } : Shared) = s2 at I2
  have st2 : StR (G.tm τ) cm X o ρ2 H2 (mh ++ [.ins c []]) σ fr := st.step ex g2
  obtain ⟨B, up, e0, ob⟩ := callee_out cx st2 I2
  have kin : G.K.In s2.heap := by
    rw [← eK]
    exact I2.kIn
  have e1 := e0.make (G.cad c) us []
  rw [eP, ew, eK, em] at e1
  have rself : rep (G.tm τ) cm ρ2 H2 (.ref mh.length) (.ref (s.heap.objs.size + 1)) := by
    unfold rep
    exact ⟨_, rfl, at_⟩
  have rx2 : reps (G.tm τ) cm ρ2 H2 (.ref mh.length :: xs) (.ref (s.heap.objs.size + 1) :: vs) := reps.cons rself (rx.mono (Deeper.refl _) ex _ _)
  have rv2 : Vals (V.ref (s.heap.objs.size + 1) :: vs) (Value.ref (s.heap.objs.size + 1) :: us) := .cons rfl rv
  have hroom : Room (5 * k + 5) X.A := cx.room.mono (j := 5 * k + 5) (by omega)
  have rc := fn_code (Q := fun v H' => v = .non ∧ Q (.ref (s.heap.objs.size + 1)) H') hg hF hL (cm := cm) (o1 := fr :: o) (hroom.make (G.cad c) us []) e1 (fun b oo q => up _ _ (cx.base b oo q)) (by rw [hl]; rfl) ob g2 kin rx2 rv2 (i := i) (fun z => by rw [z] at h; exact h) (fun d mh' e ρ' H' v ex' g r => by
    rw [e] at h
    cases d with
    | non =>
      unfold rep at r
      refine ⟨r, h ρ' H' _ (ex.trans ex') g ?_⟩
      unfold rep
      exact ⟨_, rfl, ex'.ix at_⟩
    | _ => exact False.elim h)
  rw [eP, ew]
  have kin0 : G.K.In s.heap := by
    rw [← eK]
    exact I.kIn
  refine wpAny_call (make_map (f := Y.fad i) kin0 M.makes M.init (beq_iff_eq.mp M.fn) ?_)
  rw [hs2]
  refine codeAny_mono rc fun r s' hq' => ?_
  cases r with
  | ok fl =>
    cases fl with
    | ret u =>
      rw [← eP, ← ew] at hq'
      obtain ⟨v, H', I3, rv, ev, q3⟩ := I2.after hq'
      subst ev
      exact ⟨rv, ⟨V.ref (s.heap.objs.size + 1), H', I3, rfl, q3⟩⟩
    | next => exact False.elim hq'
    | brk => exact False.elim hq'
    | cont => exact False.elim hq'
  | error er =>
    rw [← eP, ← ew] at hq'
    have hq' : cxC Y (callK Y.g (k + 1) (.fn i) (fr :: o) (.ref mh.length :: xs) (mh ++ [.ins c []])) X.prog X.w X.stack H2 s2 (exE G Y τ ρ2 H2 (callK Y.g (k + 1) (.fn i) (fr :: o) (.ref mh.length :: xs) (mh ++ [.ins c []]))) er s' := hq'
    cases hres : callK Y.g (k + 1) (.fn i) (fr :: o) (.ref mh.length :: xs) (mh ++ [.ins c []]) with
    | exc c' mh1 =>
      rw [hres] at h
      obtain ⟨W, tk, hW⟩ := h
      refine take_call hres tk I2 (fun cls d H' hE2 => ?_) hq'
      obtain ⟨c2, mh2, q1, q2, ρ', ex', g⟩ := hE2
      rw [hres] at q1
      cases q1
      rw [q2]
      exact hW ρ' H' d (ex.trans ex') g
    | _ =>
      exfalso
      obtain ⟨cls, d, H', hE2⟩ := call_wish hq'
      obtain ⟨c2, mh2, q1, _⟩ := hE2
      rw [hres] at q1
      cases q1

/-! ### lambdas -/
/-- what must be known of the l-th lambda -/
def LmG (G : GD) (Y : GX) (l : Nat) (L : Lam) : Prop :=
  ∀ (ci : CI) (params : Arguments) (body : Expr) (scope : Scope), G.lamC l ci params body scope → ∃ C : SC, noPar params = true ∧ lamSB ci.sc scope = true ∧ C.sc = scope ∧ C.hasT = false ∧ C.hasL = false ∧ C.gn = 0 ∧ C.hx = false ∧ (∀ x, C.fnc x = false) ∧ C.N.Nodup ∧ C.N.length = L.cap.length ∧
    (∀ (j : Nat) (x : Str), C.N[j]? = some x → ∃ i : Nat, L.cap[j]? = some i ∧ ci.N[i]? = some x) ∧ (∀ y ∈ scope.names, y.2 = .free → y.1 ∈ C.N) ∧ (∀ x ∈ C.N, ci.sc.names.lookup x = some .cell) ∧
    ∀ cf k, CallF G Y cf k → CallL G Y cf k → SE G Y cf k C L.body body
theorem cap_fr {cm : List (Option CI)} {ρ : List Addr} {H : Hp} {f : Fr} {P : Nat → D → V → Prop} (hP : ∀ i d v, P i d v → rep G cm ρ H d v) : ∀ (cap : List Nat), (∀ i ∈ cap, ∀ dd, get f i = some dd → ∃ v, P i dd v) → ∃ σ : L2.St, FrR G cm ρ H σ (cap.map (get f)) ∧ ∀ (j : Nat) (v : V), σ[j]? = some (some v) → ∃ i dd, cap[j]? = some i ∧ get f i = some dd ∧ P i dd v
  | [], _ => ⟨[], ⟨rfl, fun i d h => by unfold get at h; simp at h⟩, fun j v h => by simp at h⟩
  | c :: cap, h => by
    obtain ⟨σ, f1, f2⟩ := cap_fr hP cap fun i hi => h i (List.mem_cons_of_mem _ hi)
    have key : ∃ ov : Option V, (∀ dd, get f c = some dd → ∃ v, ov = some v ∧ P c dd v) ∧ ∀ v, ov = some v → ∃ dd, get f c = some dd ∧ P c dd v := by
      cases hq : get f c with
      | none => exact ⟨none, ⟨fun dd h => (by cases h), fun v h => (by cases h)⟩⟩
      | some dd =>
        obtain ⟨v, hv⟩ := h c List.mem_cons_self dd hq
        exact ⟨some v, ⟨fun dd' h => (by cases h; exact ⟨v, rfl, hv⟩), fun v' h => (by cases h; exact ⟨dd, rfl, hv⟩)⟩⟩
    obtain ⟨ov, k1, k2⟩ := key
    refine ⟨ov :: σ, ⟨by rw [List.map_cons, List.length_cons, List.length_cons, f1.len], fun i d hi => ?_⟩, fun j v hj => ?_⟩
    · cases i with
      | zero =>
        have hi : (match (some (get f c) : Option (Option D)) with | some (some d) => some d | _ => none) = some d := hi
        cases hq : get f c with
        | none =>
          rw [hq] at hi
          cases hi
        | some dd =>
          rw [hq] at hi
          have hi : dd = d := Option.some.inj hi
          subst hi
          obtain ⟨v, e1, e2⟩ := k1 dd hq
          exact ⟨v, by rw [e1]; rfl, hP _ _ _ e2⟩
      | succ i => exact f1.at_ i d hi
    · cases j with
      | zero =>
        have e : ov = some v := Option.some.inj hj
        obtain ⟨dd, q1, q2⟩ := k2 v e
        exact ⟨c, dd, rfl, q1, q2⟩
      | succ j => exact f2 j v hj
/-- the context of a lambda's body -/
def cxLam (X : Cx) (B : Heap) (N : List Str) (ci : CI) (s : Shared) (H : Hp) (E : XK) (scope : Scope) (f c' : Addr) : Cx :=
  lamCx { X with base := B, N := N, env := { X.env with cells := ci.cells, qual := ci.qual } } X.A X.stack s H E scope f c'
theorem cxLam_start {cm : List (Option CI)} {o : List Fr} {X : Cx} {ρ : List Addr} {H : Hp} {s : Shared} {B : Heap} {N : List Str} {ci : CI} {E : XK} {scope : Scope} {f c' : Addr} {h₁ : Heap} {tk : Nat} {σ : L2.St} {fr : Fr} (L : LamS ci.sc scope) (e0 : Env0 X.prog X.w X.K X.mg B X.A X.stack s H) (hd : X.A.handled = none)
    (hin : ∀ x y c, (x, NameKind.free) ∈ scope.names → ci.cells.lookup x = some c → ci.cells.lookup y = some c → x = y) (hfree : ∀ y ∈ scope.names, y.2 = .free → ∃ c ob w, ci.cells.lookup y.1 = some c ∧ B.get? c = some ob ∧ ob.data = .cell w)
    (hσ : ∀ (j : Nat) (x : Str) (v : V), N[j]? = some x → σ[j]? = some (some v) → ∃ c ob u, ci.cells.lookup x = some c ∧ B.get? c = some ob ∧ ob.data = .cell (some u) ∧ RelV v u) (hl : σ.length = N.length)
    (hns : h₁.Ns s.heap.objs.size fun y => ([] : List (Str × Value)).reverse.lookup y) (kp : ∀ b o, s.heap.get? b = some o → h₁.get? b = some o) :
    Inv (cxLam X B N ci s H E scope f c') [] σ H { s with heap := h₁, toks := tk } := by
  have cl : ∀ {y c}, (cloFrom ci.cells scope.names []).lookup y = some c → (y, NameKind.free) ∈ scope.names ∧ ci.cells.lookup y = some c := fun {y c} e => by
    rcases cloFrom_mem (PySem.mem_of_lookup e) with hm | ⟨h1, h2⟩
    · cases hm
    · obtain ⟨c1, _, _, hc, _⟩ := hfree _ h1 rfl
      have hc : ci.cells.lookup y = some c1 := hc
      refine ⟨h1, ?_⟩
      rw [h2, hc]
      rfl
  have look : ∀ {y}, scope.names.lookup y = some .free → ∃ c, (cloFrom ci.cells scope.names []).lookup y = some c := fun {y} hl => by
    have hy : (y, NameKind.free) ∈ scope.names := PySem.mem_of_lookup hl
    exact mem_lookup (cloFrom_has (cells := ci.cells) (acc := []) hy)
  have noA : ∀ b : Addr, b ∉ (cxLam X B N ci s H E scope f c').ex := fun b z => absurd (show b ∈ ([] : List Addr) from z) (by simp)
  have inB : ∀ {c ob}, B.get? c = some ob → h₁.get? c = some ob ∧ H c = none := fun {c ob} e => ⟨kp _ _ (e0.bs c ob e).1, (e0.bs c ob e).2⟩
  refine ⟨⟨e0.mod, L.kind, rfl, rfl, Nat.le_refl _, fun y z c e1 e2 => hin y z c (cl e1).1 (cl e1).2 (cl e2).2, fun y hy => ?_, fun y c z _ => ?_, fun _ => hd, Around.frames_deeper e0.frames, .inr ⟨rfl, rfl⟩, fun b z => absurd z (noA b), e0.bs, e0.bsz, fun b _ _ => noA b,
      fun b z => absurd z (noA b), e0.funs, e0.frf⟩,
    rfl, e0.bare, Un.kept kp, ⟨_, hns, fun i y v e1 e2 e3 => ?_⟩, fun y c e => ?_, e0.hok.fresh (Nat.le_refl _), fun y c e => ?_, fun q hq => absurd (show q ∈ ([] : List (Addr × Obj)) ++ [] from hq) (by simp), e0.hok.kept kp, hl⟩
  · have hy : scope.names.lookup y = some .cell ∨ scope.names.lookup y = some .free := hy
    rcases hy with hy | hy
    · exact absurd rfl (L.own _ (PySem.mem_of_lookup hy)).2
    · exact look hy
  · have z : false = true := z
    cases z
  · have e3 : Vis scope y := e3
    rcases e3 with k | k | k
    · exact absurd rfl (L.own _ (PySem.mem_of_lookup k)).1
    · exact absurd rfl (L.own _ (PySem.mem_of_lookup k)).2
    · obtain ⟨c, ob, u, q1, q2, q3, q4⟩ := hσ i y v e1 e2
      obtain ⟨c2, h2⟩ := look k
      have q5 := (cl h2).2
      rw [q1] at q5
      cases q5
      exact ⟨u, q4, .inr ⟨.inr k, c, h2, ob, (inB q2).1, q3⟩⟩
  · obtain ⟨h1, h2⟩ := cl e
    obtain ⟨c2, ob, w, q1, q2, q3⟩ := hfree _ h1 rfl
    have q1 : ci.cells.lookup y = some c2 := q1
    rw [h2] at q1
    cases q1
    exact ⟨w, ob, (inB q2).1, q3⟩
  · obtain ⟨h1, h2⟩ := cl e
    obtain ⟨c2, ob, w, q1, q2, q3⟩ := hfree _ h1 rfl
    have q1 : ci.cells.lookup y = some c2 := q1
    rw [h2] at q1
    cases q1
    exact (inB q2).2
/-- the same, with another wish for what is raised -/
abbrev cxLamC (CXr : CXT) (X : Cx) (B : Heap) (N : List Str) (ci : CI) (s : Shared) (H : Hp) (E : XK) (scope : Scope) (f c' : Addr) : Cx :=
  (cxLam X B N ci s H E scope f c').wish fun e s' => wpAny (model X.prog X.w) (cxLam X B N ci s H E scope f c').A (leaving (cxLam X B N ci s H E scope f c').env e) (fun _ s'' => CXr X.stack H s E e s'') (fun e' s'' => CXr X.stack H s E e' s'') s'
theorem noPar_bind {q : Str} {params : Arguments} {body : Expr} {scope : Scope} {cl : List (Str × Addr)} {pm cv ctv : Value} (h : noPar params = true) : bindArgs (PySem.W.kla_fn "<lambda>" q params body scope cl pm cv ctv) ⟨[], []⟩ = pure [] := by
  unfold noPar at h
  split at h
  · rfl
  · cases h
theorem callL_succ (hg : ∀ l L, Y.g.lams[l]? = some L → LmG G Y l L) (hF : CallF G Y (callK Y.g k) k) (hL : CallL G Y (callK Y.g k) k) : CallL G Y (callK Y.g (k + 1)) (k + 1) := by
  intro τ C X cm o cx ρ H mh σ fr st l d v L f pins s Q I rv hLm hf hcap h a hva
  unfold callK at h
  rw [hLm] at h
  have h : RK (G.tm τ) Y X σ (rep (G.tm τ) cm) ρ H (evE Y.g (callK Y.g k) (fr :: o) L.body (L.cap.map (get f)) mh) Q := h
  subst hva
  unfold rep at rv
  obtain ⟨fa, c', ci, pm, ctv, params, body, scope, hfa, hcm, hlam, hf1, hc1⟩ := rv
  cases hfa
  obtain ⟨C', hnp, hls, hsc, hnT, hnL, hgn0, hnx, hnf, hnd, hlen, hcapN, hfrN, hcell, hsound⟩ := hg l L hLm ci params body scope hlam
  obtain ⟨B, up, e0, ob0⟩ := callee_out cx st I
  have ob := ob0 none
  have LS : LamS ci.sc scope := lamS_by hls
  have hd : d < o.length := by
    unfold frameAt at hf
    split at hf
    · assumption
    · cases hf
  have hl := cx.len
  have hfa2 : frameAt (fr :: o) d = some f := by
    unfold frameAt at hf ⊢
    rw [if_pos hd] at hf
    rw [List.length_cons, if_pos (by omega)]
    have e : o.length + 1 - 1 - d = (o.length - 1 - d) + 1 := by omega
    rw [e]
    exact hf
  have hOut : f ≠ [] → OutF (G.tm τ) (cm ++ [none]) B ρ H ci f := fun hne => ob d ci f (by rw [List.getElem?_append_left (by omega)]; exact hcm) hfa2 hne
  have hne : ∀ i ∈ L.cap, f ≠ [] := fun i hi e => by
    have := List.all_eq_true.mp hcap i hi
    rw [e] at this
    exact absurd (Nat.le_of_ble_eq_true this) (Nat.not_succ_le_zero _)
  have hN : ∀ x ∈ C'.N, f ≠ [] := fun x hx => by
    have : 0 < L.cap.length := by
      rw [← hlen]
      exact List.length_pos_of_mem hx
    exact hne _ (List.getElem_mem this)
  have capx : ∀ i ∈ L.cap, ∃ x, ci.N[i]? = some x ∧ x ∈ C'.N := fun i hi => by
    obtain ⟨j, hj, e⟩ := List.getElem_of_mem hi
    have hj2 : j < C'.N.length := by omega
    obtain ⟨i2, q1, q2⟩ := hcapN j _ (List.getElem?_eq_getElem hj2)
    rw [List.getElem?_eq_getElem hj, e] at q1
    cases q1
    exact ⟨_, q2, List.getElem_mem hj2⟩
  obtain ⟨σL, fL, hσL⟩ := cap_fr (G := G.tm τ) (cm := cm ++ [none]) (ρ := ρ) (H := H) (f := f) (P := fun i dd v => rep (G.tm τ) (cm ++ [none]) ρ H dd v ∧ ∀ x, ci.N[i]? = some x → ∃ c ob u, ci.cells.lookup x = some c ∧ B.get? c = some ob ∧ ob.data = .cell (some u) ∧ RelV v u) (fun _ _ _ z => z.1) L.cap fun i hi dd hdd => by
    obtain ⟨x, q1, q2⟩ := capx i hi
    obtain ⟨c, obj, w, p1, p2, p3, p4⟩ := (hOut (hne i hi)).at_ i x q1 (hcell x q2)
    obtain ⟨u, v, r1, r2, r3⟩ := p4 dd hdd
    refine ⟨v, r3, fun x' hx' => ?_⟩
    rw [q1] at hx'
    cases hx'
    exact ⟨c, obj, u, p1, p2, by rw [p3, r1], r2⟩
  have of1 : s.heap.get? a = some (PySem.W.kla_obj "<lambda>" (ci.qual ++ "<lambda>") params body scope (cloFrom ci.cells scope.names []) pm c' ctv) := (I.hok a _ hf1.2).1
  obtain ⟨⟨oc, vs, t, hoc, hdc, hvc⟩, _, _⟩ := I.hok c' _ hc1.2
  generalize hres : evE Y.g (callK Y.g k) (fr :: o) L.body (L.cap.map (get f)) mh = res at h
  let E : XK := fun cls dd H' => ∃ c mh', res = .exc c mh' ∧ cls = Y.cls c ∧ ∃ ρ', Ext ρ H ρ' H' ∧ Gd (G.tm τ) ρ' H' mh'
  have rc : codeAny (model X.prog X.w) X.A (.call (.ref a) ⟨[], []⟩) (CR (cxC Y res X.prog X.w) X.stack X.prog X.w H s Q E) s := by
    generalize hCX : cxC Y res X.prog X.w = CXr
    refine PySem.W.kla_callFunE cx.room.depth of1 rfl LS.co LS.gen rfl ⟨c', oc, vs, t, rfl, hoc, hdc, hvc⟩ ?_
    rw [noPar_bind hnp]
    refine wpAny_pure (wpAny_newFunctionEnv (fun y hy => (LS.own y hy).2) (fun y hy => absurd hy (by simp)) (fun h₁ hns hsb => ⟨I.nolimit.fresh _ hsb, ?_⟩) LS.kind)
    have kp : ∀ b o, s.heap.get? b = some o → h₁.get? b = some o := fun b o e => hsb.extBut b o (Nat.ne_of_lt (Heap.lt_size e)) (Heap.get?_push_of_some _ e)
    have J : Inv (cxLam X B C'.N ci s H E scope a c') [] σL H { s with heap := h₁, toks := s.toks + ([] : List (Str × Value)).length } := by
      refine cxLam_start (fr := fr) (cm := cm) (o := o) (ρ := ρ) LS e0 cx.room.hd (fun x y c hx q1 q2 => (hOut (hN x (hfrN _ hx rfl))).inj x y c q1 q2) (fun y hy hyf => ?_) (fun j x v hx hv => ?_) ?_ hns kp
      · have hm := hfrN y hy hyf
        obtain ⟨j, hj, e⟩ := List.getElem_of_mem hm
        obtain ⟨i2, q1, q2⟩ := hcapN j y.1 (by rw [List.getElem?_eq_getElem hj, e])
        obtain ⟨c, obj, w, p1, p2, p3, _⟩ := (hOut (hN _ hm)).at_ i2 y.1 q2 (hcell _ hm)
        exact ⟨c, obj, w, p1, p2, p3⟩
      · obtain ⟨i, dd, q1, q2, q3, q4⟩ := hσL j v hv
        obtain ⟨i2, q5, q6⟩ := hcapN j x hx
        rw [q1] at q5
        cases q5
        exact q4 x q6
      · rw [fL.len, List.length_map, hlen]
    replace J := J.wish fun e s' => wpAny (model X.prog X.w) (cxLam X B C'.N ci s H E scope a c').A (leaving (cxLam X B C'.N ci s H E scope a c').env e) (fun _ s'' => CXr X.stack H s E e s'') (fun e' s'' => CXr X.stack H s E e' s'') s'
    have cx' : CtxOk (G.tm τ) Y C' k (cm ++ [none]) (fr :: o) (cxLamC CXr X B C'.N ci s H E scope a c') := by
      have etop : (cm ++ [none])[(fr :: o).length]? = some none := by
        rw [List.length_cons, ← hl, List.getElem?_append_right (Nat.le_refl _), Nat.sub_self]
        rfl
      refine ⟨cx.prog, cx.w, cx.K, cx.mg, rfl, hnd, hsc.symm, by rw [hsc]; exact LS.kind, rfl, fun x hx => ?_, (by rw [hgn0]; exact (cx.room.mono (j := 5 * k + 1) (by omega)).deeper _), fun b oo q => up _ _ (cx.base b oo q), fun ht => ?_, fun ht => ?_, fun _ => etop, fun ht => ?_, fun ci' hc => ?_, by rw [List.length_append, hl]; rfl, fun hx hd => ?_⟩
      · rw [hnf x] at hx
        cases hx
      · rw [hnT] at ht
        cases ht
      · rw [hnL] at ht
        cases ht
      · rw [hnL] at ht
        cases ht
      · rw [etop] at hc
        cases hc
      · rw [hnx] at hx
        cases hx
    have st' : StR (G.tm τ) (cm ++ [none]) (cxLamC CXr X B C'.N ci s H E scope a c') (fr :: o) ρ H mh σL (L.cap.map (get f)) := ⟨st.gd, fL, ob⟩
    have hbody : wE (cxLamC CXr X B C'.N ci s H E scope a c') body σL H Q := by
      refine hsound _ k hF hL τ _ _ _ cx' ρ H mh σL _ st' Q ?_
      rw [hres]
      cases res with
      | ok d mh1 => exact fun ρ' H' v ex g r => h ρ' H' v ex g r.top
      | exc c mh1 =>
        refine ⟨fun cls d _ H' => E cls d H', ?_, fun ρ' H' dd ex g => ⟨c, mh1, rfl, rfl, ρ', ex, g⟩⟩
        unfold TkC
        have hCX : (if Nat.blt c Y.g.hot = true then L2N.CX X.prog X.w else L2.CX X.prog X.w) = CXr := hCX
        by_cases hc : Nat.blt c Y.g.hot = true
        · rw [if_pos hc] at hCX ⊢
          subst hCX
          exact L2N.takes_of (X := cxLamC (L2N.CX X.prog X.w) X B C'.N ci s H E scope a c') (E := E) rfl rfl rfl rfl
        · rw [if_neg hc] at hCX ⊢
          subst hCX
          exact L2.takes_of (X := cxLamC (L2.CX X.prog X.w) X B C'.N ci s H E scope a c') (E := E) rfl rfl rfl rfl
      | stk => exact h
    refine PySem.W.kla_codeExpr (wpAny_mono (hbody [] _ J) (fun v s' hq => ?_) fun e s' hq => hq)
    obtain ⟨w', H', J', rv, q⟩ := hq
    exact ⟨w', H', J'.os, J'.bare, J'.base, J'.hok, rv, q⟩
  refine wpAny_call (codeAny_mono rc fun r s' hq => ?_)
  cases r with
  | ok fl =>
    cases fl with
    | ret u => exact I.after hq
    | next => exact False.elim hq
    | brk => exact False.elim hq
    | cont => exact False.elim hq
  | error er =>
    have hq : cxC Y res X.prog X.w X.stack H s E er s' := hq
    cases hres2 : res with
    | exc c mh1 =>
      rw [hres2] at h
      obtain ⟨W, tk, hW⟩ := h
      refine take_call hres2 tk I (fun cls d H' hE => ?_) hq
      obtain ⟨c2, mh2, e1, e2, ρ', ex, g⟩ := hE
      rw [hres2] at e1
      cases e1
      rw [e2]
      exact hW ρ' H' d ex g
    | _ =>
      exfalso
      obtain ⟨cls, d, H', hE⟩ := call_wish hq
      obtain ⟨c2, mh2, e1, _⟩ := hE
      rw [hres2] at e1
      cases e1
/-- all calls, at any depth -/
theorem calls_ok (hf : ∀ i F, Y.g.fns[i]? = some F → FnG G Y i F) (hm : ∀ c i : Nat, lookN c Y.g.ini = some i → Mk G.K (G.cad c) (Y.fad i)) (hl : ∀ l L, Y.g.lams[l]? = some L → LmG G Y l L) : ∀ k, CallF G Y (callK Y.g k) k ∧ CallL G Y (callK Y.g k) k
  | 0 => ⟨⟨fun τ C X cm o cx ρ H mh σ fr st i xs vs us pins s Q I rx rv h => False.elim h, fun τ C X cm o cx ρ H mh σ fr st c i xs vs us pins s Q I rx rv hi h => False.elim h⟩, fun τ C X cm o cx ρ H mh σ fr st l d v L f pins s Q I rv h1 h2 h3 h a ha => False.elim h⟩
  | k + 1 => by
    obtain ⟨h1, h2⟩ := calls_ok hf hm hl k
    exact ⟨⟨callF_succ hf h1 h2, callN_succ hf hm h1 h2⟩, callL_succ hl h1 h2⟩
end
end FS

-- text FsX
set_option Elab.async false
set_option linter.all false
set_option maxHeartbeats 1000000
/-! FsX: objects of own classes: fields read, written; methods called; objects made; lists grown. -/
namespace FS
open PySem PySem.Spec PyProof.Rows L2 LamX

/-- the tree of a method's call -/
theorem call_form {o : Expr} {m : Str} {apos pos : Pos} {args : List Expr} {env : Env} (hb : attributeBase o m env (eval o env) = eval o env)
    (hfew : ((backTo pos (starEach args env)).all (fun x => !x.1) && (backToKw pos (keywordEach [] env)).all (fun x => x.1.isSome) && decide (args.length + ([] : List Keyword).length + (if ([] : List Keyword).isEmpty then 0 else 1) < 30)) = true)
    (hline : (apos.endLine == pos.line) = true) : eval (.Call (.Attribute o m apos) args [] pos) env = (do
      let ov ← eval o env
      standAt apos.atName
      let (f, first) ← holding [ov] (getMethod ov m (do return (← importBound o env).getD true))
      callWith pos f first (backTo pos (starEach args env)) (backToKw pos (keywordEach [] env))) := by
  have hform : methodCallForm (args.length + ([] : List Keyword).length) (backTo pos (starEach args env)) (backToKw pos (keywordEach [] env)) = true := hfew
  have hpos : methodCallPos true o env apos pos = pure pos := by unfold methodCallPos; simp [hline]
  refine mcall_of (t := fun ov => do
      let (f, first) ← holding [ov] (getMethod ov m (do return (← importBound o env).getD true))
      callWith pos f first (backTo pos (starEach args env)) (backToKw pos (keywordEach [] env))) hb fun ov => ?_
  unfold methodCall
  rw [hform]
  unfold calleeOf
  rw [if_pos rfl]
  congr 1
  funext p
  obtain ⟨f, first⟩ := p
  rw [hpos]
  show (pure pos >>= fun callPos => callWith callPos f first (backTo pos (starEach args env)) (backToKw pos (keywordEach [] env))) = _
  rw [pure_bind]

section
variable {G : GD} {cm : List (Option CI)} {ρ : List Addr} {H : Hp} {mh : MH}
theorem lookN_some {α : Type} {n : Nat} {x : α} : ∀ {l : List (Nat × α)}, lookN n l = some x → (n, x) ∈ l
  | p :: r, h => by
    unfold lookN at h
    split at h
    · rename_i e
      cases h
      rw [← Nat.eq_of_beq_eq_true e]
      exact List.mem_cons_self
    · exact List.mem_cons_of_mem _ (lookN_some h)
theorem repf_nat {fs : List (Nat × D)} {fv : List (Str × V)} (h : repf G cm ρ H fs fv) {p : Nat × D} (hp : p ∈ fs) : p.1 < G.nat := by
  induction fs generalizing fv with
  | nil => cases hp
  | cons q r ih =>
    obtain ⟨v, s, e1, e2, e3, e4⟩ := h
    rcases List.mem_cons.mp hp with z | z
    · rw [z]
      exact e2
    · exact ih e4 z
theorem repf_len : ∀ {fs : List (Nat × D)} {fv : List (Str × V)}, repf G cm ρ H fs fv → fv.length = fs.length
  | [], fv, h => by
    have h : fv = [] := h
    rw [h]
    rfl
  | p :: r, fv, h => by
    obtain ⟨v, s, e1, e2, e3, e4⟩ := h
    rw [e1, List.length_cons, List.length_cons, repf_len e4]
section
variable (inj : ∀ i j, i < G.nat → j < G.nat → G.atn i = G.atn j → i = j)
include inj
theorem atn_beq {i j : Nat} (hi : i < G.nat) (hj : j < G.nat) : (G.atn i == G.atn j) = Nat.beq i j := by
  cases h : Nat.beq i j with
  | true =>
    rw [Nat.eq_of_beq_eq_true h]
    exact beq_self_eq_true _
  | false =>
    refine beq_eq_false_iff_ne.mpr fun e => ?_
    rw [inj i j hi hj e, Nat.beq_refl] at h
    cases h
theorem repf_look : ∀ {fs : List (Nat × D)} {fv : List (Str × V)} {f : Nat}, f < G.nat → repf G cm ρ H fs fv → (∀ d, lookN f fs = some d → ∃ v, fv.lookup (G.atn f) = some v ∧ rep G cm ρ H d v) ∧ (lookN f fs = none → fv.lookup (G.atn f) = none)
  | [], fv, f, hf, h => by
    have h : fv = [] := h
    rw [h]
    exact ⟨fun d e => (by cases e), fun _ => rfl⟩
  | p :: r, fv, f, hf, h => by
    obtain ⟨v, s, e1, e2, e3, e4⟩ := h
    obtain ⟨i1, i2⟩ := repf_look hf e4
    rw [e1]
    have hb := atn_beq inj hf e2
    unfold lookN
    rw [List.lookup_cons, hb]
    cases hq : Nat.beq f p.1 with
    | true =>
      have e : p.1 = f := (Nat.eq_of_beq_eq_true hq).symm
      rw [e, Nat.beq_refl, if_pos rfl]
      exact ⟨fun d e => by
        cases e
        exact ⟨v, rfl, e3⟩, fun e => by cases e⟩
    | false =>
      have e : Nat.beq p.1 f = false := by
        cases h : Nat.beq p.1 f with
        | false => rfl
        | true =>
          rw [Nat.eq_of_beq_eq_true h, Nat.beq_refl] at hq
          cases hq
      rw [e, if_neg Bool.false_ne_true]
      exact ⟨i1, i2⟩
theorem repf_put : ∀ {fs : List (Nat × D)} {fv : List (Str × V)} {f : Nat} {d : D} {v : V}, f < G.nat → repf G cm ρ H fs fv → rep G cm ρ H d v → repf G cm ρ H (putN f d fs) (putF (G.atn f) v fv)
  | [], fv, f, d, v, hf, h, r => by
    have h : fv = [] := h
    rw [h]
    exact ⟨v, [], rfl, hf, r, rfl⟩
  | p :: q, fv, f, d, v, hf, h, r => by
    obtain ⟨w, s, e1, e2, e3, e4⟩ := h
    rw [e1]
    have hb := atn_beq inj e2 hf
    unfold putN putF
    cases hq : Nat.beq p.1 f with
    | true =>
      rw [hq] at hb
      have he : G.atn p.1 = G.atn f := beq_iff_eq.mp hb
      rw [if_pos rfl, if_pos he]
      exact ⟨v, s, by rw [he], hf, r, e4⟩
    | false =>
      rw [hq] at hb
      have he : ¬ G.atn p.1 = G.atn f := fun z => by
        rw [z, beq_self_eq_true] at hb
        cases hb
      rw [if_neg Bool.false_ne_true, if_neg he]
      exact ⟨w, _, rfl, e2, e3, repf_put hf e4 r⟩
end
/-- the object at d -/
theorem insOf_ok {d : D} {v : V} {n c : Nat} {fs : List (Nat × D)} (g : Gd G ρ H mh) (r : rep G cm ρ H d v) (e : insOf mh d = some (n, c, fs)) : ∃ a dx fv, d = .ref n ∧ v = .ref a ∧ ρ[n]? = some a ∧ mh[n]? = some (.ins c fs) ∧ H a = some (.ins (G.cad c) dx fv) ∧ repf G [] ρ H fs fv := by
  unfold insOf at e
  cases d with
  | ref m =>
    unfold rep at r
    obtain ⟨a, rfl, ha⟩ := r
    have e : (match mh[m]? with
      | some (MO.ins c fs) => some (m, c, fs)
      | _ => none) = some (n, c, fs) := e
    cases hm : mh[m]? with
    | none =>
      rw [hm] at e
      cases e
    | some o =>
      rw [hm] at e
      cases o with
      | ins c' fs' =>
        have q := g.chg m a _ ha hm
        cases e
        obtain ⟨dx, fv, q1, q2⟩ := q
        exact ⟨a, dx, fv, rfl, rfl, ha, hm, q1, q2⟩
      | _ => cases e
  | _ => cases e
theorem fldB_nat {g : Pg} {c f : Nat} (h : g.fldB c f = true) : f < g.nat := by
  unfold Pg.fldB at h
  rw [Bool.and_eq_true] at h
  exact Nat.le_of_ble_eq_true h.1
end

section
variable {J : JC} {G : GD} {Y : GX} {cf : CF} {k : Nat} {C : SC} {pos : Pos} {e : E} {es : Es} {a' b' : Expr} {es' : List Expr}
/-- o.f -/
theorem se_at (ok : GOk J G Y) {f : Nat} {x : Str} (hx : J.atl[f]? = some x) (hb : plO a' = true) (ha : SE G Y cf k C e a') : SE G Y cf k C (.at e f) (.Attribute a' x pos) := fun τ X cm o cx ρ H mh σ fr st Q h => by
  unfold evE at h
  refine of_pe (pe_fld pe_w (plO_eq hb)) ?_
  refine ha τ X cm o cx ρ H mh σ fr st _ (h.seq fun d1 mh1 ρ1 H1 v1 _ e1 g1 r1 h1 => ?_)
  unfold fldOf at h1
  cases hi : insOf mh1 d1 with
  | none =>
    rw [hi] at h1
    exact False.elim h1
  | some p =>
    obtain ⟨n, c, fs⟩ := p
    rw [hi] at h1
    obtain ⟨a, dx, fv, q1, q2, q3, q4, q5, q6⟩ := insOf_ok g1 r1 hi
    cases hf : Y.g.fldB c f with
    | false =>
      simp only [hf] at h1
      exact False.elim h1
    | true =>
      simp only [hf, if_true] at h1
      obtain ⟨c1, c2⟩ := ok.fld c f hf
      have hn : f < G.nat := by rw [← ok.nat]; exact fldB_nat hf
      cases hl : lookN f fs with
      | none =>
        rw [hl] at h1
        exact False.elim h1
      | some d =>
        rw [hl] at h1
        obtain ⟨v, l1, l2⟩ := (repf_look (G := G.tm τ) ok.inj hn q6).1 d hl
        have ex : G.atn f = x := ok.atn f x hx
        rw [cx.K]
        rw [ex] at c2
        refine ⟨a, G.cad c, dx, fv, v, q2, q5, c1, c2, by rw [← ex]; exact l1, ?_⟩
        exact h1 ρ1 H1 v (Ext.refl _ _) g1 (l2.mono deep_nil (Ext.refl _ _))
/-- C(..), an own class -/
theorem se_new (ok : GOk J G Y) (hF : CallF G Y cf k) {c : Nat} {x : Str} {p : Pos} (hx : J.ocl[c]? = some x) (hg : C.sc.names.lookup x = some .globalImplicit) (hd : (x == ("__debug__" : Str)) = false) (hp : pl a' = true) (hps : es'.all pl = true)
    (ha : SEs G Y cf k C es (a' :: es')) : SE G Y cf k C (.new c es) (.Call (.Name x p) (a' :: es') [] pos) := fun τ X cm o cx ρ H mh σ fr st Q h => by
  unfold evE at h
  intro pins s I
  obtain ⟨e1, e2⟩ := ok.ocl c x hx
  refine wpAny_Call_Name_kw (ld_glob I (gl_of cx hg) (by rw [cx.mg]; exact e1) ?_ hd)
  have h0 : wA X (a' :: es') σ H fun vs H1 => ∀ us s1, Inv X pins σ H1 s1 → Vals vs us → wpAny (model X.prog X.w) X.A (call (.ref (G.cad c)) us) (EP X pins σ Q) X.xe s1 := by
    refine ha τ X cm o cx ρ H mh σ fr st _ (h.seq fun d1 mh1 ρ1 H1 v1 _ e1 g1 r1 h1 => ?_)
    cases hi : lookN c Y.g.ini with
    | none =>
      rw [hi] at h1
      exact False.elim h1
    | some i =>
      rw [hi] at h1
      exact fun us s1 I1 r => hF.2 τ C X cm o cx ρ1 H1 mh1 σ fr (st.step e1 g1) c i d1 v1 us pins s1 Q I1 r1 r hi h1
  exact PySem.W.callWith_K (h₀ := X.base) I.ok.mod.kin (by rw [cx.K]; exact e2) (thn (h0 pos pins s I) fun us s1 ⟨vs, H1, I1, r, q⟩ => ⟨I1.kIn, q us s1 I1 r⟩) (pl_star hp) (pl_none hps)
theorem se_new0 (ok : GOk J G Y) (hF : CallF G Y cf k) {c : Nat} {x : Str} {p : Pos} (hx : J.ocl[c]? = some x) (hg : C.sc.names.lookup x = some .globalImplicit) (hd : (x == ("__debug__" : Str)) = false) : SE G Y cf k C (.new c .nil) (.Call (.Name x p) [] [] pos) := fun τ X cm o cx ρ H mh σ fr st Q h => by
  unfold evE evEs at h
  intro pins s I
  obtain ⟨e1, e2⟩ := ok.ocl c x hx
  refine wpAny_Call_Name_kw (ld_glob I (gl_of cx hg) (by rw [cx.mg]; exact e1) ?_ hd)
  cases hi : lookN c Y.g.ini with
  | none =>
    rw [hi] at h
    exact False.elim h
  | some i =>
    rw [hi] at h
    exact PySem.W.callWith_K0 I.kIn (by rw [cx.K]; exact e2) (hF.2 τ C X cm o cx ρ H mh σ fr st c i [] [] [] pins s Q I reps.nil .nil hi h)
/-- o.m(..), a method of an own class -/
theorem se_mc (ok : GOk J G Y) (hF : CallF G Y cf k) {m : Nat} {x : Str} {apos : Pos} (hx : J.atl[m]? = some x) (hb : plO a' = true) (hl : (apos.endLine == pos.line) = true) (hp : pl b' = true) (hps : es'.all pl = true) (hn : es'.length < 29) (ha : SE G Y cf k C e a') (hes : SEs G Y cf k C es (b' :: es')) :
    SE G Y cf k C (.mc m e es) (.Call (.Attribute a' x apos) (b' :: es') [] pos) := fun τ X cm o cx ρ H mh σ fr st Q h => by
  unfold evE at h
  intro pins s I
  have hw := ha τ X cm o cx ρ H mh σ fr st (fun v H1 => ∃ a dx fv c i, v = .ref a ∧ H1 a = some (.ins (G.cad c) dx fv) ∧ fv.lookup x = none ∧ Cls X.K (G.cad c) ∧ Meth X.K (G.cad c) x (Y.fad i) ∧
      wA X (b' :: es') σ H1 fun vs H2 => ∀ us s1, Inv X pins σ H2 s1 → Vals vs us → wpAny (model X.prog X.w) X.A (call (.ref (Y.fad i)) (.ref a :: us)) (EP X pins σ Q) X.xe s1) (h.seq fun d1 mh1 ρ1 H1 v1 _ e1 g1 r1 h1 => ?_)
  · refine PySem.W.methodCall_KW (thn (hw pins s I) fun u s1 ⟨v, H1, I1, rv, a, dx, fv, c, i, q1, q2, q3, q4, q5, q6⟩ => ?_) (call_form (plO_eq hb) (few_all (n := 0) (by rw [List.all_cons, hp, hps]; rfl) (by rw [List.length_cons]; omega)) hl)
    subst q1
    obtain rfl : u = Value.ref a := rv
    refine getmeth_ok I1 q2 q4 q5 q3 ?_
    exact PySem.W.callWith_K (first := [.ref a]) (h₀ := X.base) I.ok.mod.kin q5.kp (thn (q6 pos pins s1 I1) fun us s2 ⟨vs, H2, I2, r, q⟩ => ⟨I2.kIn, q us s2 I2 r⟩) (pl_star hp) (pl_none hps)
  · cases hi : insOf mh1 d1 with
    | none =>
      rw [hi] at h1
      exact False.elim h1
    | some p =>
      obtain ⟨n, c, fs⟩ := p
      rw [hi] at h1
      obtain ⟨a, dx, fv, z1, z2, z3, z4, z5, z6⟩ := insOf_ok g1 r1 hi
      cases hm : lookNN c m Y.g.mts with
      | none =>
        simp only [hm] at h1
        exact False.elim h1
      | some i =>
        cases hf : lookN m fs with
        | some d =>
          simp only [hm, hf] at h1
          exact False.elim h1
        | none =>
          cases hnat : Nat.blt m Y.g.nat with
          | false =>
            simp only [hm, hf, hnat] at h1
            exact False.elim h1
          | true =>
            simp only [hm, hf, hnat, if_true] at h1
            have hn2 : m < G.nat := by
              rw [← ok.nat]
              exact Nat.le_of_ble_eq_true hnat
            have ex : G.atn m = x := ok.atn m x hx
            obtain ⟨k1, k2⟩ := ok.met c m i hm
            rw [ex] at k2
            refine ⟨a, dx, fv, c, i, z2, z5, by rw [← ex]; exact (repf_look (G := G.tm τ) ok.inj hn2 z6).2 hf, by rw [cx.K]; exact k1, by rw [cx.K]; exact k2, ?_⟩
            refine hes τ X cm o cx ρ1 H1 mh1 σ fr (st.step e1 g1) _ (h1.seq fun d2 mh2 ρ2 H2 v2 _ e2 g2 r2 h2 => ?_)
            intro us s1 I1 rv
            refine hF.1 τ C X cm o cx ρ2 H2 mh2 σ fr ((st.step e1 g1).step e2 g2) i (.ref n :: d2) (.ref a :: v2) (.ref a :: us) pins s1 Q I1 (reps.cons ?_ r2) (.cons rfl rv) h2
            unfold rep
            exact ⟨a, rfl, e2.ix z3⟩
theorem se_mc0 (ok : GOk J G Y) (hF : CallF G Y cf k) {m : Nat} {x : Str} {apos : Pos} (hx : J.atl[m]? = some x) (hb : plO a' = true) (hl : (apos.endLine == pos.line) = true) (ha : SE G Y cf k C e a') :
    SE G Y cf k C (.mc m e .nil) (.Call (.Attribute a' x apos) [] [] pos) := fun τ X cm o cx ρ H mh σ fr st Q h => by
  unfold evE at h
  intro pins s I
  have hw := ha τ X cm o cx ρ H mh σ fr st (fun v H1 => ∃ a dx fv c i, v = .ref a ∧ H1 a = some (.ins (G.cad c) dx fv) ∧ fv.lookup x = none ∧ Cls X.K (G.cad c) ∧ Meth X.K (G.cad c) x (Y.fad i) ∧
      ∀ s1, Inv X pins σ H1 s1 → wpAny (model X.prog X.w) X.A (call (.ref (Y.fad i)) [.ref a]) (EP X pins σ Q) X.xe s1) (h.seq fun d1 mh1 ρ1 H1 v1 _ e1 g1 r1 h1 => ?_)
  · refine PySem.W.methodCall_KW (thn (hw pins s I) fun u s1 ⟨v, H1, I1, rv, a, dx, fv, c, i, q1, q2, q3, q4, q5, q6⟩ => ?_) (call_form (plO_eq hb) (few_all (n := 0) rfl (by decide)) hl)
    subst q1
    obtain rfl : u = Value.ref a := rv
    refine getmeth_ok I1 q2 q4 q5 q3 ?_
    exact PySem.W.callWith_K0 (first := [.ref a]) I1.kIn q5.kp (q6 s1 I1)
  · cases hi : insOf mh1 d1 with
    | none =>
      rw [hi] at h1
      exact False.elim h1
    | some p =>
      obtain ⟨n, c, fs⟩ := p
      rw [hi] at h1
      obtain ⟨a, dx, fv, z1, z2, z3, z4, z5, z6⟩ := insOf_ok g1 r1 hi
      cases hm : lookNN c m Y.g.mts with
      | none =>
        simp only [hm] at h1
        exact False.elim h1
      | some i =>
        cases hf : lookN m fs with
        | some d =>
          simp only [hm, hf] at h1
          exact False.elim h1
        | none =>
          cases hnat : Nat.blt m Y.g.nat with
          | false =>
            simp only [hm, hf, hnat] at h1
            exact False.elim h1
          | true =>
            simp only [hm, hf, hnat, if_true] at h1
            have hn2 : m < G.nat := by
              rw [← ok.nat]
              exact Nat.le_of_ble_eq_true hnat
            have ex : G.atn m = x := ok.atn m x hx
            obtain ⟨k1, k2⟩ := ok.met c m i hm
            rw [ex] at k2
            refine ⟨a, dx, fv, c, i, z2, z5, by rw [← ex]; exact (repf_look (G := G.tm τ) ok.inj hn2 z6).2 hf, by rw [cx.K]; exact k1, by rw [cx.K]; exact k2, fun s1 I1 => ?_⟩
            unfold evEs at h1
            refine hF.1 τ C X cm o cx ρ1 H1 mh1 σ fr (st.step e1 g1) i [.ref n] [.ref a] [.ref a] pins s1 Q I1 (reps.one ?_) (.cons rfl .nil) h1
            unfold rep
            exact ⟨a, rfl, z3⟩
end
end FS

-- text FsX2
set_option Elab.async false
set_option linter.all false
set_option maxHeartbeats 1000000
/-! FsX2: statements over objects: fields stored, += of names and fields, lists grown. -/
namespace FS
open PySem PySem.Spec PyProof.Rows L2 LamX
section
variable {G : GD} {cm : List (Option CI)} {ρ : List Addr} {H : Hp} {mh : MH}
/-- a field is written -/
theorem fldSet_ok {g : Pg} {d e : D} {v w : V} {f : Nat} {mh' : MH} (inj : ∀ i j, i < G.nat → j < G.nat → G.atn i = G.atn j → i = j) (hnat : g.nat = G.nat) (gd : Gd G ρ H mh) (r : rep G cm ρ H d v) (rw_ : rep G cm ρ H e w) (h : fldSet g mh d f e = some mh') :
    ∃ a c dx fv, v = .ref a ∧ H a = some (.ins (G.cad c) dx fv) ∧ g.fldB c f = true ∧ (∃ n fs, insOf mh d = some (n, c, fs)) ∧ fv.length < 1000 ∧ a ∈ ρ ∧ Gd G ρ (L2.upd H a (.ins (G.cad c) dx (putF (G.atn f) w fv))) mh' := by
  unfold fldSet at h
  cases hi : insOf mh d with
  | none =>
    rw [hi] at h
    cases h
  | some p =>
    obtain ⟨n, c, fs⟩ := p
    rw [hi] at h
    obtain ⟨a, dx, fv, z1, z2, z3, z4, z5, z6⟩ := insOf_ok gd r hi
    have h : (if (g.fldB c f && noClo e && Nat.blt fs.length 1000) = true then some (mh.set n (.ins c (putN f e fs))) else none) = some mh' := h
    split at h
    · rename_i hc
      cases h
      simp only [Bool.and_eq_true] at hc
      obtain ⟨⟨c1, c2⟩, c3⟩ := hc
      have hf : f < G.nat := by
        rw [← hnat]
        exact fldB_nat c1
      have ha : a ∈ ρ := List.mem_of_getElem? z3
      have rn : rep G [] ρ H e w := rw_.bare _ _ c2
      have ex : Ext ρ H ρ (L2.upd H a (.ins (G.cad c) dx (putF (G.atn f) w fv))) := Ext.store ha
      refine ⟨a, c, dx, fv, z2, z5, c1, ⟨n, fs, rfl⟩, by rw [repf_len z6]; exact Nat.le_of_ble_eq_true c3, ha, gd.storeG z3 z4 z5 rfl ?_⟩
      exact ⟨dx, _, upd_same, (repf_put inj hf z6 rn).mono (Deeper.refl _) ex _ _⟩
    · cases h
def rAug (op : Bop) : V → V → Hp → VK → Prop := match op with
  | .add => fun x y H Q => rAdd x y H Q ∨ rAddS x y H Q
  | _ => rSub
theorem augV_ok {X : Cx} {op : Bop} (hop : op = .add ∨ op = .sub) : InOp X (opB op) (rAug op) := by
  rcases hop with rfl | rfl
  · intro pins s σ H x y u v Q I rx ry h
    rcases h with h | h
    · exact in_add pins s σ H x y u v Q I rx ry h
    · exact in_addS pins s σ H x y u v Q I rx ry h
  · exact in_sub
theorem augV_run {op : Bop} {d e : D} {x y : V} {Y : GX} {X : Cx} {σ : L2.St} {Q : VK} (hop : op = .add ∨ op = .sub) (g : Gd G ρ H mh) (rx : rep G cm ρ H d x) (ry : rep G cm ρ H e y) (h : RK G Y X σ (rep G cm) ρ H (augV op d e mh) Q) : rAug op x y H Q := by
  rcases hop with rfl | rfl
  · cases d with
    | int i =>
      cases e with
      | int j =>
        unfold rep at rx ry
        subst rx ry
        exact .inl ⟨_, _, rfl, rfl, h ρ H _ (Ext.refl _ _) g (by unfold rep; rfl)⟩
      | _ => exact False.elim h
    | str i =>
      cases e with
      | str j =>
        have h : RK G Y X σ (rep G cm) ρ H (if Nat.ble (i.length + j.length) line = true then R.ok (.str (i ++ j)) mh else .stk) Q := h
        split at h
        · rename_i hz
          unfold rep at rx ry
          subst rx ry
          refine .inr ⟨_, _, rfl, rfl, by rw [SX.S_len, SX.S_len]; exact le_line hz, h ρ H _ (Ext.refl _ _) g ?_⟩
          unfold rep
          rw [← SX.S_cat]
        · exact False.elim h
      | _ => exact False.elim h
    | _ => exact False.elim h
  · cases d with
    | int i =>
      cases e with
      | int j =>
        unfold rep at rx ry
        subst rx ry
        exact ⟨_, _, rfl, rfl, h ρ H _ (Ext.refl _ _) g (by unfold rep; rfl)⟩
      | _ => exact False.elim h
    | _ => exact False.elim h
end
section
variable {J : JC} {G : GD} {Y : GX} {cf : CF} {k : Nat} {C : SC} {pos : Pos} {a b : E} {a' b' : Expr}
/-- o.f = e -/
theorem ss_sat (ok : GOk J G Y) {f : Nat} {x : Str} {p : Pos} (hx : J.atl[f]? = some x) (hn : ncomp a' = true) (ha : SE G Y cf k C a a') (hb : SE G Y cf k C b b') : SSt G Y cf k C (.sat a b f) (.Assign [.Attribute b' x p] a' pos) := fun τ X cm o cx sx ρ H mh σ fr st D h => by
  unfold evS at h
  refine of_ps (ps_fld pe_w pe_w (ncomp_sw hn _ _ _)) ?_
  refine ha τ X cm o cx ρ H mh σ fr st _ (h.seq st.fr fun d1 mh1 ρ1 H1 v1 _ e1 g1 r1 h1 => ?_)
  refine hb τ X cm o cx ρ1 H1 mh1 σ fr (st.step e1 g1) _ (h1.seq (st.fr.ext e1) fun d2 mh2 ρ2 H2 v2 _ e2 g2 r2 h2 => ?_)
  split at h2
  · rename_i mh3 hq
    obtain ⟨ad, c, dx, fv, q1, q2, q3, q4, q5, q6, q7⟩ := fldSet_ok (G := G.tm τ) ok.inj ok.nat g2 r2 (r1.mono (Deeper.refl _) e2) hq
    obtain ⟨c1, c2⟩ := ok.fld c f q3
    have ex : G.atn f = x := ok.atn f x hx
    rw [ex] at c2
    have ex2 : (G.tm τ).atn f = x := ex
    rw [ex2] at q7
    refine ⟨ad, G.cad c, dx, fv, q1, q2, by rw [cx.K]; exact c1, by rw [cx.K]; exact c2, q5, ?_⟩
    exact h2 ρ2 _ σ (Ext.store q6) q7 (((st.fr.ext e1).ext e2).ext (Ext.store q6))
  · exact False.elim h2
/-- o.f += e -/
theorem ss_aat (ok : GOk J G Y) {op : Bop} (hop : op = .add ∨ op = .sub) {f : Nat} {x : Str} {p : Pos} (hx : J.atl[f]? = some x) (ha : SE G Y cf k C a a') (hb : SE G Y cf k C b b') : SSt G Y cf k C (.aat op b f a) (.AugAssign (.Attribute b' x p) (opB op) a' pos) := fun τ X cm o cx sx ρ H mh σ fr st D h => by
  unfold evS at h
  refine of_ps (ps_fldaug pe_w pe_w (augV_ok hop)) ?_
  refine hb τ X cm o cx ρ H mh σ fr st _ (h.seq st.fr fun d1 mh1 ρ1 H1 v1 _ e1 g1 r1 h1 => ?_)
  cases hi : insOf mh1 d1 with
  | none =>
    rw [hi] at h1
    exact False.elim h1
  | some q =>
    obtain ⟨n, c, fs⟩ := q
    cases hf : fldOf Y.g mh1 d1 f with
    | none =>
      simp only [hi, hf] at h1
      exact False.elim h1
    | some y =>
      simp only [hi, hf] at h1
      obtain ⟨ad, dx, fv, z1, z2, z3, z4, z5, z6⟩ := insOf_ok g1 r1 hi
      unfold fldOf at hf
      rw [hi] at hf
      have hf : (if Y.g.fldB c f = true then lookN f fs else none) = some y := hf
      split at hf
      rotate_left
      · cases hf
      rename_i hfb
      obtain ⟨c1, c2⟩ := ok.fld c f hfb
      have hn : f < G.nat := by rw [← ok.nat]; exact fldB_nat hfb
      obtain ⟨v, l1, l2⟩ := (repf_look (G := G.tm τ) ok.inj hn z6).1 y hf
      have ex : G.atn f = x := ok.atn f x hx
      rw [ex] at c2
      have l1 : fv.lookup x = some v := by rw [← ex]; exact l1
      have l3 : rep (G.tm τ) cm ρ1 H1 y v := l2.mono deep_nil (Ext.refl _ _)
      refine ⟨ad, G.cad c, dx, fv, v, z2, z5, by rw [cx.K]; exact c1, by rw [cx.K]; exact c2, l1, ?_⟩
      have h2 : RK (G.tm τ) Y X σ (rep (G.tm τ) cm) ρ1 H1 ((evE Y.g cf o a fr mh1).bind fun z h2 => augV op y z h2) fun z H3 => ∃ dx' fs', H3 ad = some (.ins (G.cad c) dx' fs') ∧ fs'.length < 1000 ∧ D.nx σ (upd H3 ad (.ins (G.cad c) dx' (putF x z fs'))) := by
        refine h1.seq (st.fr.ext e1) fun d3 mh3 ρ3 H3 v3 _ e3 g3 r3 h3 => ?_
        split at h3
        · rename_i n2 c2' fs2 mh4 hi3 hs3
          split at h3
          · rename_i hcc
            have ecc : c = c2' := Nat.eq_of_beq_eq_true hcc
            subst ecc
            obtain ⟨ad2, c3, dx2, fv2, q1, q2, q3, ⟨n4, fs4, q4⟩, q5, q6, q7⟩ := fldSet_ok (G := G.tm τ) ok.inj ok.nat g3 (r1.mono (Deeper.refl _) e3) r3 hs3
            rw [hi3] at q4
            cases q4
            rw [z2] at q1
            cases q1
            have ex2 : (G.tm τ).atn f = x := ex
            rw [ex2] at q7
            exact ⟨dx2, fv2, q2, q5, h3 ρ3 _ σ (Ext.store q6) q7 (((st.fr.ext e1).ext e3).ext (Ext.store q6))⟩
          · exact False.elim h3
        · exact False.elim h3
      refine ha τ X cm o cx ρ1 H1 mh1 σ fr (st.step e1 g1) _ (h2.seq fun d2 mh2 ρ2 H2 v2 _ e2 g2 r2 h3 => ?_)
      exact augV_run (G := G.tm τ) hop g2 (l3.mono (Deeper.refl _) e2) r2 h3
/-- x += e -/
theorem ss_aug {op : Bop} (hop : op = .add ∨ op = .sub) {i : Nat} {x : Str} {p : Pos} (hi : C.N[i]? = some x) (hx : C.sc.names.lookup x = some .local ∨ (C.sc.names.lookup x = some .cell ∧ C.fnc x = true)) (ha : SE G Y cf k C a a') : SSt G Y cf k C (.aug op i a) (.AugAssign (.Name x p) (opB op) a' pos) := fun τ X cm o cx sx ρ H mh σ fr st D h => by
  unfold evS at h
  obtain ⟨l1, l2⟩ := cx.fnX hx
  refine of_ps (ps_aug (i := i) (ti := rAug op) cx.ndX (by rw [cx.N]; exact hi) l1 pe_w (augV_ok hop) l2) ?_
  cases hg : get fr i with
  | none =>
    rw [hg] at h
    exact False.elim h
  | some y =>
    rw [hg] at h
    obtain ⟨v, q1, q2⟩ := st.fr.at_ i y hg
    refine ⟨v, q1, ?_⟩
    have h2 : RK (G.tm τ) Y X σ (rep (G.tm τ) cm) ρ H ((evE Y.g cf o a fr mh).bind fun z h2 => augV op y z h2) fun z H3 => D.nx (σ.set i (some z)) H3 := by
      refine h.seq st.fr fun d3 mh3 ρ3 H3 v3 _ e3 g3 r3 h3 => ?_
      split at h3
      · rename_i hb
        exact h3 ρ3 H3 _ (Ext.refl _ _) g3 ((st.fr.ext e3).put (Nat.le_of_ble_eq_true hb) r3)
      · exact False.elim h3
    refine ha τ X cm o cx ρ H mh σ fr st _ (h2.seq fun d2 mh2 ρ2 H2 v2 _ e2 g2 r2 h3 => ?_)
    exact augV_run (G := G.tm τ) hop g2 (q2.mono (Deeper.refl _) e2) r2 h3
/-- o.append(e) -/
theorem ss_apd {apos cpos : Pos} (hb : plO b' = true) (hl : (apos.endLine == cpos.line) = true) (hp : pl a' = true) (ha : SE G Y cf k C a a') (hbb : SE G Y cf k C b b') : SSt G Y cf k C (.apd b a) (.Expr (.Call (.Attribute b' "append" apos) [a'] [] cpos) pos) := fun τ X cm o cx sx ρ H mh σ fr st D h => by
  unfold evS at h
  refine of_ps (ps_expr (pe_bm F.plainAttrs_list F.slot_list_append F.type_list_append mt_append pe_w (pa_cons pe_w pa_nil (pl_star hp)) (plO_eq hb) (few_all (n := 0) (by rw [List.all_cons, hp]; rfl) (show 1 < 30 by decide)) hl (pl_star hp) rfl) (ncomp_sw rfl _ _ _)) ?_
  refine hbb τ X cm o cx ρ H mh σ fr st _ (h.seq st.fr fun d1 mh1 ρ1 H1 v1 _ e1 g1 r1 h1 => ?_)
  cases hl1 : isLstR mh1 d1 with
  | false =>
    rw [hl1] at h1
    exact False.elim h1
  | true =>
    rw [hl1] at h1
    have h1 : RSK (G.tm τ) Y X cm ρ1 H1 ((evE Y.g cf o a fr mh1).toS fr fun d h2 => match apdAt h2 d1 d with
      | some h3 => .nx fr h3
      | none => .stk) D := h1
    cases d1 with
    | ref n =>
      have hl1 : (match mh1[n]? with
        | some (.lst _) => true
        | _ => false) = true := hl1
      have r1' := r1
      unfold rep at r1'
      obtain ⟨ad, rfl, had⟩ := r1'
      cases hm1 : mh1[n]? with
      | none =>
        rw [hm1] at hl1
        cases hl1
      | some ob =>
        rw [hm1] at hl1
        cases ob with
        | lst xs0 =>
          obtain ⟨ys0, hy0, _⟩ := g1.chg n ad _ had hm1
          refine ⟨.inl ⟨rfl, ys0, .inl (.inl hy0)⟩, ?_⟩
          refine ha τ X cm o cx ρ1 H1 mh1 σ fr (st.step e1 g1) _ (h1.seq (st.fr.ext e1) fun d2 mh2 ρ2 H2 v2 _ e2 g2 r2 h2 => ?_)
          cases hq : apdAt mh2 (.ref n) d2 with
          | none =>
            rw [hq] at h2
            exact False.elim h2
          | some mh3 =>
            rw [hq] at h2
            have hq : (match mh2[n]? with
              | some (.lst xs) => if (noClo d2 && Nat.blt xs.length line) = true then some (mh2.set n (.lst (xs ++ [d2]))) else none
              | _ => none) = some mh3 := hq
            cases hm : mh2[n]? with
            | none =>
              rw [hm] at hq
              cases hq
            | some ob =>
              rw [hm] at hq
              cases ob with
              | lst xs =>
                have hq : (if (noClo d2 && Nat.blt xs.length line) = true then some (mh2.set n (.lst (xs ++ [d2]))) else none) = some mh3 := hq
                split at hq
                · rename_i hc
                  cases hq
                  rw [Bool.and_eq_true] at hc
                  have had2 : ρ2[n]? = some ad := e2.ix had
                  obtain ⟨ys, hy, ry⟩ := g2.chg n ad _ had2 hm
                  have hz : xs.length < line := Nat.le_of_ble_eq_true hc.2
                  refine ⟨ad, ys, v2, rfl, rfl, hy, by rw [← ry.length]; exact Nat.lt_of_lt_of_le hz (by rw [sizeLine_eq]; decide), ?_⟩
                  have ha2 : ad ∈ ρ2 := List.mem_of_getElem? had2
                  exact h2 ρ2 _ σ (Ext.store ha2) (g2.store had2 hm hy (ry.app (reps.one (r2.bare _ _ hc.1)))) (((st.fr.ext e1).ext e2).ext (Ext.store ha2))
                · cases hq
              | _ => cases hq
        | _ => cases hl1
    | _ => cases hl1
end
end FS

-- text FsY
set_option Elab.async false
set_option linter.all false
set_option maxHeartbeats 1000000
/-! FsY: dicts written out, d.get(k, x). -/
namespace FS
open PySem PySem.Spec PyProof.Rows L2 LamX
section
variable {G : GD} {cm : List (Option CI)} {ρ : List Addr} {H : Hp} {mh : MH}
theorem bind_assoc' {α β γ : Type} (r : R α) (f : α → MH → R β) (g : β → MH → R γ) : (r.bind f).bind g = r.bind fun a h => (f a h).bind g := by cases r <;> rfl
/-- a new thing, to be filled -/
theorem Gd.moreG {τ : List Addr} {p : Addr} {v : HO} (g : Gd (G.tm τ) ρ H mh) (h : H p = none) (mu : Mu v = true) : Gd (G.tm (p :: τ)) ρ (upd H p v) mh := by
  have g2 : Gd (G.tm τ) ρ (upd H p v) mh := g.new h
  have ex : Ext ρ H ρ (upd H p v) := Ext.upd h
  refine ⟨g2.len, g2.nd, fun n a o e1 e2 => ?_, g2.tab, fun a m => ?_⟩
  · have k0 := g.chg n a o e1 e2
    obtain ⟨u, hu, _⟩ := k0.there
    have ha : upd H p v a = H a := by rw [upd_ne (ne_of_none hu h)]
    cases o with
    | gone =>
      obtain ⟨o', q1, q2⟩ := k0
      exact ⟨o', by rw [ha]; exact q1, q2⟩
    | lst zs =>
      obtain ⟨ys, q1, q2⟩ := k0
      exact ⟨ys, by rw [ha]; exact q1, (q2.mv (Mv.more (p := p) h) _ _).mono (Deeper.refl _) ex _ _⟩
    | dic zs =>
      obtain ⟨ys, q1, q2⟩ := k0
      exact ⟨ys, by rw [ha]; exact q1, (q2.mv (Mv.more (p := p) h) _ _).mono (Deeper.refl _) ex _ _⟩
    | ins c fs =>
      obtain ⟨dx, ys, q1, q2⟩ := k0
      exact ⟨dx, ys, by rw [ha]; exact q1, (q2.mv (Mv.more (p := p) h) _ _).mono (Deeper.refl _) ex _ _⟩
  · rcases List.mem_cons.mp m with e | m
    · rw [e]
      exact ⟨g.fresh h, _, upd_same, mu⟩
    · exact g2.tmp a m
/-- what is being made is written -/
theorem Gd.wrG {τ : List Addr} {p : Addr} {v : HO} (g : Gd (G.tm τ) ρ H mh) (hp : p ∈ τ) (mv : Mu v = true) : Gd (G.tm τ) ρ (upd H p v) mh := by
  obtain ⟨np, u, hu, mu⟩ := g.tmp p hp
  refine ⟨g.len, g.nd, fun n a o e1 e2 => ?_, fun P q L e => ⟨(g.tab P q L e).1, (g.tab P q L e).2.kept' hu mu⟩, fun a m => ?_⟩
  · have k0 := g.chg n a o e1 e2
    have ha : upd H p v a = H a := by
      rw [upd_ne]
      intro z
      exact np (by rw [← z]; exact List.mem_of_getElem? e1)
    cases o with
    | gone =>
      obtain ⟨o', q1, q2⟩ := k0
      exact ⟨o', by rw [ha]; exact q1, q2⟩
    | lst zs =>
      obtain ⟨ys, q1, q2⟩ := k0
      exact ⟨ys, by rw [ha]; exact q1, q2.mv (Mv.wr hp) _ _⟩
    | dic zs =>
      obtain ⟨ys, q1, q2⟩ := k0
      exact ⟨ys, by rw [ha]; exact q1, q2.mv (Mv.wr hp) _ _⟩
    | ins c fs =>
      obtain ⟨dx, ys, q1, q2⟩ := k0
      exact ⟨dx, ys, by rw [ha]; exact q1, q2.mv (Mv.wr hp) _ _⟩
  · obtain ⟨n1, o, e, m1⟩ := g.tmp a m
    by_cases hb : a = p
    · subst hb
      exact ⟨n1, _, upd_same, mv⟩
    · exact ⟨n1, o, by rw [upd_ne hb]; exact e, m1⟩
theorem CtxOk.tmG {Y : GX} {C : SC} {k : Nat} {o : List Fr} {X : Cx} {τ τ' : List Addr} (cx : CtxOk (G.tm τ) Y C k cm o X) : CtxOk (G.tm τ') Y C k cm o X :=
  ⟨cx.prog, cx.w, cx.K, cx.mg, cx.N, cx.nd, cx.sc, cx.kind, cx.calm, cx.fn, cx.room, cx.base, cx.code, cx.lamf, cx.nlam, cx.lamc, cx.own, cx.len, cx.pa⟩
end
section
variable {J : JC} {G : GD} {Y : GX} {cf : CF} {k : Nat} {C : SC} {pos : Pos} {a b c : E} {a' b' c' : Expr}
/-- keys and values, one after the other -/
def SPr (G : GD) (Y : GX) (cf : CF) (k : Nat) (C : SC) : Es → List (Option Expr) → List Expr → Prop
  | .nil, [], [] => True
  | .cons a (.cons b r), some ka :: ks, va :: vs => SE G Y cf k C a ka ∧ SE G Y cf k C b va ∧ SPr G Y cf k C r ks vs
  | _, _, _ => False
def trsOf (X : Cx) : List (Option Expr) → List Expr → List (TE × TE)
  | some ka :: ks, va :: vs => (wE X ka, wE X va) :: trsOf X ks vs
  | _, _ => []
theorem spr_pps {X : Cx} : ∀ {es : Es} {ks : List (Option Expr)} {vs : List Expr}, SPr G Y cf k C es ks vs → PPs X pos ks vs (trsOf X ks vs) ∧ ks.all (·.isSome) = true ∧ ks.length = vs.length
  | .nil, [], [], _ => ⟨pps_nil, rfl, rfl⟩
  | .cons a (.cons b r), some ka :: ks, va :: vs, h => by
    obtain ⟨h1, h2, h3⟩ := h
    obtain ⟨i1, i2, i3⟩ := spr_pps (X := X) h3
    exact ⟨pps_cons pe_w pe_w i1, by rw [List.all_cons, i2]; rfl, congrArg Nat.succ i3⟩
  | .nil, some _ :: _, _, h => False.elim h
  | .nil, none :: _, _, h => False.elim h
  | .nil, [], _ :: _, h => False.elim h
  | .cons _ .nil, _, _, h => by cases ‹List (Option Expr)› <;> exact False.elim h
  | .cons _ (.cons _ _), [], _, h => False.elim h
  | .cons _ (.cons _ _), none :: _, _, h => False.elim h
  | .cons _ (.cons _ _), some _ :: _, [], h => False.elim h
theorem pairs_run {τ : List Addr} {cm : List (Option CI)} {o : List Fr} {X : Cx} {σ : L2.St} {fr : Fr} (cx : CtxOk (G.tm τ) Y C k cm o X) : ∀ {es : Es} {ks : List (Option Expr)} {vs : List Expr}, SPr G Y cf k C es ks vs →
    ∀ {ρ : List Addr} {H : Hp} {mh : MH}, StR (G.tm τ) cm X o ρ H mh σ fr → ∀ {Q : List (V × V) → Hp → Prop}, RK (G.tm τ) Y X σ (reps (G.tm τ) cm) ρ H (evEs Y.g cf o es fr mh) (fun us H' => Q (pairV us) H') → tPairs (trsOf X ks vs) σ H Q
  | .nil, [], [], _, ρ, H, mh, st, Q, h => by
    unfold evEs at h
    exact h ρ H [] (Ext.refl _ _) st.gd reps.nil
  | .cons a (.cons b r), some ka :: ks, va :: vs, hp, ρ, H, mh, st, Q, h => by
    obtain ⟨h1, h2, h3⟩ := hp
    unfold evEs at h
    show wE X ka σ H fun x H1 => wE X va σ H1 fun y H2 => tPairs (trsOf X ks vs) σ H2 fun ps H3 => Q ((x, y) :: ps) H3
    refine h1 τ X cm o cx ρ H mh σ fr st _ (h.seq fun d1 mh1 ρ1 H1 v1 _ e1 g1 r1 q1 => ?_)
    unfold evEs at q1
    rw [bind_assoc'] at q1
    refine h2 τ X cm o cx ρ1 H1 mh1 σ fr (st.step e1 g1) _ (q1.seq fun d2 mh2 ρ2 H2 v2 _ e2 g2 r2 q2 => ?_)
    rw [bind_assoc'] at q2
    refine pairs_run cx h3 ((st.step e1 g1).step e2 g2) (q2.seq fun d3 mh3 ρ3 H3 v3 _ e3 g3 r3 q3 => ?_)
    exact q3 ρ3 H3 (v1 :: v2 :: v3) (Ext.refl _ _) g3 (reps.cons ((r1.mono (Deeper.refl _) e2).mono (Deeper.refl _) e3) (reps.cons (r2.mono (Deeper.refl _) e3) r3))
  | .nil, some _ :: _, _, h, _, _, _, _, _, _ => False.elim h
  | .nil, none :: _, _, h, _, _, _, _, _, _ => False.elim h
  | .nil, [], _ :: _, h, _, _, _, _, _, _ => False.elim h
  | .cons _ .nil, [], _, h, _, _, _, _, _, _ => False.elim h
  | .cons _ .nil, _ :: _, _, h, _, _, _, _, _, _ => False.elim h
  | .cons _ (.cons _ _), [], _, h, _, _, _, _, _, _ => False.elim h
  | .cons _ (.cons _ _), none :: _, _, h, _, _, _, _, _, _ => False.elim h
  | .cons _ (.cons _ _), some _ :: _, [], h, _, _, _, _, _, _ => False.elim h
/-- {k: v, ..} -/
theorem se_dct {es : Es} {ks : List (Option Expr)} {vs : List Expr} (h0 : ks ≠ []) (h15 : ks.length ≤ 15) (hp : SPr G Y cf k C es ks vs) : SE G Y cf k C (.dct es) (.Dict ks vs pos) := fun τ X cm o cx ρ H mh σ fr st Q h => by
  unfold evE at h
  obtain ⟨p1, p2, p3⟩ := spr_pps (X := X) (pos := pos) hp
  refine of_pe (pe_disp p1 p2 p3 h0 h15) ?_
  intro p hpn
  have np := st.gd.fresh2 hpn
  have g' : Gd (G.tm (p :: τ)) ρ (upd H p (.dK [])) mh := st.gd.moreG hpn rfl
  have mv1 : ∀ d v, rep (G.tm τ) cm ρ H d v → rep (G.tm (p :: τ)) cm ρ (upd H p (.dK [])) d v := fun d v z => (z.mv (Mv.more (p := p) hpn) _ _).mono (Deeper.refl _) (Ext.upd hpn)
  have st' : StR (G.tm (p :: τ)) cm X o ρ (upd H p (.dK [])) mh σ fr := by
    refine ⟨g', ⟨st.fr.len, fun i d hd => ?_⟩, fun d ci f q1 q2 q3 => (st.out d ci f q1 q2 q3).mv (fun _ _ z => z) mv1⟩
    obtain ⟨v, q1, q2⟩ := st.fr.at_ i d hd
    exact ⟨v, q1, mv1 _ _ q2⟩
  refine pairs_run cx.tmG hp st' ?_
  cases hr : evEs Y.g cf o es fr mh with
  | stk =>
    rw [hr] at h
    exact False.elim h
  | exc c' mh1 =>
    rw [hr] at h
    obtain ⟨W, tk, hW⟩ := h
    exact ⟨W, tk, fun ρ' H' dd e g => hW ρ' H' dd ((Ext.upd hpn).trans e) (g.less fun a m => List.mem_cons_of_mem _ m)⟩
  | ok xs mh1 =>
    rw [hr] at h
    intro ρ' H' us e g r
    have h : RK (G.tm τ) Y X σ (rep (G.tm τ) cm) ρ H (match pairUp xs with
      | some kvs => if Nat.ble kvs.length 15 = true then R.ok (.dic (mergeD [] kvs)) mh1 else .stk
      | none => .stk) Q := h
    have hp' : H' p = some (.dK []) := e.keep p _ upd_same np.1 (fun _ q => by cases q)
    refine ⟨hp', ?_⟩
    cases hu : pairUp xs with
    | none =>
      rw [hu] at h
      exact False.elim h
    | some kvs =>
      rw [hu] at h
      have h : RK (G.tm τ) Y X σ (rep (G.tm τ) cm) ρ H (if Nat.ble kvs.length 15 = true then R.ok (.dic (mergeD [] kvs)) mh1 else .stk) Q := h
      split at h
      · rename_i hl
        obtain ⟨ys, q1, q2, q3⟩ := pairUp_ok hu r
        refine ⟨ys, q1, by rw [q3]; exact Nat.le_of_ble_eq_true hl, ?_⟩
        have np' : p ∉ ρ' := (g.tmp p List.mem_cons_self).1
        refine h ρ' _ _ ?_ ((g.wrG List.mem_cons_self rfl).less fun a m => List.mem_cons_of_mem _ m) ?_
        · have e5 : Ext ρ H ρ' H' := (Ext.upd hpn).trans e
          refine ⟨e5.pre, fun a o ha na nt => ?_, fun a ps ha na => ?_, e5.new⟩
          · rw [upd_ne (ne_of_none ha hpn)]
            exact e5.keep a o ha na nt
          · rw [upd_ne (ne_of_none ha hpn)]
            exact e5.tbl a ps ha na
        · unfold rep
          refine ⟨p, mergeK [] ys, rfl, ⟨⟨np', np.2⟩, upd_same⟩, ?_⟩
          have q4 : repk (G.tm (p :: τ)) cm ρ' H' (mergeD [] kvs) (mergeK [] ys) := merge_ok q2 (by unfold repk; rfl)
          exact (q4.mv (Mv.wr List.mem_cons_self) _ _).mv (Mv.less fun a m => List.mem_cons_of_mem _ m) _ _
      · exact False.elim h
theorem se_dct0 : SE G Y cf k C (.dct .nil) (.Dict [] [] pos) := fun τ X cm o cx ρ H mh σ fr st Q h => by
  unfold evE evEs at h
  refine of_pe pe_dnewK fun p hp => ?_
  refine h ρ _ _ (Ext.upd hp) (st.gd.new hp) ?_
  unfold rep
  refine ⟨p, [], rfl, ⟨st.gd.fresh2 hp, upd_same⟩, ?_⟩
  show repk _ _ _ _ [] []
  unfold repk
  rfl
/-- d.get(k, x) -/
theorem se_dget {apos cpos : Pos} (hb : plO a' = true) (hl : (apos.endLine == cpos.line) = true) (hp1 : pl b' = true) (hp2 : pl c' = true) (ha : SE G Y cf k C a a') (hbb : SE G Y cf k C b b') (hcc : SE G Y cf k C c c') :
    SE G Y cf k C (.dget a b c) (.Call (.Attribute a' "get" apos) [b', c'] [] cpos) := fun τ X cm o cx ρ H mh σ fr st Q h => by
  unfold evE at h
  have tr : backTo cpos (starEach [b', c'] X.env) = [(false, eval b' X.env), (false, eval c' X.env)] := by
    rw [pl_star hp1, pl_star hp2]
    rfl
  refine of_pe (pe_dget2 (by have := cx.units; omega) pe_w pe_w pe_w ⟨plO_eq hb, few_all (n := 0) (by rw [List.all_cons, List.all_cons, hp1, hp2]; rfl) (show 2 < 30 by decide), hl, tr⟩) ?_
  refine ha τ X cm o cx ρ H mh σ fr st _ (h.seq fun d1 mh1 ρ1 H1 v1 _ e1 g1 r1 h1 => ?_)
  cases hd1 : dicOf mh1 d1 with
  | none =>
    rw [hd1] at h1
    exact False.elim h1
  | some kv0 =>
    rw [hd1] at h1
    obtain ⟨ad, ys0, rfl, q2, q3⟩ := dic_of g1 r1 hd1
    refine ⟨ad, rfl, .inl ⟨ys0, .inl q2⟩, ?_⟩
    have h1 : RK (G.tm τ) Y X σ (rep (G.tm τ) cm) ρ1 H1 ((evE Y.g cf o b fr mh1).bind fun y h2 => (evE Y.g cf o c fr h2).bind fun z h3 => match dicOf h3 d1 with
      | some kvs => if keyB y = true then .ok ((lookD y kvs).getD z) h3 else .stk
      | none => .stk) Q := h1
    refine hbb τ X cm o cx ρ1 H1 mh1 σ fr (st.step e1 g1) _ (h1.seq fun d2 mh2 ρ2 H2 v2 _ e2 g2 r2 h2 => ?_)
    refine hcc τ X cm o cx ρ2 H2 mh2 σ fr ((st.step e1 g1).step e2 g2) _ (h2.seq fun d3 mh3 ρ3 H3 v3 _ e3 g3 r3 h3 => ?_)
    split at h3
    · rename_i kvs hd3
      split at h3
      · rename_i hk
        obtain ⟨ad2, ys, w1, w2, w3⟩ := dic_of g3 ((r1.mono (Deeper.refl _) e2).mono (Deeper.refl _) e3) hd3
        cases w1
        obtain ⟨ky, hky⟩ := keyB_some hk
        have ek := key_rep hky (r2.mono (Deeper.refl _) e3)
        obtain ⟨l1, l2⟩ := look_ok hky w3
        refine ⟨valV ys ky, .inl ⟨ys, ky, .inl w2, ek, rfl⟩, ?_⟩
        cases hlk : lookD d2 kvs with
        | none =>
          rw [hlk] at h3
          rw [l2 hlk]
          exact h3 ρ3 H3 v3 (Ext.refl _ _) g3 r3
        | some d =>
          rw [hlk] at h3
          obtain ⟨w, w4, w5⟩ := l1 d hlk
          rw [w4]
          exact h3 ρ3 H3 w (Ext.refl _ _) g3 w5
      · exact False.elim h3
    · exact False.elim h3
end
end FS

-- text FsX3
set_option Elab.async false
set_option linter.all false
set_option maxHeartbeats 1000000
/-! FsX3: x += a list; a list's count of a text. -/
namespace FS
open PySem PySem.Spec PyProof.Rows L2 LamX
section
variable {J : JC} {G : GD} {Y : GX} {cf : CF} {k : Nat} {C : SC} {pos : Pos} {a b : E} {a' b' : Expr}
theorem extAt_ok {h h3 : MH} {x d : D} (e : extAt h x d = some h3) : ∃ n xs ys, x = .ref n ∧ d = .lst ys ∧ h[n]? = some (.lst xs) ∧ noClos ys = true ∧ xs.length + ys.length ≤ line ∧ h3 = h.set n (.lst (xs ++ ys)) := by
  unfold extAt at e
  split at e
  · rename_i n ys
    split at e
    · rename_i xs hx
      split at e
      · rename_i hc
        cases e
        rw [Bool.and_eq_true] at hc
        exact ⟨n, xs, ys, rfl, rfl, hx, hc.1, Nat.le_of_ble_eq_true hc.2, rfl⟩
      · cases e
    · cases e
  · cases e
/-- x += e, of a list that is changed -/
theorem ss_ext {i : Nat} {x : Str} {p : Pos} (hi : C.N[i]? = some x) (hx : C.sc.names.lookup x = some .local ∨ (C.sc.names.lookup x = some .cell ∧ C.fnc x = true)) (ha : SE G Y cf k C a a') : SSt G Y cf k C (.ext i a) (.AugAssign (.Name x p) .Add a' pos) := fun τ X cm o cx sx ρ H mh σ fr st D h => by
  unfold evS at h
  obtain ⟨l1, l2⟩ := cx.fnX hx
  refine of_ps (ps_aug (i := i) (ti := rExt2) cx.ndX (by rw [cx.N]; exact hi) l1 pe_w iop_ext l2) ?_
  cases hg : get fr i with
  | none =>
    rw [hg] at h
    exact False.elim h
  | some y =>
    rw [hg] at h
    obtain ⟨v, q1, q2⟩ := st.fr.at_ i y hg
    refine ⟨v, q1, ?_⟩
    refine ha τ X cm o cx ρ H mh σ fr st _ (h.seq st.fr fun d2 mh2 ρ2 H2 v2 _ e2 g2 r2 h2 => ?_)
    split at h2
    · rename_i h3 hq
      obtain ⟨n, xs, ys, rfl, rfl, hm, hc, hz, rfl⟩ := extAt_ok hq
      have q2' := q2.mono (Deeper.refl _) e2
      unfold rep at q2' r2
      obtain ⟨ad, rfl, had⟩ := q2'
      obtain ⟨bd, zs, rfl, im, rz⟩ := r2
      obtain ⟨us, hu, ru⟩ := g2.chg n ad _ had hm
      have ha2 : ad ∈ ρ2 := List.mem_of_getElem? had
      have es : σ.set i (some (V.ref ad)) = σ := by
        refine List.ext_getElem? fun j => ?_
        rw [List.getElem?_set]
        split
        · rename_i ej
          subst ej
          split
          · exact q1.symm
          · rename_i hl
            rw [List.getElem?_eq_none (Nat.le_of_not_lt hl)]
        · rfl
      refine ⟨ad, bd, us, zs, rfl, rfl, hu, im.2, by rw [← ru.length, ← rz.length]; exact Nat.le_trans hz (by rw [sizeLine_eq]; decide), ?_⟩
      show D.nx (σ.set i (some (V.ref ad))) _
      rw [es]
      exact h2 ρ2 _ σ (Ext.store ha2) (g2.store had hm hu (ru.app (reps.bare _ _ hc rz))) ((st.fr.ext e2).ext (Ext.store ha2))
    · exact False.elim h2
/-! ### xs.count(t) -/
theorem type_lcount : typeOf (.builtin "list.count") = pure (.type "method_descriptor") := by
  show builtinType _ = _
  rw [builtinType_eq_fast]
  kernel_rfl
def rCntS (K : PySem.W.Frag) : V → List V → Hp → VK → Prop := fun x xs H Q => ∃ (p : Addr) (ws : List (List Nat)) (t : List Nat), x = .ref p ∧ xs = [.str (SX.S t)] ∧ SqL K H p ((ws.map SX.S).map V.str) ∧ Q (.int (ws.count t : Nat)) H
theorem strs_of : ∀ {ws : List Str} {us : List Value}, Vals (ws.map V.str) us → StrsAre us ws
  | [], us, r => by
    cases r
    exact .nil
  | w :: ws, us, r => by
    cases r with
    | cons r1 r2 =>
      obtain ⟨t, rfl⟩ := r1
      exact .cons w t (strs_of r2)
theorem S_inj {x y : List Nat} (h : SX.S x = SX.S y) : x = y := by
  have := congrArg (fun s : Str => s.cps.toList) h
  simpa using this
theorem cnt_eq (t : List Nat) : ∀ ws : List (List Nat), countIn (.str (SX.S t)) ((ws.map SX.S).map PyData.str) = ((ws.count t : Nat) : Int)
  | [] => rfl
  | w :: ws => by
    rw [List.map_cons, List.map_cons, countIn, cnt_eq t ws, List.count_cons]
    have hs : same (.str (SX.S w)) (.str (SX.S t)) = (w == t) := by
      show (SX.S w == SX.S t) = (w == t)
      by_cases e : w = t
      · rw [e]
        simp
      · have : SX.S w ≠ SX.S t := fun q => e (S_inj q)
        rw [beq_eq_false_iff_ne.mpr e, beq_eq_false_iff_ne.mpr this]
    first
      | rw [hs]
        by_cases e : (w == t) = true
        · rw [if_pos e, if_pos e]
          push_cast
          omega
        · rw [if_neg e, if_neg e]
          push_cast
          omega
theorem mt_lcntS {X : Cx} : MtR X "list.count" (rCntS X.K) := by
  intro pins s σ H x xs v us Q I rx rxs h
  obtain ⟨p, ws, t, rfl, rfl, hs, q⟩ := h
  cases rx
  obtain ⟨u, rfl, ru⟩ := rxs.one
  obtain ⟨tk, rfl⟩ := ru
  obtain ⟨its, rv, pl, _⟩ := I.list hs
  refine count_list_strs (vs := its) pl.isList (strs_of rv) ?_
  rw [cnt_eq]
  exact ⟨.int (ws.count t : Nat), H, I.tok _, ⟨_, rfl⟩, q⟩
theorem se_lcnt {apos cpos : Pos} (hb : plO a' = true) (hl : (apos.endLine == cpos.line) = true) (hp : pl b' = true) (ha : SE G Y cf k C a a') (hbb : SE G Y cf k C b b') : SE G Y cf k C (.lcnt a b) (.Call (.Attribute a' "count" apos) [b'] [] cpos) := fun τ X cm o cx ρ H mh σ fr st Q h => by
  unfold evE at h
  refine of_pe (pe_bm F.plainAttrs_list PySem.F.slot_list_count type_lcount mt_lcntS pe_w (pa_cons pe_w pa_nil (pl_star hp)) (plO_eq hb) (few_all (n := 0) (by rw [List.all_cons, hp]; rfl) (show 1 < 30 by decide)) hl (pl_star hp) rfl) ?_
  refine ha τ X cm o cx ρ H mh σ fr st _ (h.seq fun d1 mh1 ρ1 H1 v1 _ e1 g1 r1 h1 => ?_)
  split at h1
  · rename_i xs
    unfold rep at r1
    obtain ⟨ad, ys, rfl, im, ry⟩ := r1
    refine ⟨.inl ⟨rfl, ys, .inl (.inl im.2)⟩, ?_⟩
    refine hbb τ X cm o cx ρ1 H1 mh1 σ fr (st.step e1 g1) _ (h1.seq fun d2 mh2 ρ2 H2 v2 _ e2 g2 r2 h2 => ?_)
    split at h2
    · rename_i t
      split at h2
      · rename_i ws hw
        split at h2
        · unfold rep at r2
          subst r2
          have e4 := strsOf_ok hw ry
          refine ⟨ad, ws, _, rfl, rfl, ?_, ?_⟩
          · rw [← e4]
            exact SqL.of (im.ext e2 fun _ q => by cases q).2
          · exact h2 ρ2 H2 _ (Ext.refl _ _) g2 (by unfold rep; rfl)
        · exact False.elim h2
      · exact False.elim h2
    · exact False.elim h2
  · exact False.elim h1
end
end FS

-- text FsP
set_option Elab.async false
set_option linter.all false
set_option maxHeartbeats 4000000
/-! FsP: a look that ties the inner language to the program's text; what it shows. -/
namespace FS
open PySem PySem.Spec PyProof.Rows L2 LamX

def glbB (C : SC) (x : Str) : Bool := decide (C.sc.names.lookup x = some .globalImplicit) && !(x == ("__debug__" : Str))
def visB (C : SC) (i : Nat) (x : Str) : Bool := decide (C.N[i]? = some x) && (decide (C.sc.names.lookup x = some .local) || decide (C.sc.names.lookup x = some .cell) || decide (C.sc.names.lookup x = some .free)) && !(x == ("__debug__" : Str)) && !(x == ("__classdict__" : Str))
def strB (x : List Nat) (y : Str) : Bool := decide (y.cps.toList = x)
def ownNs (C : SC) (own : List Nat) : List (Str × Nat) := own.map fun i => ((C.N[i]?).getD "", i)
def opOk (an : Bool) (op : BoolOp) : Bool := match an, op with
  | true, .And => true
  | false, .Or => true
  | _, _ => false
mutual
def chkE (J : JC) (C : SC) : E → Expr → Bool
  | .k d, x => (match d, x with
    | .non, .Constant .none _ _ => true
    | .bl b, .Constant (.bool c) _ _ => b == c
    | .int n, .Constant (.int m) _ _ => decide (n = m)
    | .str s, .Constant (.str y) _ _ => strB s y
    | _, _ => false)
  | .var i, x => (match x with
    | .Name x _ => visB C i x
    | _ => false)
  | .glb i, x => (match x with
    | .Name x _ => decide (J.gln[i]? = some x) && glbB C x
    | _ => false)
  | .bin op a b, x => (match x with
    | .BinOp a' op' b' _ => decide (op' = opB op) && chkE J C a a' && chkE J C b b'
    | _ => false)
  | .neg a, x => (match x with
    | .UnaryOp .USub a' _ => chkE J C a a'
    | _ => false)
  | .bnot a, x => (match x with
    | .UnaryOp .Not a' _ => chkE J C a a'
    | _ => false)
  | .cmp op a b, x => (match x with
    | .Compare a' [op'] [b'] _ => decide (op' = opC op) && !behindInMarks op' b' && chkE J C a a' && chkE J C b b'
    | _ => false)
  | .chn op op2 a b c, x => (match x with
    | .Compare a' [op', op2'] [b', c'] _ => decide (op' = opC op) && decide (op2' = opC op2) && !lastMarks [op', op2'] [b', c'] && chkE J C a a' && chkE J C b b' && chkE J C c c'
    | _ => false)
  | .bop an es, x => (match x with
    | .BoolOp op es' _ => opOk an op && chkB J C es es'
    | _ => false)
  | .ife c a b, x => (match x with
    | .IfExp c' a' b' _ => chkC J C c c' && chkE J C a a' && chkE J C b b'
    | _ => false)
  | .ix a b, x => (match x with
    | .Subscript a' b' _ => pl b' && chkE J C a a' && chkE J C b b'
    | _ => false)
  | .sl a lo hi, x => (match x with
    | .Subscript a' (.Slice lo' hi' none _) _ => chkE J C a a' && (match lo', lo.isNop with
      | none, true => true
      | some l, false => chkE J C lo l
      | _, _ => false) && (match hi', hi.isNop with
      | none, true => true
      | some l, false => chkE J C hi l
      | _, _ => false)
    | _ => false)
  | .nop, _ => false
  | .tup es, x => (match x with
    | .Tuple es' _ _ => chkEs J C es es'
    | _ => false)
  | .lst _ es, x => (match x with
    | .List es' _ => chkEs J C es es'
    | _ => false)
  | .call f es, x => (match x with
    | .Call (.Name x _) es' [] _ => decide (J.fnn[f]? = some x) && glbB C x && chkEs J C es es'
    | _ => false)
  | .bi b es, x => (match x with
    | .Call (.Name x _) es' [] _ => decide (x = nmBi b) && glbB C x && J.bok x && !es'.isEmpty && chkEs J C es es'
    | _ => false)
  | .me m a es, x => (match x with
    | .Call (.Attribute a' nm apos) es' [] cpos => decide (nm = nmMe m) && plO a' && (apos.endLine == cpos.line) && decide (es'.length < 29) && chkE J C a a' && chkEs J C es es'
    | _ => false)
  | .lam l, x => (match x with
    | .Lambda params body scope pos => C.hasT && C.hasL && posB C.L pos && noPar params && lamSB C.sc scope && J.lamB l C params body scope
    | _ => false)
  | .app i, x => (match x with
    | .Call (.Name x _) [] [] _ => visB C i x
    | _ => false)
  | .lc own t it ifs e, x => (match x with
    | .ListComp e' [⟨tg, iter', ifs', 0⟩] scope _ => blkC C.N C.sc scope (ownNs C own) && chkT (blkSC C scope) t tg && (tNs t).all own.contains && nset iter' && chkI J C it tg iter' && chkCf J (blkSC C scope) ifs ifs' && chkE J (blkSC C scope) e e'
    | _ => false)
  | .gen q own t it ifs e, x => (match x with
    | .Call (.Name nm _) [.GeneratorExp e' [⟨tg, iter', ifs', 0⟩] scope gpos] [] _ => C.hasT && Nat.blt 0 C.gn && decide (nm = gN q) && decide (C.sc.names.lookup nm = some .globalImplicit) && J.bok nm && !posB C.L gpos && genC C scope (ownNs C own) && chkT (genSC C scope) t tg && (tNs t).all own.contains && gfold iter' && chkI J C it tg iter' && chkCf J (genSC C scope) ifs ifs' && chkE J (genSC C scope) e e'
    | _ => false)
  | .fs es, x => (match x with
    | .JoinedStr (p1 :: p2 :: ps) _ => chkP J C es (p1 :: p2 :: ps)
    | _ => false)
  | .at e f, x => (match x with
    | .Attribute a' nm _ => decide (J.atl[f]? = some nm) && plO a' && chkE J C e a'
    | _ => false)
  | .new c es, x => (match x with
    | .Call (.Name x _) es' [] _ => decide (J.ocl[c]? = some x) && glbB C x && chkEs J C es es'
    | _ => false)
  | .mc m a es, x => (match x with
    | .Call (.Attribute a' nm apos) es' [] cpos => decide (J.atl[m]? = some nm) && plO a' && (apos.endLine == cpos.line) && decide (es'.length < 29) && chkE J C a a' && chkEs J C es es'
    | _ => false)
  | .dct es, x => (match x with
    | .Dict ks vs _ => (match es.isNil, ks, vs with
      | true, [], [] => true
      | false, k1 :: kr, _ => decide ((k1 :: kr).length ≤ 15) && chkD J C es (k1 :: kr) vs
      | _, _, _ => false)
    | _ => false)
  | .dget a b c, x => (match x with
    | .Call (.Attribute a' nm apos) [b', c'] [] cpos => decide (nm = ("get" : Str)) && plO a' && (apos.endLine == cpos.line) && pl b' && pl c' && chkE J C a a' && chkE J C b b' && chkE J C c c'
    | _ => false)
  | .lcnt a b, x => (match x with
    | .Call (.Attribute a' nm apos) [b'] [] cpos => decide (nm = ("count" : Str)) && plO a' && (apos.endLine == cpos.line) && pl b' && chkE J C a a' && chkE J C b b'
    | _ => false)
  | .tgen own t it ifs e, x => (match x with
    | .Call (.Name nm _) [.GeneratorExp e' [⟨tg, iter', ifs', 0⟩] scope gpos] [] _ => C.hasT && Nat.blt 2 C.gn && decide (nm = ("tuple" : Str)) && decide (C.sc.names.lookup nm = some .globalImplicit) && J.bok nm && !posB C.L gpos && genC C scope (ownNs C own) && chkT (genSC C scope) t tg && (tNs t).all own.contains && gfold iter' && chkI J C it tg iter' && chkCf J (genSC C scope) ifs ifs' && chkE J (genSC C scope) e e'
    | _ => false)
/-- keys and values, one after the other -/
def chkD (J : JC) (C : SC) : Es → List (Option Expr) → List Expr → Bool
  | .nil, [], [] => true
  | .cons a (.cons b r), some ka :: ks, va :: vs => chkE J C a ka && chkE J C b va && chkD J C r ks vs
  | _, _, _ => false
def chkEs (J : JC) (C : SC) : Es → List Expr → Bool
  | .nil, [] => true
  | .cons e es, a :: as => pl a && chkE J C e a && chkEs J C es as
  | _, _ => false
/-- parts of a text -/
def chkP (J : JC) (C : SC) : Es → List Expr → Bool
  | .nil, [] => true
  | .cons e es, a :: as => (match a with
    | .FormattedValue a' (-1) none _ => chkE J C e a'
    | .Constant (.str y) _ _ => (match e with
      | .k (.str x) => strB x y
      | _ => false)
    | _ => false) && chkP J C es as
  | _, _ => false
def chkB (J : JC) (C : SC) : Es → List Expr → Bool
  | .cons e es, a :: as => chkE J C e a && (match es.isNil, as with
    | true, [] => true
    | false, _ :: _ => chkB J C es as
    | _, _ => false)
  | _, _ => false
def chkC (J : JC) (C : SC) : Ct → Expr → Bool
  | .v e, x => tst x && chkE J C e x
  | .nt c, x => (match x with
    | .UnaryOp .Not a' _ => chkC J C c a'
    | _ => false)
  | .bop an cs, x => (match x with
    | .BoolOp op es' _ => opOk an op && chkCs J C cs es'
    | _ => false)
  | .ife c a b, x => (match x with
    | .IfExp c' a' b' _ => chkC J C c c' && chkC J C a a' && chkC J C b b'
    | _ => false)
  | .cmp op a b, x => (match x with
    | .Compare a' [op'] [b'] _ => decide (op' = opC op) && !behindInMarks op' b' && chkE J C a a' && chkE J C b b'
    | _ => false)
  | .chn op op2 a b c, x => (match x with
    | .Compare a' [op', op2'] [b', c'] _ => decide (op' = opC op) && decide (op2' = opC op2) && !lastMarks [op', op2'] [b', c'] && chkE J C a a' && chkE J C b b' && chkE J C c c'
    | _ => false)
def chkCs (J : JC) (C : SC) : Cs → List Expr → Bool
  | .cons e es, a :: as => chkC J C e a && (match es, as with
    | .nil, [] => true
    | .cons .., _ :: _ => chkCs J C es as
    | _, _ => false)
  | _, _ => false
/-- the tests of a comprehension: none or one -/
def chkCf (J : JC) (C : SC) : Cs → List Expr → Bool
  | .nil, [] => true
  | .cons e .nil, [a] => chkC J C e a
  | _, _ => false
def chkI (J : JC) (C : SC) : Iw → Expr → Expr → Bool
  | .e a, _, x => chkE J C a x
  | .rng es, _, x => (match x with
    | .Call (.Name x _) es' [] _ => decide (x = ("range" : Str)) && glbB C x && J.bok x && (es'.length == 1 || es'.length == 2) && chkEs J C es es'
    | _ => false)
  | .enum es, tg, x => (match tg, x with
    | .Tuple _ _ _, .Call (.Name x _) [a'] [] _ => decide (x = ("enumerate" : Str)) && glbB C x && J.bok x && chkEs J C es [a']
    | _, _ => false)
  | .zip es, tg, x => (match tg, x with
    | .Tuple _ _ _, .Call (.Name x _) [a', b'] [] _ => decide (x = ("zip" : Str)) && glbB C x && J.bok x && chkEs J C es [a', b']
    | _, _ => false)
end

section
variable {G : GD} {Y : GX} {cf : CF} {k : Nat} {J : JC}
theorem glbB_of {C : SC} {x : Str} (h : glbB C x = true) : C.sc.names.lookup x = some .globalImplicit ∧ (x == ("__debug__" : Str)) = false := by
  unfold glbB at h
  rw [Bool.and_eq_true, decide_eq_true_eq, Bool.not_eq_true'] at h
  exact h
theorem visB_of {C : SC} {i : Nat} {x : Str} (h : visB C i x = true) : C.N[i]? = some x ∧ Vis C.sc x ∧ (x == ("__debug__" : Str)) = false ∧ (x == ("__classdict__" : Str)) = false := by
  unfold visB at h
  simp only [Bool.and_eq_true, Bool.or_eq_true, decide_eq_true_eq, Bool.not_eq_true'] at h
  obtain ⟨⟨⟨h1, h2⟩, h3⟩, h4⟩ := h
  refine ⟨h1, ?_, h3, h4⟩
  rcases h2 with (h2 | h2) | h2
  · exact .inl h2
  · exact .inr (.inl h2)
  · exact .inr (.inr h2)
theorem strB_of {x : List Nat} {y : Str} (h : strB x y = true) : y = SX.S x := by
  unfold strB at h
  have e := of_decide_eq_true h
  rw [← e]
theorem ownNs_snd (C : SC) (own : List Nat) : (ownNs C own).map (·.2) = own := by
  unfold ownNs
  rw [List.map_map]
  exact List.map_id own
theorem chkEs_pl {C : SC} : ∀ {es : Es} {as : List Expr}, chkEs J C es as = true → as.all pl = true ∧ es.len = as.length
  | .nil, [], _ => ⟨rfl, rfl⟩
  | .cons e es, a :: as, h => by
    unfold chkEs at h
    rw [Bool.and_eq_true, Bool.and_eq_true] at h
    obtain ⟨h1, h2⟩ := chkEs_pl h.2
    refine ⟨by rw [List.all_cons, h.1.1, h1]; rfl, ?_⟩
    show es.len + 1 = as.length + 1
    rw [h2]
  | .nil, _ :: _, h => by unfold chkEs at h; cases h
  | .cons _ _, [], h => by unfold chkEs at h; cases h
theorem se_nop_so {C : SC} {lo : E} {lo' : Option Expr} (h : (match lo', lo.isNop with
      | none, true => true
      | some l, false => chkE J C lo l
      | _, _ => false) = true) (hs : ∀ l, chkE J C lo l = true → SE G Y cf k C lo l) : SO G Y cf k C lo lo' := by
  split at h
  · rename_i hn
    cases lo <;> first | exact True.intro | cases hn
  · rename_i l hn
    have := hs l h
    cases lo <;> first | exact this | cases hn
  · cases h
theorem isNil_cons {es : Es} (h : es.isNil = false) : ∃ a r, es = .cons a r := by
  cases es with
  | nil => cases h
  | cons a r => exact ⟨a, r, rfl⟩
theorem isNil_nil {es : Es} (h : es.isNil = true) : es = .nil := by
  cases es with
  | nil => rfl
  | cons a r => cases h
mutual
theorem chkE_ok (ok : GOk J G Y) (hF : CallF G Y cf k) (hL : CallL G Y cf k) : ∀ (e : E) (C : SC) (a : Expr), chkE J C e a = true → SE G Y cf k C e a
  | .k d, C, a, h => by
    unfold chkE at h
    split at h
    · exact se_non
    · rw [eq_of_beq h]
      exact se_bl
    · rw [of_decide_eq_true h]
      exact se_int
    · exact se_str (strB_of h)
    · cases h
  | .var i, C, a, h => by
    unfold chkE at h
    split at h
    · obtain ⟨h1, h2, h3, h4⟩ := visB_of h
      exact se_var h1 h2 h3 h4
    · cases h
  | .glb i, C, a, h => by
    unfold chkE at h
    split at h
    · rw [Bool.and_eq_true, decide_eq_true_eq] at h
      obtain ⟨h1, h2⟩ := glbB_of h.2
      exact se_glb ok h.1 h1 h2
    · cases h
  | .bin op a b, C, x, h => by
    unfold chkE at h
    split at h
    · rw [Bool.and_eq_true, Bool.and_eq_true, decide_eq_true_eq] at h
      obtain ⟨⟨rfl, h1⟩, h2⟩ := h
      exact se_bin (chkE_ok ok hF hL a C _ h1) (chkE_ok ok hF hL b C _ h2)
    · cases h
  | .neg a, C, x, h => by
    unfold chkE at h
    split at h
    · exact se_neg (chkE_ok ok hF hL a C _ h)
    · cases h
  | .bnot a, C, x, h => by
    unfold chkE at h
    split at h
    · exact se_bnot (chkE_ok ok hF hL a C _ h)
    · cases h
  | .cmp op a b, C, x, h => by
    unfold chkE at h
    split at h
    · simp only [Bool.and_eq_true, decide_eq_true_eq, Bool.not_eq_true'] at h
      obtain ⟨⟨⟨rfl, h0⟩, h1⟩, h2⟩ := h
      exact se_cmp (chkE_ok ok hF hL a C _ h1) (chkE_ok ok hF hL b C _ h2) h0
    · cases h
  | .chn op op2 a b c, C, x, h => by
    unfold chkE at h
    split at h
    · simp only [Bool.and_eq_true, decide_eq_true_eq, Bool.not_eq_true'] at h
      obtain ⟨⟨⟨⟨⟨rfl, rfl⟩, h0⟩, h1⟩, h2⟩, h3⟩ := h
      exact se_chn (chkE_ok ok hF hL a C _ h1) (chkE_ok ok hF hL b C _ h2) (chkE_ok ok hF hL c C _ h3) h0
    · cases h
  | .bop an es, C, x, h => by
    unfold chkE at h
    split at h
    · rename_i op es' pos
      rw [Bool.and_eq_true] at h
      exact se_bop (chkB_ok ok hF hL es C es' an op pos h.1 h.2)
    · cases h
  | .ife c a b, C, x, h => by
    unfold chkE at h
    split at h
    · rw [Bool.and_eq_true, Bool.and_eq_true] at h
      exact se_ife (chkC_ok ok hF hL c C _ h.1.1) (chkE_ok ok hF hL a C _ h.1.2) (chkE_ok ok hF hL b C _ h.2)
    · cases h
  | .ix a b, C, x, h => by
    unfold chkE at h
    split at h
    · rw [Bool.and_eq_true, Bool.and_eq_true] at h
      exact se_ix (chkE_ok ok hF hL a C _ h.1.2) (chkE_ok ok hF hL b C _ h.2) h.1.1
    · cases h
  | .sl a lo hi, C, x, h => by
    unfold chkE at h
    split at h
    · rw [Bool.and_eq_true, Bool.and_eq_true] at h
      exact se_sl (chkE_ok ok hF hL a C _ h.1.1) (se_nop_so h.1.2 fun l hl => chkE_ok ok hF hL lo C l hl) (se_nop_so h.2 fun l hl => chkE_ok ok hF hL hi C l hl)
    · cases h
  | .nop, C, x, h => by unfold chkE at h; cases h
  | .tup es, C, x, h => by
    unfold chkE at h
    split at h
    · exact se_tup (chkEs_ok ok hF hL es C _ h)
    · cases h
  | .lst m es, C, x, h => by
    unfold chkE at h
    split at h
    · exact se_lst (chkEs_ok ok hF hL es C _ h)
    · cases h
  | .call f es, C, x, h => by
    unfold chkE at h
    split at h
    · rename_i nm p es' pos
      rw [Bool.and_eq_true, Bool.and_eq_true, decide_eq_true_eq] at h
      obtain ⟨⟨h1, h2⟩, h3⟩ := h
      obtain ⟨h4, h5⟩ := glbB_of h2
      obtain ⟨hp, hl⟩ := chkEs_pl h3
      have hs := chkEs_ok ok hF hL es C es' h3
      cases es' with
      | nil =>
        cases es with
        | nil => exact se_call0 ok hF h1 h4 h5
        | cons a r => cases hl
      | cons a' r' =>
        rw [List.all_cons, Bool.and_eq_true] at hp
        exact se_call ok hF h1 h4 h5 hp.1 hp.2 hs
    · cases h
  | .bi b es, C, x, h => by
    unfold chkE at h
    split at h
    · rename_i nm p es' pos
      simp only [Bool.and_eq_true, decide_eq_true_eq] at h
      obtain ⟨⟨⟨⟨rfl, h2⟩, h3⟩, h4⟩, h5⟩ := h
      obtain ⟨h6, _⟩ := glbB_of h2
      obtain ⟨hp, hl⟩ := chkEs_pl h5
      have hs := chkEs_ok ok hF hL es C es' h5
      cases es' with
      | nil => cases h4
      | cons a' r' =>
        rw [List.all_cons, Bool.and_eq_true] at hp
        exact se_bi ok h6 h3 hp.1 hp.2 hs
    · cases h
  | .me m a es, C, x, h => by
    unfold chkE at h
    split at h
    · rename_i a' nm apos es' cpos
      simp only [Bool.and_eq_true, decide_eq_true_eq] at h
      obtain ⟨⟨⟨⟨⟨rfl, h2⟩, h3⟩, h4⟩, h5⟩, h6⟩ := h
      obtain ⟨hp, hl⟩ := chkEs_pl h6
      have hs := chkEs_ok ok hF hL es C es' h6
      have ha := chkE_ok ok hF hL a C _ h5
      cases es' with
      | nil =>
        cases es with
        | nil => exact se_me0 h2 h3 ha
        | cons a r => cases hl
      | cons b' r' =>
        rw [List.all_cons, Bool.and_eq_true] at hp
        rw [List.length_cons] at h4
        exact se_me h2 h3 hp.1 hp.2 (by omega) ha hs
    · cases h
  | .lam l, C, x, h => by
    unfold chkE at h
    split at h
    · simp only [Bool.and_eq_true] at h
      obtain ⟨⟨⟨⟨⟨h1, h2⟩, h3⟩, h4⟩, h5⟩, h6⟩ := h
      exact se_lam ok h1 h2 h3 h4 h5 h6
    · cases h
  | .app i, C, x, h => by
    unfold chkE at h
    split at h
    · obtain ⟨h1, h2, h3, h4⟩ := visB_of h
      exact se_app hL h1 h2 h3 h4
    · cases h
  | .lc own t it ifs e, C, x, h => by
    unfold chkE at h
    split at h
    · simp only [Bool.and_eq_true] at h
      obtain ⟨⟨⟨⟨⟨⟨h1, h2⟩, h3⟩, h4⟩, h5⟩, h6⟩, h7⟩ := h
      refine se_lc h1 (ownNs_snd C own) h2 (fun i hi => ?_) h4 (chkI_ok ok hF hL it C _ _ h5) (chkCf_ok ok hF hL ifs _ _ h6) (chkE_ok ok hF hL e _ _ h7)
      have := List.all_eq_true.mp h3 i hi
      simpa using this
    · cases h
  | .gen q own t it ifs e, C, x, h => by
    unfold chkE at h
    split at h
    · simp only [Bool.and_eq_true, decide_eq_true_eq, Bool.not_eq_true'] at h
      obtain ⟨⟨⟨⟨⟨⟨⟨⟨⟨⟨⟨⟨h1, h2⟩, h3⟩, h4⟩, h5⟩, h6⟩, h7⟩, h8⟩, h9⟩, h10⟩, h11⟩, h12⟩, h13⟩ := h
      refine se_gen ok h1 (Nat.le_of_ble_eq_true h2) h3 h4 h5 h6 h7 (ownNs_snd C own) h8 (fun i hi => ?_) h10 (chkI_ok ok hF hL it C _ _ h11) (chkCf_ok ok hF hL ifs _ _ h12) (chkE_ok ok hF hL e _ _ h13)
      have := List.all_eq_true.mp h9 i hi
      simpa using this
    · cases h
  | .fs es, C, x, h => by
    unfold chkE at h
    split at h
    · exact se_fs (chkP_ok ok hF hL es C _ h)
    · cases h
  | .at e f, C, x, h => by
    unfold chkE at h
    split at h
    · simp only [Bool.and_eq_true, decide_eq_true_eq] at h
      exact se_at ok h.1.1 h.1.2 (chkE_ok ok hF hL e C _ h.2)
    · cases h
  | .new c es, C, x, h => by
    unfold chkE at h
    split at h
    · rename_i nm p es' pos
      simp only [Bool.and_eq_true, decide_eq_true_eq] at h
      obtain ⟨⟨h1, h2⟩, h3⟩ := h
      obtain ⟨h4, h5⟩ := glbB_of h2
      obtain ⟨hp, hl⟩ := chkEs_pl h3
      have hs := chkEs_ok ok hF hL es C es' h3
      cases es' with
      | nil =>
        cases es with
        | nil => exact se_new0 ok hF h1 h4 h5
        | cons a r => cases hl
      | cons b' r' =>
        rw [List.all_cons, Bool.and_eq_true] at hp
        exact se_new ok hF h1 h4 h5 hp.1 hp.2 hs
    · cases h
  | .mc m a es, C, x, h => by
    unfold chkE at h
    split at h
    · rename_i a' nm apos es' cpos
      simp only [Bool.and_eq_true, decide_eq_true_eq] at h
      obtain ⟨⟨⟨⟨⟨h1, h2⟩, h3⟩, h4⟩, h5⟩, h6⟩ := h
      obtain ⟨hp, hl⟩ := chkEs_pl h6
      have hs := chkEs_ok ok hF hL es C es' h6
      have ha := chkE_ok ok hF hL a C _ h5
      cases es' with
      | nil =>
        cases es with
        | nil => exact se_mc0 ok hF h1 h2 h3 ha
        | cons a r => cases hl
      | cons b' r' =>
        rw [List.all_cons, Bool.and_eq_true] at hp
        rw [List.length_cons] at h4
        exact se_mc ok hF h1 h2 h3 hp.1 hp.2 (by omega) ha hs
    · cases h
  | .dct es, C, x, h => by
    unfold chkE at h
    split at h
    · split at h
      · rename_i hn
        rw [isNil_nil hn]
        exact se_dct0
      · rw [Bool.and_eq_true, decide_eq_true_eq] at h
        exact se_dct (fun q => by cases q) h.1 (chkD_ok ok hF hL es C _ _ h.2)
      · cases h
    · cases h
  | .dget a b c, C, x, h => by
    unfold chkE at h
    split at h
    · simp only [Bool.and_eq_true, decide_eq_true_eq] at h
      obtain ⟨⟨⟨⟨⟨⟨⟨rfl, h2⟩, h3⟩, h4⟩, h5⟩, h6⟩, h7⟩, h8⟩ := h
      exact se_dget h2 h3 h4 h5 (chkE_ok ok hF hL a C _ h6) (chkE_ok ok hF hL b C _ h7) (chkE_ok ok hF hL c C _ h8)
    · cases h
  | .lcnt a b, C, x, h => by
    unfold chkE at h
    split at h
    · simp only [Bool.and_eq_true, decide_eq_true_eq] at h
      obtain ⟨⟨⟨⟨⟨rfl, h2⟩, h3⟩, h4⟩, h5⟩, h6⟩ := h
      exact se_lcnt h2 h3 h4 (chkE_ok ok hF hL a C _ h5) (chkE_ok ok hF hL b C _ h6)
    · cases h
  | .tgen own t it ifs e, C, x, h => by
    unfold chkE at h
    split at h
    · simp only [Bool.and_eq_true, decide_eq_true_eq, Bool.not_eq_true'] at h
      obtain ⟨⟨⟨⟨⟨⟨⟨⟨⟨⟨⟨⟨h1, h2⟩, rfl⟩, h4⟩, h5⟩, h6⟩, h7⟩, h8⟩, h9⟩, h10⟩, h11⟩, h12⟩, h13⟩ := h
      refine se_tgen ok h1 (Nat.le_of_ble_eq_true h2) h4 h5 h6 h7 (ownNs_snd C own) h8 (fun i hi => ?_) h10 (chkI_ok ok hF hL it C _ _ h11) (chkCf_ok ok hF hL ifs _ _ h12) (chkE_ok ok hF hL e _ _ h13)
      have := List.all_eq_true.mp h9 i hi
      simpa using this
    · cases h
theorem chkD_ok (ok : GOk J G Y) (hF : CallF G Y cf k) (hL : CallL G Y cf k) : ∀ (e : Es) (C : SC) (ks : List (Option Expr)) (vs : List Expr), chkD J C e ks vs = true → SPr G Y cf k C e ks vs
  | .nil, C, [], [], _ => True.intro
  | .cons a (.cons b r), C, some ka :: ks, va :: vs, h => by
    unfold chkD at h
    rw [Bool.and_eq_true, Bool.and_eq_true] at h
    exact ⟨chkE_ok ok hF hL a C ka h.1.1, chkE_ok ok hF hL b C va h.1.2, chkD_ok ok hF hL r C ks vs h.2⟩
  | .nil, _, some _ :: _, _, h => by unfold chkD at h; cases h
  | .nil, _, none :: _, _, h => by unfold chkD at h; cases h
  | .nil, _, [], _ :: _, h => by unfold chkD at h; cases h
  | .cons _ .nil, _, [], _, h => by unfold chkD at h; cases h
  | .cons _ .nil, _, _ :: _, _, h => by unfold chkD at h; cases h
  | .cons _ (.cons _ _), _, [], _, h => by unfold chkD at h; cases h
  | .cons _ (.cons _ _), _, none :: _, _, h => by unfold chkD at h; cases h
  | .cons _ (.cons _ _), _, some _ :: _, [], h => by unfold chkD at h; cases h
theorem chkEs_ok (ok : GOk J G Y) (hF : CallF G Y cf k) (hL : CallL G Y cf k) : ∀ (e : Es) (C : SC) (a : List Expr), chkEs J C e a = true → SEs G Y cf k C e a
  | .nil, C, [], _ => ses_nil
  | .cons e es, C, a :: as, h => by
    unfold chkEs at h
    rw [Bool.and_eq_true, Bool.and_eq_true] at h
    exact ses_cons h.1.1 (chkE_ok ok hF hL e C a h.1.2) (chkEs_ok ok hF hL es C as h.2)
  | .nil, _, _ :: _, h => by unfold chkEs at h; cases h
  | .cons _ _, _, [], h => by unfold chkEs at h; cases h
theorem chkP_ok (ok : GOk J G Y) (hF : CallF G Y cf k) (hL : CallL G Y cf k) : ∀ (e : Es) (C : SC) (a : List Expr), chkP J C e a = true → SPs G Y cf k C e a
  | .nil, C, [], _ => .nil
  | .cons e es, C, a :: as, h => by
    unfold chkP at h
    rw [Bool.and_eq_true] at h
    refine .cons ?_ (chkP_ok ok hF hL es C as h.2)
    have h1 := h.1
    split at h1
    · exact sp_fmt (chkE_ok ok hF hL e C _ h1)
    · split at h1
      · exact sp_str (strB_of h1)
      · cases h1
    · cases h1
  | .nil, _, _ :: _, h => by unfold chkP at h; cases h
  | .cons _ _, _, [], h => by unfold chkP at h; cases h
theorem chkB_ok (ok : GOk J G Y) (hF : CallF G Y cf k) (hL : CallL G Y cf k) : ∀ (e : Es) (C : SC) (a : List Expr) (an : Bool) (op : BoolOp) (pos : Pos), opOk an op = true → chkB J C e a = true → SB G Y cf k C an e (.BoolOp op a pos)
  | .cons e es, C, a :: as, an, op, pos, ho, h => by
    unfold chkB at h
    rw [Bool.and_eq_true] at h
    have h1 := chkE_ok ok hF hL e C a h.1
    have h2 := h.2
    split at h2
    · rename_i hn
      rw [isNil_nil hn]
      exact sb_one h1
    · rename_i b bs hn
      have h3 := chkB_ok ok hF hL es C (b :: bs) an op pos ho h2
      unfold opOk at ho
      split at ho
      · exact sb_and hn h1 h3
      · exact sb_or hn h1 h3
      · cases ho
    · cases h2
  | .nil, _, _, _, _, _, _, h => by unfold chkB at h; cases h
  | .cons _ _, _, [], _, _, _, _, h => by unfold chkB at h; cases h
theorem chkC_ok (ok : GOk J G Y) (hF : CallF G Y cf k) (hL : CallL G Y cf k) : ∀ (e : Ct) (C : SC) (a : Expr), chkC J C e a = true → ST G Y cf k C e a
  | .v e, C, a, h => by
    unfold chkC at h
    rw [Bool.and_eq_true] at h
    exact st_v h.1 (chkE_ok ok hF hL e C a h.2)
  | .nt c, C, a, h => by
    unfold chkC at h
    split at h
    · exact st_nt (chkC_ok ok hF hL c C _ h)
    · cases h
  | .bop an cs, C, a, h => by
    unfold chkC at h
    split at h
    · rename_i op es' pos
      rw [Bool.and_eq_true] at h
      exact st_bop (chkCs_ok ok hF hL cs C es' an op pos h.1 h.2)
    · cases h
  | .ife c a b, C, x, h => by
    unfold chkC at h
    split at h
    · rw [Bool.and_eq_true, Bool.and_eq_true] at h
      exact st_ife (chkC_ok ok hF hL c C _ h.1.1) (chkC_ok ok hF hL a C _ h.1.2) (chkC_ok ok hF hL b C _ h.2)
    · cases h
  | .cmp op a b, C, x, h => by
    unfold chkC at h
    split at h
    · simp only [Bool.and_eq_true, decide_eq_true_eq, Bool.not_eq_true'] at h
      obtain ⟨⟨⟨rfl, h0⟩, h1⟩, h2⟩ := h
      exact st_cmp (chkE_ok ok hF hL a C _ h1) (chkE_ok ok hF hL b C _ h2) h0
    · cases h
  | .chn op op2 a b c, C, x, h => by
    unfold chkC at h
    split at h
    · simp only [Bool.and_eq_true, decide_eq_true_eq, Bool.not_eq_true'] at h
      obtain ⟨⟨⟨⟨⟨rfl, rfl⟩, h0⟩, h1⟩, h2⟩, h3⟩ := h
      exact st_chn (chkE_ok ok hF hL a C _ h1) (chkE_ok ok hF hL b C _ h2) (chkE_ok ok hF hL c C _ h3) h0
    · cases h
theorem chkCs_ok (ok : GOk J G Y) (hF : CallF G Y cf k) (hL : CallL G Y cf k) : ∀ (e : Cs) (C : SC) (a : List Expr) (an : Bool) (op : BoolOp) (pos : Pos), opOk an op = true → chkCs J C e a = true → SW G Y cf k C an e (.BoolOp op a pos)
  | .cons e es, C, a :: as, an, op, pos, ho, h => by
    unfold chkCs at h
    rw [Bool.and_eq_true] at h
    have h1 := chkC_ok ok hF hL e C a h.1
    have h2 := h.2
    split at h2
    · unfold opOk at ho
      split at ho
      · exact sw_and1 h1
      · exact sw_or1 h1
      · cases ho
    · rename_i b bs
      have h3 := chkCs_ok ok hF hL _ C _ an op pos ho h2
      unfold opOk at ho
      split at ho
      · exact sw_and h1 h3
      · exact sw_or h1 h3
      · cases ho
    · cases h2
  | .nil, _, _, _, _, _, _, h => by unfold chkCs at h; cases h
  | .cons _ _, _, [], _, _, _, _, h => by unfold chkCs at h; cases h
theorem chkCf_ok (ok : GOk J G Y) (hF : CallF G Y cf k) (hL : CallL G Y cf k) : ∀ (e : Cs) (C : SC) (a : List Expr), chkCf J C e a = true → SIf G Y cf k C e a
  | .nil, C, [], _ => .none
  | .cons e .nil, C, [a], h => by
    unfold chkCf at h
    exact .one (chkC_ok ok hF hL e C a h)
  | .nil, _, _ :: _, h => by unfold chkCf at h; cases h
  | .cons _ .nil, _, [], h => by unfold chkCf at h; cases h
  | .cons _ .nil, _, _ :: _ :: _, h => by unfold chkCf at h; cases h
  | .cons _ (.cons _ _), _, _, h => by unfold chkCf at h; cases h
theorem chkI_ok (ok : GOk J G Y) (hF : CallF G Y cf k) (hL : CallL G Y cf k) : ∀ (e : Iw) (C : SC) (tg a : Expr), chkI J C e tg a = true → SI G Y cf k C e tg a
  | .e e, C, tg, a, h => by
    unfold chkI at h
    exact si_e (chkE_ok ok hF hL e C a h)
  | .rng es, C, tg, a, h => by
    unfold chkI at h
    split at h
    · rename_i nm p es' pos
      simp only [Bool.and_eq_true, decide_eq_true_eq] at h
      obtain ⟨⟨⟨⟨rfl, h2⟩, h3⟩, h4⟩, h5⟩ := h
      obtain ⟨h6, _⟩ := glbB_of h2
      obtain ⟨hp, hl⟩ := chkEs_pl h5
      have hs := chkEs_ok ok hF hL es C es' h5
      match es', hp, hl, hs, h4 with
      | [a'], hp, hl, hs, _ =>
        rw [List.all_cons, Bool.and_eq_true] at hp
        exact si_rng1 ok h6 h3 hp.1 hl hs
      | [a', b'], hp, hl, hs, _ =>
        rw [List.all_cons, Bool.and_eq_true, List.all_cons, Bool.and_eq_true] at hp
        exact si_rng2 ok h6 h3 hp.1 hp.2.1 hl hs
    · cases h
  | .enum es, C, tg, a, h => by
    unfold chkI at h
    split at h
    · simp only [Bool.and_eq_true, decide_eq_true_eq] at h
      obtain ⟨⟨⟨rfl, h2⟩, h3⟩, h5⟩ := h
      obtain ⟨h6, _⟩ := glbB_of h2
      obtain ⟨hp, hl⟩ := chkEs_pl h5
      rw [List.all_cons, Bool.and_eq_true] at hp
      exact si_enum ok h6 h3 hp.1 (chkEs_ok ok hF hL es C _ h5)
    · cases h
  | .zip es, C, tg, a, h => by
    unfold chkI at h
    split at h
    · simp only [Bool.and_eq_true, decide_eq_true_eq] at h
      obtain ⟨⟨⟨rfl, h2⟩, h3⟩, h5⟩ := h
      obtain ⟨h6, _⟩ := glbB_of h2
      obtain ⟨hp, hl⟩ := chkEs_pl h5
      rw [List.all_cons, Bool.and_eq_true, List.all_cons, Bool.and_eq_true] at hp
      exact si_zip ok h6 h3 hp.1 hp.2.1 (chkEs_ok ok hF hL es C _ h5)
    · cases h
end
end
end FS

-- text FsQ
set_option Elab.async false
set_option linter.all false
set_option maxHeartbeats 4000000
/-! FsQ: the look at statements, defs, lambdas; what it shows. -/
namespace FS
open PySem PySem.Spec PyProof.Rows L2 LamX

def locB (C : SC) (i : Nat) (x : Str) : Bool := decide (C.N[i]? = some x) && decide (C.sc.names.lookup x = some .local)
def augB : Bop → Bool
  | .add => true
  | .sub => true
  | _ => false
theorem augB_of {op : Bop} (h : augB op = true) : op = .add ∨ op = .sub := by
  cases op <;> first | exact .inl rfl | exact .inr rfl | cases h
def stoB (C : SC) (x : Str) : Bool := decide (C.sc.names.lookup x = some .local) || (decide (C.sc.names.lookup x = some .cell) && C.fnc x)
theorem stoB_of {C : SC} {x : Str} (h : stoB C x = true) : C.sc.names.lookup x = some .local ∨ (C.sc.names.lookup x = some .cell ∧ C.fnc x = true) := by
  unfold stoB at h
  simp only [Bool.or_eq_true, Bool.and_eq_true, decide_eq_true_eq] at h
  exact h
def nosw (scope : Scope) (y : Str) : Bool := !(scope.names.any fun (n, k) => n == y && (k == .local || k == .cell))
mutual
def chkS (J : JC) (C : SC) : S → Stmt → Bool
  | .set t e, x => (match x with
    | .Assign [tg] e' _ => if ncompC C tg e' then chkT C t tg && nswC C tg e' && chkE J C e e' else (match t, e, tg, e' with
      | .nm i, .lc own t2 it ifs e2, .Name y py, .ListComp e2' [⟨tg2, iter', ifs', 0⟩] scope p =>
        locB C i y && (py.line == p.line) && nosw scope y && blkC C.N C.sc scope (ownNs C own) && chkT (blkSC C scope) t2 tg2 && (tNs t2).all own.contains && nset iter' && chkI J C it tg2 iter' && chkCf J (blkSC C scope) ifs ifs' && chkE J (blkSC C scope) e2 e2'
      | _, _, _, _ => false)
    | _ => false)
  | .par ts es, x => (match ts, x with
    | [i, j], .Assign [.Tuple [.Name x px, .Name y py] _ _] (.Tuple [b, c] _ _) _ => locB C i x && locB C j y && (py.line == px.line) && decide (x ≠ y) && !(foldedForSure 8 b && foldedForSure 8 c) && !(constantsAlone 8 b && constantsAlone 8 c) && chkEs J C es [b, c]
    | [i, j, l], .Assign [.Tuple [.Name x px, .Name y py, .Name z pz] _ _] (.Tuple [b, c, d] _ _) _ => locB C i x && locB C j y && locB C l z && (py.line == px.line) && (pz.line == px.line) && decide (x ≠ y) && decide (x ≠ z) && decide (y ≠ z) &&
      !(foldedForSure 8 b && (foldedForSure 8 c && foldedForSure 8 d)) && !(constantsAlone 8 b && (constantsAlone 8 c && constantsAlone 8 d)) && chkEs J C es [b, c, d]
    | _, _ => false)
  | .sub e a i, x => (match x with
    | .Assign [.Subscript a' i' _] e' _ => ncomp e' && pl i' && chkE J C e e' && chkE J C a a' && chkE J C i i'
    | _ => false)
  | .sat e a f, x => (match x with
    | .Assign [.Attribute a' nm _] e' _ => decide (J.atl[f]? = some nm) && ncomp e' && chkE J C e e' && chkE J C a a'
    | _ => false)
  | .aat op a f e, x => (match x with
    | .AugAssign (.Attribute a' nm _) op' e' _ => decide (J.atl[f]? = some nm) && augB op && decide (op' = opB op) && chkE J C e e' && chkE J C a a'
    | _ => false)
  | .aug op i e, x => (match x with
    | .AugAssign (.Name y _) op' e' _ => decide (C.N[i]? = some y) && stoB C y && augB op && decide (op' = opB op) && chkE J C e e'
    | _ => false)
  | .apd a e, x => (match x with
    | .Expr (.Call (.Attribute a' nm apos) [e'] [] cpos) _ => decide (nm = ("append" : Str)) && plO a' && (apos.endLine == cpos.line) && pl e' && chkE J C e e' && chkE J C a a'
    | _ => false)
  | .ext i e, x => (match x with
    | .AugAssign (.Name y _) .Add e' _ => decide (C.N[i]? = some y) && stoB C y && chkE J C e e'
    | _ => false)
  | .ife c a b, x => (match x with
    | .If c' a' b' _ => chkC J C c c' && chkSs J C a a' && chkSs J C b b'
    | _ => false)
  | .for_ t it b, x => (match x with
    | .For tg it' b' [] _ => chkT C t tg && nset it' && chkI J C it tg it' && chkSs J C b b'
    | _ => false)
  | .whl _ c b, x => (match x with
    | .While c' b' [] _ => chkC J C c c' && chkSs J C b b'
    | _ => false)
  | .ret e, x => (match x with
    | .Return (some e') _ => chkE J C e e'
    | _ => false)
  | .retn, x => (match x with
    | .Return none _ => true
    | _ => false)
  | .rai c, x => (match x with
    | .Raise (some (.Call (.Name x _) [.Constant (.str _) _ _] [] _)) none _ => decide (J.clsn[c]? = some x) && glbB C x
    | _ => false)
  | .tri b hs, x => (match hs, x with
    | hs, .Try b' hl [] [] _ => !hl.isEmpty && (hs.all (·.2.calm) || (C.hx && decide (hs.length = 1))) && chkHds J C hs hl && chkSs J C.nox b b'
    | _, _ => false)
  | .exp e, x => (match x with
    | .Expr e' _ => ncomp e' && chkE J C e e'
    | _ => false)
  | .doc, x => (match x with
    | .Expr (.Constant (.str _) _ _) _ => true
    | _ => false)
  | .pas, x => (match x with
    | .Pass _ => true
    | _ => false)
  | .cnt, x => (match x with
    | .Continue _ => true
    | _ => false)
  | .brk, x => (match x with
    | .Break _ => true
    | _ => false)
def chkSs (J : JC) (C : SC) : Ss → List Stmt → Bool
  | .nil, [] => true
  | .cons s r, a :: as => chkS J C s a && chkSs J C r as
  | _, _ => false
end
section
variable {G : GD} {Y : GX} {cf : CF} {k : Nat} {J : JC}
theorem locB_of {C : SC} {i : Nat} {x : Str} (h : locB C i x = true) : C.N[i]? = some x ∧ C.sc.names.lookup x = some .local := by
  unfold locB at h
  rw [Bool.and_eq_true, decide_eq_true_eq, decide_eq_true_eq] at h
  exact h
theorem nosw_of {scope : Scope} {y : Str} (h : nosw scope y = true) : (scope.names.any fun (n, k) => n == y && (k == .local || k == .cell)) = false := by
  unfold nosw at h
  rw [Bool.not_eq_true'] at h
  exact h
mutual
theorem chkS_ok (ok : GOk J G Y) (hF : CallF G Y cf k) (hL : CallL G Y cf k) {C : SC} : ∀ (e : S) (a : Stmt), chkS J C e a = true → SSt G Y cf k C e a
  | .set t e, a, h => by
    unfold chkS at h
    split at h
    · split at h
      · rename_i hn
        rw [Bool.and_eq_true, Bool.and_eq_true] at h
        exact ss_set h.1.1 hn h.1.2 (chkE_ok ok hF hL e C _ h.2)
      · split at h
        · simp only [Bool.and_eq_true] at h
          obtain ⟨⟨⟨⟨⟨⟨⟨⟨⟨h1, h2⟩, h3⟩, h4⟩, h5⟩, h6⟩, h7⟩, h8⟩, h9⟩, h10⟩ := h
          obtain ⟨h11, h12⟩ := locB_of h1
          refine ss_setLc h4 (ownNs_snd C _) h5 (fun i hi => ?_) h7 (chkI_ok ok hF hL _ C _ _ h8) (chkCf_ok ok hF hL _ _ _ h9) (chkE_ok ok hF hL _ _ _ h10) h11 h12 h2 (nosw_of h3)
          have := List.all_eq_true.mp h6 i hi
          simpa using this
        · cases h
    · cases h
  | .par ts es, a, h => by
    unfold chkS at h
    split at h
    · simp only [Bool.and_eq_true, decide_eq_true_eq, Bool.not_eq_true'] at h
      obtain ⟨⟨⟨⟨⟨⟨h1, h2⟩, h3⟩, h4⟩, h5⟩, h6⟩, h7⟩ := h
      obtain ⟨a1, a2⟩ := locB_of h1
      obtain ⟨a3, a4⟩ := locB_of h2
      obtain ⟨hp, _⟩ := chkEs_pl h7
      rw [List.all_cons, Bool.and_eq_true, List.all_cons, Bool.and_eq_true] at hp
      exact ss_par2 a1 a3 a2 a4 h3 hp.1 hp.2.1 h4 h5 h6 (chkEs_ok ok hF hL es C _ h7)
    · simp only [Bool.and_eq_true, decide_eq_true_eq, Bool.not_eq_true'] at h
      obtain ⟨⟨⟨⟨⟨⟨⟨⟨⟨⟨h1, h2⟩, h3⟩, h4⟩, h5⟩, h6⟩, h7⟩, h8⟩, h9⟩, h10⟩, h11⟩ := h
      obtain ⟨a1, a2⟩ := locB_of h1
      obtain ⟨a3, a4⟩ := locB_of h2
      obtain ⟨a5, a6⟩ := locB_of h3
      obtain ⟨hp, _⟩ := chkEs_pl h11
      rw [List.all_cons, Bool.and_eq_true, List.all_cons, Bool.and_eq_true, List.all_cons, Bool.and_eq_true] at hp
      exact ss_par3 a1 a3 a5 a2 a4 a6 h4 h5 hp.1 hp.2.1 hp.2.2.1 h6 h7 h8 h9 h10 (chkEs_ok ok hF hL es C _ h11)
    · cases h
  | .sub e a i, x, h => by
    unfold chkS at h
    split at h
    · simp only [Bool.and_eq_true] at h
      obtain ⟨⟨⟨⟨h1, h2⟩, h3⟩, h4⟩, h5⟩ := h
      exact ss_sub h1 (chkE_ok ok hF hL e C _ h3) (chkE_ok ok hF hL a C _ h4) (chkE_ok ok hF hL i C _ h5) h2
    · cases h
  | .sat e a f, x, h => by
    unfold chkS at h
    split at h
    · simp only [Bool.and_eq_true, decide_eq_true_eq] at h
      obtain ⟨⟨⟨h1, h2⟩, h3⟩, h4⟩ := h
      exact ss_sat ok h1 h2 (chkE_ok ok hF hL e C _ h3) (chkE_ok ok hF hL a C _ h4)
    · cases h
  | .aat op a f e, x, h => by
    unfold chkS at h
    split at h
    · simp only [Bool.and_eq_true, decide_eq_true_eq] at h
      obtain ⟨⟨⟨⟨h1, h2⟩, rfl⟩, h3⟩, h4⟩ := h
      exact ss_aat ok (augB_of h2) h1 (chkE_ok ok hF hL e C _ h3) (chkE_ok ok hF hL a C _ h4)
    · cases h
  | .aug op i e, x, h => by
    unfold chkS at h
    split at h
    · simp only [Bool.and_eq_true, decide_eq_true_eq] at h
      obtain ⟨⟨⟨⟨h1, h2⟩, h3⟩, rfl⟩, h4⟩ := h
      exact ss_aug (augB_of h3) h1 (stoB_of h2) (chkE_ok ok hF hL e C _ h4)
    · cases h
  | .apd a e, x, h => by
    unfold chkS at h
    split at h
    · simp only [Bool.and_eq_true, decide_eq_true_eq] at h
      obtain ⟨⟨⟨⟨⟨rfl, h2⟩, h3⟩, h4⟩, h5⟩, h6⟩ := h
      exact ss_apd h2 h3 h4 (chkE_ok ok hF hL e C _ h5) (chkE_ok ok hF hL a C _ h6)
    · cases h
  | .ext i e, x, h => by
    unfold chkS at h
    split at h
    · rw [Bool.and_eq_true, Bool.and_eq_true, decide_eq_true_eq] at h
      exact ss_ext h.1.1 (stoB_of h.1.2) (chkE_ok ok hF hL e C _ h.2)
    · cases h
  | .ife c a b, x, h => by
    unfold chkS at h
    split at h
    · rw [Bool.and_eq_true, Bool.and_eq_true] at h
      exact ss_ife (chkC_ok ok hF hL c C _ h.1.1) (chkSs_ok ok hF hL a _ h.1.2) (chkSs_ok ok hF hL b _ h.2)
    · cases h
  | .for_ t it b, x, h => by
    unfold chkS at h
    split at h
    · simp only [Bool.and_eq_true] at h
      obtain ⟨⟨⟨h1, h2⟩, h3⟩, h4⟩ := h
      exact ss_for h1 h2 (chkI_ok ok hF hL it C _ _ h3) (chkSs_ok ok hF hL b _ h4)
    · cases h
  | .whl n c b, x, h => by
    unfold chkS at h
    split at h
    · rw [Bool.and_eq_true] at h
      exact ss_whl (chkC_ok ok hF hL c C _ h.1) (chkSs_ok ok hF hL b _ h.2)
    · cases h
  | .ret e, x, h => by
    unfold chkS at h
    split at h
    · exact ss_ret (chkE_ok ok hF hL e C _ h)
    · cases h
  | .retn, x, h => by
    unfold chkS at h
    split at h
    · exact ss_retn
    · cases h
  | .rai c, x, h => by
    unfold chkS at h
    split at h
    · rw [Bool.and_eq_true, decide_eq_true_eq] at h
      obtain ⟨h1, h2⟩ := glbB_of h.2
      exact ss_rai ok h.1 h1 h2
    · cases h
  | .tri b hs, x, h => by
    unfold chkS at h
    split at h
    · rename_i b' hl pos
      rw [Bool.and_eq_true, Bool.and_eq_true, Bool.and_eq_true, Bool.not_eq_true'] at h
      obtain ⟨⟨⟨h1, h2⟩, h3⟩, h4⟩ := h
      exact ss_tri ok h1 h2 h3 (chkSs_ok ok hF hL b _ h4)
    · cases h
  | .exp e, x, h => by
    unfold chkS at h
    split at h
    · rw [Bool.and_eq_true] at h
      exact ss_exp h.1 (chkE_ok ok hF hL e C _ h.2)
    · cases h
  | .doc, x, h => by
    unfold chkS at h
    split at h
    · exact ss_doc
    · cases h
  | .pas, x, h => by
    unfold chkS at h
    split at h
    · exact ss_pas
    · cases h
  | .cnt, x, h => by
    unfold chkS at h
    split at h
    · exact ss_cnt
    · cases h
  | .brk, x, h => by
    unfold chkS at h
    split at h
    · exact ss_brk
    · cases h
theorem chkSs_ok (ok : GOk J G Y) (hF : CallF G Y cf k) (hL : CallL G Y cf k) {C : SC} : ∀ (e : Ss) (a : List Stmt), chkSs J C e a = true → SSs G Y cf k C e a
  | .nil, [], _ => ss_nil
  | .cons s r, a :: as, h => by
    unfold chkSs at h
    rw [Bool.and_eq_true] at h
    exact ss_cons (chkS_ok ok hF hL s a h.1) (chkSs_ok ok hF hL r as h.2)
  | .nil, _ :: _, h => by unfold chkSs at h; cases h
  | .cons _ _, [], h => by unfold chkSs at h; cases h
end
end
/-! ### lambdas and defs -/
/-- a lambda's text: its names, in the order of what it takes -/
structure LT where
  N : List Str
def lamSC (lt : LT) (scope : Scope) : SC := { N := lt.N, sc := scope, fnc := fun _ => false, hasT := false, hasL := false, L := [], gn := 0 }
/-- the look at a lambda l of the maker's text C (names N, scope sc) -/
def lamChk (J : JC) (lts : List LT) (lams : List Lam) (l : Nat) (N : List Str) (sc : Scope) (params : Arguments) (body : Expr) (scope : Scope) : Bool :=
  match lts[l]?, lams[l]? with
  | some lt, some L => noPar params && lamSB sc scope && decide lt.N.Nodup && decide (lt.N.length = L.cap.length) && decide (L.cap.map (fun i => N[i]?) = lt.N.map some) && (scope.names.all fun y => !decide (y.2 = .free) || decide (y.1 ∈ lt.N)) && (lt.N.all fun x => decide (sc.names.lookup x = some .cell)) && chkE J (lamSC lt scope) L.body body
  | _, _ => false
theorem lmG_of {G : GD} {Y : GX} {J : JC} {lts : List LT} (ok : GOk J G Y) {l : Nat} {L : Lam} (hl : Y.g.lams[l]? = some L) (hG : ∀ ci params body scope, G.lamC l ci params body scope → lamChk J lts Y.g.lams l ci.N ci.sc params body scope = true) : LmG G Y l L := by
  intro ci params body scope hlam
  have h := hG ci params body scope hlam
  unfold lamChk at h
  split at h
  · rename_i lt L' h1 h2
    rw [hl] at h2
    cases h2
    simp only [Bool.and_eq_true, decide_eq_true_eq, List.all_eq_true, Bool.or_eq_true, Bool.not_eq_true', decide_eq_false_iff_not] at h
    obtain ⟨⟨⟨⟨⟨⟨⟨p1, p2⟩, p3⟩, p4⟩, p5⟩, p6⟩, p7⟩, p8⟩ := h
    refine ⟨lamSC lt scope, p1, p2, rfl, rfl, rfl, rfl, rfl, fun _ => rfl, p3, p4, fun j x hx => ?_, fun y hy hf => ?_, p7, fun cf k hF hL => chkE_ok ok hF hL _ _ _ p8⟩
    · have hx : lt.N[j]? = some x := hx
      have e := congrArg (fun z : List (Option Str) => z[j]?) p5
      have e : (L.cap.map (fun i => ci.N[i]?))[j]? = (lt.N.map some)[j]? := e
      rw [List.getElem?_map, List.getElem?_map, hx] at e
      cases hc : L.cap[j]? with
      | none =>
        rw [hc] at e
        cases e
      | some i =>
        rw [hc] at e
        exact ⟨i, rfl, Option.some.inj e⟩
    · rcases p6 y hy with z | z
      · exact absurd hf z
      · exact z
  · cases h
/-- a def's text -/
structure FT where
  N : List Str
  ps : List Str
  hasT : Bool
  L : List (Nat × Nat)
def fnSC (t : FT) (lamf : Bool) (scope : Scope) : SC := { N := t.N, sc := scope, fnc := fun _ => true, hasT := t.hasT, hasL := lamf, L := t.L, gn := 3, hx := true }
/-- the look at a def -/
def fnChk (J : JC) (t : FT) (F : Fn) (body : List Stmt) (scope : Scope) : Bool :=
  C8.scC t.N t.ps scope && decide (F.ar = t.ps.length) && decide (F.nl = t.N.length) && decide (t.ps.length ≤ t.N.length) && chkSs J (fnSC t F.lamf scope) F.body body
end FS

-- text FsS0
set_option Elab.async false
set_option linter.all false
set_option maxHeartbeats 4000000
/-! FsS0: how arguments come to plain parameters, with defaults. -/
namespace FS
open PySem PySem.Spec PyProof.Rows L2 LamX

/-! ### plain parameters -/
def plainArgs (p : Arguments) (ps : List Str) : Bool := match p with
  | ⟨[], args, none, [], [], none, _⟩ => decide (args.map (·.arg) = ps) && decide ps.Nodup
  | _ => false
theorem zip_lookup {α : Type} : ∀ {ps : List Str} {us : List α}, us.length = ps.length → ∀ n ∈ ps, ∃ u, (ps.zip us).lookup n = some u
  | [], _, _, n, h => by cases h
  | p :: ps, [], hl, _, _ => by cases hl
  | p :: ps, u :: us, hl, n, h => by
    rw [List.zip_cons_cons, List.lookup_cons]
    cases hb : n == p with
    | true => exact ⟨u, rfl⟩
    | false =>
      rcases List.mem_cons.mp h with e | h
      · rw [e, beq_self_eq_true] at hb
        cases hb
      · exact zip_lookup (by simpa using hl) n h
theorem zip_filterMap {α : Type} : ∀ {ps : List Str} {us : List α}, us.length = ps.length → ps.Nodup → ps.filterMap (fun n => ((ps.zip us).lookup n).map (n, ·)) = ps.zip us
  | [], _, _, _ => rfl
  | p :: ps, [], hl, _ => by cases hl
  | p :: ps, u :: us, hl, hn => by
    have hn2 := List.nodup_cons.mp hn
    rw [List.zip_cons_cons, List.filterMap_cons, List.lookup_cons, beq_self_eq_true]
    have e : ps.filterMap (fun n => (((p, u) :: ps.zip us).lookup n).map (n, ·)) = ps.filterMap (fun n => ((ps.zip us).lookup n).map (n, ·)) := by
      have key : ∀ l : List Str, (∀ n ∈ l, n ≠ p) → l.filterMap (fun n => (((p, u) :: ps.zip us).lookup n).map (n, ·)) = l.filterMap (fun n => ((ps.zip us).lookup n).map (n, ·)) := by
        intro l
        induction l with
        | nil => exact fun _ => rfl
        | cons a l ih =>
          intro hl
          have : (a == p) = false := beq_eq_false_iff_ne.mpr (hl a List.mem_cons_self)
          rw [List.filterMap_cons, List.filterMap_cons, List.lookup_cons, this, ih fun n hn => hl n (List.mem_cons_of_mem _ hn)]
      exact key ps fun n hn3 e => hn2.1 (e ▸ hn3)
    show (p, u) :: ps.filterMap _ = _
    rw [e, zip_filterMap (by simpa using hl) hn2.2]
theorem bind_plain {x qual : Str} {params : Arguments} {body : List Stmt} {scope : Scope} {kV doc pm : Value} {an : Option Addr} {cdv ct : Value} {ps : List Str} {us : List Value} (hp : plainArgs params ps = true) (hl : us.length = ps.length) :
    bindArgs (PySem.W.fnOf x qual params body scope .none kV doc pm an cdv ct) ⟨us, []⟩ = pure (ps.zip us) := by
  unfold plainArgs at hp
  split at hp
  · rename_i args
    rw [Bool.and_eq_true, decide_eq_true_eq, decide_eq_true_eq] at hp
    obtain ⟨h1, h2⟩ := hp
    have hm : (ps.filter fun n => ((ps.zip us).lookup n).isNone) = [] := by
      rw [List.filter_eq_nil_iff]
      intro n hn
      obtain ⟨u, hu⟩ := zip_lookup hl n hn
      rw [hu]
      exact Bool.false_ne_true
    have hz := zip_filterMap hl h2
    have hs : (seqItems? Value.none : Sem _) = pure none := rfl
    unfold bindArgs
    simp only [PySem.W.fnOf, List.map_nil, List.nil_append, h1, List.forIn_nil, List.append_nil, Option.isNone_none, Bool.and_true, pure_bind, hs, Option.getD_none]
    rw [if_neg (by simp [hl])]
    have e0 : (#[] : Array Value).toList = [] := rfl
    simp only [e0, List.length_nil, Nat.zero_sub, List.drop_nil, Nat.sub_zero, List.take_length, hm, List.isEmpty_nil, Bool.not_true, Bool.false_eq_true, if_false, List.zip_nil_right, List.forIn_nil, pure_bind, hz]
  · cases hp


def fillD (slots : List (Str × Value)) (p : Str × Value) : List (Str × Value) := if (slots.lookup p.1).isNone = true then slots ++ [p] else slots
theorem fill_have : ∀ {l slots : List (Str × Value)}, (∀ p ∈ l, ∃ u, slots.lookup p.1 = some u) → l.foldl fillD slots = slots
  | [], _, _ => rfl
  | p :: l, slots, h => by
    obtain ⟨u, hu⟩ := h p List.mem_cons_self
    have e : fillD slots p = slots := by
      unfold fillD
      rw [hu]
      rfl
    rw [List.foldl_cons, e]
    exact fill_have fun q hq => h q (List.mem_cons_of_mem _ hq)
theorem lookup_snoc {slots : List (Str × Value)} {p : Str × Value} {x : Str} (h : slots.lookup x = none) (hx : x ≠ p.1) : (slots ++ [p]).lookup x = none := by
  induction slots with
  | nil =>
    show (match x == p.1 with
      | true => some p.2
      | false => none) = none
    rw [beq_eq_false_iff_ne.mpr hx]
  | cons q r ih =>
    rw [List.lookup_cons] at h
    rw [List.cons_append, List.lookup_cons]
    cases hb : x == q.1 with
    | true =>
      rw [hb] at h
      cases h
    | false =>
      rw [hb] at h
      exact ih h
theorem fill_lack : ∀ {l slots : List (Str × Value)}, (l.map (·.1)).Nodup → (∀ p ∈ l, slots.lookup p.1 = none) → l.foldl fillD slots = slots ++ l
  | [], slots, _, _ => (List.append_nil slots).symm
  | p :: l, slots, nd, h => by
    have nd2 := List.nodup_cons.mp (show (p.1 :: l.map (·.1)).Nodup from nd)
    have e : fillD slots p = slots ++ [p] := by
      unfold fillD
      rw [h p List.mem_cons_self]
      rfl
    rw [List.foldl_cons, e, fill_lack nd2.2 fun q hq => lookup_snoc (h q (List.mem_cons_of_mem _ hq)) fun z => nd2.1 (by rw [← z]; exact List.mem_map_of_mem hq), List.append_assoc]
    rfl
theorem fill_loop : ∀ (l slots : List (Str × Value)), (forIn l slots (fun x (r : List (Str × Value)) => if (r.lookup x.1).isNone = true then (pure (ForInStep.yield (r ++ [(x.1, x.2)])) : Sem _) else pure (ForInStep.yield r)) : Sem (List (Str × Value))) = pure (l.foldl fillD slots)
  | [], slots => by rw [List.forIn_nil]; rfl
  | p :: l, slots => by
    rw [List.forIn_cons, List.foldl_cons]
    have e : (if (slots.lookup p.1).isNone = true then (pure (ForInStep.yield (slots ++ [(p.1, p.2)])) : Sem _) else pure (ForInStep.yield slots)) = pure (ForInStep.yield (fillD slots p)) := by
      unfold fillD
      split <;> rfl
    rw [e, pure_bind]
    exact fill_loop l _
theorem zip_look {α : Type} : ∀ {ps : List Str} {us : List α} {x : Str}, (∃ u, (ps.zip us).lookup x = some u) → x ∈ ps.take us.length
  | [], us, x, ⟨u, h⟩ => by cases us <;> cases h
  | p :: ps, [], x, ⟨u, h⟩ => by cases h
  | p :: ps, v :: us, x, ⟨u, h⟩ => by
    rw [List.zip_cons_cons, List.lookup_cons] at h
    rw [List.length_cons, List.take_succ_cons]
    cases hb : x == p with
    | true =>
      rw [beq_iff_eq.mp hb]
      exact List.mem_cons_self
    | false =>
      rw [hb] at h
      exact List.mem_cons_of_mem _ (zip_look ⟨u, h⟩)
theorem zip_looks {α : Type} : ∀ {ps : List Str} {us : List α} {x : Str}, x ∈ ps.take us.length → ∃ u, (ps.zip us).lookup x = some u
  | [], us, x, h => by
    rw [List.take_nil] at h
    cases h
  | p :: ps, [], x, h => by cases h
  | p :: ps, v :: us, x, h => by
    rw [List.length_cons, List.take_succ_cons] at h
    rw [List.zip_cons_cons, List.lookup_cons]
    cases hb : x == p with
    | true => exact ⟨v, rfl⟩
    | false =>
      rcases List.mem_cons.mp h with e | h
      · rw [e, beq_self_eq_true] at hb
        cases hb
      · exact zip_looks h
theorem zip_app {α : Type} : ∀ {ps : List Str} {us vs : List α}, us.length ≤ ps.length → ps.zip us ++ (ps.drop us.length).zip vs = ps.zip (us ++ vs)
  | ps, [], vs, _ => by rw [List.zip_nil_right]; rfl
  | [], u :: us, vs, h => by cases h
  | p :: ps, u :: us, vs, h => by
    rw [List.zip_cons_cons, List.length_cons, List.drop_succ_cons, List.cons_append, List.cons_append, List.zip_cons_cons, zip_app (by simpa using h)]
theorem fst_zip {α : Type} : ∀ {ps : List Str} {us : List α}, (ps.zip us).map (·.1) = ps.take us.length
  | [], us => by rw [List.take_nil]; cases us <;> rfl
  | p :: ps, [] => rfl
  | p :: ps, u :: us => by
    rw [List.zip_cons_cons, List.map_cons, List.length_cons, List.take_succ_cons, fst_zip]
/-- all slots filled -/
theorem fill_zip {ps : List Str} {us its : List Value} (nd : ps.Nodup) (h1 : us.length ≤ ps.length) (h2 : ps.length ≤ us.length + its.length) (h3 : its.length ≤ ps.length) :
    ((ps.drop (ps.length - its.length)).zip its).foldl fillD (ps.zip us) = ps.zip (us ++ its.drop (us.length + its.length - ps.length)) := by
  generalize hj : us.length + its.length - ps.length = j
  have hs : (ps.drop (ps.length - its.length)).zip its = ((ps.drop (ps.length - its.length)).take j).zip (its.take j) ++ (ps.drop us.length).zip (its.drop j) := by
    have e1 : ps.drop us.length = (ps.drop (ps.length - its.length)).drop j := by
      rw [List.drop_drop]
      congr 1
      omega
    rw [e1]
    generalize ps.drop (ps.length - its.length) = A
    conv =>
      lhs
      rw [← List.take_append_drop j A, ← List.take_append_drop j its]
    by_cases hA : j ≤ A.length
    · by_cases hB : j ≤ its.length
      · exact List.zip_append (by rw [List.length_take, List.length_take]; omega)
      · have : its.drop j = [] := List.drop_eq_nil_of_le (by omega)
        exfalso
        omega
    · have z1 : A.drop j = [] := List.drop_eq_nil_of_le (by omega)
      rw [z1, List.append_nil, List.zip_nil_left, List.append_nil, List.take_append_drop]
      have z2 : A.take j = A := List.take_of_length_le (by omega)
      rw [z2]
      have key : ∀ (A its : List _) (j : Nat), A.length ≤ j → (A : List Str).zip (its : List Value) = A.zip (its.take j) := by
        intro A
        induction A with
        | nil => exact fun its j _ => rfl
        | cons a A ih =>
          intro its j hj
          cases its with
          | nil => rw [List.take_nil]
          | cons i its =>
            cases j with
            | zero => simp at hj
            | succ j =>
              rw [List.take_succ_cons, List.zip_cons_cons, List.zip_cons_cons, ih its j (by simpa using hj)]
      exact key A its j (by omega)
  have sub : ∀ x ∈ (ps.drop (ps.length - its.length)).take j, x ∈ ps.take us.length := fun x hx => by
    have e : ps.take us.length = ps.take (ps.length - its.length) ++ (ps.drop (ps.length - its.length)).take j := by
      have : us.length = (ps.length - its.length) + j := by omega
      rw [this, List.take_add]
    rw [e]
    exact List.mem_append_right _ hx
  have p1 : ∀ p ∈ ((ps.drop (ps.length - its.length)).take j).zip (its.take j), ∃ u, (ps.zip us).lookup p.1 = some u := fun p hp => zip_looks (sub _ (List.of_mem_zip hp).1)
  have p2 : (((ps.drop us.length).zip (its.drop j)).map (·.1)).Nodup := by
    rw [fst_zip]
    exact (nd.sublist (List.drop_sublist _ _)).sublist (List.take_sublist _ _)
  have p3 : ∀ p ∈ (ps.drop us.length).zip (its.drop j), (ps.zip us).lookup p.1 = none := fun p hp => by
    have hm : p.1 ∈ ps.drop us.length := (List.of_mem_zip hp).1
    cases hq : (ps.zip us).lookup p.1 with
    | none => rfl
    | some u =>
      exfalso
      have m1 := zip_look ⟨u, hq⟩
      have := List.nodup_append.mp (show (ps.take us.length ++ ps.drop us.length).Nodup by rw [List.take_append_drop]; exact nd)
      exact this.2.2 _ m1 _ hm rfl
  rw [hs, List.foldl_append, fill_have p1, fill_lack p2 p3, zip_app h1]
theorem bind_dfl {x qual : Str} {params : Arguments} {body : List Stmt} {scope : Scope} {kV doc pm : Value} {an : Option Addr} {cdv ct : Value} {ps : List Str} {us its : List Value} {T : Addr} (hp : plainArgs params ps = true) (h1 : us.length ≤ ps.length) (h2 : ps.length ≤ us.length + its.length) (h3 : its.length ≤ ps.length) :
    ∃ k, bindArgs (PySem.W.fnOf x qual params body scope (.ref T) kV doc pm an cdv ct) ⟨us, []⟩ = seqItems? (.ref T) >>= k ∧ k (some its.toArray) = pure (ps.zip (us ++ its.drop (us.length + its.length - ps.length))) := by
  unfold plainArgs at hp
  split at hp
  · rename_i args dfl
    rw [Bool.and_eq_true, decide_eq_true_eq, decide_eq_true_eq] at hp
    obtain ⟨e1, nd⟩ := hp
    unfold bindArgs
    simp only [PySem.W.fnOf, List.map_nil, List.nil_append, e1, List.forIn_nil, List.append_nil, Option.isNone_none, Bool.and_true, pure_bind]
    refine ⟨_, rfl, ?_⟩
    simp only [Option.getD_some]
    rw [if_neg (by simp only [decide_eq_true_eq]; omega)]
    have ed : its.drop (its.length - ps.length) = its := by
      rw [show its.length - ps.length = 0 by omega]
      rfl
    rw [ed]
    have hm : List.filter (fun n => (List.lookup n (ps.zip us)).isNone) (List.take (ps.length - its.length) ps) = [] := by
      rw [List.filter_eq_nil_iff]
      intro n hn
      have : n ∈ ps.take us.length := by
        have e : ps.take us.length = ps.take (ps.length - its.length) ++ (ps.drop (ps.length - its.length)).take (us.length - (ps.length - its.length)) := by
          have : us.length = (ps.length - its.length) + (us.length - (ps.length - its.length)) := by omega
          conv =>
            lhs
            rw [this]
          rw [List.take_add]
        rw [e]
        exact List.mem_append_left _ hn
      obtain ⟨u, hu⟩ := zip_looks this
      rw [hu]
      exact Bool.false_ne_true
    rw [hm]
    simp only [List.isEmpty_nil, Bool.not_true, Bool.false_eq_true, if_false]
    rw [fill_loop, pure_bind, fill_zip nd h1 h2 h3, zip_filterMap (by rw [List.length_append, List.length_drop]; omega) nd]
  · cases hp
end FS

-- text FsS
set_option Elab.async false
set_option linter.all false
set_option maxHeartbeats 4000000
/-! FsS: a law's data; what the head shows of them; the law's def keeps its promise. -/
namespace FS
open PySem PySem.Spec PyProof.Rows L2 LamX

/-! ### defaults -/
def dvOf : D → Option He.Dv
  | .non => some .non
  | .bl b => some (.bl b)
  | .int i => some (.int i)
  | .str x => some (.str (SX.S x))
  | _ => none
def dvsOf (ds : List D) : List He.Dv := ds.filterMap dvOf
theorem dvs_ok {G : GD} {K : PySem.W.Frag} : ∀ {ds : List D}, (ds.all fun d => (dvOf d).isSome) = true → (∀ τ cm ρ H, reps (G.tm τ) cm ρ H ds ((dvsOf ds).map (He.Dv.v K))) ∧ (dvsOf ds).length = ds.length
  | [], _ => ⟨fun _ _ _ _ => reps.nil, rfl⟩
  | d :: ds, h => by
    rw [List.all_cons, Bool.and_eq_true] at h
    obtain ⟨i1, i2⟩ := dvs_ok (G := G) (K := K) h.2
    cases hd : dvOf d with
    | none =>
      rw [hd] at h
      cases h.1
    | some v =>
      have e : dvsOf (d :: ds) = v :: dvsOf ds := by
        unfold dvsOf
        rw [List.filterMap_cons, hd]
      rw [e]
      refine ⟨fun τ cm ρ H => ?_, congrArg Nat.succ i2⟩
      rw [List.map_cons]
      refine reps.cons ?_ (i1 τ cm ρ H)
      cases d <;> cases hd <;> (unfold rep; rfl)

/-! ### constants -/
mutual
def relDB (K : PySem.W.Frag) : D → Value → Bool
  | .non, .none => true
  | .bl b, .bool c => b == c
  | .int i, .int j _ => decide (i = j)
  | .str x, .str y _ => decide (y.cps.toList = x)
  | .tup xs, .ref a => (match K.lookup a with
    | some ⟨.type c, _, .seq its _, _⟩ => decide (c = "tuple") && decide (its.size ≤ sizeLine) && relDsB K xs its.toList
    | _ => false)
  | _, _ => false
def relDsB (K : PySem.W.Frag) : List D → List Value → Bool
  | [], [] => true
  | x :: xs, u :: us => relDB K x u && relDsB K xs us
  | _, _ => false
end
mutual
theorem relDB_ok {G : GD} : ∀ (d : D) (u : Value), relDB G.K d u = true → ∃ v, RelV v u ∧ ∀ τ cm ρ H, rep (G.tm τ) cm ρ H d v
  | .non, u, h => by
    cases u with
    | none => exact ⟨.non, rfl, fun _ _ _ _ => by unfold rep; rfl⟩
    | _ => unfold relDB at h; cases h
  | .bl b, u, h => by
    cases u with
    | bool c =>
      have e : b = c := eq_of_beq (show (b == c) = true by unfold relDB at h; exact h)
      exact ⟨.bl c, rfl, fun _ _ _ _ => by unfold rep; rw [e]⟩
    | _ => unfold relDB at h; cases h
  | .int i, u, h => by
    cases u with
    | int j t =>
      have e : i = j := of_decide_eq_true (show decide (i = j) = true by unfold relDB at h; exact h)
      exact ⟨.int j, ⟨t, rfl⟩, fun _ _ _ _ => by unfold rep; rw [e]⟩
    | _ => unfold relDB at h; cases h
  | .str x, u, h => by
    cases u with
    | str y t =>
      have e : y.cps.toList = x := of_decide_eq_true (show decide (y.cps.toList = x) = true by unfold relDB at h; exact h)
      exact ⟨.str y, ⟨t, rfl⟩, fun _ _ _ _ => by unfold rep; rw [← e]⟩
    | _ => unfold relDB at h; cases h
  | .tup xs, u, h => by
    cases u with
    | ref a =>
      unfold relDB at h
      cases q : G.K.lookup a with
      | none =>
        rw [q] at h
        cases h
      | some o =>
        obtain ⟨oc, od, dt, osl⟩ := o
        rw [q] at h
        cases oc with
        | type c =>
          cases dt with
          | seq its n =>
            have h : (decide (c = "tuple") && decide (its.size ≤ sizeLine) && relDsB G.K xs its.toList) = true := h
            rw [Bool.and_eq_true, Bool.and_eq_true, decide_eq_true_eq, decide_eq_true_eq] at h
            obtain ⟨vs, r1, r2⟩ := relDsB_ok xs its.toList h.2
            refine ⟨.ref a, rfl, fun τ cm ρ H => ?_⟩
            unfold rep
            exact ⟨a, vs, rfl, .inr ⟨_, its, n, q, by rw [h.1.1], rfl, h.1.2, r1⟩, r2 τ cm ρ H⟩
          | _ => cases h
        | _ => cases dt <;> cases h
    | _ => unfold relDB at h; cases h
  | .lst _, u, h => by unfold relDB at h; cases u <;> cases h
  | .dic _, u, h => by unfold relDB at h; cases u <;> cases h
  | .frl _, u, h => by unfold relDB at h; cases u <;> cases h
  | .ref _, u, h => by unfold relDB at h; cases u <;> cases h
  | .clo _ _, u, h => by unfold relDB at h; cases u <;> cases h
theorem relDsB_ok {G : GD} : ∀ (xs : List D) (us : List Value), relDsB G.K xs us = true → ∃ vs, Vals vs us ∧ ∀ τ cm ρ H, reps (G.tm τ) cm ρ H xs vs
  | [], [], _ => ⟨[], .nil, fun _ _ _ _ => by unfold reps; rfl⟩
  | x :: xs, u :: us, h => by
    unfold relDsB at h
    rw [Bool.and_eq_true] at h
    obtain ⟨v, r1, r2⟩ := relDB_ok x u h.1
    obtain ⟨vs, r3, r4⟩ := relDsB_ok xs us h.2
    refine ⟨v :: vs, .cons r1 r3, fun τ cm ρ H => ?_⟩
    unfold reps
    exact ⟨v, vs, rfl, r2 τ cm ρ H, r4 τ cm ρ H⟩
  | [], _ :: _, h => by unfold relDsB at h; cases h
  | _ :: _, [], h => by unfold relDsB at h; cases h
end

/-! ### a law's data -/
structure LawD where
  g : Pg
  fts : List FT
  lts : List LT
  /-- the defs of the top; then methods: (class, name) -/
  fnn : List Str
  mtn : List (Str × Str)
  clsn : List Str
  /-- own classes, attributes' names -/
  ocl : List Str
  atl : List Str
  gln : List Str
  bls : List Str
  at_ : List (Nat × Option Nat)
  top : List Stmt
namespace LawD
def st (D : LawD) (i : Nat) : Stmt := match D.at_.getD i (0, none) with
  | (a, none) => D.top.getD a (.Pass ⟨0, 0, 0, 0⟩)
  | (a, some b) => inClass (D.top.getD a (.Pass ⟨0, 0, 0, 0⟩)) b
def nm (D : LawD) (i : Nat) : Str := D.fnn.getD i ""
/-- where the i-th def stands -/
def fid (D : LawD) (i : Nat) : He.Defn := if i < D.fnn.length then (D.nm i, none) else match D.mtn.getD (i - D.fnn.length) ("", "") with
  | (c, m) => (c, some m)
def fnm (D : LawD) (i : Nat) : Str := match D.fid i with
  | (x, none) => x
  | (_, some m) => m
def fql (D : LawD) (i : Nat) : Str := match D.fid i with
  | (x, none) => x
  | (c, some m) => c ++ "." ++ m
def many (D : LawD) : Nat := D.fnn.length + D.mtn.length
def cn (D : LawD) (i : Nat) : Str := D.clsn.getD i ""
def oc (D : LawD) (i : Nat) : Str := D.ocl.getD i ""
def an (D : LawD) (i : Nat) : Str := D.atl.getD i ""
def ftL (D : LawD) (i : Nat) : List (Nat × Nat) := match D.fts[i]? with
  | some t => t.L
  | none => []
def J0 (D : LawD) : JC := { gln := D.gln, fnn := D.fnn, clsn := D.clsn, ocl := D.ocl, atl := D.atl, bok := fun x => decide (x ∈ D.bls), lamB := fun _ _ _ _ _ => false }
def J (D : LawD) : JC := { gln := D.gln, fnn := D.fnn, clsn := D.clsn, ocl := D.ocl, atl := D.atl, bok := fun x => decide (x ∈ D.bls), lamB := fun l C params body scope => lamChk D.J0 D.lts D.g.lams l C.N C.sc params body scope }
def dfl (D : LawD) (i : Nat) : List FS.D := match D.g.fns[i]? with
  | some F => F.dfl
  | none => []
def dd (D : LawD) (i : Nat) : He.DefD := ⟨D.fid i, D.fnm i, D.fql i, defArgs (D.st i), defBody (D.st i), defScope (D.st i), dvsOf (D.dfl i), []⟩
def tis (D : LawD) : List Nat := (List.range D.many).filter fun i => match D.fts[i]? with
  | some t => t.hasT
  | none => false
def tf (D : LawD) : List He.Defn := D.tis.map D.fid
def exms (D : LawD) : List He.Fa := (List.range D.clsn.length).flatMap fun c => (List.range D.clsn.length).map fun d => .exm (D.cn c) (D.cn d) (sub D.g c d)
def fa (D : LawD) : List He.Fa := D.fnn.map .glo ++ (D.clsn.map .glo ++ (D.clsn.map .exc ++ (D.exms ++ (D.bls.map .free ++ (D.ocl.map .glo ++ (D.ocl.map .cls ++ (D.ocl.map .mkr ++ (D.g.fld.map (fun p => .noat (D.oc p.1) (D.an p.2)) ++ D.mtn.map (fun p => .meth p.1 p.2)))))))))
def fn (D : LawD) : List He.DefD := (List.range D.many).map D.dd
def glbs (D : LawD) (K : PySem.W.Frag) : Bool := (D.gln.zip D.g.glb).all fun p => match PySem.W.nsIn K mainGlobals p.1 with
  | some (some u) => relDB K p.2 u
  | _ => false
def tabs (D : LawD) (K : PySem.W.Frag) : List Addr := D.tis.map fun i => (He.cT K (D.fid i)).2
def ex (D : LawD) (K : PySem.W.Frag) : Bool := D.glbs K && decide (D.tabs K).Nodup
def cs (D : LawD) (K : PySem.W.Frag) : List (Addr × Addr) := D.tf.map (He.cT K)
def tq (D : LawD) (K : PySem.W.Frag) : Addr → Option (Str × (Pos → Bool)) := fun P => (D.tis.map fun i => ((He.cT K (D.fid i)).2, (D.fql i ++ ".<locals>." ++ "<lambda>", posB (D.ftL i)))).lookup P
def gd (D : LawD) (P : Program) (w : World) (K : PySem.W.Frag) (mg : Str → Option Value) : GD :=
  { P := P, w := w, K := K, mg := mg, TQ := D.tq K, lamC := fun l ci params body scope => lamChk D.J0 D.lts D.g.lams l ci.N ci.sc params body scope = true, cad := fun c => He.ga K (D.oc c), atn := D.an, nat := D.atl.length, tmp := [] }
def gx (D : LawD) (K : PySem.W.Frag) (base : Heap) : GX := { g := D.g, base := base, cls := fun c => .ref (He.ga K (D.cn c)), fad := fun i => He.fAd K (D.fid i) }
def chk1 (D : LawD) (i : Nat) : Bool := match D.g.fns[i]?, D.fts[i]? with
  | some F, some t => (F.dfl.all fun d => (dvOf d).isSome) && decide (F.dfl.length ≤ F.ar) && plainArgs (defArgs (D.st i)) t.ps && fnChk D.J t F (defBody (D.st i)) (defScope (D.st i))
  | _, _ => false
/-- classes: the tables of inits, methods, fields tell what stands there -/
def chkC (D : LawD) : Bool := decide D.atl.Nodup && decide (D.g.nat = D.atl.length) && (D.g.ini.all fun p => decide (D.fid p.2 = ((D.oc p.1, some ("__init__" : Str)) : He.Defn)) && decide (p.1 < D.ocl.length)) &&
  (D.g.mts.all fun p => decide (D.fid p.2 = ((D.oc p.1.1, some (D.an p.1.2)) : He.Defn)) && decide (p.1.1 < D.ocl.length) && decide ((D.oc p.1.1, D.an p.1.2) ∈ D.mtn)) && D.g.fld.all fun p => decide (p.1 < D.ocl.length)
/-- the look at the whole -/
def chk (D : LawD) : Bool := decide (D.g.fns.length = D.many) && decide (D.g.ncl = D.clsn.length) && (D.chkC && (List.range D.many).all D.chk1)
section
variable {D : LawD} {P : Program} {w : World} {K : PySem.W.Frag} {mg : Str → Option Value} {h base : Heap}
theorem getD_of {α : Type} {l : List α} {i : Nat} {x d : α} (e : l[i]? = some x) : l.getD i d = x := by
  rw [List.getD_eq_getElem?_getD, e]
  rfl
theorem lookNN_some {α : Type} {n m : Nat} {x : α} : ∀ {l : List ((Nat × Nat) × α)}, lookNN n m l = some x → ((n, m), x) ∈ l
  | p :: r, h => by
    unfold lookNN at h
    split at h
    · rename_i e
      cases h
      rw [Bool.and_eq_true] at e
      rw [← Nat.eq_of_beq_eq_true e.1, ← Nat.eq_of_beq_eq_true e.2]
      exact List.mem_cons_self
    · exact List.mem_cons_of_mem _ (lookNN_some h)
theorem nd_getD {l : List Str} (nd : l.Nodup) {i j : Nat} (hi : i < l.length) (hj : j < l.length) (e : l.getD i "" = l.getD j "") : i = j := by
  rw [List.getD_eq_getElem?_getD, List.getD_eq_getElem?_getD, List.getElem?_eq_getElem hi, List.getElem?_eq_getElem hj] at e
  have e : l[i] = l[j] := e
  have key : ∀ (l : List Str), l.Nodup → ∀ (m n : Nat) (hm : m < l.length) (hn : n < l.length), l[m] = l[n] → m = n := by
    intro l
    induction l with
    | nil => exact fun _ m n hm => absurd hm (Nat.not_lt_zero _)
    | cons x l ih =>
      intro nd m n hm hn e
      cases m with
      | zero =>
        cases n with
        | zero => rfl
        | succ n =>
          have e' : x = l[n]'(Nat.lt_of_succ_lt_succ hn) := e
          exact absurd (by rw [e']; exact List.getElem_mem _) (List.nodup_cons.mp nd).1
      | succ m =>
        cases n with
        | zero =>
          have e' : l[m]'(Nat.lt_of_succ_lt_succ hm) = x := e
          exact absurd (by rw [← e']; exact List.getElem_mem _) (List.nodup_cons.mp nd).1
        | succ n => rw [ih (List.nodup_cons.mp nd).2 m n (Nat.lt_of_succ_lt_succ hm) (Nat.lt_of_succ_lt_succ hn) e]
  exact key l nd i j hi hj e
theorem chkC_of (hc : D.chk = true) : D.chkC = true := (He.ba (He.ba hc).2).1
theorem ini_of (hc : D.chk = true) {c i : Nat} (h : (c, i) ∈ D.g.ini) : D.fid i = ((D.oc c, some ("__init__" : Str)) : He.Defn) ∧ c < D.ocl.length := by
  have h1 := List.all_eq_true.mp (He.ba (He.ba (He.ba (chkC_of hc)).1).1).2 _ h
  obtain ⟨a, b⟩ := He.ba h1
  exact ⟨of_decide_eq_true a, of_decide_eq_true b⟩
theorem met_of (hc : D.chk = true) {c m i : Nat} (h : ((c, m), i) ∈ D.g.mts) : D.fid i = (D.oc c, some (D.an m)) ∧ c < D.ocl.length ∧ (D.oc c, D.an m) ∈ D.mtn := by
  have h1 := List.all_eq_true.mp (He.ba (He.ba (chkC_of hc)).1).2 _ h
  obtain ⟨h2, b⟩ := He.ba h1
  obtain ⟨a, b2⟩ := He.ba h2
  exact ⟨of_decide_eq_true a, of_decide_eq_true b2, of_decide_eq_true b⟩
theorem fld_of (hc : D.chk = true) {c f : Nat} (h : D.g.fldB c f = true) : (c, f) ∈ D.g.fld ∧ c < D.ocl.length := by
  unfold Pg.fldB at h
  obtain ⟨_, h2⟩ := He.ba h
  obtain ⟨p, hp, e⟩ := List.any_eq_true.mp h2
  obtain ⟨e1, e2⟩ := He.ba e
  have ep : p = (c, f) := by
    obtain ⟨a, b⟩ := p
    have q1 : a = c := Nat.eq_of_beq_eq_true e1
    have q2 : b = f := Nat.eq_of_beq_eq_true e2
    rw [q1, q2]
  rw [ep] at hp
  exact ⟨hp, of_decide_eq_true (List.all_eq_true.mp (He.ba (chkC_of hc)).2 _ hp)⟩
theorem oc_mem {c : Nat} (h : c < D.ocl.length) : D.oc c ∈ D.ocl := by
  unfold oc
  rw [List.getD_eq_getElem?_getD, List.getElem?_eq_getElem h]
  exact List.getElem_mem h
theorem mem_gloc {x : Str} (h : x ∈ D.ocl) : He.Fa.glo x ∈ D.fa := by
  unfold fa
  simp only [List.mem_append, List.mem_map]
  exact .inr (.inr (.inr (.inr (.inr (.inl ⟨x, h, rfl⟩)))))
theorem mem_cls {c : Nat} (h : c < D.ocl.length) : He.Fa.cls (D.oc c) ∈ D.fa := by
  unfold fa
  simp only [List.mem_append, List.mem_map]
  exact .inr (.inr (.inr (.inr (.inr (.inr (.inl ⟨_, oc_mem h, rfl⟩))))))
theorem mem_mkr {c : Nat} (h : c < D.ocl.length) : He.Fa.mkr (D.oc c) ∈ D.fa := by
  unfold fa
  simp only [List.mem_append, List.mem_map]
  exact .inr (.inr (.inr (.inr (.inr (.inr (.inr (.inl ⟨_, oc_mem h, rfl⟩)))))))
theorem mem_noat {c f : Nat} (h : (c, f) ∈ D.g.fld) : He.Fa.noat (D.oc c) (D.an f) ∈ D.fa := by
  unfold fa
  simp only [List.mem_append, List.mem_map]
  exact .inr (.inr (.inr (.inr (.inr (.inr (.inr (.inr (.inl ⟨_, h, rfl⟩))))))))
theorem mem_meth {c m : Str} (h : (c, m) ∈ D.mtn) : He.Fa.meth c m ∈ D.fa := by
  unfold fa
  simp only [List.mem_append, List.mem_map]
  exact .inr (.inr (.inr (.inr (.inr (.inr (.inr (.inr (.inr ⟨_, h, rfl⟩))))))))
theorem gok (X : K.In h) (N : h.Ns mainGlobals mg) (c : He.SaysD D.fa D.fn K) (hx : D.ex K = true) (hc : D.chk = true) (lamB : Nat → SC → Arguments → Expr → Scope → Bool)
    (hl : ∀ l C params body scope, lamB l C params body scope = true → lamChk D.J0 D.lts D.g.lams l C.N C.sc params body scope = true) :
    GOk { gln := D.gln, fnn := D.fnn, clsn := D.clsn, ocl := D.ocl, atl := D.atl, bok := fun x => decide (x ∈ D.bls), lamB := lamB } (D.gd P w K mg) (D.gx K base) where
  glb := fun i x d h1 h2 => by
    unfold ex at hx
    have hg := (He.ba hx).1
    unfold glbs at hg
    have h3 : (D.gln.zip D.g.glb)[i]? = some (x, d) := by
      rw [List.getElem?_zip_eq_some]
      exact ⟨h1, h2⟩
    have h4 := List.all_eq_true.mp hg (x, d) (List.mem_of_getElem? h3)
    cases q : PySem.W.nsIn K mainGlobals x with
    | none =>
      have h4 : (match PySem.W.nsIn K mainGlobals x with
        | some (some u) => relDB K d u
        | _ => false) = true := h4
      rw [q] at h4
      cases h4
    | some r =>
      have h4 : (match PySem.W.nsIn K mainGlobals x with
        | some (some u) => relDB K d u
        | _ => false) = true := h4
      rw [q] at h4
      cases r with
      | none => cases h4
      | some u =>
        obtain ⟨v, r1, r2⟩ := relDB_ok (G := D.gd P w K mg) d u h4
        exact ⟨u, v, PySem.W.mg_of X N q, r1, r2⟩
  bok := fun x h1 => He.free_ok X N (c.facts (f := .free x) (by
    unfold fa
    have : x ∈ D.bls := of_decide_eq_true h1
    simp only [List.mem_append, List.mem_map]
    exact .inr (.inr (.inr (.inr (.inl ⟨x, this, rfl⟩))))))
  lam := fun l C params body scope ci h1 h2 h3 => by
    show lamChk D.J0 D.lts D.g.lams l ci.N ci.sc params body scope = true
    rw [h2, h3]
    exact hl _ _ _ _ _ h1
  exc := fun i x h1 => by
    have e : D.cn i = x := getD_of h1
    have m := List.mem_of_getElem? h1
    have h2 := He.glo_ok X N (c.facts (f := .glo x) (by
      unfold fa
      simp only [List.mem_append, List.mem_map]
      exact .inr (.inl ⟨x, m, rfl⟩)))
    have h3 := He.exc_ok (c.facts (f := .exc x) (by
      unfold fa
      simp only [List.mem_append, List.mem_map]
      exact .inr (.inr (.inl ⟨x, m, rfl⟩))))
    exact ⟨He.ga K x, by show Value.ref (He.ga K (D.cn i)) = _; rw [e], h2, h3⟩
  exm := fun i d y h1 h2 => by
    have e : D.cn d = y := getD_of h2
    have hn : D.g.ncl = D.clsn.length := of_decide_eq_true (He.ba (He.ba hc).1).2
    have hi : i < D.clsn.length := by
      rw [← hn]
      exact h1
    obtain ⟨hd, _⟩ := List.getElem?_eq_some_iff.mp h2
    exact He.exm_ok (c.facts (f := .exm (D.cn i) (D.cn d) (sub D.g i d)) (by
      unfold fa exms
      simp only [List.mem_append, List.mem_map, List.mem_flatMap, List.mem_range]
      exact .inr (.inr (.inr (.inl ⟨i, hi, d, hd, rfl⟩)))))
  mak := fun c' i h1 => by
    obtain ⟨q1, q2⟩ := ini_of hc (lookN_some h1)
    have h2 := He.mkr_ok (c.facts (f := .mkr (D.oc c')) (by exact mem_mkr q2))
    show Mk K (He.ga K (D.oc c')) (He.fAd K (D.fid i))
    rw [q1]
    exact h2
  ocl := fun i x h1 => by
    have e : D.oc i = x := getD_of h1
    have m := List.mem_of_getElem? h1
    obtain ⟨hi, _⟩ := List.getElem?_eq_some_iff.mp h1
    have h2 := He.glo_ok X N (c.facts (f := .glo x) (mem_gloc m))
    have h3 := He.mkr_ok (c.facts (f := .mkr (D.oc i)) (mem_mkr hi))
    refine ⟨?_, h3.kp⟩
    show mg x = some (.ref (He.ga K (D.oc i)))
    rw [e]
    exact h2
  fld := fun c' f h1 => by
    obtain ⟨q1, q2⟩ := fld_of hc h1
    exact ⟨He.cls_ok (c.facts (f := .cls (D.oc c')) (mem_cls q2)), He.noat_ok (c.facts (f := .noat (D.oc c') (D.an f)) (mem_noat q1))⟩
  met := fun c' m i h1 => by
    obtain ⟨q1, q2, q3⟩ := met_of hc (lookNN_some h1)
    refine ⟨He.cls_ok (c.facts (f := .cls (D.oc c')) (mem_cls q2)), ?_⟩
    have h2 := He.meth_ok (c.facts (f := .meth (D.oc c') (D.an m)) (mem_meth q3))
    show Meth K (He.ga K (D.oc c')) (D.an m) (He.fAd K (D.fid i))
    rw [q1]
    exact h2
  atn := fun f x h1 => getD_of h1
  inj := fun i j hi hj e => nd_getD (of_decide_eq_true (He.ba (He.ba (He.ba (He.ba (chkC_of hc)).1).1).1).1) hi hj e
  nat := of_decide_eq_true (He.ba (He.ba (He.ba (He.ba (chkC_of hc)).1).1).1).2
  fns := fun i x h1 => by
    have e : D.nm i = x := getD_of h1
    have m := List.mem_of_getElem? h1
    obtain ⟨hi, _⟩ := List.getElem?_eq_some_iff.mp h1
    have ef : D.fid i = (D.nm i, none) := if_pos hi
    have hm : i < D.many := Nat.lt_of_lt_of_le hi (Nat.le_add_right _ _)
    refine ⟨?_, ?_⟩
    · show mg x = some (.ref (He.fAd K (D.fid i)))
      rw [ef, e]
      exact He.glo_ok X N (c.facts (f := .glo x) (by
        unfold fa
        simp only [List.mem_append, List.mem_map]
        exact .inl ⟨x, m, rfl⟩))
    · obtain ⟨fd, FD⟩ := c.defs (d := D.dd i) (by
        unfold fn
        exact List.mem_map.mpr ⟨i, List.mem_range.mpr hm, rfl⟩)
      exact FD.kp
theorem lookup_nodup {β : Type} {f : Nat → Addr} {g : Nat → β} : ∀ {l : List Nat} {i : Nat}, (l.map f).Nodup → i ∈ l → (l.map fun j => (f j, g j)).lookup (f i) = some (g i)
  | j :: l, i, hn, hi => by
    have hn2 := List.nodup_cons.mp hn
    rw [List.map_cons, List.lookup_cons]
    rcases List.mem_cons.mp hi with e | hi
    · rw [e, beq_self_eq_true]
    · have : (f i == f j) = false := beq_eq_false_iff_ne.mpr fun e => hn2.1 (e ▸ List.mem_map_of_mem hi)
      rw [this]
      exact lookup_nodup hn2.2 hi
theorem fngX (X : K.In h) (N : h.Ns mainGlobals mg) (c : He.SaysD D.fa D.fn K) (hx : D.ex K = true) (hc : D.chk = true) (TB : ∀ p ∈ D.cs K, TabB base mg p.1 p.2) {i : Nat} {F : Fn} (hF : D.g.fns[i]? = some F) :
    ∃ (t : FT) (fd : FuncData), D.fts[i]? = some t ∧ FunD K (D.fnm i) (D.fql i) (defArgs (D.st i)) (defBody (D.st i)) (defScope (D.st i)) ((D.dd i).dvs K) [] (He.fAd K (D.fid i)) fd ∧ FnScope t.N t.ps (defScope (D.st i)) ∧ F.ar = t.ps.length ∧ F.nl = t.N.length ∧ t.ps.length ≤ t.N.length ∧ ((F.dfl.all fun d => (dvOf d).isSome) = true ∧ F.dfl.length ≤ F.ar) ∧ plainArgs (defArgs (D.st i)) t.ps = true ∧
      (t.hasT = true → ∃ cc Pa, fd.code = .ref cc ∧ TabB base mg cc Pa ∧ D.tq K Pa = some (D.fql i ++ ".<locals>." ++ "<lambda>", posB t.L)) ∧
      ∀ cf k, CallF (D.gd P w K mg) (D.gx K base) cf k → CallL (D.gd P w K mg) (D.gx K base) cf k → SSs (D.gd P w K mg) (D.gx K base) cf k (fnSC t F.lamf (defScope (D.st i))) F.body (defBody (D.st i)) := by
  have ok := gok (P := P) (w := w) (base := base) X N c hx hc D.J.lamB (fun _ _ _ _ _ z => z)
  obtain ⟨hi, _⟩ := List.getElem?_eq_some_iff.mp hF
  have hlen : D.g.fns.length = D.many := of_decide_eq_true (He.ba (He.ba hc).1).1
  rw [hlen] at hi
  have h1 := List.all_eq_true.mp (He.ba (He.ba hc).2).2 i (List.mem_range.mpr hi)
  unfold chk1 at h1
  rw [hF] at h1
  cases ht : D.fts[i]? with
  | none =>
    rw [ht] at h1
    cases h1
  | some t =>
    rw [ht] at h1
    have h1 : ((F.dfl.all fun d => (dvOf d).isSome) && decide (F.dfl.length ≤ F.ar) && plainArgs (defArgs (D.st i)) t.ps && fnChk D.J t F (defBody (D.st i)) (defScope (D.st i))) = true := h1
    obtain ⟨h2, h3⟩ := He.ba h1
    obtain ⟨h4, h5⟩ := He.ba h2
    have hdfl : (F.dfl.all fun d => (dvOf d).isSome) = true ∧ F.dfl.length ≤ F.ar := ⟨(He.ba h4).1, of_decide_eq_true (He.ba h4).2⟩
    unfold fnChk at h3
    simp only [Bool.and_eq_true, decide_eq_true_eq] at h3
    obtain ⟨⟨⟨⟨q1, q2⟩, q3⟩, q4⟩, q5⟩ := h3
    obtain ⟨fd, FD⟩ := c.defs (d := D.dd i) (by
      unfold fn
      exact List.mem_map.mpr ⟨i, List.mem_range.mpr hi, rfl⟩)
    have FD : FunD K (D.fnm i) (D.fql i) (defArgs (D.st i)) (defBody (D.st i)) (defScope (D.st i)) ((D.dd i).dvs K) [] (He.fAd K (D.fid i)) fd := FD
    refine ⟨t, fd, rfl, FD, C8.fnScope_by q1, q2, q3, q4, hdfl, h5, fun hT => ?_, fun cf k hF hL => chkSs_ok ok hF hL _ _ q5⟩
    obtain ⟨oc, od, dV, kV, doc, pm, an, cdv, ct, osl, hfd, lk, hcd, _, _⟩ := FD.ex
    obtain ⟨cc, rfl⟩ := He.codeIn_ref hcd
    have lk2 : K.lookup (He.fAd K (D.fid i)) = some ⟨oc, od, .func fd, osl⟩ := lk
    have ec := He.codeOf_eq (c := cc) lk2 (by rw [hfd])
    have hi2 : i ∈ D.tis := by
      unfold tis
      refine List.mem_filter.mpr ⟨List.mem_range.mpr hi, ?_⟩
      rw [ht]
      exact hT
    refine ⟨cc, (He.cT K (D.fid i)).2, by rw [hfd], ?_, ?_⟩
    · have := TB (He.cT K (D.fid i)) (by
        unfold cs tf
        exact List.mem_map.mpr ⟨_, List.mem_map.mpr ⟨i, hi2, rfl⟩, rfl⟩)
      rw [show (He.cT K (D.fid i)).1 = cc from ec] at this
      exact this
    · unfold ex at hx
      have hn : (D.tabs K).Nodup := of_decide_eq_true (He.ba hx).2
      have e := lookup_nodup (f := fun i => (He.cT K (D.fid i)).2) (g := fun i => (D.fql i ++ ".<locals>." ++ "<lambda>", posB (D.ftL i))) hn hi2
      unfold tq
      rw [e]
      have : D.ftL i = t.L := by
        unfold ftL
        rw [ht]
      rw [this]
theorem fng (X : K.In h) (N : h.Ns mainGlobals mg) (c : He.SaysD D.fa D.fn K) (hx : D.ex K = true) (hc : D.chk = true) (TB : ∀ p ∈ D.cs K, TabB base mg p.1 p.2) {i : Nat} {F : Fn} (hF : D.g.fns[i]? = some F) : FnG (D.gd P w K mg) (D.gx K base) i F := by
  obtain ⟨t, fd, ht, FD, q1, q2, q3, q4, hdfl, h5, hT, hs⟩ := fngX (P := P) (w := w) (base := base) X N c hx hc TB hF
  refine ⟨D.fnm i, D.fql i, defArgs (D.st i), defBody (D.st i), defScope (D.st i), (D.dd i).dvs K, [], fd, fnSC t F.lamf (defScope (D.st i)), t.ps, FD, q1, rfl, q2, q3, rfl, rfl, q4, hT, hs, fun n hn1 hn2 => ?_⟩
  have ed : (D.dd i).dvs K = (dvsOf F.dfl).map (He.Dv.v K) := by
    show (dvsOf (D.dfl i)).map (He.Dv.v K) = _
    unfold dfl
    rw [hF]
  obtain ⟨d1, d2⟩ := dvs_ok (G := D.gd P w K mg) (K := K) hdfl.1
  rw [ed] at FD
  have hle := hdfl.2
  by_cases h0 : F.dfl = []
  · rw [h0] at hn2 FD ⊢
    have hn : n = t.ps.length := by
      rw [List.length_nil] at hn2
      omega
    have FD : FunD K (D.fnm i) (D.fql i) (defArgs (D.st i)) (defBody (D.st i)) (defScope (D.st i)) [] [] (He.fAd K (D.fid i)) fd := FD
    have B : Binds K fd t.ps [] := FD.bindsN fun kV doc pm an cdv ct us hl => bind_plain h5 hl
    refine ⟨[], [], .nil, fun τ cm ρ H => ?_, fun s us KX hl => ?_⟩
    · rw [List.drop_nil]
      unfold reps
      rfl
    · exact B s us KX (by rw [List.append_nil, hl, hn])
  · have hne : (dvsOf F.dfl).map (He.Dv.v K) ≠ [] := fun z => h0 (List.eq_nil_of_length_eq_zero (by rw [← d2, List.map_eq_nil_iff.mp z]; rfl))
    have hlen : ((dvsOf F.dfl).map (He.Dv.v K)).length = F.dfl.length := by rw [List.length_map, d2]
    obtain ⟨ds, r1, r2⟩ := FD.binds1 (ps := t.ps) n (n + F.dfl.length - F.ar) hne (by rw [hlen]; omega) fun T kV doc pm an cdv ct us its hu hi => by
      rw [hlen] at hi
      have := bind_dfl (x := D.fnm i) (qual := D.fql i) (body := defBody (D.st i)) (scope := defScope (D.st i)) (kV := kV) (doc := doc) (pm := pm) (an := an) (cdv := cdv) (ct := ct) (us := us) (its := its) (T := T) h5 (by omega) (by omega) (by omega)
      rw [hu, hi, ← q2] at this
      exact this
    refine ⟨ds, _, r1, fun τ cm ρ H => (d1 τ cm ρ H).drop _, fun s us KX hl => ?_⟩
    refine r2 s us KX ?_
    have := r1.length
    rw [List.length_drop, hlen] at this
    rw [List.length_append, hl, ← this]
    omega
theorem lmg (X : K.In h) (N : h.Ns mainGlobals mg) (c : He.SaysD D.fa D.fn K) (hx : D.ex K = true) (hc : D.chk = true) {l : Nat} {L : Lam} (hl : D.g.lams[l]? = some L) : LmG (D.gd P w K mg) (D.gx K base) l L :=
  lmG_of (J := D.J0) (gok (P := P) (w := w) (base := base) X N c hx hc D.J0.lamB (fun _ _ _ _ _ z => by cases z)) hl fun _ _ _ _ z => z
/-- the law's promise: from a list of whole numbers to True -/
def sp (D : LawD) (K : PySem.W.Frag) (Ok : List Int → Prop) : Sp := fun vs H Q _ => ∃ (a : Addr) (ns : List Int), vs = [.ref a] ∧ Ok ns ∧ (∀ p ∈ D.cs K, H p.2 = some (.tbl #[])) ∧ SqL K H a (ns.map V.int) ∧ ∀ H', Q (.bl true) H'
theorem reps_ints2 {G : GD} {cm : List (Option CI)} {ρ : List Addr} {H : Hp} : ∀ ns : List Int, reps G cm ρ H (ns.map fun n => FS.D.int n) (ns.map V.int)
  | [] => by unfold reps; rfl
  | n :: ns => by
    rw [List.map_cons, List.map_cons]
    unfold reps
    exact ⟨.int n, ns.map V.int, rfl, by unfold rep; rfl, reps_ints2 ns⟩
theorem tq_mem {Pa : Addr} {q : Str} {L : Pos → Bool} (e : D.tq K Pa = some (q, L)) : ∃ p ∈ D.cs K, p.2 = Pa := by
  unfold tq at e
  have key : ∀ l : List Nat, (l.map fun i => ((He.cT K (D.fid i)).2, (D.fql i ++ ".<locals>." ++ "<lambda>", posB (D.ftL i)))).lookup Pa = some (q, L) → ∃ i ∈ l, (He.cT K (D.fid i)).2 = Pa := by
    intro l
    induction l with
    | nil => exact fun h => by cases h
    | cons i l ih =>
      intro h
      rw [List.map_cons, List.lookup_cons] at h
      cases hb : Pa == (He.cT K (D.fid i)).2 with
      | true => exact ⟨i, List.mem_cons_self, (beq_iff_eq.mp hb).symm⟩
      | false =>
        rw [hb] at h
        obtain ⟨j, hj, e⟩ := ih h
        exact ⟨j, List.mem_cons_of_mem _ hj, e⟩
  obtain ⟨i, hi, e⟩ := key _ e
  refine ⟨He.cT K (D.fid i), ?_, e⟩
  unfold cs tf
  exact List.mem_map.mpr ⟨_, List.mem_map.mpr ⟨i, hi, rfl⟩, rfl⟩
theorem fd_same {x qual : Str} {params : Arguments} {body : List Stmt} {scope : Scope} {f : Addr} {fd fd' : FuncData} {dvs : List V} (a : FunD K x qual params body scope dvs [] f fd) (b : FunD K x qual params body scope dvs [] f fd') : fd = fd' := by
  obtain ⟨oc, od, dV, kV, doc, pm, an, cdv, ct, osl, _, lk, _⟩ := a.ex
  obtain ⟨oc', od', dV', kV', doc', pm', an', cdv', ct', osl', _, lk', _⟩ := b.ex
  rw [lk] at lk'
  injection lk' with e
  injection e with _ _ e _
  injection e
theorem law_ok (X : K.In h) (N : h.Ns mainGlobals mg) (c : He.SaysD D.fa D.fn K) (hx : D.ex K = true) (hc : D.chk = true) (TB : ∀ p ∈ D.cs K, TabB base mg p.1 p.2) {i : Nat} {F : Fn} {x : Str} {fd : FuncData} {Ok : List Int → Prop} {k : Nat}
    (hF : D.g.fns[i]? = some F) (hd0 : F.dfl = []) (hps : ∀ t, D.fts[i]? = some t → t.ps = [x]) (FD : FunD K (D.fnm i) (D.fql i) (defArgs (D.st i)) (defBody (D.st i)) (defScope (D.st i)) ((D.dd i).dvs K) [] (He.fAd K (D.fid i)) fd)
    (hlaw : ∀ ns, Ok ns → ∀ d : FS.D, d = .lst (ns.map fun n => FS.D.int n) ∨ d = .frl (ns.map fun n => FS.D.int n) → ∃ mh, callK D.g (k + 1) (.fn i) [] [d] [] = .ok (.bl true) mh) :
    FnOk P w K mg base (L2.CX P w) (5 * k + 4) (He.fAd K (D.fid i)) fd [x] (D.sp K Ok) := by
  obtain ⟨cF, cL⟩ := calls_ok (G := D.gd P w K mg) (Y := D.gx K base) (fun i F hF => fng X N c hx hc TB hF) (gok (P := P) (w := w) (base := base) X N c hx hc D.J.lamB (fun _ _ _ _ _ z => z)).mak (fun l L hl => lmg X N c hx hc hl) k
  obtain ⟨t, fd', ht, FD', S, har, hnl, hpl, hdfl, h5, htab, hsound⟩ := fngX (P := P) (w := w) (base := base) X N c hx hc TB hF
  have ef := fd_same FD' FD
  subst ef
  have eps := hps t ht
  obtain ⟨oc, od, dV, kV, doc, pm, an, cdv, ct, osl, hfd, lk, hcd, _, _⟩ := FD'.ex
  subst hfd
  refine ⟨fun vs H Q E ⟨a, ns, e, _⟩ => by rw [e]; rfl, fun A outer s H args us vs Q E hr e0 hb rv ⟨a, ns, e, hns, hT, hS, hQ⟩ => ?_⟩
  subst e
  -- the argument
  obtain ⟨d, hd, rd⟩ : ∃ d : FS.D, (d = .lst (ns.map fun n => FS.D.int n) ∨ d = .frl (ns.map fun n => FS.D.int n)) ∧ rep ((D.gd P w K mg).tm []) [] [] H d (.ref a) := by
    rcases hS with (hS | ⟨o, hS⟩) | hS
    · refine ⟨_, .inl rfl, ?_⟩
      unfold rep
      exact ⟨a, ns.map V.int, rfl, ⟨⟨by simp, by simp⟩, hS⟩, reps_ints2 ns⟩
    · refine ⟨_, .inr rfl, ?_⟩
      unfold rep
      exact ⟨a, ns.map V.int, rfl, .inl ⟨o, ⟨by simp, by simp⟩, hS⟩, reps_ints2 ns⟩
    · refine ⟨_, .inr rfl, ?_⟩
      unfold rep
      exact ⟨a, ns.map V.int, rfl, .inr hS, reps_ints2 ns⟩
  obtain ⟨mh, hrun⟩ := hlaw ns hns d hd
  unfold callK at hrun
  rw [hF] at hrun
  have hrun : (if [d].length ≤ F.ar ∧ F.ar ≤ [d].length + F.dfl.length then (match evSs D.g (callK D.g k) [] F.body (([d] ++ F.dfl.drop ([d].length + F.dfl.length - F.ar)).map some ++ List.replicate (F.nl - F.ar) none) [] with
      | .ret d h1 => if F.lamf && !noClo d then R.stk else .ok d h1
      | .nx _ h1 => .ok .non h1
      | .exc c _ h1 => .exc c h1
      | _ => .stk) else .stk) = .ok (.bl true) mh := hrun
  split at hrun
  rotate_left
  · cases hrun
  generalize hfr : ([d] ++ F.dfl.drop ([d].length + F.dfl.length - F.ar)).map some ++ List.replicate (F.nl - F.ar) none = fr0 at hrun
  have hres : ∃ mh', evSs D.g (callK D.g k) [] F.body fr0 [] = .ret (.bl true) mh' := by
    cases hr : evSs D.g (callK D.g k) [] F.body fr0 [] with
    | ret d2 h1 =>
      rw [hr] at hrun
      have hrun : (if F.lamf && !noClo d2 then R.stk else .ok d2 h1) = .ok (.bl true) mh := hrun
      split at hrun
      · cases hrun
      · cases hrun
        exact ⟨_, rfl⟩
    | nx _ _ =>
      rw [hr] at hrun
      cases hrun
    | exc _ _ _ =>
      rw [hr] at hrun
      cases hrun
    | brk _ _ =>
      rw [hr] at hrun
      cases hrun
    | cnt _ _ =>
      rw [hr] at hrun
      cases hrun
    | stk =>
      rw [hr] at hrun
      cases hrun
  obtain ⟨mh', hres⟩ := hres
  generalize hci : (if F.lamf = true then some (CI.mk (cellsFrom (s.heap.objs.size + 1) (defScope (D.st i)).names []) t.N (defScope (D.st i)) (D.fql i ++ ".<locals>.")) else none : Option CI) = e
  rw [← eps] at hb
  refine run_ofS (N := t.N) (ps := t.ps) (us := us) (vs := [.ref a]) (k := 5 * k + 3) lk hcd S hr e0 hb rv (by rw [eps]; rfl) fun hr => ?_
  refine ⟨_, pss_w, ?_⟩
  have cx' : CtxOk ((D.gd P w K mg).tm []) (D.gx K base) (fnSC t F.lamf (defScope (D.st i))) k [e] [] (cxOf (L2.CX P w) P w K mg base t.N (D.fql i) (defScope (D.st i)) (He.fAd K (D.fid i)) cdv A outer s H E) := by
    refine ⟨rfl, rfl, rfl, rfl, rfl, S.nd, rfl, S.kind, rfl, fun _ _ => rfl, hr, fun b oo q => q, fun ht => ?_, fun _ _ => rfl, fun hn => ?_, fun hy => ?_, fun ci hc => ?_, rfl, fun _ hd => L2H.passesAt_of rfl hd⟩
    · obtain ⟨c, P, q1, q2, q3⟩ := htab ht
      exact ⟨c, P, q1, q2, q3⟩
    · have hn : F.lamf = false := hn
      show some e = some none
      rw [← hci, hn]
      rfl
    · have hy : F.lamf = true := hy
      refine ⟨CI.mk (cellsFrom (s.heap.objs.size + 1) (defScope (D.st i)).names []) t.N (defScope (D.st i)) (D.fql i ++ ".<locals>."), ?_⟩
      show some e = _
      rw [← hci, hy]
      rfl
    · have hc : some e = some (some ci) := hc
      rw [← hci] at hc
      cases hl2 : F.lamf with
      | false =>
        rw [hl2] at hc
        cases hc
      | true =>
        rw [hl2] at hc
        have hc := Option.some.inj (Option.some.inj hc)
        rw [← hc]
        exact ⟨rfl, rfl, rfl, rfl⟩
  have sx' : StX (cxOf (L2.CX P w) P w K mg base t.N (D.fql i) (defScope (D.st i)) (He.fAd K (D.fid i)) cdv A outer s H E) := ⟨rfl, rfl, passes_of rfl⟩
  have gd0 : Gd ((D.gd P w K mg).tm []) [] H [] := by
    refine ⟨rfl, List.nodup_nil, fun n a o h => (by cases h), fun Pa q L e => ⟨by simp, ?_⟩, fun a h => (by cases h)⟩
    obtain ⟨p, hp, e2⟩ := tq_mem e
    refine ⟨#[], by rw [← e2]; exact hT p hp, ?_, fun pos cv _ hcv => ?_⟩
    · unfold TriplesOk
      trivial
    · cases hcv
  have st' : StR ((D.gd P w K mg).tm []) [e] (cxOf (L2.CX P w) P w K mg base t.N (D.fql i) (defScope (D.st i)) (He.fAd K (D.fid i)) cdv A outer s H E) [] [] H [] (L2.start t.N [.ref a]) fr0 := by
    refine ⟨gd0, ?_, fun d ci f _ h2 _ => ?_⟩
    · rw [← hfr, hd0, List.drop_nil, List.append_nil]
      refine start_fr (reps.one (rd.mono (Deeper.app [] [e]) (Ext.refl _ _) _ _)) ?_
      rw [hnl, har, eps]
      show 1 + (t.N.length - 1) = t.N.length
      rw [eps] at hpl
      have : 1 ≤ t.N.length := hpl
      omega
    · unfold frameAt at h2
      split at h2
      · rename_i h3
        cases h3
      · cases h2
  refine hsound _ k cF cL [] _ _ _ cx' sx' [] H [] _ fr0 st' _ ?_
  show RSK _ _ _ _ _ _ (evSs D.g (callK D.g k) [] F.body fr0 []) _
  rw [hres]
  intro ρ' H' v ex g r
  unfold rep at r
  subst r
  exact hQ H'
theorem law_at {l : PySem.W.OpenLaw} {fa : Addr} {x : Str} {i k n : Nat} {F : Fn} {Ok : List Int → Prop} (X : K.In h) (N : h.Ns mainGlobals mg) (c : He.SaysX D.fa D.fn [] D.tf D.ex w h K) (hc : D.chk = true) (hin : i < D.fnn.length) (hmg : mg (D.nm i) = some (.ref fa)) (hF : D.g.fns[i]? = some F) (hd0 : F.dfl = []) (hps : ∀ t, D.fts[i]? = some t → t.ps = [x])
    (hok : ∀ ns : List Int, ns.length ≤ n → (∀ z ∈ ns, Builtin.Int.intBits z ≤ 1048576) → Ok ns)
    (hlaw : ∀ ns, Ok ns → ∀ d : FS.D, d = .lst (ns.map fun n => FS.D.int n) ∨ d = .frl (ns.map fun n => FS.D.int n) → ∃ mh, callK D.g (k + 1) (.fn i) [] [d] [] = .ok (.bl true) mh) :
    LawAtS l w K (L2.CX l.prog w) (5 * k + 4) n x mg fa h := by
  have cd : He.SaysD D.fa D.fn K := c.t.d
  have hx : D.ex K = true := c.more
  obtain ⟨hi, _⟩ := List.getElem?_eq_some_iff.mp hF
  have hlen : D.g.fns.length = D.many := of_decide_eq_true (He.ba (He.ba hc).1).1
  rw [hlen] at hi
  obtain ⟨fd, FD⟩ := cd.defs (d := D.dd i) (by
    unfold fn
    exact List.mem_map.mpr ⟨i, List.mem_range.mpr hi, rfl⟩)
  have FD : FunD K (D.fnm i) (D.fql i) (defArgs (D.st i)) (defBody (D.st i)) (defScope (D.st i)) ((D.dd i).dvs K) [] (He.fAd K (D.fid i)) fd := FD
  have hga : mg (D.nm i) = some (.ref (He.ga K (D.nm i))) := He.glo_ok X N (cd.facts (f := .glo (D.nm i)) (by
    unfold LawD.fa
    simp only [List.mem_append, List.mem_map]
    refine .inl ⟨D.nm i, ?_, rfl⟩
    unfold nm
    rw [List.getD_eq_getElem?_getD, List.getElem?_eq_getElem hin]
    exact List.getElem_mem hin))
  rw [hmg] at hga
  have e : fa = He.ga K (D.nm i) := by
    injection hga with e
    injection e
  subst e
  have inTf : ∀ p ∈ D.cs K, ∃ q ∈ D.tf, p = He.cT K q := fun p hp => by
    unfold cs at hp
    obtain ⟨q, hq, e⟩ := List.mem_map.mp hp
    exact ⟨q, hq, e.symm⟩
  have hpl : ∀ t, D.fts[i]? = some t → plainArgs (defArgs (D.st i)) t.ps = true := fun t ht => by
    have h1 := List.all_eq_true.mp (He.ba (He.ba hc).2).2 i (List.mem_range.mpr hi)
    unfold chk1 at h1
    rw [hF, ht] at h1
    have h1 : ((F.dfl.all fun d => (dvOf d).isSome) && decide (F.dfl.length ≤ F.ar) && plainArgs (defArgs (D.st i)) t.ps && fnChk D.J t F (defBody (D.st i)) (defScope (D.st i))) = true := h1
    exact (He.ba (He.ba h1).1).2
  have ht : ∃ t, D.fts[i]? = some t := by
    have h1 := List.all_eq_true.mp (He.ba (He.ba hc).2).2 i (List.mem_range.mpr hi)
    unfold chk1 at h1
    rw [hF] at h1
    cases q : D.fts[i]? with
    | none =>
      rw [q] at h1
      cases h1
    | some t => exact ⟨t, rfl⟩
  obtain ⟨t, ht⟩ := ht
  refine ⟨fd, D.cs K, D.sp K Ok, fun p hp => ?_, fun p hp => ?_, fun p hp => ?_, fun s u => ?_, fun H a ns h1 h2 h3 h4 => ⟨a, ns, rfl, hok ns h1 h2, h3, h4, fun _ => rfl⟩, fun base KB NB TB => by
    have q := law_ok (P := l.prog) (w := w) X N cd hx hc TB hF hd0 hps FD hlaw
    have ef : D.fid i = (D.nm i, none) := if_pos hin
    rw [ef] at q
    exact q⟩
  · obtain ⟨q, hq, e⟩ := inTf p hp
    rw [e]
    exact c.empty q hq
  · obtain ⟨q, hq, e⟩ := inTf p hp
    rw [e]
    exact c.out q hq
  · obtain ⟨q, hq, e⟩ := inTf p hp
    rw [e]
    exact PySem.W.codeHd_of_K X (c.hd q hq)
  · have ed : (D.dd i).dvs K = [] := by
      show (dvsOf (D.dfl i)).map (He.Dv.v K) = _
      unfold dfl
      rw [hF]
      show (dvsOf F.dfl).map (He.Dv.v K) = _
      rw [hd0]
      rfl
    rw [ed] at FD
    have b := FD.bindsA (ps := t.ps) (fun kV doc pm an cdv ct us hl => bind_plain (hpl t ht) hl)
    have := b s [u] (by rw [hps t ht]; rfl)
    rw [hps t ht] at this
    exact this
end
end LawD
end FS

-- text FsT
set_option Elab.async false
set_option linter.all false
set_option maxHeartbeats 4000000
/-! FsT: the same evaluator, made of small functions (quicker in the kernel). -/
namespace FS
namespace C
abbrev XE : Type := CF → List Fr → Fr → MH → R D
abbrev XEs : Type := CF → List Fr → Fr → MH → R (List D)
abbrev XW : Type := CF → List Fr → Fr → MH → R (List W)
abbrev XB : Type := CF → List Fr → Fr → MH → R Bool
abbrev XJ : Type := CF → List Fr → List Nat → Fr → MH → R (List Nat)
abbrev XS : Type := CF → List Fr → Fr → MH → RS
def k (d : D) : XE := fun _ _ _ h => .ok d h
def var (i : Nat) : XE := fun _ _ fr h => .opt h (get fr i)
def glb (g : Pg) (i : Nat) : XE := fun _ _ _ h => .opt h g.glb[i]?
def bin (op : Bop) (a b : XE) : XE := fun cf o fr h => (a cf o fr h).bind fun x h1 => (b cf o fr h1).bind fun y h2 => binV op x y h2
def neg (a : XE) : XE := fun cf o fr h => (a cf o fr h).bind fun x h1 => match x with
  | .int i => .ok (.int (-i)) h1
  | _ => .stk
def cmp (op : Cop) (a b : XE) : XE := fun cf o fr h => (a cf o fr h).bind fun x h1 => (b cf o fr h1).bind fun y h2 => match cmpV op x y h2 with
  | some c => .ok (.bl c) h2
  | none => .stk
def chn (op op2 : Cop) (a b c : XE) : XE := fun cf o fr h => (a cf o fr h).bind fun x h1 => (b cf o fr h1).bind fun y h2 => match cmpV op x y h2 with
  | some true => (c cf o fr h2).bind fun z h3 => (match cmpV op2 y z h3 with
    | some c => .ok (.bl c) h3
    | none => .stk)
  | some false => .ok (.bl false) h2
  | none => .stk
def bop (es : XB) : XE := fun cf o fr h => (es cf o fr h).bind fun b h1 => .ok (.bl b) h1
def bnot (a : XE) : XE := fun cf o fr h => (a cf o fr h).bind fun x h1 => match x with
  | .bl b => .ok (.bl (!b)) h1
  | _ => .stk
def ife (c : XB) (a b : XE) : XE := fun cf o fr h => (c cf o fr h).bind fun t h1 => match t with
  | true => a cf o fr h1
  | false => b cf o fr h1
def ix (a b : XE) : XE := fun cf o fr h => (a cf o fr h).bind fun x h1 => (b cf o fr h1).bind fun y h2 => .opt h2 (ixV x y h2)
def sl (a : XE) (n1 : Bool) (lo : XE) (n2 : Bool) (hi : XE) : XE := fun cf o fr h => (a cf o fr h).bind fun x h1 => (lo cf o fr h1).bind fun l h2 => match opE n1 l with
  | some l => (hi cf o fr h2).bind fun u h3 => (match opE n2 u with
    | some u => .opt h3 (slV x l u h3)
    | none => .stk)
  | none => .stk
def nop : XE := fun _ _ _ h => .ok .non h
def tup (es : XEs) : XE := fun cf o fr h => (es cf o fr h).bind fun xs h1 => if Nat.ble xs.length line then .ok (.tup xs) h1 else .stk
def lst (m : Bool) (es : XEs) : XE := fun cf o fr h => (es cf o fr h).bind fun xs h1 => if Nat.ble xs.length line then (match m with
  | false => .ok (.lst xs) h1
  | true => if noClos xs then .ok (.ref h1.length) (h1 ++ [.lst xs]) else .stk) else .stk
def call (f : Nat) (es : XEs) : XE := fun cf o fr h => (es cf o fr h).bind fun xs h1 => cf (.fn f) (fr :: o) xs h1
def bi (b : Bi) (es : XEs) : XE := fun cf o fr h => (es cf o fr h).bind fun xs h1 => biV b xs h1
def me (m : Me) (e : XE) (es : XEs) : XE := fun cf o fr h => (e cf o fr h).bind fun x h1 => match x with
  | .str s => (es cf o fr h1).bind fun xs h2 => meV m (.str s) xs h2
  | _ => .stk
def lam (l : Nat) : XE := fun _ o _ h => .ok (.clo l o.length) h
def app (g : Pg) (i : Nat) : XE := fun cf o fr h => match get fr i with
  | some (.clo l d) => (match g.lams[l]?, frameAt o d with
    | some L, some f => if L.cap.all (fun i => Nat.blt i f.length) then cf (.lam l (L.cap.map (get f))) (fr :: o) [] h else .stk
    | _, _ => .stk)
  | _ => .stk
def lc (own : List Nat) (t : T) (it : XW) (ifs : XB) (e : XE) : XE := fun cf o fr h => (it cf o fr h).bind fun xs h1 => if Nat.ble xs.length line then ((mapW (fun x h2 => match asg t x (wipeF fr own) with
  | some fr1 => (ifs cf (fr :: o) fr1 h2).noX.bind fun b h3 => (match b with
    | true => (e cf (fr :: o) fr1 h3).noX.bind fun y h4 => .ok (some y) h4
    | false => .ok none h3)
  | none => .stk) xs h1).bind fun ys h5 => .ok (.lst ys) h5) else .stk
def gen (q : Gq) (own : List Nat) (t : T) (it : XW) (ifs : XB) (e : XE) : XE := fun cf o fr h => (it cf o fr h).bind fun xs h1 => (anyW (match q with | .any => true | .all => false) (fun x h2 => match asg t x (wipeF fr own) with
  | some fr1 => (ifs cf ([] :: o) fr1 h2).noX.bind fun b h3 => (match b with
    | true => (e cf ([] :: o) fr1 h3).noX.bind fun y h4 => (match y with
      | .bl c => .ok (some c) h4
      | _ => .stk)
    | false => .ok none h3)
  | none => .stk) xs h1).bind fun c h5 => .ok (.bl c) h5
def fs (es : XJ) : XE := fun cf o fr h => (es cf o [] fr h).bind fun l h1 => .ok (.str l) h1
def jnil : XJ := fun _ _ acc _ h => .ok acc h
def jcons (e : XE) (es : XJ) : XJ := fun cf o acc fr h => (e cf o fr h).bind fun x h1 => match txtV x with
  | some t => if Nat.ble (acc.length + t.length) line then es cf o (acc ++ t) fr h1 else .stk
  | none => .stk
def nil : XEs := fun _ _ _ h => .ok [] h
def cons (e : XE) (es : XEs) : XEs := fun cf o fr h => (e cf o fr h).bind fun x h1 => (es cf o fr h1).bind fun xs h2 => .ok (x :: xs) h2
/-- the last of a chain of values -/
def blast (e : XE) : XB := fun cf o fr h => (e cf o fr h).bind fun x h1 => match x with
  | .bl b => .ok b h1
  | _ => .stk
def bcons (an : Bool) (e : XE) (es : XB) : XB := fun cf o fr h => (e cf o fr h).bind fun x h1 => match x with
  | .bl b => if b == an then es cf o fr h1 else .ok b h1
  | _ => .stk
def tv (e : XE) : XB := fun cf o fr h => (e cf o fr h).bind fun x h1 => .opt h1 (truV h1 x)
def tnt (a : XB) : XB := fun cf o fr h => (a cf o fr h).bind fun b h1 => .ok (!b) h1
def tife (c a b : XB) : XB := fun cf o fr h => (c cf o fr h).bind fun t h1 => match t with
  | true => a cf o fr h1
  | false => b cf o fr h1
def tcmp (op : Cop) (a b : XE) : XB := fun cf o fr h => (a cf o fr h).bind fun x h1 => (b cf o fr h1).bind fun y h2 => .opt h2 (cmpV op x y h2)
def tchn (op op2 : Cop) (a b c : XE) : XB := fun cf o fr h => (a cf o fr h).bind fun x h1 => (b cf o fr h1).bind fun y h2 => match cmpV op x y h2 with
  | some true => (c cf o fr h2).bind fun z h3 => .opt h3 (cmpV op2 y z h3)
  | some false => .ok false h2
  | none => .stk
def tnil (an : Bool) : XB := fun _ _ _ h => .ok an h
def tcons (an : Bool) (c cs : XB) : XB := fun cf o fr h => (c cf o fr h).bind fun b h1 => if b == an then cs cf o fr h1 else .ok b h1
def ie (a : XE) : XW := fun cf o fr h => (a cf o fr h).bind fun x h1 => .opt h1 (walkOf h1 x)
def rng (es : XEs) : XW := fun cf o fr h => (es cf o fr h).bind fun xs h1 => .opt h1 ((rngV xs).map plW)
def enum (es : XEs) : XW := fun cf o fr h => (es cf o fr h).bind fun xs h1 => .opt h1 (enumOf h1 xs)
def zip (es : XEs) : XW := fun cf o fr h => (es cf o fr h).bind fun xs h1 => .opt h1 (zipOf xs)
def at_ (g : Pg) (e : XE) (f : Nat) : XE := fun cf o fr h => (e cf o fr h).bind fun x h1 => .opt h1 (fldOf g h1 x f)
def new (g : Pg) (c : Nat) (es : XEs) : XE := fun cf o fr h => (es cf o fr h).bind fun xs h1 => match lookN c g.ini with
  | some i => (cf (.fn i) (fr :: o) (.ref h1.length :: xs) (h1 ++ [.ins c []])).bind fun d h2 => (match d with
    | .non => .ok (.ref h1.length) h2
    | _ => .stk)
  | none => .stk
def dct (es : XEs) : XE := fun cf o fr h => (es cf o fr h).bind fun xs h1 => match pairUp xs with
  | some kvs => if Nat.ble kvs.length 15 then .ok (.dic (mergeD [] kvs)) h1 else .stk
  | none => .stk
def dget (e k d : XE) : XE := fun cf o fr h => (e cf o fr h).bind fun x h1 => if (dicOf h1 x).isSome then ((k cf o fr h1).bind fun y h2 => (d cf o fr h2).bind fun z h3 => match dicOf h3 x with
  | some kvs => if keyB y then .ok ((lookD y kvs).getD z) h3 else .stk
  | none => .stk) else .stk
def mc (g : Pg) (m : Nat) (e : XE) (es : XEs) : XE := fun cf o fr h => (e cf o fr h).bind fun x h1 => match insOf h1 x with
  | some (n, c, fs) => (match lookNN c m g.mts, lookN m fs with
    | some i, none => if Nat.blt m g.nat then (es cf o fr h1).bind fun xs h2 => cf (.fn i) (fr :: o) (.ref n :: xs) h2 else .stk
    | _, _ => .stk)
  | none => .stk
def lcnt (e x : XE) : XE := fun cf o fr h => (e cf o fr h).bind fun l h1 => match l with
  | .lst xs => (x cf o fr h1).bind fun y h2 => (match y with
    | .str t => (match strsOf xs with
      | some ys => if Nat.ble ys.length 10000 then .ok (.int (ys.count t : Nat)) h2 else .stk
      | none => .stk)
    | _ => .stk)
  | _ => .stk
def tgen (own : List Nat) (t : T) (it : XW) (ifs : XB) (e : XE) : XE := fun cf o fr h => (it cf o fr h).bind fun xs h1 => if Nat.blt xs.length line then ((mapW (fun x h2 => match asg t x (wipeF fr own) with
  | some fr1 => (ifs cf ([] :: o) fr1 h2).noX.bind fun b h3 => (match b with
    | true => (e cf ([] :: o) fr1 h3).noX.bind fun y h4 => .ok (some y) h4
    | false => .ok none h3)
  | none => .stk) xs h1).bind fun ys h5 => .ok (.tup ys) h5) else .stk
/-! statements -/
def set (t : T) (e : XE) : XS := fun cf o fr h => (e cf o fr h).toS fr fun d h1 => match asg t d fr with
  | some fr1 => .nx fr1 h1
  | none => .stk
def par (ts : List Nat) (es : XEs) : XS := fun cf o fr h => (es cf o fr h).toS fr fun ds h1 => match asgNs ts ds fr with
  | some fr1 => .nx fr1 h1
  | none => .stk
def sub (e a i : XE) : XS := fun cf o fr h => (e cf o fr h).toS fr fun d h1 => (a cf o fr h1).toS fr fun x h2 => (i cf o fr h2).toS fr fun j h3 => match setAt h3 x j d with
  | some h4 => .nx fr h4
  | none => .stk
def sat (g : Pg) (e a : XE) (f : Nat) : XS := fun cf o fr h => (e cf o fr h).toS fr fun d h1 => (a cf o fr h1).toS fr fun x h2 => match fldSet g h2 x f d with
  | some h3 => .nx fr h3
  | none => .stk
def aat (g : Pg) (op : Bop) (a : XE) (f : Nat) (e : XE) : XS := fun cf o fr h => (a cf o fr h).toS fr fun x h1 => match insOf h1 x, fldOf g h1 x f with
  | some (_, c, _), some y => ((e cf o fr h1).bind fun z h2 => augV op y z h2).toS fr fun d h3 => (match insOf h3 x, fldSet g h3 x f d with
    | some (_, c2, _), some h4 => if Nat.beq c c2 then .nx fr h4 else .stk
    | _, _ => .stk)
  | _, _ => .stk
def aug (op : Bop) (i : Nat) (e : XE) : XS := fun cf o fr h => match get fr i with
  | some y => ((e cf o fr h).bind fun z h2 => augV op y z h2).toS fr fun d h3 => if Nat.blt i fr.length then .nx (put fr i d) h3 else .stk
  | none => .stk
def apd (a e : XE) : XS := fun cf o fr h => (a cf o fr h).toS fr fun x h1 => if isLstR h1 x then ((e cf o fr h1).toS fr fun d h2 => match apdAt h2 x d with
  | some h3 => .nx fr h3
  | none => .stk) else .stk
def ext (i : Nat) (e : XE) : XS := fun cf o fr h => match get fr i with
  | some x => (e cf o fr h).toS fr fun d h2 => (match extAt h2 x d with
    | some h3 => .nx fr h3
    | none => .stk)
  | none => .stk
def sife (c : XB) (a b : XS) : XS := fun cf o fr h => (c cf o fr h).toS fr fun t h1 => match t with
  | true => a cf o fr h1
  | false => b cf o fr h1
def for_ (t : T) (it : XW) (b : XS) : XS := fun cf o fr h => (it cf o fr h).toS fr fun xs h1 => forM (fun x fr1 h2 => match asg t x fr1 with
  | some fr2 => b cf o fr2 h2
  | none => .stk) xs fr h1
def whl (n : Nat) (c : XB) (b : XS) : XS := fun cf o fr h => whileM (fun fr1 h1 => c cf o fr1 h1) (fun fr1 h1 => b cf o fr1 h1) n fr h
def ret (e : XE) : XS := fun cf o fr h => (e cf o fr h).toS fr fun d h1 => .ret d h1
def retn : XS := fun _ _ _ h => .ret .non h
def rai (g : Pg) (c : Nat) : XS := fun _ _ fr h => if Nat.blt c g.hot then .exc c fr h else .stk
def tri (g : Pg) (b : XS) (hs : List (Nat × Hd)) : XS := fun cf o fr h => match b cf o fr h with
  | .exc c fr1 h1 => if c < g.ncl then (match hdOf g c hs with
    | some (.ret d) => .ret d h1
    | some .pas => .nx fr1 h1
    | some (.rai c2) => if Nat.blt c g.hot && !Nat.blt c2 g.hot then .exc c2 fr1 h1 else .stk
    | none => .exc c fr1 h1) else .stk
  | r => r
def exp (e : XE) : XS := fun cf o fr h => (e cf o fr h).toS fr fun _ h1 => .nx fr h1
def pas : XS := fun _ _ fr h => .nx fr h
def cnt : XS := fun _ _ fr h => .cnt fr h
def brk : XS := fun _ _ fr h => .brk fr h
def snil : XS := fun _ _ fr h => .nx fr h
def scons (s r : XS) : XS := fun cf o fr h => match s cf o fr h with
  | .nx fr1 h1 => r cf o fr1 h1
  | x => x
end C
/-- the same program, made of small functions -/
structure CT where
  g : Pg
  fc : List C.XS
  lc : List C.XE
structure CT.Ok (T : CT) : Prop where
  fn : ∀ (i : Nat) (F : Fn), T.g.fns[i]? = some F → ∃ c, T.fc[i]? = some c ∧ ∀ cf o fr h, evSs T.g cf o F.body fr h = c cf o fr h
  lm : ∀ (l : Nat) (L : Lam), T.g.lams[l]? = some L → ∃ c, T.lc[l]? = some c ∧ ∀ cf o fr h, evE T.g cf o L.body fr h = c cf o fr h
def callC (T : CT) : Nat → CF
  | 0, _, _, _, _ => .stk
  | k + 1, .fn i, o, xs, h => (match T.g.fns[i]?, T.fc[i]? with
    | some F, some c => if xs.length ≤ F.ar ∧ F.ar ≤ xs.length + F.dfl.length then (match c (callC T k) o ((xs ++ F.dfl.drop (xs.length + F.dfl.length - F.ar)).map some ++ List.replicate (F.nl - F.ar) none) h with
      | .ret d h1 => if F.lamf && !noClo d then .stk else .ok d h1
      | .nx _ h1 => .ok .non h1
      | .exc c _ h1 => .exc c h1
      | _ => .stk) else .stk
    | _, _ => .stk)
  | k + 1, .lam l fr, o, _, h => (match T.lc[l]? with
    | some c => c (callC T k) o fr h
    | none => .stk)
theorem callC_eq {T : CT} (ok : T.Ok) (hl : T.lc.length = T.g.lams.length) : ∀ k, callK T.g k = callC T k
  | 0 => rfl
  | k + 1 => by
    have ih := callC_eq ok hl k
    funext c o xs h
    cases c with
    | fn i =>
      unfold callK callC
      cases hF : T.g.fns[i]? with
      | none => rfl
      | some F =>
        obtain ⟨c, hc, e⟩ := ok.fn i F hF
        rw [hc]
        simp only [e, ih] <;> rfl
    | lam l fr =>
      unfold callK callC
      cases hF : T.g.lams[l]? with
      | none =>
        have : T.lc[l]? = none := by
          rw [List.getElem?_eq_none_iff] at hF ⊢
          omega
        rw [this]
      | some L =>
        obtain ⟨c, hc, e⟩ := ok.lm l L hF
        rw [hc]
        simp only [e, ih]
end FS

-- text FsU
set_option Elab.async false
set_option linter.all false
set_option maxRecDepth 100000
set_option maxHeartbeats 1000000
/-! FsU: a law's tools: walks, comprehensions, loops, sameness. -/
namespace FS
/-! ### what a walk reads -/
def Rds (h : MH) : List W → List D → Prop
  | [w], [] => rdW h w = some none
  | w :: ws, d :: ds => rdW h w = some (some d) ∧ Rds h ws ds
  | _, _ => False
def enumD : Nat → List D → List D
  | _, [] => []
  | i, d :: r => .tup [.int i, d] :: enumD (i + 1) r
theorem rds_pl (h : MH) : ∀ ds : List D, Rds h (plW ds) ds
  | [] => rfl
  | d :: ds => by
    have := rds_pl h ds
    cases ds with
    | nil => exact ⟨rfl, this⟩
    | cons e r => exact ⟨rfl, this⟩
theorem rds_enum (h : MH) : ∀ (i : Nat) (ds : List D), Rds h (enumL i ds) (enumD i ds)
  | _, [] => rfl
  | i, d :: ds => by
    have := rds_enum h (i + 1) ds
    cases ds with
    | nil => exact ⟨rfl, this⟩
    | cons e r => exact ⟨rfl, this⟩
theorem rds_cons {h : MH} {w : W} {ws : List W} {d : D} {ds : List D} (e : rdW h w = some (some d)) (r : Rds h ws ds) : Rds h (w :: ws) (d :: ds) := by
  cases ws with
  | nil => cases ds <;> cases r
  | cons _ _ => exact ⟨e, r⟩
theorem rds_upd {h : MH} {xs : List D} {f : Nat → W} {g : Nat → D → D} {z : W} (hf : ∀ i d, xs[i]? = some d → rdW h (f i) = some (some (g i d))) (hz : rdW h z = some none) : ∀ (m i : Nat), i + m = xs.length → Rds h (upW f z i m) (((xs.drop i).zipIdx i).map fun p => g p.2 p.1)
  | 0, i, e => by
    rw [List.drop_eq_nil_of_le (by omega)]
    exact hz
  | m + 1, i, e => by
    have hi : i < xs.length := by omega
    rw [List.drop_eq_getElem_cons hi, List.zipIdx_cons, List.map_cons]
    exact rds_cons (hf i _ (List.getElem?_eq_getElem hi)) (rds_upd hf hz m (i + 1) (by omega))
theorem map_zipIdx_fst {α : Type} : ∀ (l : List α) (i : Nat), (l.zipIdx i).map (fun p => p.1) = l
  | [], _ => rfl
  | x :: l, i => by rw [List.zipIdx_cons, List.map_cons, map_zipIdx_fst l (i + 1)]
theorem enumD_zip : ∀ (l : List D) (i : Nat), (l.zipIdx i).map (fun p => FS.D.tup [.int (p.2 : Nat), p.1]) = enumD i l
  | [], _ => rfl
  | x :: l, i => by
    rw [List.zipIdx_cons, List.map_cons, enumD_zip l (i + 1)]
    rfl
theorem rds_rd {h : MH} {n : Nat} {xs : List D} (e : h[n]? = some (.lst xs)) : Rds h (upW (.rd n) (.fin n xs.length) 0 xs.length) xs := by
  have k := rds_upd (h := h) (xs := xs) (f := .rd n) (g := fun _ d => d) (z := .fin n xs.length) (fun i d hd => by show (match h[n]? with | some (.lst ys) => _ | _ => none) = _; rw [e]; show (match xs[i]? with | some d => some (some d) | none => none) = _; rw [hd]) (by show (match h[n]? with | some (.lst ys) => _ | _ => none) = _; rw [e]; show (if Nat.beq xs.length xs.length = true then some none else none) = _; rw [Nat.beq_refl]; rfl) xs.length 0 (by omega)
  rw [List.drop_zero, map_zipIdx_fst] at k
  exact k
theorem rds_rp {h : MH} {n : Nat} {xs : List D} (e : h[n]? = some (.lst xs)) : Rds h (upW (.rp n) (.fin n xs.length) 0 xs.length) (enumD 0 xs) := by
  have k := rds_upd (h := h) (xs := xs) (f := .rp n) (g := fun i d => FS.D.tup [.int i, d]) (z := .fin n xs.length) (fun i d hd => by show (match h[n]? with | some (.lst ys) => _ | _ => none) = _; rw [e]; show (match xs[i]? with | some d => some (some (FS.D.tup [.int i, d])) | none => none) = _; rw [hd]) (by show (match h[n]? with | some (.lst ys) => _ | _ => none) = _; rw [e]; show (if Nat.beq xs.length xs.length = true then some none else none) = _; rw [Nat.beq_refl]; rfl) xs.length 0 (by omega)
  rw [List.drop_zero, enumD_zip] at k
  exact k
theorem Rds.len {h : MH} : ∀ {ws : List W} {ds : List D}, Rds h ws ds → ws.length = ds.length + 1
  | [w], [], _ => rfl
  | w :: ws, d :: ds, r => by
    have r : Rds h ws ds := by
      cases ws with
      | nil => exact r.2
      | cons _ _ => exact r.2
    rw [List.length_cons, r.len, List.length_cons]
  | [], _, r => by cases r
  | _ :: _ :: _, [], r => by cases r
theorem Rds.uncons {h : MH} {ws : List W} {d : D} {ds : List D} (r : Rds h ws (d :: ds)) : ∃ w ws', ws = w :: ws' ∧ rdW h w = some (some d) ∧ Rds h ws' ds := by
  cases ws with
  | nil => cases r
  | cons w ws' =>
    cases ws' with
    | nil => exact ⟨w, [], rfl, r.1, r.2⟩
    | cons _ _ => exact ⟨w, _, rfl, r.1, r.2⟩
theorem Rds.unnil {h : MH} {ws : List W} (r : Rds h ws []) : ∃ w, ws = [w] ∧ rdW h w = some none := by
  match ws, r with
  | [w], r => exact ⟨w, rfl, r⟩
/-- places -/
theorem enumD_map {α : Type} (emb : α → D) : ∀ (l : List α) (i : Nat), enumD i (l.map emb) = (l.zipIdx i).map fun p => FS.D.tup [.int (p.2 : Nat), emb p.1]
  | [], _ => rfl
  | x :: l, i => by
    rw [List.zipIdx_cons, List.map_cons, List.map_cons, ← enumD_map emb l (i + 1)]
    rfl

/-! ### comprehensions whose parts leave the heap as it is -/
section
variable {α : Type} {emb : α → D} {h : MH}
theorem mapW_emb {f : D → MH → R (Option D)} {g : α → Option D} : ∀ {l : List α} {ws : List W}, Rds h ws (l.map emb) → (∀ x ∈ l, f (emb x) h = .ok (g x) h) → mapW f ws h = .ok (l.filterMap g) h
  | [], ws, r, _ => by
    obtain ⟨w, rfl, e⟩ := r.unnil
    unfold mapW
    rw [e]
    rfl
  | x :: l, ws, r, hf => by
    obtain ⟨w, ws', rfl, e, r'⟩ := Rds.uncons r
    have ih := mapW_emb r' fun y hy => hf y (List.mem_cons_of_mem _ hy)
    have ex := hf x List.mem_cons_self
    unfold mapW
    rw [e]
    show (f (emb x) h).bind _ = _
    rw [ex]
    simp only [R.bind, ih, List.filterMap_cons]
    cases g x <;> rfl
theorem anyW_emb {w : Bool} {f : D → MH → R (Option Bool)} {g : α → Option Bool} : ∀ {l : List α} {ws : List W}, Rds h ws (l.map emb) → (∀ x ∈ l, f (emb x) h = .ok (g x) h) → anyW w f ws h = .ok (cond (l.any fun x => g x == some w) w (!w)) h
  | [], ws, r, _ => by
    obtain ⟨w, rfl, e⟩ := r.unnil
    unfold anyW
    rw [e]
    rfl
  | x :: l, ws, r, hf => by
    obtain ⟨v, ws', rfl, e, r'⟩ := Rds.uncons r
    have ih := anyW_emb (w := w) r' fun y hy => hf y (List.mem_cons_of_mem _ hy)
    have ex := hf x List.mem_cons_self
    unfold anyW
    rw [e]
    show (f (emb x) h).bind _ = _
    rw [ex]
    simp only [R.bind, List.any_cons]
    generalize g x = y
    cases y with
    | none => exact ih
    | some b =>
      cases b <;> cases w <;> first | exact ih | rfl
variable {cf : CF} {o : List Fr} {fr : Fr}
theorem filterMap_if {β γ : Type} (b : β → Bool) (g : β → γ) : ∀ l : List β, l.filterMap (fun w => if b w = true then some (g w) else none) = (l.filter b).map g
  | [] => rfl
  | w :: r => by
    rw [List.filterMap_cons, List.filter_cons, filterMap_if b g r]
    cases b w <;> rfl
theorem lc_emb {own : List Nat} {t : T} {it : C.XW} {ifs : C.XB} {e : C.XE} {h0 : MH} {l : List α} {ws : List W} {b : α → Bool} {g : α → D} (hi : it cf o fr h0 = .ok ws h) (r : Rds h ws (l.map emb)) (hl : l.length < line)
    (hs : ∀ x ∈ l, ∃ F, asg t (emb x) (wipeF fr own) = some F ∧ ifs cf (fr :: o) F h = .ok (b x) h ∧ (b x = true → e cf (fr :: o) F h = .ok (g x) h)) : C.lc own t it ifs e cf o fr h0 = .ok (.lst ((l.filter b).map g)) h := by
  unfold C.lc
  rw [hi]
  simp only [R.bind]
  rw [if_pos (Nat.ble_eq_true_of_le (by rw [r.len, List.length_map]; exact hl)), mapW_emb (g := fun w => if b w = true then some (g w) else none) r]
  · simp only [filterMap_if]
  intro x hx
  obtain ⟨F, a1, a2, a3⟩ := hs x hx
  simp only [a1, a2, R.noX]
  cases hb : b x with
  | true =>
    simp only [a3 hb, R.noX]
    rfl
  | false => rfl
theorem tgen_emb {own : List Nat} {t : T} {it : C.XW} {ifs : C.XB} {e : C.XE} {h0 : MH} {l : List α} {ws : List W} {b : α → Bool} {g : α → D} (hi : it cf o fr h0 = .ok ws h) (r : Rds h ws (l.map emb)) (hl : l.length + 1 < line)
    (hs : ∀ x ∈ l, ∃ F, asg t (emb x) (wipeF fr own) = some F ∧ ifs cf ([] :: o) F h = .ok (b x) h ∧ (b x = true → e cf ([] :: o) F h = .ok (g x) h)) : C.tgen own t it ifs e cf o fr h0 = .ok (.tup ((l.filter b).map g)) h := by
  unfold C.tgen
  rw [hi]
  simp only [R.bind]
  rw [if_pos (by rw [r.len, List.length_map]; exact Nat.ble_eq_true_of_le hl), mapW_emb (g := fun w => if b w = true then some (g w) else none) r]
  · simp only [filterMap_if]
  intro x hx
  obtain ⟨F, a1, a2, a3⟩ := hs x hx
  simp only [a1, a2, R.noX]
  cases hb : b x with
  | true =>
    simp only [a3 hb, R.noX]
    rfl
  | false => rfl
/-- any (w: true), all (w: false), no tests -/
theorem gen_emb {q : Gq} {own : List Nat} {t : T} {it : C.XW} {e : C.XE} {h0 : MH} {l : List α} {ws : List W} {b : α → Bool} (hi : it cf o fr h0 = .ok ws h) (r : Rds h ws (l.map emb))
    (hs : ∀ x ∈ l, ∃ F, asg t (emb x) (wipeF fr own) = some F ∧ e cf ([] :: o) F h = .ok (.bl (b x)) h) : C.gen q own t it (C.tnil true) e cf o fr h0 = .ok (.bl (match q with | .any => l.any b | .all => l.all b)) h := by
  unfold C.gen
  rw [hi]
  simp only [R.bind]
  rw [anyW_emb (g := fun x => some (b x)) r]
  · simp only
    cases q with
    | any =>
      simp only
      congr 2
      have : (l.any fun x => (some (b x) == some true)) = l.any b := by congr 1; funext x; cases b x <;> rfl
      rw [this]
      cases l.any b <;> rfl
    | all =>
      simp only
      congr 2
      have : (l.any fun x => (some (b x) == some false)) = !l.all b := by
        rw [List.not_all_eq_any_not]
        congr 1
        funext x
        cases b x <;> rfl
      rw [this]
      cases l.all b <;> rfl
  intro x hx
  obtain ⟨F, a1, a2⟩ := hs x hx
  simp only [a1]
  simp only [C.tnil, R.noX, a2]
end

/-! ### loops -/
theorem forM_emb {α : Type} {emb : α → D} {f : D → Fr → MH → RS} (P : List α → Fr → MH → Prop) : ∀ {l : List α} (dn : List α) {ws : List W} {fr : Fr} {h : MH}, P dn fr h →
    (∀ (l1 : List α) (x : α) (l2 : List α) (fr : Fr) (h : MH), l = l1 ++ x :: l2 → P (dn ++ l1) fr h → ∃ fr' h', f (emb x) fr h = .nx fr' h' ∧ P (dn ++ l1 ++ [x]) fr' h') →
    (∀ (l1 l2 : List α) (fr : Fr) (h : MH), l = l1 ++ l2 → P (dn ++ l1) fr h → Rds h (ws.drop l1.length) (l2.map emb)) → ∃ fr' h', FS.forM f ws fr h = .nx fr' h' ∧ P (dn ++ l) fr' h'
  | [], dn, ws, fr, h, p, hs, hr => by
    have r := hr [] [] fr h rfl (by rw [List.append_nil]; exact p)
    obtain ⟨w, e, q⟩ := Rds.unnil r
    have e : ws = [w] := e
    subst e
    refine ⟨fr, h, ?_, by rw [List.append_nil]; exact p⟩
    unfold forM
    rw [q]
  | x :: l, dn, ws, fr, h, p, hs, hr => by
    have r := hr [] (x :: l) fr h rfl (by rw [List.append_nil]; exact p)
    obtain ⟨w, ws', e, q, r'⟩ := Rds.uncons (ds := l.map emb) (d := emb x) r
    have e : ws = w :: ws' := e
    subst e
    obtain ⟨fr1, h1, e1, p1⟩ := hs [] x l fr h rfl (by rw [List.append_nil]; exact p)
    rw [List.append_nil] at p1
    obtain ⟨fr2, h2, e2, p2⟩ := forM_emb (l := l) P (dn ++ [x]) (ws := ws') p1 (fun l1 y l2 fr h el p => by
      have := hs (x :: l1) y l2 fr h (by rw [el]; rfl) (by rw [List.append_assoc] at p; exact p)
      rw [List.append_assoc dn [x] l1]
      exact this) (fun l1 l2 fr h el p => hr (x :: l1) l2 fr h (by rw [el]; rfl) (by rw [List.append_assoc] at p; exact p))
    refine ⟨fr2, h2, ?_, by rw [List.append_assoc] at p2; exact p2⟩
    show (match rdW h w with
    | some (some x) => (match f x fr h with
      | .nx fr1 h1 => forM f ws' fr1 h1
      | .cnt fr1 h1 => forM f ws' fr1 h1
      | .brk fr1 h1 => .nx fr1 h1
      | r => r)
    | some none => .nx fr h
    | none => .stk) = _
    rw [q]
    simp only [e1]
    exact e2
/-- over values that need no heap -/
theorem forM_pl {α : Type} {emb : α → D} {f : D → Fr → MH → RS} (P : List α → Fr → MH → Prop) {l : List α} {fr : Fr} {h : MH} (p : P [] fr h)
    (hs : ∀ (l1 : List α) (x : α) (l2 : List α) (fr : Fr) (h : MH), l = l1 ++ x :: l2 → P l1 fr h → ∃ fr' h', f (emb x) fr h = .nx fr' h' ∧ P (l1 ++ [x]) fr' h') : ∃ fr' h', FS.forM f (plW (l.map emb)) fr h = .nx fr' h' ∧ P l fr' h' := by
  have dr : ∀ (l1 l2 : List D), (plW (l1 ++ l2)).drop l1.length = plW l2 := by
    intro l1
    induction l1 with
    | nil => exact fun _ => rfl
    | cons x l1 ih => exact fun l2 => ih l2
  refine forM_emb P [] (ws := plW (l.map emb)) p hs fun l1 l2 fr h el _ => ?_
  rw [el, List.map_append]
  have := dr (l1.map emb) (l2.map emb)
  rw [List.length_map] at this
  rw [this]
  exact rds_pl h _

/-! ### sameness of what holds no places -/
mutual
theorem shp_same (h : MH) : ∀ (n : Nat) (d : D), shp n d = true → resD n h d = d ∧ deq d d = true
  | n, .non, _ => ⟨by cases n <;> rfl, by unfold deq; rfl⟩
  | n, .bl b, _ => ⟨by cases n <;> rfl, by unfold deq; simp⟩
  | n, .int b, _ => ⟨by cases n <;> rfl, by unfold deq; simp⟩
  | n, .str b, _ => ⟨by cases n <;> rfl, by unfold deq; simp⟩
  | 0, .lst xs, q => by unfold shp at q; cases q
  | 0, .tup xs, q => by unfold shp at q; cases q
  | n + 1, .lst xs, q => by
    unfold shp at q
    obtain ⟨e1, e2⟩ := shps_same h n xs q
    unfold resD deq
    exact ⟨by rw [e1], e2⟩
  | n + 1, .tup xs, q => by
    unfold shp at q
    obtain ⟨e1, e2⟩ := shps_same h n xs q
    unfold resD deq
    exact ⟨by rw [e1], e2⟩
  | 0, .dic xs, q => by unfold shp at q; cases q
  | 0, .frl xs, q => by unfold shp at q; cases q
  | 0, .ref xs, q => by unfold shp at q; cases q
  | 0, .clo _ _, q => by unfold shp at q; cases q
  | n + 1, .dic xs, q => by unfold shp at q; cases q
  | n + 1, .frl xs, q => by unfold shp at q; cases q
  | n + 1, .ref xs, q => by unfold shp at q; cases q
  | n + 1, .clo _ _, q => by unfold shp at q; cases q
theorem shps_same (h : MH) : ∀ (n : Nat) (xs : List D), shps n xs = true → xs.map (resD n h) = xs ∧ deqs xs xs = true
  | n, [], _ => ⟨rfl, by unfold deqs; rfl⟩
  | n, x :: xs, q => by
    unfold shps at q
    rw [Bool.and_eq_true] at q
    obtain ⟨e1, e2⟩ := shp_same h n x q.1
    obtain ⟨f1, f2⟩ := shps_same h n xs q.2
    unfold deqs
    exact ⟨by rw [List.map_cons, e1, f1], by rw [e2, f2]; rfl⟩
end
theorem shps_map {α : Type} {emb : α → D} {n : Nat} : ∀ {l : List α}, (∀ x ∈ l, shp n (emb x) = true) → shps n (l.map emb) = true
  | [], _ => by unfold shps; rfl
  | x :: l, q => by
    rw [List.map_cons]
    unfold shps
    rw [q x List.mem_cons_self, shps_map fun y hy => q y (List.mem_cons_of_mem _ hy)]
    rfl
theorem eq_lst {h : MH} {xs : List D} (q : shps 59 xs = true) : eqOpt h (.lst xs) (.lst xs) = some true := by
  have q : shp 60 (.lst xs) = true := by unfold shp; exact q
  obtain ⟨e1, e2⟩ := shp_same h 60 (.lst xs) q
  unfold eqOpt
  rw [if_neg (by show ¬ (false && false) = true; decide), e1, q, e2]
  rfl
theorem eq_tup {h : MH} {xs : List D} (q : shps 59 xs = true) : eqOpt h (.tup xs) (.tup xs) = some true := by
  have q : shp 60 (.tup xs) = true := by unfold shp; exact q
  obtain ⟨e1, e2⟩ := shp_same h 60 (.tup xs) q
  unfold eqOpt
  rw [if_neg (by show ¬ (false && false) = true; decide), e1, q, e2]
  rfl
theorem eq_ref {h : MH} {n : Nat} {xs : List D} (e : h[n]? = some (.lst xs)) (q : shps 59 xs = true) : eqOpt h (.ref n) (.lst xs) = some true := by
  have q2 : shp 60 (.lst xs) = true := by unfold shp; exact q
  obtain ⟨e1, e2⟩ := shp_same h 60 (.lst xs) q2
  have e3 : resD 60 h (.ref n) = .lst xs := by
    show (match h[n]? with | some (.lst xs) => D.lst (xs.map (resD 59 h)) | _ => .ref n) = _
    rw [e]
    simp only
    rw [(shps_same h 59 xs q).1]
  unfold eqOpt
  rw [if_neg (by show ¬ (false && false) = true; decide), e3, e1, q2, e2]
  rfl
theorem in_ints (h : MH) (i : Int) (l : List Int) : inOpt h (.int i) (.lst (l.map .int)) = some (decide (i ∈ l)) := by
  show (if flatD (.int i) && (l.map FS.D.int).all flatD then some ((l.map FS.D.int).any fun z => deq z (.int i)) else _) = _
  have e : (l.map FS.D.int).all flatD = true := by rw [List.all_map]; exact List.all_eq_true.mpr fun _ _ => rfl
  rw [e]
  show some _ = _
  congr 1
  rw [List.any_map]
  induction l with
  | nil => rfl
  | cons x l ih =>
    have ih := ih (by rw [List.all_map]; exact List.all_eq_true.mpr fun _ _ => rfl)
    rw [List.any_cons, ih]
    show (deq (.int x) (.int i) || _) = _
    unfold deq
    by_cases q : x = i
    · subst q
      simp
    · have q2 : ¬ i = x := fun z => q z.symm
      simp [q, q2]
/-! ### more loops -/
theorem enumL_pl : ∀ (i : Nat) (ds : List D), enumL i ds = plW (enumD i ds)
  | _, [] => rfl
  | i, d :: r => by
    show _ :: enumL (i + 1) r = _ :: plW (enumD (i + 1) r)
    rw [enumL_pl (i + 1) r]
theorem drop_zip {α : Type} : ∀ (l : List α) (i j : Nat), (l.zipIdx i).drop j = (l.drop j).zipIdx (i + j)
  | [], i, j => by simp
  | x :: l, i, 0 => by rw [List.drop_zero, List.drop_zero, Nat.add_zero]
  | x :: l, i, j + 1 => by
    rw [List.zipIdx_cons, List.drop_succ_cons, List.drop_succ_cons, drop_zip l (i + 1) j]
    congr 1
    omega
theorem upW_drop {f : Nat → W} {z : W} : ∀ (m i j : Nat), j ≤ m → (upW f z i m).drop j = upW f z (i + j) (m - j)
  | m, i, 0, _ => rfl
  | m + 1, i, j + 1, h => by
    show (upW f z (i + 1) m).drop j = _
    rw [upW_drop m (i + 1) j (by omega)]
    congr 1 <;> omega
section
variable {α : Type} {emb : α → D}
/-- for k, x in enumerate(xs): xs a list that stands fast -/
theorem forM_en {f : D → Fr → MH → RS} (P : List (α × Nat) → Fr → MH → Prop) {l : List α} {fr : Fr} {h : MH} (p : P [] fr h)
    (hs : ∀ (l1 : List (α × Nat)) (x : α × Nat) (l2 : List (α × Nat)) (fr : Fr) (h : MH), l.zipIdx 0 = l1 ++ x :: l2 → P l1 fr h → ∃ fr' h', f (.tup [.int (x.2 : Nat), emb x.1]) fr h = .nx fr' h' ∧ P (l1 ++ [x]) fr' h') :
    ∃ fr' h', FS.forM f (enumL 0 (l.map emb)) fr h = .nx fr' h' ∧ P (l.zipIdx 0) fr' h' := by
  rw [enumL_pl, enumD_map]
  exact forM_pl (emb := fun p : α × Nat => FS.D.tup [.int (p.2 : Nat), emb p.1]) P p hs
/-- xs a list that is changed elsewhere -/
theorem forM_rp {n : Nat} {f : D → Fr → MH → RS} (P : List (α × Nat) → Fr → MH → Prop) {l : List α} {fr : Fr} {h : MH} (p : P [] fr h) (hn : ∀ (l1 l2 : List (α × Nat)) (fr : Fr) (h : MH), l.zipIdx 0 = l1 ++ l2 → P l1 fr h → h[n]? = some (.lst (l.map emb)))
    (hs : ∀ (l1 : List (α × Nat)) (x : α × Nat) (l2 : List (α × Nat)) (fr : Fr) (h : MH), l.zipIdx 0 = l1 ++ x :: l2 → P l1 fr h → ∃ fr' h', f (.tup [.int (x.2 : Nat), emb x.1]) fr h = .nx fr' h' ∧ P (l1 ++ [x]) fr' h') :
    ∃ fr' h', FS.forM f (upW (.rp n) (.fin n (l.map emb).length) 0 (l.map emb).length) fr h = .nx fr' h' ∧ P (l.zipIdx 0) fr' h' := by
  refine forM_emb (emb := fun p : α × Nat => FS.D.tup [.int (p.2 : Nat), emb p.1]) P [] p (fun l1 x l2 fr h el p => hs l1 x l2 fr h el p) fun l1 l2 fr h el p => ?_
  have e := hn l1 l2 fr h el p
  have hl : l1.length + l2.length = l.length := by
    have := congrArg List.length el
    rw [List.length_zipIdx, List.length_append] at this
    omega
  rw [upW_drop _ _ _ (by rw [List.length_map]; omega)]
  have k := rds_upd (h := h) (xs := l.map emb) (f := .rp n) (g := fun i d => FS.D.tup [.int i, d]) (z := .fin n (l.map emb).length) (fun i d hd => by show (match h[n]? with | some (.lst ys) => _ | _ => none) = _; rw [e]; show (match (l.map emb)[i]? with | some d => some (some (FS.D.tup [.int i, d])) | none => none) = _; rw [hd]) (by show (match h[n]? with | some (.lst ys) => _ | _ => none) = _; rw [e]; show (if Nat.beq (l.map emb).length (l.map emb).length = true then some none else none) = _; rw [Nat.beq_refl]; rfl) ((l.map emb).length - l1.length) (0 + l1.length) (by rw [List.length_map]; omega)
  have e2 : (((l.map emb).drop (0 + l1.length)).zipIdx (0 + l1.length)).map (fun p => FS.D.tup [.int (p.2 : Nat), p.1]) = l2.map fun p => FS.D.tup [.int (p.2 : Nat), emb p.1] := by
    have e3 : l2 = (l.drop l1.length).zipIdx (0 + l1.length) := by
      have := congrArg (List.drop l1.length) el
      rw [List.drop_left, drop_zip] at this
      exact this.symm
    rw [e3, Nat.zero_add, ← List.map_drop, enumD_zip, enumD_map]
  exact e2 ▸ k
end
theorem cut_take {α : Type} {xs : List α} {i : Nat} (h : i ≤ xs.length) : cut xs none (some (i : Int)) = xs.take i := by
  unfold cut sIx
  simp only [List.drop_zero, Nat.sub_zero]
  rw [if_neg (by omega), Int.toNat_natCast, Nat.min_eq_left h]
theorem eq_nil {h : MH} {xs : List D} (q : shps 59 xs = true) : eqOpt h (.lst xs) (.lst []) = some xs.isEmpty := by
  have q2 : shp 60 (.lst xs) = true := by unfold shp; exact q
  obtain ⟨e1, _⟩ := shp_same h 60 (.lst xs) q2
  unfold eqOpt
  rw [if_neg (by show ¬ (false && false) = true; decide), e1, q2]
  show some (deq (.lst xs) (.lst [])) = _
  unfold deq
  cases xs <;> rfl
end FS

-- text K03H
set_option Elab.async false
set_option linter.all false
set_option maxRecDepth 100000
set_option maxHeartbeats 0
namespace K03
open PySem FS
def f_is_figures : Fn := { ar := 2, nl := 3, dfl := [], lamf := false, body :=
  (.cons (.ret (.bop true (.cons (.chn .le .le (.k (.int 1)) (.bi .len (.cons (.var 0) .nil)) (.var 1)) (.cons (.gen .all [2] (.nm 2) (.e (.var 0)) .nil (.cmp .isin (.var 2) (.glb 0))) .nil))))
  .nil) }
def f_whole_of : Fn := { ar := 1, nl := 6, dfl := [], lamf := false, body :=
  (.cons (.set (.nm 1) (.ife (.cmp .isin (.sl (.var 0) .nop (.k (.int 1))) (.tup (.cons (.k (.str [45])) (.cons (.k (.str [43])) .nil)))) (.sl (.var 0) (.k (.int 1)) .nop) (.var 0)))
  (.cons (.set (.nm 2) (.me .split (.var 1) (.cons (.k (.str [44])) .nil)))
  (.cons (.set (.nm 3) (.bop true (.cons (.gen .all [4] (.nm 4) (.e (.sl (.var 2) (.k (.int 1)) .nop)) .nil (.cmp .eq (.bi .len (.cons (.var 4) .nil)) (.k (.int 3)))) (.cons (.bop false (.cons (.cmp .eq (.bi .len (.cons (.var 2) .nil)) (.k (.int 1))) (.cons (.chn .le .le (.k (.int 1)) (.bi .len (.cons (.ix (.var 2) (.k (.int 0))) .nil)) (.k (.int 3))) .nil))) .nil))))
  (.cons (.set (.nm 5) (.me .join (.k (.str [])) (.cons (.var 2) .nil)))
  (.cons (.ife (.bop false (.cons (.nt (.v (.var 3))) (.cons (.nt (.v (.call 0 (.cons (.var 5) (.cons (.k (.int 9)) .nil))))) .nil))) (.cons (.rai 1)
  .nil) .nil)
  (.cons (.ret (.ife (.cmp .eq (.sl (.var 0) .nop (.k (.int 1))) (.k (.str [45]))) (.bin .sub (.k (.int 0)) (.bi .int (.cons (.var 5) .nil))) (.bi .int (.cons (.var 5) .nil))))
  .nil)))))) }
def f_number_of : Fn := { ar := 1, nl := 6, dfl := [], lamf := false, body :=
  (.cons (.set (.tup [(.nm 1), (.nm 2), (.nm 3)]) (.me .part (.var 0) (.cons (.k (.str [46])) .nil)))
  (.cons (.ife (.bop true (.cons (.cmp .ne (.var 2) (.k (.str []))) (.cons (.nt (.v (.call 0 (.cons (.var 3) (.cons (.k (.int 3)) .nil))))) .nil))) (.cons (.rai 1)
  .nil) .nil)
  (.cons (.set (.nm 4) (.call 1 (.cons (.var 1) .nil)))
  (.cons (.set (.nm 5) (.bi .int (.cons (.sl (.bin .add (.var 3) (.k (.str [48, 48, 48]))) .nop (.k (.int 3))) .nil)))
  (.cons (.ret (.ife (.cmp .eq (.sl (.var 1) .nop (.k (.int 1))) (.k (.str [45]))) (.bin .sub (.bin .mul (.k (.int 1000)) (.var 4)) (.var 5)) (.bin .add (.bin .mul (.k (.int 1000)) (.var 4)) (.var 5))))
  .nil))))) }
def f_days_in : Fn := { ar := 2, nl := 3, dfl := [], lamf := false, body :=
  (.cons (.set (.nm 2) (.bop true (.cons (.cmp .eq (.bin .mod (.var 0) (.k (.int 4))) (.k (.int 0))) (.cons (.bop false (.cons (.cmp .ne (.bin .mod (.var 0) (.k (.int 100))) (.k (.int 0))) (.cons (.cmp .eq (.bin .mod (.var 0) (.k (.int 400))) (.k (.int 0))) .nil))) .nil))))
  (.cons (.ret (.ife (.cmp .eq (.var 1) (.k (.int 2))) (.ife (.v (.var 2)) (.k (.int 29)) (.k (.int 28))) (.ife (.cmp .isin (.var 1) (.tup (.cons (.k (.int 4)) (.cons (.k (.int 6)) (.cons (.k (.int 9)) (.cons (.k (.int 11)) .nil)))))) (.k (.int 30)) (.k (.int 31)))))
  .nil)) }
def f_date_of : Fn := { ar := 1, nl := 7, dfl := [], lamf := false, body :=
  (.cons (.for_ (.tup [(.nm 1), (.nm 2)]) (.e (.tup (.cons (.tup (.cons (.k (.str [45])) (.cons (.tup (.cons (.k (.int 0)) (.cons (.k (.int 1)) (.cons (.k (.int 2)) .nil)))) .nil))) (.cons (.tup (.cons (.k (.str [46])) (.cons (.tup (.cons (.k (.int 2)) (.cons (.k (.int 1)) (.cons (.k (.int 0)) .nil)))) .nil))) (.cons (.tup (.cons (.k (.str [47])) (.cons (.tup (.cons (.k (.int 2)) (.cons (.k (.int 0)) (.cons (.k (.int 1)) .nil)))) .nil))) .nil))))) (.cons (.set (.nm 3) (.me .split (.var 0) (.cons (.var 1) .nil)))
  (.cons (.ife (.cmp .eq (.bi .len (.cons (.var 3) .nil)) (.k (.int 3))) (.cons (.par [4, 5, 6] (.cons (.ix (.var 3) (.ix (.var 2) (.k (.int 0)))) (.cons (.ix (.var 3) (.ix (.var 2) (.k (.int 1)))) (.cons (.ix (.var 3) (.ix (.var 2) (.k (.int 2)))) .nil))))
  (.cons (.ife (.bop false (.cons (.cmp .ne (.bi .len (.cons (.var 4) .nil)) (.k (.int 4))) (.cons (.nt (.v (.call 0 (.cons (.var 4) (.cons (.k (.int 4)) .nil))))) (.cons (.nt (.v (.call 0 (.cons (.bin .add (.var 5) (.var 6)) (.cons (.k (.int 4)) .nil))))) (.cons (.cmp .isin (.k (.str [])) (.tup (.cons (.var 5) (.cons (.var 6) .nil)))) .nil))))) (.cons (.rai 1)
  .nil) .nil)
  (.cons (.ret (.call 5 (.cons (.bi .int (.cons (.var 4) .nil)) (.cons (.bi .int (.cons (.var 5) .nil)) (.cons (.bi .int (.cons (.var 6) .nil)) (.cons (.bi .len (.cons (.var 5) .nil)) (.cons (.bi .len (.cons (.var 6) .nil)) .nil)))))))
  .nil))) .nil)
  .nil)))
  (.cons (.rai 1)
  .nil)) }
def f_real_day : Fn := { ar := 5, nl := 5, dfl := [], lamf := false, body :=
  (.cons (.ife (.bop false (.cons (.cmp .gt (.bi .max2 (.cons (.var 3) (.cons (.var 4) .nil))) (.k (.int 2))) (.cons (.nt (.chn .le .le (.k (.int 1900)) (.var 0) (.k (.int 2999)))) (.cons (.nt (.chn .le .le (.k (.int 1)) (.var 1) (.k (.int 12)))) .nil)))) (.cons (.rai 1)
  .nil) .nil)
  (.cons (.ife (.nt (.chn .le .le (.k (.int 1)) (.var 2) (.call 3 (.cons (.var 0) (.cons (.var 1) .nil))))) (.cons (.rai 1)
  .nil) .nil)
  (.cons (.ret (.tup (.cons (.var 0) (.cons (.var 1) (.cons (.var 2) .nil)))))
  .nil))) }
def f_check_value : Fn := { ar := 3, nl := 4, dfl := [], lamf := false, body :=
  (.cons (.tri (.cons (.ife (.cmp .isin (.var 0) (.tup (.cons (.k (.str [108, 101, 97, 115, 116])) (.cons (.k (.str [109, 111, 115, 116])) .nil)))) (.cons (.exp (.call 2 (.cons (.var 1) .nil)))
  .nil) (.cons (.ife (.cmp .isin (.var 0) (.tup (.cons (.k (.str [97, 104, 101, 97, 100])) (.cons (.k (.str [98, 101, 104, 105, 110, 100])) .nil)))) (.cons (.exp (.call 4 (.cons (.var 1) .nil)))
  .nil) .nil)
  .nil))
  .nil) [(1, (.rai 3))])
  (.cons (.set (.nm 3) (.cmp .isin (.var 0) (.tup (.cons (.k (.str [115, 104, 111, 114, 116])) (.cons (.k (.str [108, 111, 110, 103])) (.cons (.k (.str [115, 111, 109, 101])) .nil))))))
  (.cons (.ife (.bop true (.cons (.v (.var 3)) (.cons (.bop false (.cons (.nt (.chn .le .le (.k (.int 1)) (.bi .len (.cons (.var 1) .nil)) (.k (.int 4)))) (.cons (.cmp .ne (.me .strip (.var 1) (.cons (.k (.str [48, 49, 50, 51, 52, 53, 54, 55, 56, 57])) .nil)) (.k (.str []))) .nil))) .nil))) (.cons (.rai 2)
  .nil) .nil)
  (.cons (.ife (.bop true (.cons (.cmp .isin (.var 0) (.tup (.cons (.k (.str [115, 105, 103, 110, 115])) (.cons (.k (.str [98, 101, 103, 105, 110, 115])) (.cons (.k (.str [104, 111, 108, 100, 115])) .nil))))) (.cons (.cmp .eq (.var 1) (.k (.str []))) .nil))) (.cons (.rai 2)
  .nil) .nil)
  (.cons (.ife (.bop false (.cons (.bop true (.cons (.cmp .eq (.var 0) (.k (.str [115, 111, 109, 101]))) (.cons (.nt (.chn .le .le (.k (.int 1)) (.bi .int (.cons (.var 1) .nil)) (.var 2))) .nil))) (.cons (.bop true (.cons (.cmp .isin (.var 0) (.tup (.cons (.k (.str [115, 97, 109, 101])) (.cons (.k (.str [111, 116, 104, 101, 114])) .nil)))) (.cons (.cmp .ne (.var 1) (.k (.str []))) .nil))) .nil))) (.cons (.rai 2)
  .nil) .nil)
  .nil))))) }
def f_size_of : Fn := { ar := 1, nl := 1, dfl := [], lamf := false, body :=
  (.cons (.ret (.ife (.cmp .isin (.ix (.var 0) (.k (.int 0))) (.tup (.cons (.k (.str [108, 101, 97, 115, 116])) (.cons (.k (.str [109, 111, 115, 116])) .nil)))) (.call 2 (.cons (.ix (.var 0) (.k (.int 2))) .nil)) (.bi .int (.cons (.ix (.var 0) (.k (.int 2))) .nil))))
  .nil) }
def f_rule_holds : Fn := { ar := 2, nl := 9, dfl := [], lamf := false, body :=
  (.cons (.set (.tup [(.nm 2), (.nm 3), (.nm 4), (.nm 5)]) (.var 0))
  (.cons (.ife (.cmp .eq (.var 2) (.k (.str [115, 111, 109, 101]))) (.cons (.ret (.cmp .ge (.bi .len (.cons (.lc [6] (.nm 6) (.e (.var 3)) (.cons (.cmp .ne (.dget (.var 1) (.var 6) (.k (.str []))) (.k (.str []))) .nil) (.var 6)) .nil)) (.bi .int (.cons (.var 4) .nil))))
  .nil) .nil)
  (.cons (.set (.nm 7) (.dget (.var 1) (.ix (.var 3) (.k (.int 0))) (.k (.str []))))
  (.cons (.ife (.cmp .eq (.var 7) (.k (.str []))) (.cons (.ret (.k (.bl true)))
  .nil) .nil)
  (.cons (.ife (.cmp .isin (.var 2) (.tup (.cons (.k (.str [115, 97, 109, 101])) (.cons (.k (.str [111, 116, 104, 101, 114])) .nil)))) (.cons (.set (.nm 8) (.dget (.var 1) (.ix (.var 3) (.k (.int 1))) (.k (.str []))))
  (.cons (.ret (.bop false (.cons (.cmp .eq (.var 8) (.k (.str []))) (.cons (.cmp .eq (.cmp .eq (.var 7) (.var 8)) (.cmp .eq (.var 2) (.k (.str [115, 97, 109, 101])))) .nil))))
  .nil)) .nil)
  (.cons (.ife (.cmp .isin (.var 2) (.tup (.cons (.k (.str [115, 104, 111, 114, 116])) (.cons (.k (.str [108, 111, 110, 103])) .nil)))) (.cons (.ret (.ife (.cmp .eq (.var 2) (.k (.str [115, 104, 111, 114, 116]))) (.cmp .ge (.bi .len (.cons (.var 7) .nil)) (.bi .int (.cons (.var 4) .nil))) (.cmp .le (.bi .len (.cons (.var 7) .nil)) (.bi .int (.cons (.var 4) .nil)))))
  .nil) .nil)
  (.cons (.ife (.cmp .isin (.var 2) (.tup (.cons (.k (.str [115, 105, 103, 110, 115])) (.cons (.k (.str [98, 101, 103, 105, 110, 115])) (.cons (.k (.str [104, 111, 108, 100, 115])) .nil))))) (.cons (.ret (.call 9 (.cons (.var 2) (.cons (.var 7) (.cons (.var 4) .nil)))))
  .nil) .nil)
  (.cons (.ret (.call 10 (.cons (.var 2) (.cons (.var 7) (.cons (.var 4) .nil)))))
  .nil)))))))) }
def f_holds_text : Fn := { ar := 3, nl := 6, dfl := [], lamf := false, body :=
  (.cons (.ife (.cmp .eq (.var 0) (.k (.str [115, 105, 103, 110, 115]))) (.cons (.ret (.gen .all [3] (.nm 3) (.e (.var 1)) .nil (.cmp .isin (.var 3) (.var 2))))
  .nil) .nil)
  (.cons (.par [4, 5] (.cons (.me .lower (.var 1) .nil) (.cons (.me .lower (.var 2) .nil) .nil)))
  (.cons (.ret (.ife (.cmp .eq (.var 0) (.k (.str [98, 101, 103, 105, 110, 115]))) (.cmp .eq (.sl (.var 4) .nop (.bi .len (.cons (.var 5) .nil))) (.var 5)) (.cmp .isin (.var 5) (.var 4))))
  .nil))) }
def f_holds_size : Fn := { ar := 3, nl := 7, dfl := [], lamf := false, body :=
  (.cons (.tri (.cons (.ife (.cmp .isin (.var 0) (.tup (.cons (.k (.str [108, 101, 97, 115, 116])) (.cons (.k (.str [109, 111, 115, 116])) .nil)))) (.cons (.par [3, 4] (.cons (.call 2 (.cons (.var 1) .nil)) (.cons (.call 2 (.cons (.var 2) .nil)) .nil)))
  (.cons (.ret (.ife (.cmp .eq (.var 0) (.k (.str [108, 101, 97, 115, 116]))) (.cmp .ge (.var 3) (.var 4)) (.cmp .le (.var 3) (.var 4))))
  .nil)) .nil)
  (.cons (.par [5, 6] (.cons (.call 4 (.cons (.var 1) .nil)) (.cons (.call 4 (.cons (.var 2) .nil)) .nil)))
  (.cons (.ret (.ife (.cmp .eq (.var 0) (.k (.str [97, 104, 101, 97, 100]))) (.cmp .lt (.var 5) (.var 6)) (.cmp .gt (.var 5) (.var 6))))
  .nil))) [(1, (.ret (.bl false)))])
  .nil) }
def f_makes_needless : Fn := { ar := 2, nl := 2, dfl := [], lamf := false, body :=
  (.cons (.ife (.cmp .ne (.sl (.var 0) .nop (.k (.int 2))) (.sl (.var 1) .nop (.k (.int 2)))) (.cons (.ret (.k (.bl false)))
  .nil) .nil)
  (.cons (.ife (.cmp .isin (.ix (.var 0) (.k (.int 0))) (.tup (.cons (.k (.str [108, 101, 97, 115, 116])) (.cons (.k (.str [115, 104, 111, 114, 116])) (.cons (.k (.str [115, 111, 109, 101])) .nil))))) (.cons (.ret (.cmp .ge (.call 7 (.cons (.var 0) .nil)) (.call 7 (.cons (.var 1) .nil))))
  .nil) .nil)
  (.cons (.ife (.cmp .isin (.ix (.var 0) (.k (.int 0))) (.tup (.cons (.k (.str [109, 111, 115, 116])) (.cons (.k (.str [108, 111, 110, 103])) .nil)))) (.cons (.ret (.cmp .le (.call 7 (.cons (.var 0) .nil)) (.call 7 (.cons (.var 1) .nil))))
  .nil) .nil)
  (.cons (.ife (.cmp .eq (.ix (.var 0) (.k (.int 0))) (.k (.str [97, 104, 101, 97, 100]))) (.cons (.ret (.cmp .le (.call 4 (.cons (.ix (.var 0) (.k (.int 2))) .nil)) (.call 4 (.cons (.ix (.var 1) (.k (.int 2))) .nil))))
  .nil) .nil)
  (.cons (.ret (.ife (.cmp .eq (.ix (.var 0) (.k (.int 0))) (.k (.str [98, 101, 104, 105, 110, 100]))) (.cmp .ge (.call 4 (.cons (.ix (.var 0) (.k (.int 2))) .nil)) (.call 4 (.cons (.ix (.var 1) (.k (.int 2))) .nil))) (.cmp .eq (.ix (.var 0) (.k (.int 2))) (.ix (.var 1) (.k (.int 2))))))
  .nil))))) }
def f_told_for : Fn := { ar := 3, nl := 4, dfl := [], lamf := false, body :=
  (.cons (.set (.nm 3) (.dct (.cons (.k (.str [108, 101, 97, 115, 116])) (.cons (.bin .add (.bin .add (.k (.str [109, 117, 115, 116, 32, 98, 101, 32])) (.var 2)) (.k (.str [32, 111, 114, 32, 109, 111, 114, 101]))) (.cons (.k (.str [109, 111, 115, 116])) (.cons (.bin .add (.bin .add (.k (.str [109, 117, 115, 116, 32, 98, 101, 32])) (.var 2)) (.k (.str [32, 111, 114, 32, 108, 101, 115, 115]))) (.cons (.k (.str [115, 104, 111, 114, 116])) (.cons (.bin .add (.bin .add (.k (.str [109, 117, 115, 116, 32, 104, 97, 118, 101, 32])) (.var 2)) (.k (.str [32, 115, 105, 103, 110, 115, 32, 111, 114, 32, 109, 111, 114, 101]))) (.cons (.k (.str [108, 111, 110, 103])) (.cons (.bin .add (.bin .add (.k (.str [109, 117, 115, 116, 32, 104, 97, 118, 101, 32])) (.var 2)) (.k (.str [32, 115, 105, 103, 110, 115, 32, 111, 114, 32, 102, 101, 119, 101, 114]))) (.cons (.k (.str [115, 105, 103, 110, 115])) (.cons (.bin .add (.bin .add (.k (.str [109, 97, 121, 32, 104, 97, 118, 101, 32])) (.var 2)) (.k (.str [32, 97, 108, 111, 110, 101]))) (.cons (.k (.str [97, 104, 101, 97, 100])) (.cons (.bin .add (.k (.str [109, 117, 115, 116, 32, 98, 101, 32, 98, 101, 102, 111, 114, 101, 32])) (.var 2)) (.cons (.k (.str [98, 101, 104, 105, 110, 100])) (.cons (.bin .add (.k (.str [109, 117, 115, 116, 32, 98, 101, 32, 97, 102, 116, 101, 114, 32])) (.var 2)) (.cons (.k (.str [98, 101, 103, 105, 110, 115])) (.cons (.bin .add (.k (.str [109, 117, 115, 116, 32, 98, 101, 103, 105, 110, 32, 119, 105, 116, 104, 32])) (.var 2)) (.cons (.k (.str [104, 111, 108, 100, 115])) (.cons (.bin .add (.k (.str [109, 117, 115, 116, 32, 104, 111, 108, 100, 32])) (.var 2)) .nil))))))))))))))))))))
  (.cons (.ife (.cmp .isin (.var 0) (.var 3)) (.cons (.ret (.bin .add (.bin .add (.ix (.var 1) (.k (.int 0))) (.k (.str [32]))) (.ix (.var 3) (.var 0))))
  .nil) .nil)
  (.cons (.ife (.cmp .eq (.var 0) (.k (.str [115, 111, 109, 101]))) (.cons (.ret (.bin .add (.bin .add (.bin .add (.var 2) (.k (.str [32, 111, 102, 32]))) (.me .join (.k (.str [44, 32])) (.cons (.var 1) .nil))) (.k (.str [32, 109, 117, 115, 116, 32, 98, 101, 32, 97, 110, 115, 119, 101, 114, 101, 100]))))
  .nil) .nil)
  (.cons (.ret (.bin .add (.bin .add (.bin .add (.ix (.var 1) (.k (.int 0))) (.k (.str [32, 97, 110, 100, 32]))) (.ix (.var 1) (.k (.int 1)))) (.ife (.cmp .eq (.var 0) (.k (.str [115, 97, 109, 101]))) (.k (.str [32, 109, 117, 115, 116, 32, 98, 101, 32, 116, 104, 101, 32, 115, 97, 109, 101])) (.k (.str [32, 109, 117, 115, 116, 32, 100, 105, 102, 102, 101, 114])))))
  .nil)))) }
def f__law_dice : Fn := { ar := 1, nl := 1, dfl := [], lamf := false, body :=
  (.cons (.ife (.chn .lt .lt (.bin .sub (.k (.int 0)) (.k (.int 10))) (.var 0) (.k (.int 10))) (.cons (.ret (.lst true (.cons (.bi .abs (.cons (.var 0) .nil)) (.cons (.k (.int 0)) (.cons (.k (.int 2)) .nil)))))
  .nil) .nil)
  (.cons (.ret (.lst true (.cons (.var 0) (.cons (.bin .add (.k (.int 1)) (.bin .mod (.bi .int (.cons (.var 0) .nil)) (.k (.int 1009)))) (.cons (.bi .int (.cons (.cmp .ge (.var 0) (.bin .pow (.k (.int 10)) (.k (.int 18)))) .nil)) .nil)))))
  .nil)) }
def f__law_roll : Fn := { ar := 2, nl := 3, dfl := [], lamf := false, body :=
  (.cons (.ife (.bop false (.cons (.cmp .eq (.ix (.var 0) (.k (.int 2))) (.k (.int 2))) (.cons (.bop true (.cons (.cmp .eq (.ix (.var 0) (.k (.int 2))) (.k (.int 1))) (.cons (.cmp .gt (.ix (.var 0) (.k (.int 0))) (.k (.int 0))) .nil))) .nil))) (.cons (.set (.nm 2) (.bin .mod (.bi .int (.cons (.ix (.var 0) (.k (.int 0))) .nil)) (.var 1)))
  (.cons (.sub (.bin .fdiv (.ix (.var 0) (.k (.int 0))) (.var 1)) (.var 0) (.k (.int 0)))
  (.cons (.ret (.var 2))
  .nil))) .nil)
  (.cons (.sub (.k (.int 0)) (.var 0) (.k (.int 2)))
  (.cons (.ife (.cmp .gt (.var 1) (.k (.int 100000000))) (.cons (.ret (.bin .mod (.bi .int (.cons (.bin .add (.bin .mul (.call 14 (.cons (.var 0) (.cons (.bin .add (.bin .fdiv (.var 1) (.k (.int 100000000))) (.k (.int 1))) .nil))) (.k (.int 100000000))) (.call 14 (.cons (.var 0) (.cons (.k (.int 100000000)) .nil)))) .nil)) (.var 1)))
  .nil) .nil)
  (.cons (.sub (.bin .mod (.bi .int (.cons (.bin .add (.bin .add (.bin .mul (.ix (.var 0) (.k (.int 0))) (.k (.int 48271))) (.bin .mul (.ix (.var 0) (.k (.int 1))) (.k (.int 69621)))) (.k (.int 11))) .nil)) (.k (.int 2147483647))) (.var 0) (.k (.int 0)))
  (.cons (.sub (.bin .add (.ix (.var 0) (.k (.int 1))) (.k (.int 1))) (.var 0) (.k (.int 1)))
  (.cons (.ret (.bin .mod (.bi .int (.cons (.bin .fdiv (.ix (.var 0) (.k (.int 0))) (.k (.int 7))) .nil)) (.var 1)))
  .nil)))))) }
def f__law_rounds : Fn := { ar := 2, nl := 4, dfl := [], lamf := false, body :=
  (.cons (.set (.nm 2) (.sl (.var 0) .nop (.var 1)))
  (.cons (.ife (.cmp .eq (.var 2) (.lst false .nil)) (.cons (.set (.nm 2) (.lst false (.cons (.k (.int 0)) .nil)))
  .nil) .nil)
  (.cons (.ret (.lc [3] (.nm 3) (.e (.var 2)) .nil (.call 13 (.cons (.var 3) .nil))))
  .nil))) }
def f__law_told : Fn := { ar := 1, nl := 1, dfl := [], lamf := false, body :=
  (.cons (.tri (.cons (.ret (.app 0))
  .nil) [(1, (.ret (.str [75, 105, 110, 100, 69, 114, 114, 111, 114]))), (2, (.ret (.str [82, 117, 108, 101, 69, 114, 114, 111, 114])))])
  .nil) }
def f__law_rule : Fn := { ar := 1, nl := 7, dfl := [], lamf := false, body :=
  (.cons (.set (.nm 1) (.ix (.lst false (.cons (.k (.str [108, 101, 97, 115, 116])) (.cons (.k (.str [109, 111, 115, 116])) (.cons (.k (.str [115, 104, 111, 114, 116])) (.cons (.k (.str [108, 111, 110, 103])) (.cons (.k (.str [115, 105, 103, 110, 115])) (.cons (.k (.str [97, 104, 101, 97, 100])) (.cons (.k (.str [98, 101, 104, 105, 110, 100])) (.cons (.k (.str [115, 97, 109, 101])) (.cons (.k (.str [111, 116, 104, 101, 114])) (.cons (.k (.str [115, 111, 109, 101])) (.cons (.k (.str [98, 101, 103, 105, 110, 115])) (.cons (.k (.str [104, 111, 108, 100, 115])) (.cons (.k (.str [111, 100, 100])) .nil)))))))))))))) (.call 14 (.cons (.var 0) (.cons (.k (.int 13)) .nil)))))
  (.cons (.set (.nm 2) (.ix (.lst false (.cons (.lst false (.cons (.k (.str [97])) .nil)) (.cons (.lst false (.cons (.k (.str [98])) .nil)) (.cons (.lst false (.cons (.k (.str [97])) (.cons (.k (.str [98])) .nil))) (.cons (.lst false (.cons (.k (.str [97])) (.cons (.k (.str [98])) (.cons (.k (.str [99])) .nil)))) (.cons (.lst false .nil) (.cons (.lst false (.cons (.k (.str [97])) (.cons (.k (.str [97])) .nil))) .nil))))))) (.bin .fdiv (.call 14 (.cons (.var 0) (.cons (.k (.int 17)) .nil))) (.k (.int 3)))))
  (.cons (.ife (.cmp .isin (.var 1) (.lst false (.cons (.k (.str [115, 97, 109, 101])) (.cons (.k (.str [111, 116, 104, 101, 114])) .nil)))) (.cons (.set (.nm 2) (.ix (.lst false (.cons (.lst false (.cons (.k (.str [97])) (.cons (.k (.str [98])) .nil))) (.cons (.lst false (.cons (.k (.str [98])) (.cons (.k (.str [97])) .nil))) (.cons (.var 2) .nil)))) (.call 14 (.cons (.var 0) (.cons (.k (.int 3)) .nil)))))
  .nil) (.cons (.ife (.cmp .ne (.var 1) (.k (.str [115, 111, 109, 101]))) (.cons (.set (.nm 2) (.ix (.lst false (.cons (.lst false (.cons (.k (.str [97])) .nil)) (.cons (.lst false (.cons (.k (.str [98])) .nil)) (.cons (.var 2) .nil)))) (.call 14 (.cons (.var 0) (.cons (.k (.int 3)) .nil)))))
  .nil) .nil)
  .nil))
  (.cons (.set (.nm 3) (.ix (.dget (.dct (.cons (.k (.str [108, 101, 97, 115, 116])) (.cons (.lst false (.cons (.k (.str [53])) (.cons (.k (.str [45, 49, 46, 53])) (.cons (.k (.str [120])) .nil)))) (.cons (.k (.str [109, 111, 115, 116])) (.cons (.lst false (.cons (.k (.str [49, 48])) (.cons (.k (.str [50, 46, 50, 53])) (.cons (.k (.str [])) .nil)))) (.cons (.k (.str [115, 104, 111, 114, 116])) (.cons (.lst false (.cons (.k (.str [50])) (.cons (.k (.str [49, 50, 51, 52, 53])) (.cons (.k (.str [48])) .nil)))) (.cons (.k (.str [108, 111, 110, 103])) (.cons (.lst false (.cons (.k (.str [51])) (.cons (.k (.str [120])) (.cons (.k (.str [49, 48])) .nil)))) (.cons (.k (.str [115, 105, 103, 110, 115])) (.cons (.lst false (.cons (.k (.str [97, 98, 99, 49])) (.cons (.k (.str [])) (.cons (.k (.str [48, 49, 50, 51, 52, 53, 54, 55, 56, 57])) .nil)))) (.cons (.k (.str [97, 104, 101, 97, 100])) (.cons (.lst false (.cons (.k (.str [50, 48, 50, 54, 45, 48, 49, 45, 48, 49])) (.cons (.k (.str [111, 100, 100])) (.cons (.k (.str [50, 48, 50, 53, 45, 48, 54, 45, 51, 48])) .nil)))) (.cons (.k (.str [98, 101, 104, 105, 110, 100])) (.cons (.lst false (.cons (.k (.str [50, 48, 50, 54, 45, 48, 49, 45, 48, 49])) (.cons (.k (.str [49, 46, 50, 46, 50, 48, 50, 53])) (.cons (.k (.str [])) .nil)))) (.cons (.k (.str [115, 111, 109, 101])) (.cons (.lst false (.cons (.k (.str [49])) (.cons (.k (.str [50])) (.cons (.k (.str [57])) .nil)))) (.cons (.k (.str [98, 101, 103, 105, 110, 115])) (.cons (.lst false (.cons (.k (.str [65])) (.cons (.k (.str [])) (.cons (.k (.str [97, 98])) .nil)))) (.cons (.k (.str [104, 111, 108, 100, 115])) (.cons (.lst false (.cons (.k (.str [66])) (.cons (.k (.str [])) (.cons (.k (.str [49])) .nil)))) .nil))))))))))))))))))))) (.var 1) (.lst false (.cons (.k (.str [])) (.cons (.k (.str [])) (.cons (.k (.str [120])) .nil))))) (.call 14 (.cons (.var 0) (.cons (.k (.int 3)) .nil)))))
  (.cons (.set (.nm 4) (.bi .len (.cons (.var 2) .nil)))
  (.cons (.set (.nm 5) (.cmp .isin (.var 1) (.lst false (.cons (.k (.str [115, 97, 109, 101])) (.cons (.k (.str [111, 116, 104, 101, 114])) .nil)))))
  (.cons (.set (.nm 6) (.bop true (.cons (.cmp .ne (.var 1) (.k (.str [111, 100, 100]))) (.cons (.cmp .notin (.var 2) (.lst false (.cons (.lst false .nil) (.cons (.lst false (.cons (.k (.str [97])) (.cons (.k (.str [97])) .nil))) .nil)))) (.cons (.ife (.v (.var 5)) (.cmp .eq (.var 4) (.k (.int 2))) (.bop false (.cons (.cmp .eq (.var 4) (.k (.int 1))) (.cons (.cmp .eq (.var 1) (.k (.str [115, 111, 109, 101]))) .nil)))) .nil)))))
  (.cons (.ife (.cmp .isin (.var 1) (.lst false (.cons (.k (.str [108, 101, 97, 115, 116])) (.cons (.k (.str [109, 111, 115, 116])) .nil)))) (.cons (.set (.nm 6) (.bop true (.cons (.var 6) (.cons (.cmp .notin (.var 3) (.lst false (.cons (.k (.str [120])) (.cons (.k (.str [])) .nil)))) .nil))))
  .nil) (.cons (.ife (.cmp .isin (.var 1) (.lst false (.cons (.k (.str [115, 104, 111, 114, 116])) (.cons (.k (.str [108, 111, 110, 103])) .nil)))) (.cons (.set (.nm 6) (.bop true (.cons (.var 6) (.cons (.cmp .notin (.var 3) (.lst false (.cons (.k (.str [49, 50, 51, 52, 53])) (.cons (.k (.str [120])) .nil)))) .nil))))
  .nil) (.cons (.ife (.cmp .isin (.var 1) (.lst false (.cons (.k (.str [115, 105, 103, 110, 115])) (.cons (.k (.str [98, 101, 103, 105, 110, 115])) (.cons (.k (.str [104, 111, 108, 100, 115])) .nil))))) (.cons (.set (.nm 6) (.bop true (.cons (.var 6) (.cons (.cmp .ne (.var 3) (.k (.str []))) .nil))))
  .nil) (.cons (.ife (.cmp .isin (.var 1) (.lst false (.cons (.k (.str [97, 104, 101, 97, 100])) (.cons (.k (.str [98, 101, 104, 105, 110, 100])) .nil)))) (.cons (.set (.nm 6) (.bop true (.cons (.var 6) (.cons (.cmp .notin (.var 3) (.lst false (.cons (.k (.str [111, 100, 100])) (.cons (.k (.str [])) .nil)))) .nil))))
  .nil) (.cons (.ife (.cmp .eq (.var 1) (.k (.str [115, 111, 109, 101]))) (.cons (.set (.nm 6) (.bop true (.cons (.var 6) (.cons (.cmp .le (.bi .int (.cons (.var 3) .nil)) (.var 4)) .nil))))
  .nil) (.cons (.set (.nm 6) (.bop true (.cons (.var 6) (.cons (.cmp .eq (.var 3) (.k (.str []))) .nil))))
  .nil))
  .nil))
  .nil))
  .nil))
  .nil))
  (.cons (.ret (.tup (.cons (.tup (.cons (.var 1) (.cons (.bi .tuple (.cons (.var 2) .nil)) (.cons (.var 3) .nil)))) (.cons (.var 6) .nil))))
  .nil))))))))) }
def f__law_number : Fn := { ar := 1, nl := 1, dfl := [], lamf := true, body :=
  (.cons (.ret (.call 16 (.cons (.lam 0) .nil)))
  .nil) }
def f__law_day : Fn := { ar := 1, nl := 1, dfl := [], lamf := true, body :=
  (.cons (.ret (.call 16 (.cons (.lam 1) .nil)))
  .nil) }
def f__law_holds : Fn := { ar := 2, nl := 12, dfl := [], lamf := false, body :=
  (.cons (.set (.tup [(.nm 2), (.nm 3), (.nm 4)]) (.sl (.var 0) .nop (.k (.int 3))))
  (.cons (.ife (.cmp .eq (.var 2) (.k (.str [115, 111, 109, 101]))) (.cons (.ret (.cmp .ge (.bi .len (.cons (.lc [5] (.nm 5) (.e (.var 3)) (.cons (.cmp .ne (.dget (.var 1) (.var 5) (.k (.str []))) (.k (.str []))) .nil) (.var 5)) .nil)) (.bi .int (.cons (.var 4) .nil))))
  .nil) .nil)
  (.cons (.set (.nm 6) (.dget (.var 1) (.ix (.var 3) (.k (.int 0))) (.k (.str []))))
  (.cons (.ife (.cmp .eq (.var 6) (.k (.str []))) (.cons (.ret (.k (.bl true)))
  .nil) .nil)
  (.cons (.ife (.cmp .isin (.var 2) (.lst false (.cons (.k (.str [115, 97, 109, 101])) (.cons (.k (.str [111, 116, 104, 101, 114])) .nil)))) (.cons (.set (.nm 7) (.dget (.var 1) (.ix (.var 3) (.k (.int 1))) (.k (.str []))))
  (.cons (.ret (.bop false (.cons (.cmp .eq (.var 7) (.k (.str []))) (.cons (.cmp .eq (.cmp .eq (.var 6) (.var 7)) (.cmp .eq (.var 2) (.k (.str [115, 97, 109, 101])))) .nil))))
  .nil)) .nil)
  (.cons (.ife (.cmp .isin (.var 2) (.lst false (.cons (.k (.str [115, 104, 111, 114, 116])) (.cons (.k (.str [108, 111, 110, 103])) .nil)))) (.cons (.ret (.ife (.cmp .eq (.var 2) (.k (.str [115, 104, 111, 114, 116]))) (.cmp .ge (.bi .len (.cons (.var 6) .nil)) (.bi .int (.cons (.var 4) .nil))) (.cmp .le (.bi .len (.cons (.var 6) .nil)) (.bi .int (.cons (.var 4) .nil)))))
  .nil) .nil)
  (.cons (.ife (.cmp .isin (.var 2) (.lst false (.cons (.k (.str [108, 101, 97, 115, 116])) (.cons (.k (.str [109, 111, 115, 116])) .nil)))) (.cons (.set (.nm 8) (.call 18 (.cons (.var 6) .nil)))
  (.cons (.ife (.nt (.cmp .ne (.var 8) (.k (.str [75, 105, 110, 100, 69, 114, 114, 111, 114])))) (.cons (.ret (.k (.bl false)))
  .nil) .nil)
  (.cons (.ret (.ife (.cmp .eq (.var 2) (.k (.str [108, 101, 97, 115, 116]))) (.cmp .ge (.var 8) (.call 2 (.cons (.var 4) .nil))) (.cmp .le (.var 8) (.call 2 (.cons (.var 4) .nil)))))
  .nil))) .nil)
  (.cons (.ife (.cmp .isin (.var 2) (.lst false (.cons (.k (.str [97, 104, 101, 97, 100])) (.cons (.k (.str [98, 101, 104, 105, 110, 100])) .nil)))) (.cons (.set (.nm 9) (.call 19 (.cons (.var 6) .nil)))
  (.cons (.ret (.bop true (.cons (.cmp .ne (.var 9) (.k (.str [75, 105, 110, 100, 69, 114, 114, 111, 114]))) (.cons (.ife (.cmp .eq (.var 2) (.k (.str [97, 104, 101, 97, 100]))) (.cmp .lt (.var 9) (.call 4 (.cons (.var 4) .nil))) (.cmp .gt (.var 9) (.call 4 (.cons (.var 4) .nil)))) .nil))))
  .nil)) .nil)
  (.cons (.set (.nm 10) (.me .lower (.var 6) .nil))
  (.cons (.ret (.ife (.cmp .eq (.var 2) (.k (.str [115, 105, 103, 110, 115]))) (.cmp .eq (.lc [11] (.nm 11) (.e (.var 6)) (.cons (.cmp .notin (.var 11) (.var 4)) .nil) (.var 11)) (.lst false .nil)) (.ife (.cmp .eq (.var 2) (.k (.str [98, 101, 103, 105, 110, 115]))) (.cmp .eq (.sl (.var 10) .nop (.bi .len (.cons (.var 4) .nil))) (.me .lower (.var 4) .nil)) (.cmp .isin (.me .lower (.var 4) .nil) (.var 10)))))
  .nil)))))))))) }
def f__law_size : Fn := { ar := 1, nl := 1, dfl := [], lamf := false, body :=
  (.cons (.ret (.ife (.cmp .isin (.ix (.var 0) (.k (.int 0))) (.lst false (.cons (.k (.str [108, 101, 97, 115, 116])) (.cons (.k (.str [109, 111, 115, 116])) .nil)))) (.call 2 (.cons (.ix (.var 0) (.k (.int 2))) .nil)) (.bi .int (.cons (.ix (.var 0) (.k (.int 2))) .nil))))
  .nil) }
def f__law_words : Fn := { ar := 3, nl := 4, dfl := [], lamf := false, body :=
  (.cons (.set (.nm 3) (.dct (.cons (.k (.str [108, 101, 97, 115, 116])) (.cons (.bin .add (.bin .add (.k (.str [32, 109, 117, 115, 116, 32, 98, 101, 32])) (.var 2)) (.k (.str [32, 111, 114, 32, 109, 111, 114, 101]))) (.cons (.k (.str [109, 111, 115, 116])) (.cons (.bin .add (.bin .add (.k (.str [32, 109, 117, 115, 116, 32, 98, 101, 32])) (.var 2)) (.k (.str [32, 111, 114, 32, 108, 101, 115, 115]))) (.cons (.k (.str [115, 104, 111, 114, 116])) (.cons (.bin .add (.bin .add (.k (.str [32, 109, 117, 115, 116, 32, 104, 97, 118, 101, 32])) (.var 2)) (.k (.str [32, 115, 105, 103, 110, 115, 32, 111, 114, 32, 109, 111, 114, 101]))) (.cons (.k (.str [108, 111, 110, 103])) (.cons (.bin .add (.bin .add (.k (.str [32, 109, 117, 115, 116, 32, 104, 97, 118, 101, 32])) (.var 2)) (.k (.str [32, 115, 105, 103, 110, 115, 32, 111, 114, 32, 102, 101, 119, 101, 114]))) (.cons (.k (.str [115, 105, 103, 110, 115])) (.cons (.bin .add (.bin .add (.k (.str [32, 109, 97, 121, 32, 104, 97, 118, 101, 32])) (.var 2)) (.k (.str [32, 97, 108, 111, 110, 101]))) (.cons (.k (.str [97, 104, 101, 97, 100])) (.cons (.bin .add (.k (.str [32, 109, 117, 115, 116, 32, 98, 101, 32, 98, 101, 102, 111, 114, 101, 32])) (.var 2)) (.cons (.k (.str [98, 101, 104, 105, 110, 100])) (.cons (.bin .add (.k (.str [32, 109, 117, 115, 116, 32, 98, 101, 32, 97, 102, 116, 101, 114, 32])) (.var 2)) (.cons (.k (.str [98, 101, 103, 105, 110, 115])) (.cons (.bin .add (.k (.str [32, 109, 117, 115, 116, 32, 98, 101, 103, 105, 110, 32, 119, 105, 116, 104, 32])) (.var 2)) (.cons (.k (.str [104, 111, 108, 100, 115])) (.cons (.bin .add (.k (.str [32, 109, 117, 115, 116, 32, 104, 111, 108, 100, 32])) (.var 2)) .nil))))))))))))))))))))
  (.cons (.ife (.cmp .isin (.var 0) (.var 3)) (.cons (.ret (.bin .add (.ix (.var 1) (.k (.int 0))) (.ix (.var 3) (.var 0))))
  .nil) .nil)
  (.cons (.ife (.cmp .eq (.var 0) (.k (.str [115, 111, 109, 101]))) (.cons (.ret (.bin .add (.bin .add (.bin .add (.var 2) (.k (.str [32, 111, 102, 32]))) (.me .join (.k (.str [44, 32])) (.cons (.var 1) .nil))) (.k (.str [32, 109, 117, 115, 116, 32, 98, 101, 32, 97, 110, 115, 119, 101, 114, 101, 100]))))
  .nil) .nil)
  (.cons (.ret (.bin .add (.bin .add (.bin .add (.ix (.var 1) (.k (.int 0))) (.k (.str [32, 97, 110, 100, 32]))) (.ix (.var 1) (.k (.int 1)))) (.ix (.dct (.cons (.k (.str [115, 97, 109, 101])) (.cons (.k (.str [32, 109, 117, 115, 116, 32, 98, 101, 32, 116, 104, 101, 32, 115, 97, 109, 101])) (.cons (.k (.str [111, 116, 104, 101, 114])) (.cons (.k (.str [32, 109, 117, 115, 116, 32, 100, 105, 102, 102, 101, 114])) .nil))))) (.var 0))))
  .nil)))) }
def f__law_makes : Fn := { ar := 2, nl := 2, dfl := [], lamf := false, body :=
  (.cons (.ife (.cmp .isin (.ix (.var 0) (.k (.int 0))) (.lst false (.cons (.k (.str [108, 101, 97, 115, 116])) (.cons (.k (.str [115, 104, 111, 114, 116])) (.cons (.k (.str [115, 111, 109, 101])) .nil))))) (.cons (.ret (.cmp .ge (.call 21 (.cons (.var 0) .nil)) (.call 21 (.cons (.var 1) .nil))))
  .nil) .nil)
  (.cons (.ife (.cmp .isin (.ix (.var 0) (.k (.int 0))) (.lst false (.cons (.k (.str [109, 111, 115, 116])) (.cons (.k (.str [108, 111, 110, 103])) .nil)))) (.cons (.ret (.cmp .le (.call 21 (.cons (.var 0) .nil)) (.call 21 (.cons (.var 1) .nil))))
  .nil) .nil)
  (.cons (.ife (.cmp .isin (.ix (.var 0) (.k (.int 0))) (.lst false (.cons (.k (.str [97, 104, 101, 97, 100])) (.cons (.k (.str [98, 101, 104, 105, 110, 100])) .nil)))) (.cons (.ret (.ife (.cmp .eq (.ix (.var 0) (.k (.int 0))) (.k (.str [97, 104, 101, 97, 100]))) (.cmp .le (.call 4 (.cons (.ix (.var 0) (.k (.int 2))) .nil)) (.call 4 (.cons (.ix (.var 1) (.k (.int 2))) .nil))) (.cmp .ge (.call 4 (.cons (.ix (.var 0) (.k (.int 2))) .nil)) (.call 4 (.cons (.ix (.var 1) (.k (.int 2))) .nil)))))
  .nil) .nil)
  (.cons (.ret (.cmp .eq (.ix (.var 0) (.k (.int 2))) (.ix (.var 1) (.k (.int 2)))))
  .nil)))) }
def f__law_plain : Fn := { ar := 0, nl := 10, dfl := [], lamf := true, body :=
  (.cons (.set (.tup [(.nm 0), (.nm 1)]) (.tup (.cons (.new 0 .nil) (.cons (.new 0 .nil) .nil))))
  (.cons (.for_ (.nm 2) (.rng (.cons (.k (.int 60)) .nil)) (.cons (.exp (.mc 1 (.var 1) (.cons (.k (.str [108, 101, 97, 115, 116])) (.cons (.lst false (.cons (.k (.str [97])) .nil)) (.cons (.k (.str [49])) .nil)))))
  .nil))
  (.cons (.for_ (.tup [(.nm 3), (.nm 4), (.nm 5), (.nm 6)]) (.e (.lst false (.cons (.tup (.cons (.k (.str [108, 101, 97, 115, 116])) (.cons (.lst false (.cons (.k (.str [97, 103, 101])) .nil)) (.cons (.k (.str [49, 56])) (.cons (.k (.str [])) .nil))))) (.cons (.tup (.cons (.k (.str [109, 111, 115, 116])) (.cons (.lst false (.cons (.k (.str [97, 103, 101])) .nil)) (.cons (.k (.str [49, 48])) (.cons (.k (.str [])) .nil))))) (.cons (.tup (.cons (.k (.str [115, 97, 109, 101])) (.cons (.lst false (.cons (.k (.str [97])) (.cons (.k (.str [98])) .nil))) (.cons (.k (.str [])) (.cons (.k (.str [])) .nil))))) (.cons (.tup (.cons (.k (.str [115, 111, 109, 101])) (.cons (.lst false (.cons (.k (.str [120])) (.cons (.k (.str [121])) .nil))) (.cons (.k (.str [49])) (.cons (.k (.str [])) .nil))))) (.cons (.tup (.cons (.k (.str [97, 104, 101, 97, 100])) (.cons (.lst false (.cons (.k (.str [100])) .nil)) (.cons (.k (.str [50, 48, 50, 54, 45, 48, 49, 45, 48, 49])) (.cons (.k (.str [])) .nil))))) (.cons (.tup (.cons (.k (.str [108, 101, 97, 115, 116])) (.cons (.lst false (.cons (.k (.str [97, 103, 101])) .nil)) (.cons (.k (.str [53])) (.cons (.k (.str [111, 108, 100, 63])) .nil))))) .nil)))))))) (.cons (.exp (.mc 1 (.var 0) (.cons (.var 3) (.cons (.var 4) (.cons (.var 5) (.cons (.var 6) .nil))))))
  .nil))
  (.cons (.set (.nm 7) (.lst false (.cons (.lam 5) (.cons (.lam 4) (.cons (.lam 3) (.cons (.lam 2) .nil))))))
  (.cons (.set (.nm 7) (.bin .add (.var 7) (.lst false (.cons (.lam 8) (.cons (.lam 7) (.cons (.lam 6) .nil))))))
  (.cons (.set (.nm 7) (.bin .add (.var 7) (.lst false (.cons (.lam 10) (.cons (.lam 9) .nil)))))
  (.cons (.ife (.bop false (.cons (.cmp .ne (.lc [8] (.nm 8) (.e (.var 7)) (.cons (.cmp .ne (.call 16 (.cons (.var 8) .nil)) (.k (.str [82, 117, 108, 101, 69, 114, 114, 111, 114]))) .nil) (.k (.int 1))) (.lst false .nil)) (.cons (.cmp .ne (.tup (.cons (.glb 1) (.cons (.bi .len (.cons (.glb 2) .nil)) .nil))) (.tup (.cons (.k (.int 60)) (.cons (.k (.int 12)) .nil)))) .nil))) (.cons (.ret (.k (.bl false)))
  .nil) .nil)
  (.cons (.set (.nm 9) (.lst false (.cons (.mc 2 (.var 0) (.cons (.dct (.cons (.k (.str [97, 103, 101])) (.cons (.k (.str [49, 50])) (.cons (.k (.str [97])) (.cons (.k (.str [49])) (.cons (.k (.str [98])) (.cons (.k (.str [50])) (.cons (.k (.str [100])) (.cons (.k (.str [50, 48, 50, 54, 45, 48, 50, 45, 48, 49])) .nil))))))))) .nil)) (.cons (.mc 3 (.var 0) (.cons (.dct (.cons (.k (.str [97, 103, 101])) (.cons (.k (.str [52])) (.cons (.k (.str [97])) (.cons (.k (.str [49])) (.cons (.k (.str [98])) (.cons (.k (.str [50])) .nil))))))) .nil)) (.cons (.mc 4 (.var 0) (.cons (.k (.str [97, 103, 101])) .nil)) .nil)))))
  (.cons (.set (.nm 9) (.bin .add (.var 9) (.lst false (.cons (.mc 5 (.var 0) .nil) (.cons (.mc 6 (.var 0) .nil) (.cons (.call 12 (.cons (.k (.str [111, 116, 104, 101, 114])) (.cons (.tup (.cons (.k (.str [97])) (.cons (.k (.str [98])) .nil))) (.cons (.k (.str [])) .nil)))) (.cons (.call 9 (.cons (.k (.str [115, 105, 103, 110, 115])) (.cons (.k (.str [97, 98])) (.cons (.k (.str [97, 98, 99])) .nil)))) .nil)))))))
  (.cons (.set (.nm 9) (.bin .add (.var 9) (.lst false (.cons (.call 10 (.cons (.k (.str [97, 104, 101, 97, 100])) (.cons (.k (.str [50, 48, 50, 54, 45, 48, 49, 45, 48, 49])) (.cons (.k (.str [50, 48, 50, 54, 45, 48, 49, 45, 48, 49])) .nil)))) (.cons (.call 7 (.cons (.tup (.cons (.k (.str [115, 104, 111, 114, 116])) (.cons (.tup (.cons (.k (.str [97])) .nil)) (.cons (.k (.str [51])) (.cons (.k (.str [])) .nil))))) .nil)) .nil)))))
  (.cons (.set (.nm 9) (.bin .add (.var 9) (.lst false (.cons (.call 11 (.cons (.tup (.cons (.k (.str [115, 97, 109, 101])) (.cons (.tup (.cons (.k (.str [97])) (.cons (.k (.str [98])) .nil))) (.cons (.k (.str [])) (.cons (.k (.str [])) .nil))))) (.cons (.tup (.cons (.k (.str [115, 97, 109, 101])) (.cons (.tup (.cons (.k (.str [97])) (.cons (.k (.str [98])) .nil))) (.cons (.k (.str [])) (.cons (.k (.str [120])) .nil))))) .nil))) .nil))))
  (.cons (.ret (.cmp .eq (.var 9) (.lst false (.cons (.tup (.cons (.k (.int 0)) (.cons (.k (.int 1)) (.cons (.k (.int 2)) (.cons (.k (.int 3)) (.cons (.k (.int 4)) .nil)))))) (.cons (.tup (.cons (.tup (.cons (.k (.str [97, 103, 101])) (.cons (.k (.str [97, 103, 101, 32, 109, 117, 115, 116, 32, 98, 101, 32, 49, 56, 32, 111, 114, 32, 109, 111, 114, 101])) .nil))) (.cons (.tup (.cons (.k (.str [97])) (.cons (.k (.str [97, 32, 97, 110, 100, 32, 98, 32, 109, 117, 115, 116, 32, 98, 101, 32, 116, 104, 101, 32, 115, 97, 109, 101])) .nil))) (.cons (.tup (.cons (.k (.str [120])) (.cons (.k (.str [49, 32, 111, 102, 32, 120, 44, 32, 121, 32, 109, 117, 115, 116, 32, 98, 101, 32, 97, 110, 115, 119, 101, 114, 101, 100])) .nil))) (.cons (.tup (.cons (.k (.str [97, 103, 101])) (.cons (.k (.str [111, 108, 100, 63])) .nil))) .nil))))) (.cons (.tup (.cons (.k (.int 0)) (.cons (.k (.int 1)) (.cons (.k (.int 5)) .nil)))) (.cons (.tup (.cons (.k (.int 5)) .nil)) (.cons (.tup (.cons (.tup (.cons (.k (.int 0)) (.cons (.k (.int 1)) .nil))) .nil)) (.cons (.k (.str [97, 32, 97, 110, 100, 32, 98, 32, 109, 117, 115, 116, 32, 100, 105, 102, 102, 101, 114])) (.cons (.k (.bl true)) (.cons (.k (.bl false)) (.cons (.k (.int 3)) (.cons (.k (.bl true)) .nil)))))))))))))
  .nil)))))))))))) }
def f_law : Fn := { ar := 1, nl := 21, dfl := [], lamf := true, body :=
  (.cons (.for_ (.nm 1) (.e (.call 15 (.cons (.var 0) (.cons (.k (.int 1)) .nil)))) (.cons (.set (.tup [(.nm 2), (.nm 3)]) (.tup (.cons (.new 0 .nil) (.cons (.lst false .nil) .nil))))
  (.cons (.for_ (.nm 4) (.rng (.cons (.call 14 (.cons (.var 1) (.cons (.k (.int 12)) .nil))) .nil)) (.cons (.set (.tup [(.tup [(.nm 5), (.nm 6), (.nm 7)]), (.nm 8)]) (.call 17 (.cons (.var 1) .nil)))
  (.cons (.set (.nm 9) (.ix (.lst false (.cons (.k (.str [])) (.cons (.k (.str [110, 111, 33])) .nil))) (.call 14 (.cons (.var 1) (.cons (.k (.int 2)) .nil)))))
  (.cons (.ife (.cmp .ne (.cmp .isn (.call 16 (.cons (.lam 11) .nil)) (.k .non)) (.var 8)) (.cons (.ret (.k (.bl false)))
  .nil) .nil)
  (.cons (.set (.nm 3) (.bin .add (.var 3) (.bin .mul (.lst false (.cons (.tup (.cons (.var 5) (.cons (.var 6) (.cons (.var 7) (.cons (.var 9) .nil))))) .nil)) (.bi .int (.cons (.var 8) .nil)))))
  .nil)))))
  (.cons (.ife (.cmp .ne (.at (.var 2) 7) (.var 3)) (.cons (.ret (.k (.bl false)))
  .nil) .nil)
  (.cons (.for_ (.nm 10) (.rng (.cons (.k (.int 4)) .nil)) (.cons (.set (.nm 11) (.bi .dict (.cons (.lc [12] (.nm 12) (.e (.k (.str [97, 98, 99]))) (.cons (.cmp .gt (.call 14 (.cons (.var 1) (.cons (.k (.int 5)) .nil))) (.k (.int 0))) .nil) (.tup (.cons (.var 12) (.cons (.ix (.lst false (.cons (.k (.str [])) (.cons (.k (.str [53])) (.cons (.k (.str [55, 46, 53])) (.cons (.k (.str [45, 50])) (.cons (.k (.str [97, 98, 99])) (.cons (.k (.str [97, 98, 49])) (.cons (.k (.str [65, 66, 67, 68])) (.cons (.k (.str [50, 48, 50, 54, 45, 48, 49, 45, 48, 49])) (.cons (.k (.str [50, 48, 50, 53, 45, 49, 50, 45, 51, 49])) (.cons (.k (.str [50, 48, 50, 54, 45, 48, 49, 45, 48, 50])) .nil))))))))))) (.call 14 (.cons (.var 1) (.cons (.k (.int 10)) .nil)))) .nil)))) .nil)))
  (.cons (.set (.nm 13) (.lc [10, 14] (.tup [(.nm 10), (.nm 14)]) (.enum (.cons (.var 3) .nil)) (.cons (.nt (.v (.call 20 (.cons (.var 14) (.cons (.var 11) .nil))))) .nil) (.var 10)))
  (.cons (.set (.nm 15) (.lc [10] (.nm 10) (.e (.var 13)) .nil (.tup (.cons (.ix (.ix (.ix (.var 3) (.var 10)) (.k (.int 1))) (.k (.int 0))) (.cons (.ife (.cmp .ne (.ix (.ix (.var 3) (.var 10)) (.k (.int 3))) (.k (.str []))) (.ix (.ix (.var 3) (.var 10)) (.k (.int 3))) (.call 22 (.cons (.ix (.ix (.var 3) (.var 10)) (.k (.int 0))) (.cons (.ix (.ix (.var 3) (.var 10)) (.k (.int 1))) (.cons (.ix (.ix (.var 3) (.var 10)) (.k (.int 2))) .nil))))) .nil)))))
  (.cons (.ife (.bop false (.cons (.cmp .ne (.bi .list (.cons (.mc 2 (.var 2) (.cons (.var 11) .nil)) .nil)) (.var 13)) (.cons (.cmp .ne (.bi .list (.cons (.mc 3 (.var 2) (.cons (.var 11) .nil)) .nil)) (.var 15)) .nil))) (.cons (.ret (.k (.bl false)))
  .nil) .nil)
  (.cons (.ife (.cmp .ne (.lc [14] (.nm 14) (.e (.var 3)) .nil (.call 8 (.cons (.var 14) (.cons (.var 11) .nil)))) (.lc [10] (.nm 10) (.rng (.cons (.bi .len (.cons (.var 3) .nil)) .nil)) .nil (.cmp .notin (.var 10) (.var 13)))) (.cons (.ret (.k (.bl false)))
  .nil) .nil)
  .nil))))))
  (.cons (.ife (.cmp .ne (.lc [12] (.nm 12) (.e (.k (.str [97, 98, 99]))) .nil (.bi .list (.cons (.mc 4 (.var 2) (.cons (.var 12) .nil)) .nil))) (.lc [12] (.nm 12) (.e (.k (.str [97, 98, 99]))) .nil (.lc [10, 14] (.tup [(.nm 10), (.nm 14)]) (.enum (.cons (.var 3) .nil)) (.cons (.cmp .isin (.var 12) (.ix (.var 14) (.k (.int 1)))) .nil) (.var 10)))) (.cons (.ret (.k (.bl false)))
  .nil) .nil)
  (.cons (.set (.nm 16) (.lst false .nil))
  (.cons (.for_ (.tup [(.nm 10), (.nm 14)]) (.enum (.cons (.var 3) .nil)) (.cons (.set (.nm 16) (.bin .add (.var 16) (.lc [17, 18] (.tup [(.nm 17), (.nm 18)]) (.enum (.cons (.var 3) .nil)) (.cons (.bop true (.cons (.cmp .eq (.ix (.var 14) (.k (.int 1))) (.ix (.var 18) (.k (.int 1)))) (.cons (.cmp .isin (.tup (.cons (.ix (.var 14) (.k (.int 0))) (.cons (.ix (.var 18) (.k (.int 0))) .nil))) (.lst false (.cons (.tup (.cons (.k (.str [108, 101, 97, 115, 116])) (.cons (.k (.str [109, 111, 115, 116])) .nil))) (.cons (.tup (.cons (.k (.str [115, 104, 111, 114, 116])) (.cons (.k (.str [108, 111, 110, 103])) .nil))) .nil)))) (.cons (.cmp .gt (.call 21 (.cons (.var 14) .nil)) (.call 21 (.cons (.var 18) .nil))) .nil)))) .nil) (.tup (.cons (.var 10) (.cons (.var 17) .nil))))))
  .nil))
  (.cons (.set (.nm 19) (.lc [10, 14] (.tup [(.nm 10), (.nm 14)]) (.enum (.cons (.var 3) .nil)) (.cons (.cmp .ne (.lc [20] (.nm 20) (.e (.sl (.var 3) .nop (.var 10))) (.cons (.bop true (.cons (.cmp .eq (.sl (.var 20) .nop (.k (.int 2))) (.sl (.var 14) .nop (.k (.int 2)))) (.cons (.v (.call 23 (.cons (.var 20) (.cons (.var 14) .nil)))) .nil))) .nil) (.var 20)) (.lst false .nil)) .nil) (.var 10)))
  (.cons (.ife (.bop false (.cons (.cmp .ne (.bi .list (.cons (.mc 6 (.var 2) .nil) .nil)) (.var 16)) (.cons (.cmp .ne (.bi .list (.cons (.mc 5 (.var 2) .nil) .nil)) (.var 19)) .nil))) (.cons (.ret (.k (.bl false)))
  .nil) .nil)
  .nil))))))))))
  (.cons (.ret (.call 24 .nil))
  .nil)) }
def f_Rules___init__ : Fn := { ar := 1, nl := 1, dfl := [], lamf := false, body :=
  (.cons (.sat (.lst true .nil) (.var 0) 7)
  .nil) }
def f_Rules_add : Fn := { ar := 5, nl := 8, dfl := [(.str []), (.str [])], lamf := false, body :=
  (.cons (.set (.nm 5) (.bi .len (.cons (.var 2) .nil)))
  (.cons (.set (.nm 6) (.cmp .isin (.var 1) (.tup (.cons (.k (.str [115, 97, 109, 101])) (.cons (.k (.str [111, 116, 104, 101, 114])) .nil)))))
  (.cons (.ife (.bop false (.cons (.cmp .notin (.var 1) (.glb 2)) (.cons (.cmp .eq (.var 5) (.k (.int 0))) (.cons (.v (.gen .any [7] (.nm 7) (.e (.var 2)) .nil (.cmp .gt (.lcnt (.bi .list (.cons (.var 2) .nil)) (.var 7)) (.k (.int 1))))) .nil)))) (.cons (.rai 2)
  .nil) .nil)
  (.cons (.ife (.bop false (.cons (.bop true (.cons (.v (.var 6)) (.cons (.cmp .ne (.var 5) (.k (.int 2))) .nil))) (.cons (.bop true (.cons (.nt (.v (.var 6))) (.cons (.cmp .ne (.var 1) (.k (.str [115, 111, 109, 101]))) (.cons (.cmp .ne (.var 5) (.k (.int 1))) .nil)))) (.cons (.cmp .ge (.bi .len (.cons (.at (.var 0) 7) .nil)) (.glb 1)) .nil)))) (.cons (.rai 2)
  .nil) .nil)
  (.cons (.exp (.call 6 (.cons (.var 1) (.cons (.var 3) (.cons (.var 5) .nil)))))
  (.cons (.apd (.at (.var 0) 7) (.tup (.cons (.var 1) (.cons (.bi .tuple (.cons (.var 2) .nil)) (.cons (.var 3) (.cons (.var 4) .nil))))))
  .nil)))))) }
def f_Rules_broken : Fn := { ar := 2, nl := 4, dfl := [], lamf := false, body :=
  (.cons (.ret (.tgen [2, 3] (.tup [(.nm 2), (.nm 3)]) (.enum (.cons (.at (.var 0) 7) .nil)) (.cons (.nt (.v (.call 8 (.cons (.var 3) (.cons (.var 1) .nil))))) .nil) (.var 2)))
  .nil) }
def f_Rules_told_rows : Fn := { ar := 2, nl := 8, dfl := [], lamf := false, body :=
  (.cons (.set (.nm 2) (.lst true .nil))
  (.cons (.for_ (.nm 3) (.e (.mc 2 (.var 0) (.cons (.var 1) .nil))) (.cons (.set (.tup [(.nm 4), (.nm 5), (.nm 6), (.nm 7)]) (.ix (.at (.var 0) 7) (.var 3)))
  (.cons (.apd (.var 2) (.tup (.cons (.ix (.var 5) (.k (.int 0))) (.cons (.ife (.cmp .ne (.var 7) (.k (.str []))) (.var 7) (.call 12 (.cons (.var 4) (.cons (.var 5) (.cons (.var 6) .nil))))) .nil))))
  .nil)))
  (.cons (.ret (.bi .tuple (.cons (.var 2) .nil)))
  .nil))) }
def f_Rules_of_field : Fn := { ar := 2, nl := 4, dfl := [], lamf := false, body :=
  (.cons (.ret (.tgen [2, 3] (.tup [(.nm 2), (.nm 3)]) (.enum (.cons (.at (.var 0) 7) .nil)) (.cons (.cmp .isin (.var 1) (.ix (.var 3) (.k (.int 1)))) .nil) (.var 2)))
  .nil) }
def f_Rules_needless : Fn := { ar := 1, nl := 5, dfl := [], lamf := false, body :=
  (.cons (.set (.nm 1) (.lst true .nil))
  (.cons (.for_ (.tup [(.nm 2), (.nm 3)]) (.enum (.cons (.at (.var 0) 7) .nil)) (.cons (.ife (.v (.gen .any [4] (.nm 4) (.e (.sl (.at (.var 0) 7) .nop (.var 2))) .nil (.call 11 (.cons (.var 4) (.cons (.var 3) .nil))))) (.cons (.apd (.var 1) (.var 2))
  .nil) .nil)
  .nil))
  (.cons (.ret (.bi .tuple (.cons (.var 1) .nil)))
  .nil))) }
def f_Rules_clashing : Fn := { ar := 1, nl := 6, dfl := [], lamf := false, body :=
  (.cons (.set (.nm 1) (.lst true .nil))
  (.cons (.for_ (.tup [(.nm 2), (.nm 3)]) (.enum (.cons (.at (.var 0) 7) .nil)) (.cons (.for_ (.tup [(.nm 4), (.nm 5)]) (.enum (.cons (.at (.var 0) 7) .nil)) (.cons (.ife (.bop true (.cons (.cmp .eq (.ix (.var 3) (.k (.int 1))) (.ix (.var 5) (.k (.int 1)))) (.cons (.cmp .isin (.tup (.cons (.ix (.var 3) (.k (.int 0))) (.cons (.ix (.var 5) (.k (.int 0))) .nil))) (.tup (.cons (.tup (.cons (.k (.str [108, 101, 97, 115, 116])) (.cons (.k (.str [109, 111, 115, 116])) .nil))) (.cons (.tup (.cons (.k (.str [115, 104, 111, 114, 116])) (.cons (.k (.str [108, 111, 110, 103])) .nil))) .nil)))) .nil))) (.cons (.ext 1 (.ife (.cmp .gt (.call 7 (.cons (.var 3) .nil)) (.call 7 (.cons (.var 5) .nil))) (.lst false (.cons (.tup (.cons (.var 2) (.cons (.var 4) .nil))) .nil)) (.lst false .nil)))
  .nil) .nil)
  .nil))
  .nil))
  (.cons (.ret (.bi .tuple (.cons (.var 1) .nil)))
  .nil))) }
def l_0 : Lam := { cap := [0], body := (.call 2 (.cons (.var 0) .nil)) }
def l_1 : Lam := { cap := [0], body := (.call 4 (.cons (.var 0) .nil)) }
def l_2 : Lam := { cap := [0], body := (.mc 1 (.var 0) (.cons (.k (.str [115, 97, 109, 101])) (.cons (.lst false (.cons (.k (.str [97])) .nil)) .nil))) }
def l_3 : Lam := { cap := [0], body := (.mc 1 (.var 0) (.cons (.k (.str [108, 101, 97, 115, 116])) (.cons (.lst false .nil) (.cons (.k (.str [49])) .nil)))) }
def l_4 : Lam := { cap := [0], body := (.mc 1 (.var 0) (.cons (.k (.str [111, 100, 100])) (.cons (.lst false (.cons (.k (.str [97])) .nil)) .nil))) }
def l_5 : Lam := { cap := [1], body := (.mc 1 (.var 0) (.cons (.k (.str [108, 101, 97, 115, 116])) (.cons (.lst false (.cons (.k (.str [97])) .nil)) (.cons (.k (.str [49])) .nil)))) }
def l_6 : Lam := { cap := [], body := (.call 6 (.cons (.k (.str [115, 111, 109, 101])) (.cons (.k (.str [48])) (.cons (.k (.int 2)) .nil)))) }
def l_7 : Lam := { cap := [], body := (.call 6 (.cons (.k (.str [115, 111, 109, 101])) (.cons (.k (.str [51])) (.cons (.k (.int 2)) .nil)))) }
def l_8 : Lam := { cap := [0], body := (.mc 1 (.var 0) (.cons (.k (.str [108, 101, 97, 115, 116])) (.cons (.lst false (.cons (.k (.str [97])) (.cons (.k (.str [98])) .nil))) (.cons (.k (.str [49])) .nil)))) }
def l_9 : Lam := { cap := [], body := (.call 6 (.cons (.k (.str [115, 97, 109, 101])) (.cons (.k (.str [120])) (.cons (.k (.int 2)) .nil)))) }
def l_10 : Lam := { cap := [], body := (.call 6 (.cons (.k (.str [115, 104, 111, 114, 116])) (.cons (.k (.str [45, 49])) (.cons (.k (.int 1)) .nil)))) }
def l_11 : Lam := { cap := [5, 6, 7, 9, 2], body := (.mc 1 (.var 4) (.cons (.var 0) (.cons (.var 1) (.cons (.var 2) (.cons (.var 3) .nil))))) }
def pg : Pg := { fns := [f_is_figures, f_whole_of, f_number_of, f_days_in, f_date_of, f_real_day, f_check_value, f_size_of, f_rule_holds, f_holds_text, f_holds_size, f_makes_needless, f_told_for, f__law_dice, f__law_roll, f__law_rounds, f__law_told, f__law_rule, f__law_number, f__law_day, f__law_holds, f__law_size, f__law_words, f__law_makes, f__law_plain, f_law, f_Rules___init__, f_Rules_add, f_Rules_broken, f_Rules_told_rows, f_Rules_of_field, f_Rules_needless, f_Rules_clashing], lams := [l_0, l_1, l_2, l_3, l_4, l_5, l_6, l_7, l_8, l_9, l_10, l_11], sup := [(1, 0), (2, 3), (2, 0), (3, 2), (3, 0)], ncl := 4, hot := 3, glb := [(.str [48, 49, 50, 51, 52, 53, 54, 55, 56, 57]), (.int 60), (.tup [(.str [108, 101, 97, 115, 116]), (.str [109, 111, 115, 116]), (.str [115, 104, 111, 114, 116]), (.str [108, 111, 110, 103]), (.str [115, 105, 103, 110, 115]), (.str [97, 104, 101, 97, 100]), (.str [98, 101, 104, 105, 110, 100]), (.str [115, 97, 109, 101]), (.str [111, 116, 104, 101, 114]), (.str [115, 111, 109, 101]), (.str [98, 101, 103, 105, 110, 115]), (.str [104, 111, 108, 100, 115])])], ini := [(0, 26)], mts := [((0, 1), 27), ((0, 2), 28), ((0, 3), 29), ((0, 4), 30), ((0, 5), 31), ((0, 6), 32)], fld := [(0, 7)], nat := 8 }
def fts : List FT := [{ N := ["text", "most", "sign"], ps := ["text", "most"], hasT := true, L := [] },
  { N := ["text", "body", "parts", "is_right", "part", "figures"], ps := ["text"], hasT := true, L := [] },
  { N := ["text", "head", "dot", "tail", "whole", "part"], ps := ["text"], hasT := false, L := [] },
  { N := ["year", "month", "is_leap"], ps := ["year", "month"], hasT := false, L := [] },
  { N := ["text", "mark", "order", "parts", "year", "month", "day"], ps := ["text"], hasT := false, L := [] },
  { N := ["year", "month", "day", "months", "days"], ps := ["year", "month", "day", "months", "days"], hasT := false, L := [] },
  { N := ["way", "value", "many", "is_count"], ps := ["way", "value", "many"], hasT := false, L := [] },
  { N := ["row"], ps := ["row"], hasT := false, L := [] },
  { N := ["row", "answers", "way", "names", "value", "told", "name", "answer", "other"], ps := ["row", "answers"], hasT := false, L := [] },
  { N := ["way", "answer", "value", "sign", "low", "asked"], ps := ["way", "answer", "value"], hasT := true, L := [] },
  { N := ["way", "answer", "value", "mine", "asked", "day", "edge"], ps := ["way", "answer", "value"], hasT := false, L := [] },
  { N := ["one", "row"], ps := ["one", "row"], hasT := false, L := [] },
  { N := ["way", "names", "value", "heads"], ps := ["way", "names", "value"], hasT := false, L := [] },
  { N := ["cell"], ps := ["cell"], hasT := false, L := [] },
  { N := ["dice", "many", "found"], ps := ["dice", "many"], hasT := false, L := [] },
  { N := ["script", "most", "cells", "cell"], ps := ["script", "most"], hasT := false, L := [] },
  { N := ["what"], ps := ["what"], hasT := false, L := [] },
  { N := ["dice", "way", "names", "value", "many", "pair", "good"], ps := ["dice"], hasT := false, L := [] },
  { N := ["text"], ps := ["text"], hasT := true, L := [(206, 21)] },
  { N := ["text"], ps := ["text"], hasT := true, L := [(208, 21)] },
  { N := ["row", "answers", "way", "names", "value", "name", "mine", "two", "number", "day", "low", "sign"], ps := ["row", "answers"], hasT := false, L := [] },
  { N := ["row"], ps := ["row"], hasT := false, L := [] },
  { N := ["way", "names", "value", "tails"], ps := ["way", "names", "value"], hasT := false, L := [] },
  { N := ["one", "row"], ps := ["one", "row"], hasT := false, L := [] },
  { N := ["rules", "full", "k", "way", "names", "value", "words", "bad", "f", "told"], ps := [], hasT := true, L := [(258, 0), (257, 0), (256, 0), (255, 0), (262, 0), (261, 0), (260, 0), (265, 0), (264, 0)] },
  { N := ["script", "dice", "rules", "own", "step", "way", "names", "value", "good", "words", "k", "answers", "name", "broken", "row", "told", "clashes", "j", "two", "needless", "one"], ps := ["script"], hasT := true, L := [(279, 26)] },
  { N := ["self"], ps := ["self"], hasT := false, L := [] },
  { N := ["self", "way", "names", "value", "told", "many", "is_pair", "name"], ps := ["self", "way", "names", "value", "told"], hasT := true, L := [] },
  { N := ["self", "answers", "place", "row"], ps := ["self", "answers"], hasT := true, L := [] },
  { N := ["self", "answers", "found", "place", "way", "names", "value", "words"], ps := ["self", "answers"], hasT := false, L := [] },
  { N := ["self", "name", "place", "row"], ps := ["self", "name"], hasT := true, L := [] },
  { N := ["self", "found", "place", "row", "one"], ps := ["self"], hasT := true, L := [] },
  { N := ["self", "found", "place", "row", "spot", "other"], ps := ["self"], hasT := false, L := [] }]
def lts : List LT := [{ N := ["text"] }, { N := ["text"] }, { N := ["rules"] }, { N := ["rules"] }, { N := ["rules"] }, { N := ["full"] }, { N := [] }, { N := [] }, { N := ["rules"] }, { N := [] }, { N := [] }, { N := ["way", "names", "value", "words", "rules"] }]
def fnn : List Str := ["is_figures", "whole_of", "number_of", "days_in", "date_of", "real_day", "check_value", "size_of", "rule_holds", "holds_text", "holds_size", "makes_needless", "told_for", "_law_dice", "_law_roll", "_law_rounds", "_law_told", "_law_rule", "_law_number", "_law_day", "_law_holds", "_law_size", "_law_words", "_law_makes", "_law_plain", "law"]
def clsn : List Str := ["FormFault", "KindError", "RuleError", "RuleError"]
def mtn : List (Str × Str) := [("Rules", "__init__"), ("Rules", "add"), ("Rules", "broken"), ("Rules", "told_rows"), ("Rules", "of_field"), ("Rules", "needless"), ("Rules", "clashing")]
def ocl : List Str := ["Rules"]
def atl : List Str := ["__init__", "add", "broken", "told_rows", "of_field", "needless", "clashing", "rows"]
def gln : List Str := ["FIGURES", "MOST_RULES", "WAYS"]
def bls : List Str := ["abs", "all", "any", "dict", "enumerate", "int", "len", "list", "max", "range", "tuple"]
def at_ : List (Nat × Option Nat) := [(6, none), (7, none), (8, none), (9, none), (10, none), (11, none), (16, none), (17, none), (18, none), (19, none), (20, none), (21, none), (22, none), (24, none), (25, none), (26, none), (27, none), (28, none), (29, none), (30, none), (31, none), (32, none), (33, none), (34, none), (35, none), (36, none), (15, some 0), (15, some 1), (15, some 2), (15, some 3), (15, some 4), (15, some 5), (15, some 6)]
def oth0 : List Str := ["FormFault", "KindError", "RuleError", "is_figures", "whole_of", "number_of", "days_in", "date_of", "real_day", "Rules", "check_value", "size_of", "rule_holds", "holds_text", "holds_size", "makes_needless", "told_for", "_law_dice", "_law_roll", "_law_rounds", "_law_told", "_law_rule", "_law_number", "_law_day", "_law_holds", "_law_size", "_law_words", "_law_makes", "_law_plain", "FIGURES"]
def oth1 : List Str := ["MOST_RULES", "WAYS", "__name__"]
def others : List Str := oth0 ++ oth1
end K03
namespace K03
open PySem PySem.Spec PyProof.Rows L2 FS
def lawD : LawD := { g := pg, fts := fts, lts := lts, fnn := fnn, mtn := mtn, clsn := clsn, ocl := ocl, atl := atl, gln := gln, bls := bls, at_ := at_, top := PySem.Challenge.pw_formstack_k03_rules_of_answers.main.body }
theorem chk : lawD.chk = true := by decide +kernel
abbrev R : PySem.W.OpenRow := PySem.W.OpenLaw.row PySem.Challenge.rw_formstack_k03_rules_of_answers
abbrev hk : PySem.W.Hook := He.hookX 4 lawD.fa lawD.fn [] lawD.tf lawD.ex
def ob (s : PySem.W.SharedT) : He.AlX := He.obsX 4 lawD.fa lawD.fn [] lawD.tf lawD.ex (HandSHeadRun.getT s)
theorem ob_eq (s : PySem.W.SharedT) : ob s = hk.obs s.abs := He.obsX_eq (HandSHeadRun.getT_eq s)
end K03

-- text K03R
set_option Elab.async false
set_option linter.all false
set_option maxRecDepth 100000
set_option maxHeartbeats 0
namespace K03
open PySem PySem.Spec PyProof.Rows L2 FS
theorem run (w : World) : HandSHeadRun.RunEq R (PySem.W.view R.prog [36]) hk ob 6000 others w := by
  intro os
  kernel_rfl
end K03

-- text K03C
set_option Elab.async false
set_option linter.all false
set_option maxRecDepth 100000
set_option maxHeartbeats 0
namespace K03
open PySem FS
def c_is_figures : C.XS :=
  (C.scons (C.ret (C.bop (C.bcons true (C.chn .le .le (C.k (.int 1)) (C.bi .len (C.cons (C.var 0) C.nil)) (C.var 1)) (C.blast (C.gen .all [2] (.nm 2) (C.ie (C.var 0)) (C.tnil true) (C.cmp .isin (C.var 2) (C.glb pg 0)))))))
  C.snil)
def c_whole_of : C.XS :=
  (C.scons (C.set (.nm 1) (C.ife (C.tcmp .isin (C.sl (C.var 0) true C.nop false (C.k (.int 1))) (C.tup (C.cons (C.k (.str [45])) (C.cons (C.k (.str [43])) C.nil)))) (C.sl (C.var 0) false (C.k (.int 1)) true C.nop) (C.var 0)))
  (C.scons (C.set (.nm 2) (C.me .split (C.var 1) (C.cons (C.k (.str [44])) C.nil)))
  (C.scons (C.set (.nm 3) (C.bop (C.bcons true (C.gen .all [4] (.nm 4) (C.ie (C.sl (C.var 2) false (C.k (.int 1)) true C.nop)) (C.tnil true) (C.cmp .eq (C.bi .len (C.cons (C.var 4) C.nil)) (C.k (.int 3)))) (C.blast (C.bop (C.bcons false (C.cmp .eq (C.bi .len (C.cons (C.var 2) C.nil)) (C.k (.int 1))) (C.blast (C.chn .le .le (C.k (.int 1)) (C.bi .len (C.cons (C.ix (C.var 2) (C.k (.int 0))) C.nil)) (C.k (.int 3))))))))))
  (C.scons (C.set (.nm 5) (C.me .join (C.k (.str [])) (C.cons (C.var 2) C.nil)))
  (C.scons (C.sife (C.tcons false (C.tnt (C.tv (C.var 3))) (C.tcons false (C.tnt (C.tv (C.call 0 (C.cons (C.var 5) (C.cons (C.k (.int 9)) C.nil))))) (C.tnil false))) (C.scons (C.rai pg 1)
  C.snil) C.snil)
  (C.scons (C.ret (C.ife (C.tcmp .eq (C.sl (C.var 0) true C.nop false (C.k (.int 1))) (C.k (.str [45]))) (C.bin .sub (C.k (.int 0)) (C.bi .int (C.cons (C.var 5) C.nil))) (C.bi .int (C.cons (C.var 5) C.nil))))
  C.snil))))))
def c_number_of : C.XS :=
  (C.scons (C.set (.tup [(.nm 1), (.nm 2), (.nm 3)]) (C.me .part (C.var 0) (C.cons (C.k (.str [46])) C.nil)))
  (C.scons (C.sife (C.tcons true (C.tcmp .ne (C.var 2) (C.k (.str []))) (C.tcons true (C.tnt (C.tv (C.call 0 (C.cons (C.var 3) (C.cons (C.k (.int 3)) C.nil))))) (C.tnil true))) (C.scons (C.rai pg 1)
  C.snil) C.snil)
  (C.scons (C.set (.nm 4) (C.call 1 (C.cons (C.var 1) C.nil)))
  (C.scons (C.set (.nm 5) (C.bi .int (C.cons (C.sl (C.bin .add (C.var 3) (C.k (.str [48, 48, 48]))) true C.nop false (C.k (.int 3))) C.nil)))
  (C.scons (C.ret (C.ife (C.tcmp .eq (C.sl (C.var 1) true C.nop false (C.k (.int 1))) (C.k (.str [45]))) (C.bin .sub (C.bin .mul (C.k (.int 1000)) (C.var 4)) (C.var 5)) (C.bin .add (C.bin .mul (C.k (.int 1000)) (C.var 4)) (C.var 5))))
  C.snil)))))
def c_days_in : C.XS :=
  (C.scons (C.set (.nm 2) (C.bop (C.bcons true (C.cmp .eq (C.bin .mod (C.var 0) (C.k (.int 4))) (C.k (.int 0))) (C.blast (C.bop (C.bcons false (C.cmp .ne (C.bin .mod (C.var 0) (C.k (.int 100))) (C.k (.int 0))) (C.blast (C.cmp .eq (C.bin .mod (C.var 0) (C.k (.int 400))) (C.k (.int 0))))))))))
  (C.scons (C.ret (C.ife (C.tcmp .eq (C.var 1) (C.k (.int 2))) (C.ife (C.tv (C.var 2)) (C.k (.int 29)) (C.k (.int 28))) (C.ife (C.tcmp .isin (C.var 1) (C.tup (C.cons (C.k (.int 4)) (C.cons (C.k (.int 6)) (C.cons (C.k (.int 9)) (C.cons (C.k (.int 11)) C.nil)))))) (C.k (.int 30)) (C.k (.int 31)))))
  C.snil))
def c_date_of : C.XS :=
  (C.scons (C.for_ (.tup [(.nm 1), (.nm 2)]) (C.ie (C.tup (C.cons (C.tup (C.cons (C.k (.str [45])) (C.cons (C.tup (C.cons (C.k (.int 0)) (C.cons (C.k (.int 1)) (C.cons (C.k (.int 2)) C.nil)))) C.nil))) (C.cons (C.tup (C.cons (C.k (.str [46])) (C.cons (C.tup (C.cons (C.k (.int 2)) (C.cons (C.k (.int 1)) (C.cons (C.k (.int 0)) C.nil)))) C.nil))) (C.cons (C.tup (C.cons (C.k (.str [47])) (C.cons (C.tup (C.cons (C.k (.int 2)) (C.cons (C.k (.int 0)) (C.cons (C.k (.int 1)) C.nil)))) C.nil))) C.nil))))) (C.scons (C.set (.nm 3) (C.me .split (C.var 0) (C.cons (C.var 1) C.nil)))
  (C.scons (C.sife (C.tcmp .eq (C.bi .len (C.cons (C.var 3) C.nil)) (C.k (.int 3))) (C.scons (C.par [4, 5, 6] (C.cons (C.ix (C.var 3) (C.ix (C.var 2) (C.k (.int 0)))) (C.cons (C.ix (C.var 3) (C.ix (C.var 2) (C.k (.int 1)))) (C.cons (C.ix (C.var 3) (C.ix (C.var 2) (C.k (.int 2)))) C.nil))))
  (C.scons (C.sife (C.tcons false (C.tcmp .ne (C.bi .len (C.cons (C.var 4) C.nil)) (C.k (.int 4))) (C.tcons false (C.tnt (C.tv (C.call 0 (C.cons (C.var 4) (C.cons (C.k (.int 4)) C.nil))))) (C.tcons false (C.tnt (C.tv (C.call 0 (C.cons (C.bin .add (C.var 5) (C.var 6)) (C.cons (C.k (.int 4)) C.nil))))) (C.tcons false (C.tcmp .isin (C.k (.str [])) (C.tup (C.cons (C.var 5) (C.cons (C.var 6) C.nil)))) (C.tnil false))))) (C.scons (C.rai pg 1)
  C.snil) C.snil)
  (C.scons (C.ret (C.call 5 (C.cons (C.bi .int (C.cons (C.var 4) C.nil)) (C.cons (C.bi .int (C.cons (C.var 5) C.nil)) (C.cons (C.bi .int (C.cons (C.var 6) C.nil)) (C.cons (C.bi .len (C.cons (C.var 5) C.nil)) (C.cons (C.bi .len (C.cons (C.var 6) C.nil)) C.nil)))))))
  C.snil))) C.snil)
  C.snil)))
  (C.scons (C.rai pg 1)
  C.snil))
def c_real_day : C.XS :=
  (C.scons (C.sife (C.tcons false (C.tcmp .gt (C.bi .max2 (C.cons (C.var 3) (C.cons (C.var 4) C.nil))) (C.k (.int 2))) (C.tcons false (C.tnt (C.tchn .le .le (C.k (.int 1900)) (C.var 0) (C.k (.int 2999)))) (C.tcons false (C.tnt (C.tchn .le .le (C.k (.int 1)) (C.var 1) (C.k (.int 12)))) (C.tnil false)))) (C.scons (C.rai pg 1)
  C.snil) C.snil)
  (C.scons (C.sife (C.tnt (C.tchn .le .le (C.k (.int 1)) (C.var 2) (C.call 3 (C.cons (C.var 0) (C.cons (C.var 1) C.nil))))) (C.scons (C.rai pg 1)
  C.snil) C.snil)
  (C.scons (C.ret (C.tup (C.cons (C.var 0) (C.cons (C.var 1) (C.cons (C.var 2) C.nil)))))
  C.snil)))
def c_check_value : C.XS :=
  (C.scons (C.tri pg (C.scons (C.sife (C.tcmp .isin (C.var 0) (C.tup (C.cons (C.k (.str [108, 101, 97, 115, 116])) (C.cons (C.k (.str [109, 111, 115, 116])) C.nil)))) (C.scons (C.exp (C.call 2 (C.cons (C.var 1) C.nil)))
  C.snil) (C.scons (C.sife (C.tcmp .isin (C.var 0) (C.tup (C.cons (C.k (.str [97, 104, 101, 97, 100])) (C.cons (C.k (.str [98, 101, 104, 105, 110, 100])) C.nil)))) (C.scons (C.exp (C.call 4 (C.cons (C.var 1) C.nil)))
  C.snil) C.snil)
  C.snil))
  C.snil) [(1, (.rai 3))])
  (C.scons (C.set (.nm 3) (C.cmp .isin (C.var 0) (C.tup (C.cons (C.k (.str [115, 104, 111, 114, 116])) (C.cons (C.k (.str [108, 111, 110, 103])) (C.cons (C.k (.str [115, 111, 109, 101])) C.nil))))))
  (C.scons (C.sife (C.tcons true (C.tv (C.var 3)) (C.tcons true (C.tcons false (C.tnt (C.tchn .le .le (C.k (.int 1)) (C.bi .len (C.cons (C.var 1) C.nil)) (C.k (.int 4)))) (C.tcons false (C.tcmp .ne (C.me .strip (C.var 1) (C.cons (C.k (.str [48, 49, 50, 51, 52, 53, 54, 55, 56, 57])) C.nil)) (C.k (.str []))) (C.tnil false))) (C.tnil true))) (C.scons (C.rai pg 2)
  C.snil) C.snil)
  (C.scons (C.sife (C.tcons true (C.tcmp .isin (C.var 0) (C.tup (C.cons (C.k (.str [115, 105, 103, 110, 115])) (C.cons (C.k (.str [98, 101, 103, 105, 110, 115])) (C.cons (C.k (.str [104, 111, 108, 100, 115])) C.nil))))) (C.tcons true (C.tcmp .eq (C.var 1) (C.k (.str []))) (C.tnil true))) (C.scons (C.rai pg 2)
  C.snil) C.snil)
  (C.scons (C.sife (C.tcons false (C.tcons true (C.tcmp .eq (C.var 0) (C.k (.str [115, 111, 109, 101]))) (C.tcons true (C.tnt (C.tchn .le .le (C.k (.int 1)) (C.bi .int (C.cons (C.var 1) C.nil)) (C.var 2))) (C.tnil true))) (C.tcons false (C.tcons true (C.tcmp .isin (C.var 0) (C.tup (C.cons (C.k (.str [115, 97, 109, 101])) (C.cons (C.k (.str [111, 116, 104, 101, 114])) C.nil)))) (C.tcons true (C.tcmp .ne (C.var 1) (C.k (.str []))) (C.tnil true))) (C.tnil false))) (C.scons (C.rai pg 2)
  C.snil) C.snil)
  C.snil)))))
def c_size_of : C.XS :=
  (C.scons (C.ret (C.ife (C.tcmp .isin (C.ix (C.var 0) (C.k (.int 0))) (C.tup (C.cons (C.k (.str [108, 101, 97, 115, 116])) (C.cons (C.k (.str [109, 111, 115, 116])) C.nil)))) (C.call 2 (C.cons (C.ix (C.var 0) (C.k (.int 2))) C.nil)) (C.bi .int (C.cons (C.ix (C.var 0) (C.k (.int 2))) C.nil))))
  C.snil)
def c_rule_holds : C.XS :=
  (C.scons (C.set (.tup [(.nm 2), (.nm 3), (.nm 4), (.nm 5)]) (C.var 0))
  (C.scons (C.sife (C.tcmp .eq (C.var 2) (C.k (.str [115, 111, 109, 101]))) (C.scons (C.ret (C.cmp .ge (C.bi .len (C.cons (C.lc [6] (.nm 6) (C.ie (C.var 3)) (C.tcons true (C.tcmp .ne (C.dget (C.var 1) (C.var 6) (C.k (.str []))) (C.k (.str []))) (C.tnil true)) (C.var 6)) C.nil)) (C.bi .int (C.cons (C.var 4) C.nil))))
  C.snil) C.snil)
  (C.scons (C.set (.nm 7) (C.dget (C.var 1) (C.ix (C.var 3) (C.k (.int 0))) (C.k (.str []))))
  (C.scons (C.sife (C.tcmp .eq (C.var 7) (C.k (.str []))) (C.scons (C.ret (C.k (.bl true)))
  C.snil) C.snil)
  (C.scons (C.sife (C.tcmp .isin (C.var 2) (C.tup (C.cons (C.k (.str [115, 97, 109, 101])) (C.cons (C.k (.str [111, 116, 104, 101, 114])) C.nil)))) (C.scons (C.set (.nm 8) (C.dget (C.var 1) (C.ix (C.var 3) (C.k (.int 1))) (C.k (.str []))))
  (C.scons (C.ret (C.bop (C.bcons false (C.cmp .eq (C.var 8) (C.k (.str []))) (C.blast (C.cmp .eq (C.cmp .eq (C.var 7) (C.var 8)) (C.cmp .eq (C.var 2) (C.k (.str [115, 97, 109, 101]))))))))
  C.snil)) C.snil)
  (C.scons (C.sife (C.tcmp .isin (C.var 2) (C.tup (C.cons (C.k (.str [115, 104, 111, 114, 116])) (C.cons (C.k (.str [108, 111, 110, 103])) C.nil)))) (C.scons (C.ret (C.ife (C.tcmp .eq (C.var 2) (C.k (.str [115, 104, 111, 114, 116]))) (C.cmp .ge (C.bi .len (C.cons (C.var 7) C.nil)) (C.bi .int (C.cons (C.var 4) C.nil))) (C.cmp .le (C.bi .len (C.cons (C.var 7) C.nil)) (C.bi .int (C.cons (C.var 4) C.nil)))))
  C.snil) C.snil)
  (C.scons (C.sife (C.tcmp .isin (C.var 2) (C.tup (C.cons (C.k (.str [115, 105, 103, 110, 115])) (C.cons (C.k (.str [98, 101, 103, 105, 110, 115])) (C.cons (C.k (.str [104, 111, 108, 100, 115])) C.nil))))) (C.scons (C.ret (C.call 9 (C.cons (C.var 2) (C.cons (C.var 7) (C.cons (C.var 4) C.nil)))))
  C.snil) C.snil)
  (C.scons (C.ret (C.call 10 (C.cons (C.var 2) (C.cons (C.var 7) (C.cons (C.var 4) C.nil)))))
  C.snil))))))))
def c_holds_text : C.XS :=
  (C.scons (C.sife (C.tcmp .eq (C.var 0) (C.k (.str [115, 105, 103, 110, 115]))) (C.scons (C.ret (C.gen .all [3] (.nm 3) (C.ie (C.var 1)) (C.tnil true) (C.cmp .isin (C.var 3) (C.var 2))))
  C.snil) C.snil)
  (C.scons (C.par [4, 5] (C.cons (C.me .lower (C.var 1) C.nil) (C.cons (C.me .lower (C.var 2) C.nil) C.nil)))
  (C.scons (C.ret (C.ife (C.tcmp .eq (C.var 0) (C.k (.str [98, 101, 103, 105, 110, 115]))) (C.cmp .eq (C.sl (C.var 4) true C.nop false (C.bi .len (C.cons (C.var 5) C.nil))) (C.var 5)) (C.cmp .isin (C.var 5) (C.var 4))))
  C.snil)))
def c_holds_size : C.XS :=
  (C.scons (C.tri pg (C.scons (C.sife (C.tcmp .isin (C.var 0) (C.tup (C.cons (C.k (.str [108, 101, 97, 115, 116])) (C.cons (C.k (.str [109, 111, 115, 116])) C.nil)))) (C.scons (C.par [3, 4] (C.cons (C.call 2 (C.cons (C.var 1) C.nil)) (C.cons (C.call 2 (C.cons (C.var 2) C.nil)) C.nil)))
  (C.scons (C.ret (C.ife (C.tcmp .eq (C.var 0) (C.k (.str [108, 101, 97, 115, 116]))) (C.cmp .ge (C.var 3) (C.var 4)) (C.cmp .le (C.var 3) (C.var 4))))
  C.snil)) C.snil)
  (C.scons (C.par [5, 6] (C.cons (C.call 4 (C.cons (C.var 1) C.nil)) (C.cons (C.call 4 (C.cons (C.var 2) C.nil)) C.nil)))
  (C.scons (C.ret (C.ife (C.tcmp .eq (C.var 0) (C.k (.str [97, 104, 101, 97, 100]))) (C.cmp .lt (C.var 5) (C.var 6)) (C.cmp .gt (C.var 5) (C.var 6))))
  C.snil))) [(1, (.ret (.bl false)))])
  C.snil)
def c_makes_needless : C.XS :=
  (C.scons (C.sife (C.tcmp .ne (C.sl (C.var 0) true C.nop false (C.k (.int 2))) (C.sl (C.var 1) true C.nop false (C.k (.int 2)))) (C.scons (C.ret (C.k (.bl false)))
  C.snil) C.snil)
  (C.scons (C.sife (C.tcmp .isin (C.ix (C.var 0) (C.k (.int 0))) (C.tup (C.cons (C.k (.str [108, 101, 97, 115, 116])) (C.cons (C.k (.str [115, 104, 111, 114, 116])) (C.cons (C.k (.str [115, 111, 109, 101])) C.nil))))) (C.scons (C.ret (C.cmp .ge (C.call 7 (C.cons (C.var 0) C.nil)) (C.call 7 (C.cons (C.var 1) C.nil))))
  C.snil) C.snil)
  (C.scons (C.sife (C.tcmp .isin (C.ix (C.var 0) (C.k (.int 0))) (C.tup (C.cons (C.k (.str [109, 111, 115, 116])) (C.cons (C.k (.str [108, 111, 110, 103])) C.nil)))) (C.scons (C.ret (C.cmp .le (C.call 7 (C.cons (C.var 0) C.nil)) (C.call 7 (C.cons (C.var 1) C.nil))))
  C.snil) C.snil)
  (C.scons (C.sife (C.tcmp .eq (C.ix (C.var 0) (C.k (.int 0))) (C.k (.str [97, 104, 101, 97, 100]))) (C.scons (C.ret (C.cmp .le (C.call 4 (C.cons (C.ix (C.var 0) (C.k (.int 2))) C.nil)) (C.call 4 (C.cons (C.ix (C.var 1) (C.k (.int 2))) C.nil))))
  C.snil) C.snil)
  (C.scons (C.ret (C.ife (C.tcmp .eq (C.ix (C.var 0) (C.k (.int 0))) (C.k (.str [98, 101, 104, 105, 110, 100]))) (C.cmp .ge (C.call 4 (C.cons (C.ix (C.var 0) (C.k (.int 2))) C.nil)) (C.call 4 (C.cons (C.ix (C.var 1) (C.k (.int 2))) C.nil))) (C.cmp .eq (C.ix (C.var 0) (C.k (.int 2))) (C.ix (C.var 1) (C.k (.int 2))))))
  C.snil)))))
def c_told_for : C.XS :=
  (C.scons (C.set (.nm 3) (C.dct (C.cons (C.k (.str [108, 101, 97, 115, 116])) (C.cons (C.bin .add (C.bin .add (C.k (.str [109, 117, 115, 116, 32, 98, 101, 32])) (C.var 2)) (C.k (.str [32, 111, 114, 32, 109, 111, 114, 101]))) (C.cons (C.k (.str [109, 111, 115, 116])) (C.cons (C.bin .add (C.bin .add (C.k (.str [109, 117, 115, 116, 32, 98, 101, 32])) (C.var 2)) (C.k (.str [32, 111, 114, 32, 108, 101, 115, 115]))) (C.cons (C.k (.str [115, 104, 111, 114, 116])) (C.cons (C.bin .add (C.bin .add (C.k (.str [109, 117, 115, 116, 32, 104, 97, 118, 101, 32])) (C.var 2)) (C.k (.str [32, 115, 105, 103, 110, 115, 32, 111, 114, 32, 109, 111, 114, 101]))) (C.cons (C.k (.str [108, 111, 110, 103])) (C.cons (C.bin .add (C.bin .add (C.k (.str [109, 117, 115, 116, 32, 104, 97, 118, 101, 32])) (C.var 2)) (C.k (.str [32, 115, 105, 103, 110, 115, 32, 111, 114, 32, 102, 101, 119, 101, 114]))) (C.cons (C.k (.str [115, 105, 103, 110, 115])) (C.cons (C.bin .add (C.bin .add (C.k (.str [109, 97, 121, 32, 104, 97, 118, 101, 32])) (C.var 2)) (C.k (.str [32, 97, 108, 111, 110, 101]))) (C.cons (C.k (.str [97, 104, 101, 97, 100])) (C.cons (C.bin .add (C.k (.str [109, 117, 115, 116, 32, 98, 101, 32, 98, 101, 102, 111, 114, 101, 32])) (C.var 2)) (C.cons (C.k (.str [98, 101, 104, 105, 110, 100])) (C.cons (C.bin .add (C.k (.str [109, 117, 115, 116, 32, 98, 101, 32, 97, 102, 116, 101, 114, 32])) (C.var 2)) (C.cons (C.k (.str [98, 101, 103, 105, 110, 115])) (C.cons (C.bin .add (C.k (.str [109, 117, 115, 116, 32, 98, 101, 103, 105, 110, 32, 119, 105, 116, 104, 32])) (C.var 2)) (C.cons (C.k (.str [104, 111, 108, 100, 115])) (C.cons (C.bin .add (C.k (.str [109, 117, 115, 116, 32, 104, 111, 108, 100, 32])) (C.var 2)) C.nil))))))))))))))))))))
  (C.scons (C.sife (C.tcmp .isin (C.var 0) (C.var 3)) (C.scons (C.ret (C.bin .add (C.bin .add (C.ix (C.var 1) (C.k (.int 0))) (C.k (.str [32]))) (C.ix (C.var 3) (C.var 0))))
  C.snil) C.snil)
  (C.scons (C.sife (C.tcmp .eq (C.var 0) (C.k (.str [115, 111, 109, 101]))) (C.scons (C.ret (C.bin .add (C.bin .add (C.bin .add (C.var 2) (C.k (.str [32, 111, 102, 32]))) (C.me .join (C.k (.str [44, 32])) (C.cons (C.var 1) C.nil))) (C.k (.str [32, 109, 117, 115, 116, 32, 98, 101, 32, 97, 110, 115, 119, 101, 114, 101, 100]))))
  C.snil) C.snil)
  (C.scons (C.ret (C.bin .add (C.bin .add (C.bin .add (C.ix (C.var 1) (C.k (.int 0))) (C.k (.str [32, 97, 110, 100, 32]))) (C.ix (C.var 1) (C.k (.int 1)))) (C.ife (C.tcmp .eq (C.var 0) (C.k (.str [115, 97, 109, 101]))) (C.k (.str [32, 109, 117, 115, 116, 32, 98, 101, 32, 116, 104, 101, 32, 115, 97, 109, 101])) (C.k (.str [32, 109, 117, 115, 116, 32, 100, 105, 102, 102, 101, 114])))))
  C.snil))))
def c__law_dice : C.XS :=
  (C.scons (C.sife (C.tchn .lt .lt (C.bin .sub (C.k (.int 0)) (C.k (.int 10))) (C.var 0) (C.k (.int 10))) (C.scons (C.ret (C.lst true (C.cons (C.bi .abs (C.cons (C.var 0) C.nil)) (C.cons (C.k (.int 0)) (C.cons (C.k (.int 2)) C.nil)))))
  C.snil) C.snil)
  (C.scons (C.ret (C.lst true (C.cons (C.var 0) (C.cons (C.bin .add (C.k (.int 1)) (C.bin .mod (C.bi .int (C.cons (C.var 0) C.nil)) (C.k (.int 1009)))) (C.cons (C.bi .int (C.cons (C.cmp .ge (C.var 0) (C.bin .pow (C.k (.int 10)) (C.k (.int 18)))) C.nil)) C.nil)))))
  C.snil))
def c__law_roll : C.XS :=
  (C.scons (C.sife (C.tcons false (C.tcmp .eq (C.ix (C.var 0) (C.k (.int 2))) (C.k (.int 2))) (C.tcons false (C.tcons true (C.tcmp .eq (C.ix (C.var 0) (C.k (.int 2))) (C.k (.int 1))) (C.tcons true (C.tcmp .gt (C.ix (C.var 0) (C.k (.int 0))) (C.k (.int 0))) (C.tnil true))) (C.tnil false))) (C.scons (C.set (.nm 2) (C.bin .mod (C.bi .int (C.cons (C.ix (C.var 0) (C.k (.int 0))) C.nil)) (C.var 1)))
  (C.scons (C.sub (C.bin .fdiv (C.ix (C.var 0) (C.k (.int 0))) (C.var 1)) (C.var 0) (C.k (.int 0)))
  (C.scons (C.ret (C.var 2))
  C.snil))) C.snil)
  (C.scons (C.sub (C.k (.int 0)) (C.var 0) (C.k (.int 2)))
  (C.scons (C.sife (C.tcmp .gt (C.var 1) (C.k (.int 100000000))) (C.scons (C.ret (C.bin .mod (C.bi .int (C.cons (C.bin .add (C.bin .mul (C.call 14 (C.cons (C.var 0) (C.cons (C.bin .add (C.bin .fdiv (C.var 1) (C.k (.int 100000000))) (C.k (.int 1))) C.nil))) (C.k (.int 100000000))) (C.call 14 (C.cons (C.var 0) (C.cons (C.k (.int 100000000)) C.nil)))) C.nil)) (C.var 1)))
  C.snil) C.snil)
  (C.scons (C.sub (C.bin .mod (C.bi .int (C.cons (C.bin .add (C.bin .add (C.bin .mul (C.ix (C.var 0) (C.k (.int 0))) (C.k (.int 48271))) (C.bin .mul (C.ix (C.var 0) (C.k (.int 1))) (C.k (.int 69621)))) (C.k (.int 11))) C.nil)) (C.k (.int 2147483647))) (C.var 0) (C.k (.int 0)))
  (C.scons (C.sub (C.bin .add (C.ix (C.var 0) (C.k (.int 1))) (C.k (.int 1))) (C.var 0) (C.k (.int 1)))
  (C.scons (C.ret (C.bin .mod (C.bi .int (C.cons (C.bin .fdiv (C.ix (C.var 0) (C.k (.int 0))) (C.k (.int 7))) C.nil)) (C.var 1)))
  C.snil))))))
def c__law_rounds : C.XS :=
  (C.scons (C.set (.nm 2) (C.sl (C.var 0) true C.nop false (C.var 1)))
  (C.scons (C.sife (C.tcmp .eq (C.var 2) (C.lst false C.nil)) (C.scons (C.set (.nm 2) (C.lst false (C.cons (C.k (.int 0)) C.nil)))
  C.snil) C.snil)
  (C.scons (C.ret (C.lc [3] (.nm 3) (C.ie (C.var 2)) (C.tnil true) (C.call 13 (C.cons (C.var 3) C.nil))))
  C.snil)))
def c__law_told : C.XS :=
  (C.scons (C.tri pg (C.scons (C.ret (C.app pg 0))
  C.snil) [(1, (.ret (.str [75, 105, 110, 100, 69, 114, 114, 111, 114]))), (2, (.ret (.str [82, 117, 108, 101, 69, 114, 114, 111, 114])))])
  C.snil)
def c__law_rule : C.XS :=
  (C.scons (C.set (.nm 1) (C.ix (C.lst false (C.cons (C.k (.str [108, 101, 97, 115, 116])) (C.cons (C.k (.str [109, 111, 115, 116])) (C.cons (C.k (.str [115, 104, 111, 114, 116])) (C.cons (C.k (.str [108, 111, 110, 103])) (C.cons (C.k (.str [115, 105, 103, 110, 115])) (C.cons (C.k (.str [97, 104, 101, 97, 100])) (C.cons (C.k (.str [98, 101, 104, 105, 110, 100])) (C.cons (C.k (.str [115, 97, 109, 101])) (C.cons (C.k (.str [111, 116, 104, 101, 114])) (C.cons (C.k (.str [115, 111, 109, 101])) (C.cons (C.k (.str [98, 101, 103, 105, 110, 115])) (C.cons (C.k (.str [104, 111, 108, 100, 115])) (C.cons (C.k (.str [111, 100, 100])) C.nil)))))))))))))) (C.call 14 (C.cons (C.var 0) (C.cons (C.k (.int 13)) C.nil)))))
  (C.scons (C.set (.nm 2) (C.ix (C.lst false (C.cons (C.lst false (C.cons (C.k (.str [97])) C.nil)) (C.cons (C.lst false (C.cons (C.k (.str [98])) C.nil)) (C.cons (C.lst false (C.cons (C.k (.str [97])) (C.cons (C.k (.str [98])) C.nil))) (C.cons (C.lst false (C.cons (C.k (.str [97])) (C.cons (C.k (.str [98])) (C.cons (C.k (.str [99])) C.nil)))) (C.cons (C.lst false C.nil) (C.cons (C.lst false (C.cons (C.k (.str [97])) (C.cons (C.k (.str [97])) C.nil))) C.nil))))))) (C.bin .fdiv (C.call 14 (C.cons (C.var 0) (C.cons (C.k (.int 17)) C.nil))) (C.k (.int 3)))))
  (C.scons (C.sife (C.tcmp .isin (C.var 1) (C.lst false (C.cons (C.k (.str [115, 97, 109, 101])) (C.cons (C.k (.str [111, 116, 104, 101, 114])) C.nil)))) (C.scons (C.set (.nm 2) (C.ix (C.lst false (C.cons (C.lst false (C.cons (C.k (.str [97])) (C.cons (C.k (.str [98])) C.nil))) (C.cons (C.lst false (C.cons (C.k (.str [98])) (C.cons (C.k (.str [97])) C.nil))) (C.cons (C.var 2) C.nil)))) (C.call 14 (C.cons (C.var 0) (C.cons (C.k (.int 3)) C.nil)))))
  C.snil) (C.scons (C.sife (C.tcmp .ne (C.var 1) (C.k (.str [115, 111, 109, 101]))) (C.scons (C.set (.nm 2) (C.ix (C.lst false (C.cons (C.lst false (C.cons (C.k (.str [97])) C.nil)) (C.cons (C.lst false (C.cons (C.k (.str [98])) C.nil)) (C.cons (C.var 2) C.nil)))) (C.call 14 (C.cons (C.var 0) (C.cons (C.k (.int 3)) C.nil)))))
  C.snil) C.snil)
  C.snil))
  (C.scons (C.set (.nm 3) (C.ix (C.dget (C.dct (C.cons (C.k (.str [108, 101, 97, 115, 116])) (C.cons (C.lst false (C.cons (C.k (.str [53])) (C.cons (C.k (.str [45, 49, 46, 53])) (C.cons (C.k (.str [120])) C.nil)))) (C.cons (C.k (.str [109, 111, 115, 116])) (C.cons (C.lst false (C.cons (C.k (.str [49, 48])) (C.cons (C.k (.str [50, 46, 50, 53])) (C.cons (C.k (.str [])) C.nil)))) (C.cons (C.k (.str [115, 104, 111, 114, 116])) (C.cons (C.lst false (C.cons (C.k (.str [50])) (C.cons (C.k (.str [49, 50, 51, 52, 53])) (C.cons (C.k (.str [48])) C.nil)))) (C.cons (C.k (.str [108, 111, 110, 103])) (C.cons (C.lst false (C.cons (C.k (.str [51])) (C.cons (C.k (.str [120])) (C.cons (C.k (.str [49, 48])) C.nil)))) (C.cons (C.k (.str [115, 105, 103, 110, 115])) (C.cons (C.lst false (C.cons (C.k (.str [97, 98, 99, 49])) (C.cons (C.k (.str [])) (C.cons (C.k (.str [48, 49, 50, 51, 52, 53, 54, 55, 56, 57])) C.nil)))) (C.cons (C.k (.str [97, 104, 101, 97, 100])) (C.cons (C.lst false (C.cons (C.k (.str [50, 48, 50, 54, 45, 48, 49, 45, 48, 49])) (C.cons (C.k (.str [111, 100, 100])) (C.cons (C.k (.str [50, 48, 50, 53, 45, 48, 54, 45, 51, 48])) C.nil)))) (C.cons (C.k (.str [98, 101, 104, 105, 110, 100])) (C.cons (C.lst false (C.cons (C.k (.str [50, 48, 50, 54, 45, 48, 49, 45, 48, 49])) (C.cons (C.k (.str [49, 46, 50, 46, 50, 48, 50, 53])) (C.cons (C.k (.str [])) C.nil)))) (C.cons (C.k (.str [115, 111, 109, 101])) (C.cons (C.lst false (C.cons (C.k (.str [49])) (C.cons (C.k (.str [50])) (C.cons (C.k (.str [57])) C.nil)))) (C.cons (C.k (.str [98, 101, 103, 105, 110, 115])) (C.cons (C.lst false (C.cons (C.k (.str [65])) (C.cons (C.k (.str [])) (C.cons (C.k (.str [97, 98])) C.nil)))) (C.cons (C.k (.str [104, 111, 108, 100, 115])) (C.cons (C.lst false (C.cons (C.k (.str [66])) (C.cons (C.k (.str [])) (C.cons (C.k (.str [49])) C.nil)))) C.nil))))))))))))))))))))) (C.var 1) (C.lst false (C.cons (C.k (.str [])) (C.cons (C.k (.str [])) (C.cons (C.k (.str [120])) C.nil))))) (C.call 14 (C.cons (C.var 0) (C.cons (C.k (.int 3)) C.nil)))))
  (C.scons (C.set (.nm 4) (C.bi .len (C.cons (C.var 2) C.nil)))
  (C.scons (C.set (.nm 5) (C.cmp .isin (C.var 1) (C.lst false (C.cons (C.k (.str [115, 97, 109, 101])) (C.cons (C.k (.str [111, 116, 104, 101, 114])) C.nil)))))
  (C.scons (C.set (.nm 6) (C.bop (C.bcons true (C.cmp .ne (C.var 1) (C.k (.str [111, 100, 100]))) (C.bcons true (C.cmp .notin (C.var 2) (C.lst false (C.cons (C.lst false C.nil) (C.cons (C.lst false (C.cons (C.k (.str [97])) (C.cons (C.k (.str [97])) C.nil))) C.nil)))) (C.blast (C.ife (C.tv (C.var 5)) (C.cmp .eq (C.var 4) (C.k (.int 2))) (C.bop (C.bcons false (C.cmp .eq (C.var 4) (C.k (.int 1))) (C.blast (C.cmp .eq (C.var 1) (C.k (.str [115, 111, 109, 101]))))))))))))
  (C.scons (C.sife (C.tcmp .isin (C.var 1) (C.lst false (C.cons (C.k (.str [108, 101, 97, 115, 116])) (C.cons (C.k (.str [109, 111, 115, 116])) C.nil)))) (C.scons (C.set (.nm 6) (C.bop (C.bcons true (C.var 6) (C.blast (C.cmp .notin (C.var 3) (C.lst false (C.cons (C.k (.str [120])) (C.cons (C.k (.str [])) C.nil))))))))
  C.snil) (C.scons (C.sife (C.tcmp .isin (C.var 1) (C.lst false (C.cons (C.k (.str [115, 104, 111, 114, 116])) (C.cons (C.k (.str [108, 111, 110, 103])) C.nil)))) (C.scons (C.set (.nm 6) (C.bop (C.bcons true (C.var 6) (C.blast (C.cmp .notin (C.var 3) (C.lst false (C.cons (C.k (.str [49, 50, 51, 52, 53])) (C.cons (C.k (.str [120])) C.nil))))))))
  C.snil) (C.scons (C.sife (C.tcmp .isin (C.var 1) (C.lst false (C.cons (C.k (.str [115, 105, 103, 110, 115])) (C.cons (C.k (.str [98, 101, 103, 105, 110, 115])) (C.cons (C.k (.str [104, 111, 108, 100, 115])) C.nil))))) (C.scons (C.set (.nm 6) (C.bop (C.bcons true (C.var 6) (C.blast (C.cmp .ne (C.var 3) (C.k (.str [])))))))
  C.snil) (C.scons (C.sife (C.tcmp .isin (C.var 1) (C.lst false (C.cons (C.k (.str [97, 104, 101, 97, 100])) (C.cons (C.k (.str [98, 101, 104, 105, 110, 100])) C.nil)))) (C.scons (C.set (.nm 6) (C.bop (C.bcons true (C.var 6) (C.blast (C.cmp .notin (C.var 3) (C.lst false (C.cons (C.k (.str [111, 100, 100])) (C.cons (C.k (.str [])) C.nil))))))))
  C.snil) (C.scons (C.sife (C.tcmp .eq (C.var 1) (C.k (.str [115, 111, 109, 101]))) (C.scons (C.set (.nm 6) (C.bop (C.bcons true (C.var 6) (C.blast (C.cmp .le (C.bi .int (C.cons (C.var 3) C.nil)) (C.var 4))))))
  C.snil) (C.scons (C.set (.nm 6) (C.bop (C.bcons true (C.var 6) (C.blast (C.cmp .eq (C.var 3) (C.k (.str [])))))))
  C.snil))
  C.snil))
  C.snil))
  C.snil))
  C.snil))
  (C.scons (C.ret (C.tup (C.cons (C.tup (C.cons (C.var 1) (C.cons (C.bi .tuple (C.cons (C.var 2) C.nil)) (C.cons (C.var 3) C.nil)))) (C.cons (C.var 6) C.nil))))
  C.snil)))))))))
def c__law_number : C.XS :=
  (C.scons (C.ret (C.call 16 (C.cons (C.lam 0) C.nil)))
  C.snil)
def c__law_day : C.XS :=
  (C.scons (C.ret (C.call 16 (C.cons (C.lam 1) C.nil)))
  C.snil)
def c__law_holds : C.XS :=
  (C.scons (C.set (.tup [(.nm 2), (.nm 3), (.nm 4)]) (C.sl (C.var 0) true C.nop false (C.k (.int 3))))
  (C.scons (C.sife (C.tcmp .eq (C.var 2) (C.k (.str [115, 111, 109, 101]))) (C.scons (C.ret (C.cmp .ge (C.bi .len (C.cons (C.lc [5] (.nm 5) (C.ie (C.var 3)) (C.tcons true (C.tcmp .ne (C.dget (C.var 1) (C.var 5) (C.k (.str []))) (C.k (.str []))) (C.tnil true)) (C.var 5)) C.nil)) (C.bi .int (C.cons (C.var 4) C.nil))))
  C.snil) C.snil)
  (C.scons (C.set (.nm 6) (C.dget (C.var 1) (C.ix (C.var 3) (C.k (.int 0))) (C.k (.str []))))
  (C.scons (C.sife (C.tcmp .eq (C.var 6) (C.k (.str []))) (C.scons (C.ret (C.k (.bl true)))
  C.snil) C.snil)
  (C.scons (C.sife (C.tcmp .isin (C.var 2) (C.lst false (C.cons (C.k (.str [115, 97, 109, 101])) (C.cons (C.k (.str [111, 116, 104, 101, 114])) C.nil)))) (C.scons (C.set (.nm 7) (C.dget (C.var 1) (C.ix (C.var 3) (C.k (.int 1))) (C.k (.str []))))
  (C.scons (C.ret (C.bop (C.bcons false (C.cmp .eq (C.var 7) (C.k (.str []))) (C.blast (C.cmp .eq (C.cmp .eq (C.var 6) (C.var 7)) (C.cmp .eq (C.var 2) (C.k (.str [115, 97, 109, 101]))))))))
  C.snil)) C.snil)
  (C.scons (C.sife (C.tcmp .isin (C.var 2) (C.lst false (C.cons (C.k (.str [115, 104, 111, 114, 116])) (C.cons (C.k (.str [108, 111, 110, 103])) C.nil)))) (C.scons (C.ret (C.ife (C.tcmp .eq (C.var 2) (C.k (.str [115, 104, 111, 114, 116]))) (C.cmp .ge (C.bi .len (C.cons (C.var 6) C.nil)) (C.bi .int (C.cons (C.var 4) C.nil))) (C.cmp .le (C.bi .len (C.cons (C.var 6) C.nil)) (C.bi .int (C.cons (C.var 4) C.nil)))))
  C.snil) C.snil)
  (C.scons (C.sife (C.tcmp .isin (C.var 2) (C.lst false (C.cons (C.k (.str [108, 101, 97, 115, 116])) (C.cons (C.k (.str [109, 111, 115, 116])) C.nil)))) (C.scons (C.set (.nm 8) (C.call 18 (C.cons (C.var 6) C.nil)))
  (C.scons (C.sife (C.tnt (C.tcmp .ne (C.var 8) (C.k (.str [75, 105, 110, 100, 69, 114, 114, 111, 114])))) (C.scons (C.ret (C.k (.bl false)))
  C.snil) C.snil)
  (C.scons (C.ret (C.ife (C.tcmp .eq (C.var 2) (C.k (.str [108, 101, 97, 115, 116]))) (C.cmp .ge (C.var 8) (C.call 2 (C.cons (C.var 4) C.nil))) (C.cmp .le (C.var 8) (C.call 2 (C.cons (C.var 4) C.nil)))))
  C.snil))) C.snil)
  (C.scons (C.sife (C.tcmp .isin (C.var 2) (C.lst false (C.cons (C.k (.str [97, 104, 101, 97, 100])) (C.cons (C.k (.str [98, 101, 104, 105, 110, 100])) C.nil)))) (C.scons (C.set (.nm 9) (C.call 19 (C.cons (C.var 6) C.nil)))
  (C.scons (C.ret (C.bop (C.bcons true (C.cmp .ne (C.var 9) (C.k (.str [75, 105, 110, 100, 69, 114, 114, 111, 114]))) (C.blast (C.ife (C.tcmp .eq (C.var 2) (C.k (.str [97, 104, 101, 97, 100]))) (C.cmp .lt (C.var 9) (C.call 4 (C.cons (C.var 4) C.nil))) (C.cmp .gt (C.var 9) (C.call 4 (C.cons (C.var 4) C.nil))))))))
  C.snil)) C.snil)
  (C.scons (C.set (.nm 10) (C.me .lower (C.var 6) C.nil))
  (C.scons (C.ret (C.ife (C.tcmp .eq (C.var 2) (C.k (.str [115, 105, 103, 110, 115]))) (C.cmp .eq (C.lc [11] (.nm 11) (C.ie (C.var 6)) (C.tcons true (C.tcmp .notin (C.var 11) (C.var 4)) (C.tnil true)) (C.var 11)) (C.lst false C.nil)) (C.ife (C.tcmp .eq (C.var 2) (C.k (.str [98, 101, 103, 105, 110, 115]))) (C.cmp .eq (C.sl (C.var 10) true C.nop false (C.bi .len (C.cons (C.var 4) C.nil))) (C.me .lower (C.var 4) C.nil)) (C.cmp .isin (C.me .lower (C.var 4) C.nil) (C.var 10)))))
  C.snil))))))))))
def c__law_size : C.XS :=
  (C.scons (C.ret (C.ife (C.tcmp .isin (C.ix (C.var 0) (C.k (.int 0))) (C.lst false (C.cons (C.k (.str [108, 101, 97, 115, 116])) (C.cons (C.k (.str [109, 111, 115, 116])) C.nil)))) (C.call 2 (C.cons (C.ix (C.var 0) (C.k (.int 2))) C.nil)) (C.bi .int (C.cons (C.ix (C.var 0) (C.k (.int 2))) C.nil))))
  C.snil)
def c__law_words : C.XS :=
  (C.scons (C.set (.nm 3) (C.dct (C.cons (C.k (.str [108, 101, 97, 115, 116])) (C.cons (C.bin .add (C.bin .add (C.k (.str [32, 109, 117, 115, 116, 32, 98, 101, 32])) (C.var 2)) (C.k (.str [32, 111, 114, 32, 109, 111, 114, 101]))) (C.cons (C.k (.str [109, 111, 115, 116])) (C.cons (C.bin .add (C.bin .add (C.k (.str [32, 109, 117, 115, 116, 32, 98, 101, 32])) (C.var 2)) (C.k (.str [32, 111, 114, 32, 108, 101, 115, 115]))) (C.cons (C.k (.str [115, 104, 111, 114, 116])) (C.cons (C.bin .add (C.bin .add (C.k (.str [32, 109, 117, 115, 116, 32, 104, 97, 118, 101, 32])) (C.var 2)) (C.k (.str [32, 115, 105, 103, 110, 115, 32, 111, 114, 32, 109, 111, 114, 101]))) (C.cons (C.k (.str [108, 111, 110, 103])) (C.cons (C.bin .add (C.bin .add (C.k (.str [32, 109, 117, 115, 116, 32, 104, 97, 118, 101, 32])) (C.var 2)) (C.k (.str [32, 115, 105, 103, 110, 115, 32, 111, 114, 32, 102, 101, 119, 101, 114]))) (C.cons (C.k (.str [115, 105, 103, 110, 115])) (C.cons (C.bin .add (C.bin .add (C.k (.str [32, 109, 97, 121, 32, 104, 97, 118, 101, 32])) (C.var 2)) (C.k (.str [32, 97, 108, 111, 110, 101]))) (C.cons (C.k (.str [97, 104, 101, 97, 100])) (C.cons (C.bin .add (C.k (.str [32, 109, 117, 115, 116, 32, 98, 101, 32, 98, 101, 102, 111, 114, 101, 32])) (C.var 2)) (C.cons (C.k (.str [98, 101, 104, 105, 110, 100])) (C.cons (C.bin .add (C.k (.str [32, 109, 117, 115, 116, 32, 98, 101, 32, 97, 102, 116, 101, 114, 32])) (C.var 2)) (C.cons (C.k (.str [98, 101, 103, 105, 110, 115])) (C.cons (C.bin .add (C.k (.str [32, 109, 117, 115, 116, 32, 98, 101, 103, 105, 110, 32, 119, 105, 116, 104, 32])) (C.var 2)) (C.cons (C.k (.str [104, 111, 108, 100, 115])) (C.cons (C.bin .add (C.k (.str [32, 109, 117, 115, 116, 32, 104, 111, 108, 100, 32])) (C.var 2)) C.nil))))))))))))))))))))
  (C.scons (C.sife (C.tcmp .isin (C.var 0) (C.var 3)) (C.scons (C.ret (C.bin .add (C.ix (C.var 1) (C.k (.int 0))) (C.ix (C.var 3) (C.var 0))))
  C.snil) C.snil)
  (C.scons (C.sife (C.tcmp .eq (C.var 0) (C.k (.str [115, 111, 109, 101]))) (C.scons (C.ret (C.bin .add (C.bin .add (C.bin .add (C.var 2) (C.k (.str [32, 111, 102, 32]))) (C.me .join (C.k (.str [44, 32])) (C.cons (C.var 1) C.nil))) (C.k (.str [32, 109, 117, 115, 116, 32, 98, 101, 32, 97, 110, 115, 119, 101, 114, 101, 100]))))
  C.snil) C.snil)
  (C.scons (C.ret (C.bin .add (C.bin .add (C.bin .add (C.ix (C.var 1) (C.k (.int 0))) (C.k (.str [32, 97, 110, 100, 32]))) (C.ix (C.var 1) (C.k (.int 1)))) (C.ix (C.dct (C.cons (C.k (.str [115, 97, 109, 101])) (C.cons (C.k (.str [32, 109, 117, 115, 116, 32, 98, 101, 32, 116, 104, 101, 32, 115, 97, 109, 101])) (C.cons (C.k (.str [111, 116, 104, 101, 114])) (C.cons (C.k (.str [32, 109, 117, 115, 116, 32, 100, 105, 102, 102, 101, 114])) C.nil))))) (C.var 0))))
  C.snil))))
def c__law_makes : C.XS :=
  (C.scons (C.sife (C.tcmp .isin (C.ix (C.var 0) (C.k (.int 0))) (C.lst false (C.cons (C.k (.str [108, 101, 97, 115, 116])) (C.cons (C.k (.str [115, 104, 111, 114, 116])) (C.cons (C.k (.str [115, 111, 109, 101])) C.nil))))) (C.scons (C.ret (C.cmp .ge (C.call 21 (C.cons (C.var 0) C.nil)) (C.call 21 (C.cons (C.var 1) C.nil))))
  C.snil) C.snil)
  (C.scons (C.sife (C.tcmp .isin (C.ix (C.var 0) (C.k (.int 0))) (C.lst false (C.cons (C.k (.str [109, 111, 115, 116])) (C.cons (C.k (.str [108, 111, 110, 103])) C.nil)))) (C.scons (C.ret (C.cmp .le (C.call 21 (C.cons (C.var 0) C.nil)) (C.call 21 (C.cons (C.var 1) C.nil))))
  C.snil) C.snil)
  (C.scons (C.sife (C.tcmp .isin (C.ix (C.var 0) (C.k (.int 0))) (C.lst false (C.cons (C.k (.str [97, 104, 101, 97, 100])) (C.cons (C.k (.str [98, 101, 104, 105, 110, 100])) C.nil)))) (C.scons (C.ret (C.ife (C.tcmp .eq (C.ix (C.var 0) (C.k (.int 0))) (C.k (.str [97, 104, 101, 97, 100]))) (C.cmp .le (C.call 4 (C.cons (C.ix (C.var 0) (C.k (.int 2))) C.nil)) (C.call 4 (C.cons (C.ix (C.var 1) (C.k (.int 2))) C.nil))) (C.cmp .ge (C.call 4 (C.cons (C.ix (C.var 0) (C.k (.int 2))) C.nil)) (C.call 4 (C.cons (C.ix (C.var 1) (C.k (.int 2))) C.nil)))))
  C.snil) C.snil)
  (C.scons (C.ret (C.cmp .eq (C.ix (C.var 0) (C.k (.int 2))) (C.ix (C.var 1) (C.k (.int 2)))))
  C.snil))))
def c__law_plain : C.XS :=
  (C.scons (C.set (.tup [(.nm 0), (.nm 1)]) (C.tup (C.cons (C.new pg 0 C.nil) (C.cons (C.new pg 0 C.nil) C.nil))))
  (C.scons (C.for_ (.nm 2) (C.rng (C.cons (C.k (.int 60)) C.nil)) (C.scons (C.exp (C.mc pg 1 (C.var 1) (C.cons (C.k (.str [108, 101, 97, 115, 116])) (C.cons (C.lst false (C.cons (C.k (.str [97])) C.nil)) (C.cons (C.k (.str [49])) C.nil)))))
  C.snil))
  (C.scons (C.for_ (.tup [(.nm 3), (.nm 4), (.nm 5), (.nm 6)]) (C.ie (C.lst false (C.cons (C.tup (C.cons (C.k (.str [108, 101, 97, 115, 116])) (C.cons (C.lst false (C.cons (C.k (.str [97, 103, 101])) C.nil)) (C.cons (C.k (.str [49, 56])) (C.cons (C.k (.str [])) C.nil))))) (C.cons (C.tup (C.cons (C.k (.str [109, 111, 115, 116])) (C.cons (C.lst false (C.cons (C.k (.str [97, 103, 101])) C.nil)) (C.cons (C.k (.str [49, 48])) (C.cons (C.k (.str [])) C.nil))))) (C.cons (C.tup (C.cons (C.k (.str [115, 97, 109, 101])) (C.cons (C.lst false (C.cons (C.k (.str [97])) (C.cons (C.k (.str [98])) C.nil))) (C.cons (C.k (.str [])) (C.cons (C.k (.str [])) C.nil))))) (C.cons (C.tup (C.cons (C.k (.str [115, 111, 109, 101])) (C.cons (C.lst false (C.cons (C.k (.str [120])) (C.cons (C.k (.str [121])) C.nil))) (C.cons (C.k (.str [49])) (C.cons (C.k (.str [])) C.nil))))) (C.cons (C.tup (C.cons (C.k (.str [97, 104, 101, 97, 100])) (C.cons (C.lst false (C.cons (C.k (.str [100])) C.nil)) (C.cons (C.k (.str [50, 48, 50, 54, 45, 48, 49, 45, 48, 49])) (C.cons (C.k (.str [])) C.nil))))) (C.cons (C.tup (C.cons (C.k (.str [108, 101, 97, 115, 116])) (C.cons (C.lst false (C.cons (C.k (.str [97, 103, 101])) C.nil)) (C.cons (C.k (.str [53])) (C.cons (C.k (.str [111, 108, 100, 63])) C.nil))))) C.nil)))))))) (C.scons (C.exp (C.mc pg 1 (C.var 0) (C.cons (C.var 3) (C.cons (C.var 4) (C.cons (C.var 5) (C.cons (C.var 6) C.nil))))))
  C.snil))
  (C.scons (C.set (.nm 7) (C.lst false (C.cons (C.lam 5) (C.cons (C.lam 4) (C.cons (C.lam 3) (C.cons (C.lam 2) C.nil))))))
  (C.scons (C.set (.nm 7) (C.bin .add (C.var 7) (C.lst false (C.cons (C.lam 8) (C.cons (C.lam 7) (C.cons (C.lam 6) C.nil))))))
  (C.scons (C.set (.nm 7) (C.bin .add (C.var 7) (C.lst false (C.cons (C.lam 10) (C.cons (C.lam 9) C.nil)))))
  (C.scons (C.sife (C.tcons false (C.tcmp .ne (C.lc [8] (.nm 8) (C.ie (C.var 7)) (C.tcons true (C.tcmp .ne (C.call 16 (C.cons (C.var 8) C.nil)) (C.k (.str [82, 117, 108, 101, 69, 114, 114, 111, 114]))) (C.tnil true)) (C.k (.int 1))) (C.lst false C.nil)) (C.tcons false (C.tcmp .ne (C.tup (C.cons (C.glb pg 1) (C.cons (C.bi .len (C.cons (C.glb pg 2) C.nil)) C.nil))) (C.tup (C.cons (C.k (.int 60)) (C.cons (C.k (.int 12)) C.nil)))) (C.tnil false))) (C.scons (C.ret (C.k (.bl false)))
  C.snil) C.snil)
  (C.scons (C.set (.nm 9) (C.lst false (C.cons (C.mc pg 2 (C.var 0) (C.cons (C.dct (C.cons (C.k (.str [97, 103, 101])) (C.cons (C.k (.str [49, 50])) (C.cons (C.k (.str [97])) (C.cons (C.k (.str [49])) (C.cons (C.k (.str [98])) (C.cons (C.k (.str [50])) (C.cons (C.k (.str [100])) (C.cons (C.k (.str [50, 48, 50, 54, 45, 48, 50, 45, 48, 49])) C.nil))))))))) C.nil)) (C.cons (C.mc pg 3 (C.var 0) (C.cons (C.dct (C.cons (C.k (.str [97, 103, 101])) (C.cons (C.k (.str [52])) (C.cons (C.k (.str [97])) (C.cons (C.k (.str [49])) (C.cons (C.k (.str [98])) (C.cons (C.k (.str [50])) C.nil))))))) C.nil)) (C.cons (C.mc pg 4 (C.var 0) (C.cons (C.k (.str [97, 103, 101])) C.nil)) C.nil)))))
  (C.scons (C.set (.nm 9) (C.bin .add (C.var 9) (C.lst false (C.cons (C.mc pg 5 (C.var 0) C.nil) (C.cons (C.mc pg 6 (C.var 0) C.nil) (C.cons (C.call 12 (C.cons (C.k (.str [111, 116, 104, 101, 114])) (C.cons (C.tup (C.cons (C.k (.str [97])) (C.cons (C.k (.str [98])) C.nil))) (C.cons (C.k (.str [])) C.nil)))) (C.cons (C.call 9 (C.cons (C.k (.str [115, 105, 103, 110, 115])) (C.cons (C.k (.str [97, 98])) (C.cons (C.k (.str [97, 98, 99])) C.nil)))) C.nil)))))))
  (C.scons (C.set (.nm 9) (C.bin .add (C.var 9) (C.lst false (C.cons (C.call 10 (C.cons (C.k (.str [97, 104, 101, 97, 100])) (C.cons (C.k (.str [50, 48, 50, 54, 45, 48, 49, 45, 48, 49])) (C.cons (C.k (.str [50, 48, 50, 54, 45, 48, 49, 45, 48, 49])) C.nil)))) (C.cons (C.call 7 (C.cons (C.tup (C.cons (C.k (.str [115, 104, 111, 114, 116])) (C.cons (C.tup (C.cons (C.k (.str [97])) C.nil)) (C.cons (C.k (.str [51])) (C.cons (C.k (.str [])) C.nil))))) C.nil)) C.nil)))))
  (C.scons (C.set (.nm 9) (C.bin .add (C.var 9) (C.lst false (C.cons (C.call 11 (C.cons (C.tup (C.cons (C.k (.str [115, 97, 109, 101])) (C.cons (C.tup (C.cons (C.k (.str [97])) (C.cons (C.k (.str [98])) C.nil))) (C.cons (C.k (.str [])) (C.cons (C.k (.str [])) C.nil))))) (C.cons (C.tup (C.cons (C.k (.str [115, 97, 109, 101])) (C.cons (C.tup (C.cons (C.k (.str [97])) (C.cons (C.k (.str [98])) C.nil))) (C.cons (C.k (.str [])) (C.cons (C.k (.str [120])) C.nil))))) C.nil))) C.nil))))
  (C.scons (C.ret (C.cmp .eq (C.var 9) (C.lst false (C.cons (C.tup (C.cons (C.k (.int 0)) (C.cons (C.k (.int 1)) (C.cons (C.k (.int 2)) (C.cons (C.k (.int 3)) (C.cons (C.k (.int 4)) C.nil)))))) (C.cons (C.tup (C.cons (C.tup (C.cons (C.k (.str [97, 103, 101])) (C.cons (C.k (.str [97, 103, 101, 32, 109, 117, 115, 116, 32, 98, 101, 32, 49, 56, 32, 111, 114, 32, 109, 111, 114, 101])) C.nil))) (C.cons (C.tup (C.cons (C.k (.str [97])) (C.cons (C.k (.str [97, 32, 97, 110, 100, 32, 98, 32, 109, 117, 115, 116, 32, 98, 101, 32, 116, 104, 101, 32, 115, 97, 109, 101])) C.nil))) (C.cons (C.tup (C.cons (C.k (.str [120])) (C.cons (C.k (.str [49, 32, 111, 102, 32, 120, 44, 32, 121, 32, 109, 117, 115, 116, 32, 98, 101, 32, 97, 110, 115, 119, 101, 114, 101, 100])) C.nil))) (C.cons (C.tup (C.cons (C.k (.str [97, 103, 101])) (C.cons (C.k (.str [111, 108, 100, 63])) C.nil))) C.nil))))) (C.cons (C.tup (C.cons (C.k (.int 0)) (C.cons (C.k (.int 1)) (C.cons (C.k (.int 5)) C.nil)))) (C.cons (C.tup (C.cons (C.k (.int 5)) C.nil)) (C.cons (C.tup (C.cons (C.tup (C.cons (C.k (.int 0)) (C.cons (C.k (.int 1)) C.nil))) C.nil)) (C.cons (C.k (.str [97, 32, 97, 110, 100, 32, 98, 32, 109, 117, 115, 116, 32, 100, 105, 102, 102, 101, 114])) (C.cons (C.k (.bl true)) (C.cons (C.k (.bl false)) (C.cons (C.k (.int 3)) (C.cons (C.k (.bl true)) C.nil)))))))))))))
  C.snil))))))))))))
def c_law : C.XS :=
  (C.scons (C.for_ (.nm 1) (C.ie (C.call 15 (C.cons (C.var 0) (C.cons (C.k (.int 1)) C.nil)))) (C.scons (C.set (.tup [(.nm 2), (.nm 3)]) (C.tup (C.cons (C.new pg 0 C.nil) (C.cons (C.lst false C.nil) C.nil))))
  (C.scons (C.for_ (.nm 4) (C.rng (C.cons (C.call 14 (C.cons (C.var 1) (C.cons (C.k (.int 12)) C.nil))) C.nil)) (C.scons (C.set (.tup [(.tup [(.nm 5), (.nm 6), (.nm 7)]), (.nm 8)]) (C.call 17 (C.cons (C.var 1) C.nil)))
  (C.scons (C.set (.nm 9) (C.ix (C.lst false (C.cons (C.k (.str [])) (C.cons (C.k (.str [110, 111, 33])) C.nil))) (C.call 14 (C.cons (C.var 1) (C.cons (C.k (.int 2)) C.nil)))))
  (C.scons (C.sife (C.tcmp .ne (C.cmp .isn (C.call 16 (C.cons (C.lam 11) C.nil)) (C.k .non)) (C.var 8)) (C.scons (C.ret (C.k (.bl false)))
  C.snil) C.snil)
  (C.scons (C.set (.nm 3) (C.bin .add (C.var 3) (C.bin .mul (C.lst false (C.cons (C.tup (C.cons (C.var 5) (C.cons (C.var 6) (C.cons (C.var 7) (C.cons (C.var 9) C.nil))))) C.nil)) (C.bi .int (C.cons (C.var 8) C.nil)))))
  C.snil)))))
  (C.scons (C.sife (C.tcmp .ne (C.at_ pg (C.var 2) 7) (C.var 3)) (C.scons (C.ret (C.k (.bl false)))
  C.snil) C.snil)
  (C.scons (C.for_ (.nm 10) (C.rng (C.cons (C.k (.int 4)) C.nil)) (C.scons (C.set (.nm 11) (C.bi .dict (C.cons (C.lc [12] (.nm 12) (C.ie (C.k (.str [97, 98, 99]))) (C.tcons true (C.tcmp .gt (C.call 14 (C.cons (C.var 1) (C.cons (C.k (.int 5)) C.nil))) (C.k (.int 0))) (C.tnil true)) (C.tup (C.cons (C.var 12) (C.cons (C.ix (C.lst false (C.cons (C.k (.str [])) (C.cons (C.k (.str [53])) (C.cons (C.k (.str [55, 46, 53])) (C.cons (C.k (.str [45, 50])) (C.cons (C.k (.str [97, 98, 99])) (C.cons (C.k (.str [97, 98, 49])) (C.cons (C.k (.str [65, 66, 67, 68])) (C.cons (C.k (.str [50, 48, 50, 54, 45, 48, 49, 45, 48, 49])) (C.cons (C.k (.str [50, 48, 50, 53, 45, 49, 50, 45, 51, 49])) (C.cons (C.k (.str [50, 48, 50, 54, 45, 48, 49, 45, 48, 50])) C.nil))))))))))) (C.call 14 (C.cons (C.var 1) (C.cons (C.k (.int 10)) C.nil)))) C.nil)))) C.nil)))
  (C.scons (C.set (.nm 13) (C.lc [10, 14] (.tup [(.nm 10), (.nm 14)]) (C.enum (C.cons (C.var 3) C.nil)) (C.tcons true (C.tnt (C.tv (C.call 20 (C.cons (C.var 14) (C.cons (C.var 11) C.nil))))) (C.tnil true)) (C.var 10)))
  (C.scons (C.set (.nm 15) (C.lc [10] (.nm 10) (C.ie (C.var 13)) (C.tnil true) (C.tup (C.cons (C.ix (C.ix (C.ix (C.var 3) (C.var 10)) (C.k (.int 1))) (C.k (.int 0))) (C.cons (C.ife (C.tcmp .ne (C.ix (C.ix (C.var 3) (C.var 10)) (C.k (.int 3))) (C.k (.str []))) (C.ix (C.ix (C.var 3) (C.var 10)) (C.k (.int 3))) (C.call 22 (C.cons (C.ix (C.ix (C.var 3) (C.var 10)) (C.k (.int 0))) (C.cons (C.ix (C.ix (C.var 3) (C.var 10)) (C.k (.int 1))) (C.cons (C.ix (C.ix (C.var 3) (C.var 10)) (C.k (.int 2))) C.nil))))) C.nil)))))
  (C.scons (C.sife (C.tcons false (C.tcmp .ne (C.bi .list (C.cons (C.mc pg 2 (C.var 2) (C.cons (C.var 11) C.nil)) C.nil)) (C.var 13)) (C.tcons false (C.tcmp .ne (C.bi .list (C.cons (C.mc pg 3 (C.var 2) (C.cons (C.var 11) C.nil)) C.nil)) (C.var 15)) (C.tnil false))) (C.scons (C.ret (C.k (.bl false)))
  C.snil) C.snil)
  (C.scons (C.sife (C.tcmp .ne (C.lc [14] (.nm 14) (C.ie (C.var 3)) (C.tnil true) (C.call 8 (C.cons (C.var 14) (C.cons (C.var 11) C.nil)))) (C.lc [10] (.nm 10) (C.rng (C.cons (C.bi .len (C.cons (C.var 3) C.nil)) C.nil)) (C.tnil true) (C.cmp .notin (C.var 10) (C.var 13)))) (C.scons (C.ret (C.k (.bl false)))
  C.snil) C.snil)
  C.snil))))))
  (C.scons (C.sife (C.tcmp .ne (C.lc [12] (.nm 12) (C.ie (C.k (.str [97, 98, 99]))) (C.tnil true) (C.bi .list (C.cons (C.mc pg 4 (C.var 2) (C.cons (C.var 12) C.nil)) C.nil))) (C.lc [12] (.nm 12) (C.ie (C.k (.str [97, 98, 99]))) (C.tnil true) (C.lc [10, 14] (.tup [(.nm 10), (.nm 14)]) (C.enum (C.cons (C.var 3) C.nil)) (C.tcons true (C.tcmp .isin (C.var 12) (C.ix (C.var 14) (C.k (.int 1)))) (C.tnil true)) (C.var 10)))) (C.scons (C.ret (C.k (.bl false)))
  C.snil) C.snil)
  (C.scons (C.set (.nm 16) (C.lst false C.nil))
  (C.scons (C.for_ (.tup [(.nm 10), (.nm 14)]) (C.enum (C.cons (C.var 3) C.nil)) (C.scons (C.set (.nm 16) (C.bin .add (C.var 16) (C.lc [17, 18] (.tup [(.nm 17), (.nm 18)]) (C.enum (C.cons (C.var 3) C.nil)) (C.tcons true (C.tcons true (C.tcmp .eq (C.ix (C.var 14) (C.k (.int 1))) (C.ix (C.var 18) (C.k (.int 1)))) (C.tcons true (C.tcmp .isin (C.tup (C.cons (C.ix (C.var 14) (C.k (.int 0))) (C.cons (C.ix (C.var 18) (C.k (.int 0))) C.nil))) (C.lst false (C.cons (C.tup (C.cons (C.k (.str [108, 101, 97, 115, 116])) (C.cons (C.k (.str [109, 111, 115, 116])) C.nil))) (C.cons (C.tup (C.cons (C.k (.str [115, 104, 111, 114, 116])) (C.cons (C.k (.str [108, 111, 110, 103])) C.nil))) C.nil)))) (C.tcons true (C.tcmp .gt (C.call 21 (C.cons (C.var 14) C.nil)) (C.call 21 (C.cons (C.var 18) C.nil))) (C.tnil true)))) (C.tnil true)) (C.tup (C.cons (C.var 10) (C.cons (C.var 17) C.nil))))))
  C.snil))
  (C.scons (C.set (.nm 19) (C.lc [10, 14] (.tup [(.nm 10), (.nm 14)]) (C.enum (C.cons (C.var 3) C.nil)) (C.tcons true (C.tcmp .ne (C.lc [20] (.nm 20) (C.ie (C.sl (C.var 3) true C.nop false (C.var 10))) (C.tcons true (C.tcons true (C.tcmp .eq (C.sl (C.var 20) true C.nop false (C.k (.int 2))) (C.sl (C.var 14) true C.nop false (C.k (.int 2)))) (C.tcons true (C.tv (C.call 23 (C.cons (C.var 20) (C.cons (C.var 14) C.nil)))) (C.tnil true))) (C.tnil true)) (C.var 20)) (C.lst false C.nil)) (C.tnil true)) (C.var 10)))
  (C.scons (C.sife (C.tcons false (C.tcmp .ne (C.bi .list (C.cons (C.mc pg 6 (C.var 2) C.nil) C.nil)) (C.var 16)) (C.tcons false (C.tcmp .ne (C.bi .list (C.cons (C.mc pg 5 (C.var 2) C.nil) C.nil)) (C.var 19)) (C.tnil false))) (C.scons (C.ret (C.k (.bl false)))
  C.snil) C.snil)
  C.snil))))))))))
  (C.scons (C.ret (C.call 24 C.nil))
  C.snil))
def c_Rules___init__ : C.XS :=
  (C.scons (C.sat pg (C.lst true C.nil) (C.var 0) 7)
  C.snil)
def c_Rules_add : C.XS :=
  (C.scons (C.set (.nm 5) (C.bi .len (C.cons (C.var 2) C.nil)))
  (C.scons (C.set (.nm 6) (C.cmp .isin (C.var 1) (C.tup (C.cons (C.k (.str [115, 97, 109, 101])) (C.cons (C.k (.str [111, 116, 104, 101, 114])) C.nil)))))
  (C.scons (C.sife (C.tcons false (C.tcmp .notin (C.var 1) (C.glb pg 2)) (C.tcons false (C.tcmp .eq (C.var 5) (C.k (.int 0))) (C.tcons false (C.tv (C.gen .any [7] (.nm 7) (C.ie (C.var 2)) (C.tnil true) (C.cmp .gt (C.lcnt (C.bi .list (C.cons (C.var 2) C.nil)) (C.var 7)) (C.k (.int 1))))) (C.tnil false)))) (C.scons (C.rai pg 2)
  C.snil) C.snil)
  (C.scons (C.sife (C.tcons false (C.tcons true (C.tv (C.var 6)) (C.tcons true (C.tcmp .ne (C.var 5) (C.k (.int 2))) (C.tnil true))) (C.tcons false (C.tcons true (C.tnt (C.tv (C.var 6))) (C.tcons true (C.tcmp .ne (C.var 1) (C.k (.str [115, 111, 109, 101]))) (C.tcons true (C.tcmp .ne (C.var 5) (C.k (.int 1))) (C.tnil true)))) (C.tcons false (C.tcmp .ge (C.bi .len (C.cons (C.at_ pg (C.var 0) 7) C.nil)) (C.glb pg 1)) (C.tnil false)))) (C.scons (C.rai pg 2)
  C.snil) C.snil)
  (C.scons (C.exp (C.call 6 (C.cons (C.var 1) (C.cons (C.var 3) (C.cons (C.var 5) C.nil)))))
  (C.scons (C.apd (C.at_ pg (C.var 0) 7) (C.tup (C.cons (C.var 1) (C.cons (C.bi .tuple (C.cons (C.var 2) C.nil)) (C.cons (C.var 3) (C.cons (C.var 4) C.nil))))))
  C.snil))))))
def c_Rules_broken : C.XS :=
  (C.scons (C.ret (C.tgen [2, 3] (.tup [(.nm 2), (.nm 3)]) (C.enum (C.cons (C.at_ pg (C.var 0) 7) C.nil)) (C.tcons true (C.tnt (C.tv (C.call 8 (C.cons (C.var 3) (C.cons (C.var 1) C.nil))))) (C.tnil true)) (C.var 2)))
  C.snil)
def c_Rules_told_rows : C.XS :=
  (C.scons (C.set (.nm 2) (C.lst true C.nil))
  (C.scons (C.for_ (.nm 3) (C.ie (C.mc pg 2 (C.var 0) (C.cons (C.var 1) C.nil))) (C.scons (C.set (.tup [(.nm 4), (.nm 5), (.nm 6), (.nm 7)]) (C.ix (C.at_ pg (C.var 0) 7) (C.var 3)))
  (C.scons (C.apd (C.var 2) (C.tup (C.cons (C.ix (C.var 5) (C.k (.int 0))) (C.cons (C.ife (C.tcmp .ne (C.var 7) (C.k (.str []))) (C.var 7) (C.call 12 (C.cons (C.var 4) (C.cons (C.var 5) (C.cons (C.var 6) C.nil))))) C.nil))))
  C.snil)))
  (C.scons (C.ret (C.bi .tuple (C.cons (C.var 2) C.nil)))
  C.snil)))
def c_Rules_of_field : C.XS :=
  (C.scons (C.ret (C.tgen [2, 3] (.tup [(.nm 2), (.nm 3)]) (C.enum (C.cons (C.at_ pg (C.var 0) 7) C.nil)) (C.tcons true (C.tcmp .isin (C.var 1) (C.ix (C.var 3) (C.k (.int 1)))) (C.tnil true)) (C.var 2)))
  C.snil)
def c_Rules_needless : C.XS :=
  (C.scons (C.set (.nm 1) (C.lst true C.nil))
  (C.scons (C.for_ (.tup [(.nm 2), (.nm 3)]) (C.enum (C.cons (C.at_ pg (C.var 0) 7) C.nil)) (C.scons (C.sife (C.tv (C.gen .any [4] (.nm 4) (C.ie (C.sl (C.at_ pg (C.var 0) 7) true C.nop false (C.var 2))) (C.tnil true) (C.call 11 (C.cons (C.var 4) (C.cons (C.var 3) C.nil))))) (C.scons (C.apd (C.var 1) (C.var 2))
  C.snil) C.snil)
  C.snil))
  (C.scons (C.ret (C.bi .tuple (C.cons (C.var 1) C.nil)))
  C.snil)))
def c_Rules_clashing : C.XS :=
  (C.scons (C.set (.nm 1) (C.lst true C.nil))
  (C.scons (C.for_ (.tup [(.nm 2), (.nm 3)]) (C.enum (C.cons (C.at_ pg (C.var 0) 7) C.nil)) (C.scons (C.for_ (.tup [(.nm 4), (.nm 5)]) (C.enum (C.cons (C.at_ pg (C.var 0) 7) C.nil)) (C.scons (C.sife (C.tcons true (C.tcmp .eq (C.ix (C.var 3) (C.k (.int 1))) (C.ix (C.var 5) (C.k (.int 1)))) (C.tcons true (C.tcmp .isin (C.tup (C.cons (C.ix (C.var 3) (C.k (.int 0))) (C.cons (C.ix (C.var 5) (C.k (.int 0))) C.nil))) (C.tup (C.cons (C.tup (C.cons (C.k (.str [108, 101, 97, 115, 116])) (C.cons (C.k (.str [109, 111, 115, 116])) C.nil))) (C.cons (C.tup (C.cons (C.k (.str [115, 104, 111, 114, 116])) (C.cons (C.k (.str [108, 111, 110, 103])) C.nil))) C.nil)))) (C.tnil true))) (C.scons (C.ext 1 (C.ife (C.tcmp .gt (C.call 7 (C.cons (C.var 3) C.nil)) (C.call 7 (C.cons (C.var 5) C.nil))) (C.lst false (C.cons (C.tup (C.cons (C.var 2) (C.cons (C.var 4) C.nil))) C.nil)) (C.lst false C.nil)))
  C.snil) C.snil)
  C.snil))
  C.snil))
  (C.scons (C.ret (C.bi .tuple (C.cons (C.var 1) C.nil)))
  C.snil)))
def k_0 : C.XE := (C.call 2 (C.cons (C.var 0) C.nil))
def k_1 : C.XE := (C.call 4 (C.cons (C.var 0) C.nil))
def k_2 : C.XE := (C.mc pg 1 (C.var 0) (C.cons (C.k (.str [115, 97, 109, 101])) (C.cons (C.lst false (C.cons (C.k (.str [97])) C.nil)) C.nil)))
def k_3 : C.XE := (C.mc pg 1 (C.var 0) (C.cons (C.k (.str [108, 101, 97, 115, 116])) (C.cons (C.lst false C.nil) (C.cons (C.k (.str [49])) C.nil))))
def k_4 : C.XE := (C.mc pg 1 (C.var 0) (C.cons (C.k (.str [111, 100, 100])) (C.cons (C.lst false (C.cons (C.k (.str [97])) C.nil)) C.nil)))
def k_5 : C.XE := (C.mc pg 1 (C.var 0) (C.cons (C.k (.str [108, 101, 97, 115, 116])) (C.cons (C.lst false (C.cons (C.k (.str [97])) C.nil)) (C.cons (C.k (.str [49])) C.nil))))
def k_6 : C.XE := (C.call 6 (C.cons (C.k (.str [115, 111, 109, 101])) (C.cons (C.k (.str [48])) (C.cons (C.k (.int 2)) C.nil))))
def k_7 : C.XE := (C.call 6 (C.cons (C.k (.str [115, 111, 109, 101])) (C.cons (C.k (.str [51])) (C.cons (C.k (.int 2)) C.nil))))
def k_8 : C.XE := (C.mc pg 1 (C.var 0) (C.cons (C.k (.str [108, 101, 97, 115, 116])) (C.cons (C.lst false (C.cons (C.k (.str [97])) (C.cons (C.k (.str [98])) C.nil))) (C.cons (C.k (.str [49])) C.nil))))
def k_9 : C.XE := (C.call 6 (C.cons (C.k (.str [115, 97, 109, 101])) (C.cons (C.k (.str [120])) (C.cons (C.k (.int 2)) C.nil))))
def k_10 : C.XE := (C.call 6 (C.cons (C.k (.str [115, 104, 111, 114, 116])) (C.cons (C.k (.str [45, 49])) (C.cons (C.k (.int 1)) C.nil))))
def k_11 : C.XE := (C.mc pg 1 (C.var 4) (C.cons (C.var 0) (C.cons (C.var 1) (C.cons (C.var 2) (C.cons (C.var 3) C.nil)))))
def ct : CT := { g := pg, fc := [c_is_figures, c_whole_of, c_number_of, c_days_in, c_date_of, c_real_day, c_check_value, c_size_of, c_rule_holds, c_holds_text, c_holds_size, c_makes_needless, c_told_for, c__law_dice, c__law_roll, c__law_rounds, c__law_told, c__law_rule, c__law_number, c__law_day, c__law_holds, c__law_size, c__law_words, c__law_makes, c__law_plain, c_law, c_Rules___init__, c_Rules_add, c_Rules_broken, c_Rules_told_rows, c_Rules_of_field, c_Rules_needless, c_Rules_clashing], lc := [k_0, k_1, k_2, k_3, k_4, k_5, k_6, k_7, k_8, k_9, k_10, k_11] }
theorem e_is_figures (cf : CF) (o : List Fr) (fr : Fr) (h : MH) : evSs pg cf o f_is_figures.body fr h = c_is_figures cf o fr h := by kernel_rfl
theorem e_whole_of (cf : CF) (o : List Fr) (fr : Fr) (h : MH) : evSs pg cf o f_whole_of.body fr h = c_whole_of cf o fr h := by kernel_rfl
theorem e_number_of (cf : CF) (o : List Fr) (fr : Fr) (h : MH) : evSs pg cf o f_number_of.body fr h = c_number_of cf o fr h := by kernel_rfl
theorem e_days_in (cf : CF) (o : List Fr) (fr : Fr) (h : MH) : evSs pg cf o f_days_in.body fr h = c_days_in cf o fr h := by kernel_rfl
theorem e_date_of (cf : CF) (o : List Fr) (fr : Fr) (h : MH) : evSs pg cf o f_date_of.body fr h = c_date_of cf o fr h := by kernel_rfl
theorem e_real_day (cf : CF) (o : List Fr) (fr : Fr) (h : MH) : evSs pg cf o f_real_day.body fr h = c_real_day cf o fr h := by kernel_rfl
theorem e_check_value (cf : CF) (o : List Fr) (fr : Fr) (h : MH) : evSs pg cf o f_check_value.body fr h = c_check_value cf o fr h := by kernel_rfl
theorem e_size_of (cf : CF) (o : List Fr) (fr : Fr) (h : MH) : evSs pg cf o f_size_of.body fr h = c_size_of cf o fr h := by kernel_rfl
theorem e_rule_holds (cf : CF) (o : List Fr) (fr : Fr) (h : MH) : evSs pg cf o f_rule_holds.body fr h = c_rule_holds cf o fr h := by kernel_rfl
theorem e_holds_text (cf : CF) (o : List Fr) (fr : Fr) (h : MH) : evSs pg cf o f_holds_text.body fr h = c_holds_text cf o fr h := by kernel_rfl
theorem e_holds_size (cf : CF) (o : List Fr) (fr : Fr) (h : MH) : evSs pg cf o f_holds_size.body fr h = c_holds_size cf o fr h := by kernel_rfl
theorem e_makes_needless (cf : CF) (o : List Fr) (fr : Fr) (h : MH) : evSs pg cf o f_makes_needless.body fr h = c_makes_needless cf o fr h := by kernel_rfl
theorem e_told_for (cf : CF) (o : List Fr) (fr : Fr) (h : MH) : evSs pg cf o f_told_for.body fr h = c_told_for cf o fr h := by kernel_rfl
theorem e__law_dice (cf : CF) (o : List Fr) (fr : Fr) (h : MH) : evSs pg cf o f__law_dice.body fr h = c__law_dice cf o fr h := by kernel_rfl
theorem e__law_roll (cf : CF) (o : List Fr) (fr : Fr) (h : MH) : evSs pg cf o f__law_roll.body fr h = c__law_roll cf o fr h := by kernel_rfl
theorem e__law_rounds (cf : CF) (o : List Fr) (fr : Fr) (h : MH) : evSs pg cf o f__law_rounds.body fr h = c__law_rounds cf o fr h := by kernel_rfl
theorem e__law_told (cf : CF) (o : List Fr) (fr : Fr) (h : MH) : evSs pg cf o f__law_told.body fr h = c__law_told cf o fr h := by kernel_rfl
theorem e__law_rule (cf : CF) (o : List Fr) (fr : Fr) (h : MH) : evSs pg cf o f__law_rule.body fr h = c__law_rule cf o fr h := by kernel_rfl
theorem e__law_number (cf : CF) (o : List Fr) (fr : Fr) (h : MH) : evSs pg cf o f__law_number.body fr h = c__law_number cf o fr h := by kernel_rfl
theorem e__law_day (cf : CF) (o : List Fr) (fr : Fr) (h : MH) : evSs pg cf o f__law_day.body fr h = c__law_day cf o fr h := by kernel_rfl
theorem e__law_holds (cf : CF) (o : List Fr) (fr : Fr) (h : MH) : evSs pg cf o f__law_holds.body fr h = c__law_holds cf o fr h := by kernel_rfl
theorem e__law_size (cf : CF) (o : List Fr) (fr : Fr) (h : MH) : evSs pg cf o f__law_size.body fr h = c__law_size cf o fr h := by kernel_rfl
theorem e__law_words (cf : CF) (o : List Fr) (fr : Fr) (h : MH) : evSs pg cf o f__law_words.body fr h = c__law_words cf o fr h := by kernel_rfl
theorem e__law_makes (cf : CF) (o : List Fr) (fr : Fr) (h : MH) : evSs pg cf o f__law_makes.body fr h = c__law_makes cf o fr h := by kernel_rfl
theorem e__law_plain (cf : CF) (o : List Fr) (fr : Fr) (h : MH) : evSs pg cf o f__law_plain.body fr h = c__law_plain cf o fr h := by kernel_rfl
theorem e_law (cf : CF) (o : List Fr) (fr : Fr) (h : MH) : evSs pg cf o f_law.body fr h = c_law cf o fr h := by kernel_rfl
theorem e_Rules___init__ (cf : CF) (o : List Fr) (fr : Fr) (h : MH) : evSs pg cf o f_Rules___init__.body fr h = c_Rules___init__ cf o fr h := by kernel_rfl
theorem e_Rules_add (cf : CF) (o : List Fr) (fr : Fr) (h : MH) : evSs pg cf o f_Rules_add.body fr h = c_Rules_add cf o fr h := by kernel_rfl
theorem e_Rules_broken (cf : CF) (o : List Fr) (fr : Fr) (h : MH) : evSs pg cf o f_Rules_broken.body fr h = c_Rules_broken cf o fr h := by kernel_rfl
theorem e_Rules_told_rows (cf : CF) (o : List Fr) (fr : Fr) (h : MH) : evSs pg cf o f_Rules_told_rows.body fr h = c_Rules_told_rows cf o fr h := by kernel_rfl
theorem e_Rules_of_field (cf : CF) (o : List Fr) (fr : Fr) (h : MH) : evSs pg cf o f_Rules_of_field.body fr h = c_Rules_of_field cf o fr h := by kernel_rfl
theorem e_Rules_needless (cf : CF) (o : List Fr) (fr : Fr) (h : MH) : evSs pg cf o f_Rules_needless.body fr h = c_Rules_needless cf o fr h := by kernel_rfl
theorem e_Rules_clashing (cf : CF) (o : List Fr) (fr : Fr) (h : MH) : evSs pg cf o f_Rules_clashing.body fr h = c_Rules_clashing cf o fr h := by kernel_rfl
theorem d_0 (cf : CF) (o : List Fr) (fr : Fr) (h : MH) : evE pg cf o l_0.body fr h = k_0 cf o fr h := by kernel_rfl
theorem d_1 (cf : CF) (o : List Fr) (fr : Fr) (h : MH) : evE pg cf o l_1.body fr h = k_1 cf o fr h := by kernel_rfl
theorem d_2 (cf : CF) (o : List Fr) (fr : Fr) (h : MH) : evE pg cf o l_2.body fr h = k_2 cf o fr h := by kernel_rfl
theorem d_3 (cf : CF) (o : List Fr) (fr : Fr) (h : MH) : evE pg cf o l_3.body fr h = k_3 cf o fr h := by kernel_rfl
theorem d_4 (cf : CF) (o : List Fr) (fr : Fr) (h : MH) : evE pg cf o l_4.body fr h = k_4 cf o fr h := by kernel_rfl
theorem d_5 (cf : CF) (o : List Fr) (fr : Fr) (h : MH) : evE pg cf o l_5.body fr h = k_5 cf o fr h := by kernel_rfl
theorem d_6 (cf : CF) (o : List Fr) (fr : Fr) (h : MH) : evE pg cf o l_6.body fr h = k_6 cf o fr h := by kernel_rfl
theorem d_7 (cf : CF) (o : List Fr) (fr : Fr) (h : MH) : evE pg cf o l_7.body fr h = k_7 cf o fr h := by kernel_rfl
theorem d_8 (cf : CF) (o : List Fr) (fr : Fr) (h : MH) : evE pg cf o l_8.body fr h = k_8 cf o fr h := by kernel_rfl
theorem d_9 (cf : CF) (o : List Fr) (fr : Fr) (h : MH) : evE pg cf o l_9.body fr h = k_9 cf o fr h := by kernel_rfl
theorem d_10 (cf : CF) (o : List Fr) (fr : Fr) (h : MH) : evE pg cf o l_10.body fr h = k_10 cf o fr h := by kernel_rfl
theorem d_11 (cf : CF) (o : List Fr) (fr : Fr) (h : MH) : evE pg cf o l_11.body fr h = k_11 cf o fr h := by kernel_rfl
theorem ctOk : ct.Ok where
  fn := fun i F h => match i, h with
    | 0, h => by cases h; exact ⟨c_is_figures, rfl, e_is_figures⟩
    | 1, h => by cases h; exact ⟨c_whole_of, rfl, e_whole_of⟩
    | 2, h => by cases h; exact ⟨c_number_of, rfl, e_number_of⟩
    | 3, h => by cases h; exact ⟨c_days_in, rfl, e_days_in⟩
    | 4, h => by cases h; exact ⟨c_date_of, rfl, e_date_of⟩
    | 5, h => by cases h; exact ⟨c_real_day, rfl, e_real_day⟩
    | 6, h => by cases h; exact ⟨c_check_value, rfl, e_check_value⟩
    | 7, h => by cases h; exact ⟨c_size_of, rfl, e_size_of⟩
    | 8, h => by cases h; exact ⟨c_rule_holds, rfl, e_rule_holds⟩
    | 9, h => by cases h; exact ⟨c_holds_text, rfl, e_holds_text⟩
    | 10, h => by cases h; exact ⟨c_holds_size, rfl, e_holds_size⟩
    | 11, h => by cases h; exact ⟨c_makes_needless, rfl, e_makes_needless⟩
    | 12, h => by cases h; exact ⟨c_told_for, rfl, e_told_for⟩
    | 13, h => by cases h; exact ⟨c__law_dice, rfl, e__law_dice⟩
    | 14, h => by cases h; exact ⟨c__law_roll, rfl, e__law_roll⟩
    | 15, h => by cases h; exact ⟨c__law_rounds, rfl, e__law_rounds⟩
    | 16, h => by cases h; exact ⟨c__law_told, rfl, e__law_told⟩
    | 17, h => by cases h; exact ⟨c__law_rule, rfl, e__law_rule⟩
    | 18, h => by cases h; exact ⟨c__law_number, rfl, e__law_number⟩
    | 19, h => by cases h; exact ⟨c__law_day, rfl, e__law_day⟩
    | 20, h => by cases h; exact ⟨c__law_holds, rfl, e__law_holds⟩
    | 21, h => by cases h; exact ⟨c__law_size, rfl, e__law_size⟩
    | 22, h => by cases h; exact ⟨c__law_words, rfl, e__law_words⟩
    | 23, h => by cases h; exact ⟨c__law_makes, rfl, e__law_makes⟩
    | 24, h => by cases h; exact ⟨c__law_plain, rfl, e__law_plain⟩
    | 25, h => by cases h; exact ⟨c_law, rfl, e_law⟩
    | 26, h => by cases h; exact ⟨c_Rules___init__, rfl, e_Rules___init__⟩
    | 27, h => by cases h; exact ⟨c_Rules_add, rfl, e_Rules_add⟩
    | 28, h => by cases h; exact ⟨c_Rules_broken, rfl, e_Rules_broken⟩
    | 29, h => by cases h; exact ⟨c_Rules_told_rows, rfl, e_Rules_told_rows⟩
    | 30, h => by cases h; exact ⟨c_Rules_of_field, rfl, e_Rules_of_field⟩
    | 31, h => by cases h; exact ⟨c_Rules_needless, rfl, e_Rules_needless⟩
    | 32, h => by cases h; exact ⟨c_Rules_clashing, rfl, e_Rules_clashing⟩
  lm := fun i F h => match i, h with
    | 0, h => by cases h; exact ⟨k_0, rfl, d_0⟩
    | 1, h => by cases h; exact ⟨k_1, rfl, d_1⟩
    | 2, h => by cases h; exact ⟨k_2, rfl, d_2⟩
    | 3, h => by cases h; exact ⟨k_3, rfl, d_3⟩
    | 4, h => by cases h; exact ⟨k_4, rfl, d_4⟩
    | 5, h => by cases h; exact ⟨k_5, rfl, d_5⟩
    | 6, h => by cases h; exact ⟨k_6, rfl, d_6⟩
    | 7, h => by cases h; exact ⟨k_7, rfl, d_7⟩
    | 8, h => by cases h; exact ⟨k_8, rfl, d_8⟩
    | 9, h => by cases h; exact ⟨k_9, rfl, d_9⟩
    | 10, h => by cases h; exact ⟨k_10, rfl, d_10⟩
    | 11, h => by cases h; exact ⟨k_11, rfl, d_11⟩
end K03
namespace K03
open PySem FS
theorem eqC (k : Nat) : callK pg k = callC ct k := callC_eq ctOk rfl k
end K03

-- text K03U
set_option Elab.async false
set_option linter.all false
set_option maxRecDepth 100000
set_option maxHeartbeats 0
namespace K03
open PySem FS
def dh (a b c : Int) (r : MH) : MH := .lst [.int a, .int b, .int c] :: r
theorem roll (k : Nat) (a b c many : Int) (h0 : 0 < many) (h1 : many ≤ 100000000) : ∃ r a' b' c', (∀ o q, callC ct (k + 1) (.fn 14) o [.ref 0, .int many] (dh a b c q) = .ok (.int r) (dh a' b' c' q)) ∧ 0 ≤ r ∧ r < many := by
  have hm : many < 1073741824 := by omega
  have hm2 : ¬ (100000000 < many) := by omega
  by_cases hc : c = 2 ∨ (c = 1 ∧ a > 0)
  · refine ⟨a % many, a / many, b, c, fun o q => ?_, Int.emod_nonneg _ (by omega), Int.emod_lt_of_pos _ h0⟩
    show (match c__law_roll (callC ct k) o [some (.ref 0), some (.int many), none] (dh a b c q) with
      | .ret d h1 => if f__law_roll.lamf && !noClo d then R.stk else .ok d h1
      | .nx _ h1 => .ok .non h1
      | .exc c _ h1 => .exc c h1
      | _ => .stk) = _
    have e : c__law_roll (callC ct k) o [some (.ref 0), some (.int many), none] (dh a b c q) = .ret (.int (a % many)) (dh (a / many) b c q) := by
      have e1 : C.tcons false (C.tcmp .eq (C.ix (C.var 0) (C.k (.int 2))) (C.k (.int 2))) (C.tcons false (C.tcons true (C.tcmp .eq (C.ix (C.var 0) (C.k (.int 2))) (C.k (.int 1))) (C.tcons true (C.tcmp .gt (C.ix (C.var 0) (C.k (.int 0))) (C.k (.int 0))) (C.tnil true))) (C.tnil false)) (callC ct k) o [some (.ref 0), some (.int many), none] (dh a b c q) = .ok true (dh a b c q) := by
        rcases hc with rfl | ⟨rfl, ha⟩
        · rfl
        · have e2 : C.tcmp .gt (C.ix (C.var 0) (C.k (.int 0))) (C.k (.int 0)) (callC ct k) o [some (.ref 0), some (.int many), none] (dh a b 1 q) = .ok (decide (0 < a)) (dh a b 1 q) := rfl
          show (C.tcons false (C.tcons true (C.tcmp .eq (C.ix (C.var 0) (C.k (.int 2))) (C.k (.int 1))) (C.tcons true (C.tcmp .gt (C.ix (C.var 0) (C.k (.int 0))) (C.k (.int 0))) (C.tnil true))) (C.tnil false)) (callC ct k) o [some (.ref 0), some (.int many), none] (dh a b 1 q) = _
          show ((C.tcons true (C.tcmp .gt (C.ix (C.var 0) (C.k (.int 0))) (C.k (.int 0))) (C.tnil true)) (callC ct k) o [some (.ref 0), some (.int many), none] (dh a b 1 q)).bind _ = _
          unfold C.tcons
          rw [e2, decide_eq_true ha]
          rfl
      unfold c__law_roll
      unfold C.scons
      unfold C.sife
      rw [e1]
      have h2 : decide (0 < many) = true := decide_eq_true h0
      have h3 : decide (many < 1073741824) = true := decide_eq_true hm
      simp only [R.toS]
      simp [C.scons, C.set, C.sub, C.ret, C.snil, C.bin, C.bi, C.cons, C.nil, C.ix, C.var, C.k, R.bind, R.opt, R.toS, FS.get, dh, ixV, dicOf, seqOf, lstOf, ixN, biV, binV, asg, put, setAt, noClo, h0, hm]
    rw [e]
    rfl
  · refine ⟨((a * 48271 + b * 69621 + 11) % 2147483647 / 7) % many, (a * 48271 + b * 69621 + 11) % 2147483647, b + 1, 0, fun o q => ?_, Int.emod_nonneg _ (by omega), Int.emod_lt_of_pos _ h0⟩
    show (match c__law_roll (callC ct k) o [some (.ref 0), some (.int many), none] (dh a b c q) with
      | .ret d h1 => if f__law_roll.lamf && !noClo d then R.stk else .ok d h1
      | .nx _ h1 => .ok .non h1
      | .exc c _ h1 => .exc c h1
      | _ => .stk) = _
    have e : c__law_roll (callC ct k) o [some (.ref 0), some (.int many), none] (dh a b c q) = .ret (.int (((a * 48271 + b * 69621 + 11) % 2147483647 / 7) % many)) (dh ((a * 48271 + b * 69621 + 11) % 2147483647) (b + 1) 0 q) := by
      have c1 : ¬ c = 2 := fun z => hc (.inl z)
      have e1 : C.tcons false (C.tcmp .eq (C.ix (C.var 0) (C.k (.int 2))) (C.k (.int 2))) (C.tcons false (C.tcons true (C.tcmp .eq (C.ix (C.var 0) (C.k (.int 2))) (C.k (.int 1))) (C.tcons true (C.tcmp .gt (C.ix (C.var 0) (C.k (.int 0))) (C.k (.int 0))) (C.tnil true))) (C.tnil false)) (callC ct k) o [some (.ref 0), some (.int many), none] (dh a b c q) = .ok false (dh a b c q) := by
        have e2 : C.tcmp .eq (C.ix (C.var 0) (C.k (.int 2))) (C.k (.int 2)) (callC ct k) o [some (.ref 0), some (.int many), none] (dh a b c q) = .ok (decide (c = 2)) (dh a b c q) := rfl
        have e3 : C.tcmp .eq (C.ix (C.var 0) (C.k (.int 2))) (C.k (.int 1)) (callC ct k) o [some (.ref 0), some (.int many), none] (dh a b c q) = .ok (decide (c = 1)) (dh a b c q) := rfl
        have e4 : C.tcmp .gt (C.ix (C.var 0) (C.k (.int 0))) (C.k (.int 0)) (callC ct k) o [some (.ref 0), some (.int many), none] (dh a b c q) = .ok (decide (0 < a)) (dh a b c q) := rfl
        have c3 : c = 1 → a ≤ 0 := fun z => Int.not_lt.mp fun y => hc (.inr ⟨z, y⟩)
        simp [C.tcons, C.tnil, e2, e3, e4, R.bind, c1]
        by_cases c2 : c = 1
        · have c4 : ¬ 0 < a := by have := c3 c2; omega
          simp [c2, c4]
        · simp [c2]
      unfold c__law_roll
      unfold C.scons
      unfold C.sife
      rw [e1]
      simp only [R.toS]
      have s1 : small 48271 = true := rfl
      have s2 : small 69621 = true := rfl
      simp [C.scons, C.sife, C.set, C.sub, C.ret, C.snil, C.bin, C.bi, C.tcmp, C.cons, C.nil, C.ix, C.var, C.k, R.bind, R.opt, R.toS, FS.get, dh, ixV, dicOf, seqOf, lstOf, ixN, biV, binV, asg, put, setAt, noClo, cmpV, ordV, h0, hm, hm2, s1, s2]
    rw [e]
    rfl
end K03

-- text K03V
set_option Elab.async false
set_option linter.all false
set_option maxRecDepth 100000
set_option maxHeartbeats 0
namespace K03
open PySem FS
section
variable {cf : CF} {o : List Fr} {fr fr1 : Fr} {h h1 : MH}
theorem st_no {a b r : C.XS} {c : C.XB} (e : c cf o fr h = .ok false h1) (eb : b = C.snil) : C.scons (C.sife c a b) r cf o fr h = r cf o fr h1 := by
  unfold C.scons C.sife
  rw [e, eb]
  rfl
theorem st_yes {a b r : C.XS} {c : C.XB} (e : c cf o fr h = .ok true h1) {v : FS.D} {h2 : MH} (e2 : a cf o fr h1 = .ret v h2) : C.scons (C.sife c a b) r cf o fr h = .ret v h2 := by
  unfold C.scons C.sife
  rw [e]
  show (match a cf o fr h1 with | .nx fr1 h1 => r cf o fr1 h1 | x => x) = _
  rw [e2]
theorem st_in {a b r : C.XS} {c : C.XB} (e : c cf o fr h = .ok true h1) {h2 : MH} (e2 : a cf o fr h1 = .nx fr1 h2) : C.scons (C.sife c a b) r cf o fr h = r cf o fr1 h2 := by
  unfold C.scons C.sife
  rw [e]
  show (match a cf o fr h1 with | .nx fr1 h1 => r cf o fr1 h1 | x => x) = _
  rw [e2]
theorem st_nx {s r : C.XS} (e : s cf o fr h = .nx fr1 h1) : C.scons s r cf o fr h = r cf o fr1 h1 := by
  unfold C.scons
  rw [e]
theorem st_ret {s r : C.XS} {v : FS.D} (e : s cf o fr h = .ret v h1) : C.scons s r cf o fr h = .ret v h1 := by
  unfold C.scons
  rw [e]
theorem st_set {t : T} {e : C.XE} {v : FS.D} (q : e cf o fr h = .ok v h1) (a : asg t v fr = some fr1) : C.set t e cf o fr h = .nx fr1 h1 := by
  unfold C.set
  rw [q]
  simp only [R.toS, a]
theorem st_retE {e : C.XE} {v : FS.D} (q : e cf o fr h = .ok v h1) : C.ret e cf o fr h = .ret v h1 := by
  unfold C.ret
  rw [q]
  rfl
theorem ev_cmpT {op : Cop} {a b : C.XE} {x y : FS.D} {h2 : MH} {r : Bool} (ea : a cf o fr h = .ok x h1) (eb : b cf o fr h1 = .ok y h2) (ec : cmpV op x y h2 = some r) : C.tcmp op a b cf o fr h = .ok r h2 := by
  unfold C.tcmp
  rw [ea]
  simp only [R.bind, eb, ec]
  rfl
theorem ev_cmp {op : Cop} {a b : C.XE} {x y : FS.D} {h2 : MH} {r : Bool} (ea : a cf o fr h = .ok x h1) (eb : b cf o fr h1 = .ok y h2) (ec : cmpV op x y h2 = some r) : C.cmp op a b cf o fr h = .ok (.bl r) h2 := by
  unfold C.cmp
  rw [ea]
  simp only [R.bind, eb, ec]
theorem ev_bin {op : Bop} {a b : C.XE} {x y : FS.D} {h2 : MH} {r : FS.R FS.D} (ea : a cf o fr h = .ok x h1) (eb : b cf o fr h1 = .ok y h2) (ec : binV op x y h2 = r) : C.bin op a b cf o fr h = r := by
  unfold C.bin
  rw [ea]
  simp only [R.bind, eb, ec]
theorem ev_me {m : Me} {e : C.XE} {es : C.XEs} {s : List Nat} {xs : List FS.D} {h2 : MH} {r : FS.R FS.D} (ea : e cf o fr h = .ok (.str s) h1) (eb : es cf o fr h1 = .ok xs h2) (ec : meV m (.str s) xs h2 = r) : C.me m e es cf o fr h = r := by
  unfold C.me
  rw [ea]
  simp only [R.bind, eb, ec]
theorem ev_call {f : Nat} {es : C.XEs} {xs : List FS.D} {r : FS.R FS.D} (ea : es cf o fr h = .ok xs h1) (ec : cf (.fn f) (fr :: o) xs h1 = r) : C.call f es cf o fr h = r := by
  unfold C.call
  rw [ea]
  simp only [R.bind, ec]
theorem ev_cons {e : C.XE} {es : C.XEs} {x : FS.D} {xs : List FS.D} {h2 : MH} (ea : e cf o fr h = .ok x h1) (eb : es cf o fr h1 = .ok xs h2) : C.cons e es cf o fr h = .ok (x :: xs) h2 := by
  unfold C.cons
  rw [ea]
  simp only [R.bind, eb]
theorem ev_tup {es : C.XEs} {xs : List FS.D} (ea : es cf o fr h = .ok xs h1) (hl : Nat.ble xs.length line = true := by rfl) : C.tup es cf o fr h = .ok (.tup xs) h1 := by
  unfold C.tup
  rw [ea]
  simp only [R.bind, hl, if_true]
theorem ev_lst {es : C.XEs} {xs : List FS.D} (ea : es cf o fr h = .ok xs h1) (hl : Nat.ble xs.length line = true := by rfl) : C.lst false es cf o fr h = .ok (.lst xs) h1 := by
  unfold C.lst
  rw [ea]
  simp only [R.bind, hl, if_true]
theorem ev_ix {a b : C.XE} {x y z : FS.D} {h2 : MH} (ea : a cf o fr h = .ok x h1) (eb : b cf o fr h1 = .ok y h2) (ec : ixV x y h2 = some z) : C.ix a b cf o fr h = .ok z h2 := by
  unfold C.ix
  rw [ea]
  simp only [R.bind, eb, ec]
  rfl
end
theorem cmp_str (a b : List Nat) (h : MH) : cmpV .eq (.str a) (.str b) h = some (decide (a = b)) := by
  show some (deq (.str a) (.str b)) = _
  unfold deq
  first | rfl | (congr 1; by_cases e : a = b <;> simp [e])
theorem plW_len : ∀ xs : List FS.D, (plW xs).length = xs.length + 1
  | [] => rfl
  | x :: xs => by
    show (plW xs).length + 1 = _
    rw [plW_len xs]
    rfl
theorem mapW_opt {α : Type} {emb : α → FS.D} {f : FS.D → MH → FS.R (Option FS.D)} {g : α → Option FS.D} {h : MH} : ∀ {ws : List α}, (∀ w ∈ ws, f (emb w) h = .ok (g w) h) → mapW f (plW (ws.map emb)) h = .ok (ws.filterMap g) h
  | [], _ => rfl
  | w :: r, hf => by
    have ih := mapW_opt (emb := emb) (ws := r) fun v hv => hf v (List.mem_cons_of_mem _ hv)
    have e := hf w List.mem_cons_self
    show (f (emb w) h).bind (fun o h1 => (mapW f (plW (r.map emb)) h1).bind fun ys h2 => .ok (match o with
      | some y => y :: ys
      | none => ys) h2) = _
    rw [e]
    simp only [R.bind, ih]
    rw [List.filterMap_cons]
    cases g w <;> rfl
section
variable {cf : CF} {o : List Fr} {fr : Fr} {h : MH}
theorem asg_lc {v : Nat} (hv : v < fr.length) (x : FS.D) : ∃ F, asg (.nm v) x (wipeF fr [v]) = some F ∧ (∀ j, v ≠ j → FS.get F j = FS.get fr j) ∧ FS.get F v = some x := by
  have hl : (wipeF fr [v]).length = fr.length := by
    show (fr.set v none).length = _
    rw [List.length_set]
  refine ⟨put (wipeF fr [v]) v x, ?_, fun j hj => ?_, ?_⟩
  · unfold asg
    rw [if_pos (by omega)]
  · unfold FS.get put
    rw [List.getElem?_set_ne hj]
    show (match (fr.set v none)[j]? with
      | some (some d) => some d
      | _ => none) = _
    (rw [List.getElem?_set_ne hj]) <;> rfl
  · unfold FS.get put
    rw [List.getElem?_set_self (by omega)]
theorem ev_lc {α : Type} {emb : α → FS.D} {v : Nat} (hv : v < fr.length) {it : C.XW} {ifs : C.XB} {e : C.XE} {ws : List α} {b : α → Bool} {g : α → FS.D} (hi : it cf o fr h = .ok (plW (ws.map emb)) h) (hl : ws.length < line)
    (hs : ∀ w ∈ ws, ∀ F, (∀ j, v ≠ j → FS.get F j = FS.get fr j) ∧ FS.get F v = some (emb w) → ifs cf (fr :: o) F h = .ok (b w) h ∧ (b w = true → e cf (fr :: o) F h = .ok (g w) h)) :
    C.lc [v] (.nm v) it ifs e cf o fr h = .ok (.lst ((ws.filter b).map g)) h := by
  unfold C.lc
  rw [hi]
  simp only [R.bind]
  rw [if_pos (Nat.ble_eq_true_of_le (by rw [plW_len, List.length_map]; exact hl))]
  have e1 : ws.filterMap (fun w => if b w = true then some (g w) else none) = (ws.filter b).map g := by
    clear hi hl hs
    induction ws with
    | nil => rfl
    | cons w r ih =>
      rw [List.filterMap_cons, List.filter_cons]
      cases b w with
      | true =>
        simp only [if_true, List.map_cons]
        rw [ih]
      | false => exact ih
  rw [← e1, mapW_opt (emb := emb) (g := fun w => if b w = true then some (g w) else none)]
  intro w hw
  obtain ⟨F, a1, a2⟩ := asg_lc hv (emb w)
  obtain ⟨s1, s2⟩ := hs w hw F a2
  simp only [a1, s1, R.noX]
  cases hb : b w with
  | true =>
    simp only [s2 hb, R.noX]
    rfl
  | false => rfl
theorem v_of {F : Fr} {v : Nat} {x : FS.D} (e : FS.get F v = some x) : C.var v cf o F h = .ok x h := by
  unfold C.var
  rw [e]
  rfl
end
end K03

-- text K03M
set_option Elab.async false
set_option linter.all false
set_option maxRecDepth 100000
set_option maxHeartbeats 0
namespace K03
open PySem FS
/-! the menus -/
def wLeast : List Nat := [108, 101, 97, 115, 116]
def wMost : List Nat := [109, 111, 115, 116]
def wShort : List Nat := [115, 104, 111, 114, 116]
def wLong : List Nat := [108, 111, 110, 103]
def wSigns : List Nat := [115, 105, 103, 110, 115]
def wAhead : List Nat := [97, 104, 101, 97, 100]
def wBehind : List Nat := [98, 101, 104, 105, 110, 100]
def wSame : List Nat := [115, 97, 109, 101]
def wOther : List Nat := [111, 116, 104, 101, 114]
def wSome : List Nat := [115, 111, 109, 101]
def wBegins : List Nat := [98, 101, 103, 105, 110, 115]
def wHolds : List Nat := [104, 111, 108, 100, 115]
def wOdd : List Nat := [111, 100, 100]
/-- texts of answers -/
def TXT : List (List Nat) := [[], [53], [55, 46, 53], [45, 50], [97, 98, 99], [97, 98, 49], [65, 66, 67, 68], [50, 48, 50, 54, 45, 48, 49, 45, 48, 49], [50, 48, 50, 53, 45, 49, 50, 45, 51, 49], [50, 48, 50, 54, 45, 48, 49, 45, 48, 50]]
/-- rules of one field: way, value -/
def ONE : List (List Nat × List Nat) := [(wLeast, [53]), (wLeast, [45, 49, 46, 53]), (wMost, [49, 48]), (wMost, [50, 46, 50, 53]), (wShort, [50]), (wShort, [48]), (wLong, [51]), (wLong, [49, 48]),
  (wSigns, [97, 98, 99, 49]), (wSigns, [48, 49, 50, 51, 52, 53, 54, 55, 56, 57]), (wAhead, [50, 48, 50, 54, 45, 48, 49, 45, 48, 49]), (wAhead, [50, 48, 50, 53, 45, 48, 54, 45, 51, 48]), (wBehind, [50, 48, 50, 54, 45, 48, 49, 45, 48, 49]), (wBehind, [49, 46, 50, 46, 50, 48, 50, 53]),
  (wBegins, [65]), (wBegins, [97, 98]), (wHolds, [66]), (wHolds, [49])]
abbrev Row : Type := List Nat × List (List Nat) × List Nat
def tA : List Nat := [97]
def tB : List Nat := [98]
def tC : List Nat := [99]
def t1 : List Nat := [49]
def t2 : List Nat := [50]
def nsD (ns : List (List Nat)) : FS.D := .tup (ns.map .str)
def rowD (r : Row) (t : FS.D) : FS.D := .tup [.str r.1, nsD r.2.1, .str r.2.2, t]
def ROWA : List Row := ONE.map fun r => (r.1, [tA], r.2)
def ROWB : List Row := ONE.map fun r => (r.1, [tB], r.2)
def ROW2 : List Row := [(wSame, [tA, tB], []), (wSame, [tB, tA], []), (wOther, [tA, tB], []), (wOther, [tB, tA], [])]
def ROWS : List Row := [(wSome, [tA], t1), (wSome, [tB], t1), (wSome, [tA, tB], t1), (wSome, [tA, tB, tC], t1), (wSome, [tA, tB], t2), (wSome, [tA, tB, tC], t2)]
/-- all rules that are ones -/
def GOOD : List Row := ROWA ++ (ROWB ++ (ROW2 ++ ROWS))
abbrev Kv : Type := List (FS.D × FS.D)
def blR : FS.R FS.D → Bool
  | .ok (.bl b) _ => b
  | _ => false
def strR : FS.R FS.D → List Nat
  | .ok (.str x) _ => x
  | _ => []
def intR : FS.R FS.D → Int
  | .ok (.int x) _ => x
  | _ => 0
/-- whether a rule holds of answers -/
def hB (r : Row) (kvs : Kv) : Bool := blR (callC ct 12 (.fn 20) [] [rowD r (.str []), .dic kvs] [])
/-- the program's looking, the law's looking: one rule, some answers -/
def evP (k : Nat) (o : List Fr) (F F2 : Fr) (h : MH) (t : FS.D) (r : Row) (kvs : Kv) : FS.R FS.D × FS.R FS.D := (callC ct (k + 12) (.fn 8) o [rowD r t, .dic kvs] h, callC ct (k + 12) (.fn 20) [F, F2] [rowD r t, .dic kvs] h)
def duP (h : MH) (r : Row) (kvs : Kv) : FS.R FS.D × FS.R FS.D := (.ok (.bl (hB r kvs)) h, .ok (.bl (hB r kvs)) h)
section
variable (k : Nat) (o : List Fr) (F F2 : Fr) (h : MH) (t : FS.D)
theorem oneA (rest : Kv) : (ROWA.map fun r => TXT.map fun v => evP k o F F2 h t r ((.str tA, .str v) :: rest)) = ROWA.map fun r => TXT.map fun v => duP h r ((.str tA, .str v) :: rest) := by
  kernel_rfl
theorem noA (y z : FS.D) : (ROWA.map fun r => [[], [(.str tB, y)], [(.str tC, z)], [(.str tB, y), (.str tC, z)]].map fun kvs => evP k o F F2 h t r kvs) = ROWA.map fun r => [[], [(.str tB, y)], [(.str tC, z)], [(.str tB, y), (.str tC, z)]].map fun kvs => duP h r kvs := by
  kernel_rfl
theorem oneB (x : FS.D) (rest : Kv) : (ROWB.map fun r => TXT.map fun v => [(.str tB, .str v) :: rest, (.str tA, x) :: (.str tB, .str v) :: rest].map fun kvs => evP k o F F2 h t r kvs) = ROWB.map fun r => TXT.map fun v => [(.str tB, .str v) :: rest, (.str tA, x) :: (.str tB, .str v) :: rest].map fun kvs => duP h r kvs := by
  kernel_rfl
theorem noB (x z : FS.D) : (ROWB.map fun r => [[], [(.str tA, x)], [(.str tC, z)], [(.str tA, x), (.str tC, z)]].map fun kvs => evP k o F F2 h t r kvs) = ROWB.map fun r => [[], [(.str tA, x)], [(.str tC, z)], [(.str tA, x), (.str tC, z)]].map fun kvs => duP h r kvs := by
  kernel_rfl
theorem two (rest : Kv) : (ROW2.map fun r => TXT.map fun v => TXT.map fun w => evP k o F F2 h t r ((.str tA, .str v) :: (.str tB, .str w) :: rest)) = ROW2.map fun r => TXT.map fun v => TXT.map fun w => duP h r ((.str tA, .str v) :: (.str tB, .str w) :: rest) := by
  kernel_rfl
/-- the rest of the answers that a rule of two sees not -/
def RC (z : FS.D) : List Kv := [[], [(.str tC, z)]]
theorem twoA (z : FS.D) : (ROW2.map fun r => TXT.map fun v => (RC z).map fun q => evP k o F F2 h t r ((.str tA, .str v) :: q)) = ROW2.map fun r => TXT.map fun v => (RC z).map fun q => duP h r ((.str tA, .str v) :: q) := by
  kernel_rfl
theorem twoB (z : FS.D) : (ROW2.map fun r => TXT.map fun v => (RC z).map fun q => evP k o F F2 h t r ((.str tB, .str v) :: q)) = ROW2.map fun r => TXT.map fun v => (RC z).map fun q => duP h r ((.str tB, .str v) :: q) := by
  kernel_rfl
theorem two0 (z : FS.D) : (ROW2.map fun r => (RC z).map fun q => evP k o F F2 h t r q) = ROW2.map fun r => (RC z).map fun q => duP h r q := by
  kernel_rfl
/-- some of several: what counts is what is empty -/
def OP (n : List Nat) (x : Nat) (xs : List Nat) : List Kv := [[], [(.str n, .str [])], [(.str n, .str (x :: xs))]]
theorem some_ (x y z : Nat) (xs ys zs : List Nat) : (ROWS.map fun r => (OP tA x xs).map fun p => (OP tB y ys).map fun q => (OP tC z zs).map fun s => evP k o F F2 h t r (p ++ (q ++ s))) = ROWS.map fun r => (OP tA x xs).map fun p => (OP tB y ys).map fun q => (OP tC z zs).map fun s => duP h r (p ++ (q ++ s)) := by
  kernel_rfl
/-- the words told -/
def wordsB (r : Row) : List Nat := strR (callC ct 12 (.fn 22) [] [.str r.1, nsD r.2.1, .str r.2.2] [])
theorem words : (GOOD.map fun r => (callC ct (k + 12) (.fn 12) o [.str r.1, nsD r.2.1, .str r.2.2] h, callC ct (k + 12) (.fn 22) o [.str r.1, nsD r.2.1, .str r.2.2] h)) = GOOD.map fun r => (FS.R.ok (.str (wordsB r)) h, FS.R.ok (.str (wordsB r)) h) := by
  kernel_rfl
/-- rules that have a size -/
def SIZED : List Row := GOOD.filter fun r => [wLeast, wMost, wShort, wLong, wSome].contains r.1
def sizeB (r : Row) : Int := intR (callC ct 12 (.fn 21) [] [rowD r (.str [])] [])
theorem sizes : (SIZED.map fun r => (callC ct (k + 12) (.fn 7) o [rowD r t] h, callC ct (k + 12) (.fn 21) o [rowD r t] h)) = SIZED.map fun r => (FS.R.ok (.int (sizeB r)) h, FS.R.ok (.int (sizeB r)) h) := by
  kernel_rfl
end
end K03

-- text K03N
set_option Elab.async false
set_option linter.all false
set_option maxRecDepth 100000
set_option maxHeartbeats 0
namespace K03
open PySem FS
/-! what may be drawn -/
def N6 : List (List (List Nat)) := [[tA], [tB], [tA, tB], [tA, tB, tC], [], [tA, tA]]
def WAY1 : List (List Nat) := [wLeast, wMost, wShort, wLong, wSigns, wAhead, wBehind, wBegins, wHolds]
def tX : List Nat := [120]
def valsOf (w : List Nat) : List (List Nat) :=
  if w = wLeast then [[53], [45, 49, 46, 53], tX] else if w = wMost then [[49, 48], [50, 46, 50, 53], []] else if w = wShort then [[50], [49, 50, 51, 52, 53], [48]] else if w = wLong then [[51], tX, [49, 48]] else
  if w = wSigns then [[97, 98, 99, 49], [], [48, 49, 50, 51, 52, 53, 54, 55, 56, 57]] else if w = wAhead then [[50, 48, 50, 54, 45, 48, 49, 45, 48, 49], wOdd, [50, 48, 50, 53, 45, 48, 54, 45, 51, 48]] else
  if w = wBehind then [[50, 48, 50, 54, 45, 48, 49, 45, 48, 49], [49, 46, 50, 46, 50, 48, 50, 53], []] else if w = wSome then [t1, t2, [57]] else if w = wBegins then [[65], [], [97, 98]] else if w = wHolds then [[66], [], [49]] else [[], [], tX]
def namesOf (w : List Nat) : List (List (List Nat)) := if w = wSome then N6 else if w = wSame ∨ w = wOther then [tB, tA] :: N6 else N6
def WAYS13 : List (List Nat) := [wLeast, wMost, wShort, wLong, wSigns, wAhead, wBehind, wSame, wOther, wSome, wBegins, wHolds, wOdd]
def CAND : List Row := WAYS13.flatMap fun w => (namesOf w).flatMap fun ns => (valsOf w).map fun v => (w, ns, v)
def goodB (r : Row) : Bool := GOOD.contains r
/-- the heap: the dice, the rules, their rows, the rest -/
def HH (d : MO) (xs : List FS.D) (q : MH) : MH := d :: .ins 0 [(7, .ref 2)] :: .lst xs :: q
def spine (X : Nat → FS.D) (n : Nat) : List FS.D := (List.range n).map X
/-- the law's frame where a rule is put -/
def FA (s0 s3 s4 s8 s10 s11 s12 s13 s14 s15 s16 s17 s18 s19 s20 : Option FS.D) (r : Row) (t : List Nat) : Fr :=
  [s0, some (.ref 0), some (.ref 1), s3, s4, some (.str r.1), some (nsD r.2.1), some (.str r.2.2), s8, some (.str t), s10, s11, s12, s13, s14, s15, s16, s17, s18, s19, s20]
def tRule : List Nat := [82, 117, 108, 101, 69, 114, 114, 111, 114]
def addR (d : MO) (xs : List FS.D) (q : MH) (r : Row) (t : List Nat) : FS.R FS.D := if goodB r then .ok .non (HH d (xs ++ [rowD r (.str t)]) q) else .ok (.str tRule) (HH d xs q)
theorem addF (d : MO) (X : Nat → FS.D) (q : MH) (t : List Nat) (s0 s3 s4 s8 s10 s11 s12 s13 s14 s15 s16 s17 s18 s19 s20 : Option FS.D) : ((List.range 12).map fun n => CAND.map fun r => callC ct 20 (.fn 16) [FA s0 s3 s4 s8 s10 s11 s12 s13 s14 s15 s16 s17 s18 s19 s20 r t] [.clo 11 0] (HH d (spine X n) q)) = (List.range 12).map fun n => CAND.map fun r => addR d (spine X n) q r t := by
  kernel_rfl
end K03

-- text K03O
set_option Elab.async false
set_option linter.all false
set_option maxRecDepth 100000
set_option maxHeartbeats 0
namespace K03
open PySem FS
/-! a rule is drawn -/
def ru0 : C.XS := (C.set (.nm 1) (C.ix (C.lst false (C.cons (C.k (.str [108, 101, 97, 115, 116])) (C.cons (C.k (.str [109, 111, 115, 116])) (C.cons (C.k (.str [115, 104, 111, 114, 116])) (C.cons (C.k (.str [108, 111, 110, 103])) (C.cons (C.k (.str [115, 105, 103, 110, 115])) (C.cons (C.k (.str [97, 104, 101, 97, 100])) (C.cons (C.k (.str [98, 101, 104, 105, 110, 100])) (C.cons (C.k (.str [115, 97, 109, 101])) (C.cons (C.k (.str [111, 116, 104, 101, 114])) (C.cons (C.k (.str [115, 111, 109, 101])) (C.cons (C.k (.str [98, 101, 103, 105, 110, 115])) (C.cons (C.k (.str [104, 111, 108, 100, 115])) (C.cons (C.k (.str [111, 100, 100])) C.nil)))))))))))))) (C.call 14 (C.cons (C.var 0) (C.cons (C.k (.int 13)) C.nil)))))
def ru1 : C.XS := (C.set (.nm 2) (C.ix (C.lst false (C.cons (C.lst false (C.cons (C.k (.str [97])) C.nil)) (C.cons (C.lst false (C.cons (C.k (.str [98])) C.nil)) (C.cons (C.lst false (C.cons (C.k (.str [97])) (C.cons (C.k (.str [98])) C.nil))) (C.cons (C.lst false (C.cons (C.k (.str [97])) (C.cons (C.k (.str [98])) (C.cons (C.k (.str [99])) C.nil)))) (C.cons (C.lst false C.nil) (C.cons (C.lst false (C.cons (C.k (.str [97])) (C.cons (C.k (.str [97])) C.nil))) C.nil))))))) (C.bin .fdiv (C.call 14 (C.cons (C.var 0) (C.cons (C.k (.int 17)) C.nil))) (C.k (.int 3)))))
def ru2 : C.XS := (C.sife (C.tcmp .isin (C.var 1) (C.lst false (C.cons (C.k (.str [115, 97, 109, 101])) (C.cons (C.k (.str [111, 116, 104, 101, 114])) C.nil)))) (C.scons (C.set (.nm 2) (C.ix (C.lst false (C.cons (C.lst false (C.cons (C.k (.str [97])) (C.cons (C.k (.str [98])) C.nil))) (C.cons (C.lst false (C.cons (C.k (.str [98])) (C.cons (C.k (.str [97])) C.nil))) (C.cons (C.var 2) C.nil)))) (C.call 14 (C.cons (C.var 0) (C.cons (C.k (.int 3)) C.nil))))) C.snil) (C.scons (C.sife (C.tcmp .ne (C.var 1) (C.k (.str [115, 111, 109, 101]))) (C.scons (C.set (.nm 2) (C.ix (C.lst false (C.cons (C.lst false (C.cons (C.k (.str [97])) C.nil)) (C.cons (C.lst false (C.cons (C.k (.str [98])) C.nil)) (C.cons (C.var 2) C.nil)))) (C.call 14 (C.cons (C.var 0) (C.cons (C.k (.int 3)) C.nil))))) C.snil) C.snil) C.snil))
def ru3 : C.XS := (C.set (.nm 3) (C.ix (C.dget (C.dct (C.cons (C.k (.str [108, 101, 97, 115, 116])) (C.cons (C.lst false (C.cons (C.k (.str [53])) (C.cons (C.k (.str [45, 49, 46, 53])) (C.cons (C.k (.str [120])) C.nil)))) (C.cons (C.k (.str [109, 111, 115, 116])) (C.cons (C.lst false (C.cons (C.k (.str [49, 48])) (C.cons (C.k (.str [50, 46, 50, 53])) (C.cons (C.k (.str [])) C.nil)))) (C.cons (C.k (.str [115, 104, 111, 114, 116])) (C.cons (C.lst false (C.cons (C.k (.str [50])) (C.cons (C.k (.str [49, 50, 51, 52, 53])) (C.cons (C.k (.str [48])) C.nil)))) (C.cons (C.k (.str [108, 111, 110, 103])) (C.cons (C.lst false (C.cons (C.k (.str [51])) (C.cons (C.k (.str [120])) (C.cons (C.k (.str [49, 48])) C.nil)))) (C.cons (C.k (.str [115, 105, 103, 110, 115])) (C.cons (C.lst false (C.cons (C.k (.str [97, 98, 99, 49])) (C.cons (C.k (.str [])) (C.cons (C.k (.str [48, 49, 50, 51, 52, 53, 54, 55, 56, 57])) C.nil)))) (C.cons (C.k (.str [97, 104, 101, 97, 100])) (C.cons (C.lst false (C.cons (C.k (.str [50, 48, 50, 54, 45, 48, 49, 45, 48, 49])) (C.cons (C.k (.str [111, 100, 100])) (C.cons (C.k (.str [50, 48, 50, 53, 45, 48, 54, 45, 51, 48])) C.nil)))) (C.cons (C.k (.str [98, 101, 104, 105, 110, 100])) (C.cons (C.lst false (C.cons (C.k (.str [50, 48, 50, 54, 45, 48, 49, 45, 48, 49])) (C.cons (C.k (.str [49, 46, 50, 46, 50, 48, 50, 53])) (C.cons (C.k (.str [])) C.nil)))) (C.cons (C.k (.str [115, 111, 109, 101])) (C.cons (C.lst false (C.cons (C.k (.str [49])) (C.cons (C.k (.str [50])) (C.cons (C.k (.str [57])) C.nil)))) (C.cons (C.k (.str [98, 101, 103, 105, 110, 115])) (C.cons (C.lst false (C.cons (C.k (.str [65])) (C.cons (C.k (.str [])) (C.cons (C.k (.str [97, 98])) C.nil)))) (C.cons (C.k (.str [104, 111, 108, 100, 115])) (C.cons (C.lst false (C.cons (C.k (.str [66])) (C.cons (C.k (.str [])) (C.cons (C.k (.str [49])) C.nil)))) C.nil))))))))))))))))))))) (C.var 1) (C.lst false (C.cons (C.k (.str [])) (C.cons (C.k (.str [])) (C.cons (C.k (.str [120])) C.nil))))) (C.call 14 (C.cons (C.var 0) (C.cons (C.k (.int 3)) C.nil)))))
def ru4 : C.XS := (C.set (.nm 4) (C.bi .len (C.cons (C.var 2) C.nil)))
def ru5 : C.XS := (C.set (.nm 5) (C.cmp .isin (C.var 1) (C.lst false (C.cons (C.k (.str [115, 97, 109, 101])) (C.cons (C.k (.str [111, 116, 104, 101, 114])) C.nil)))))
def ru6 : C.XS := (C.set (.nm 6) (C.bop (C.bcons true (C.cmp .ne (C.var 1) (C.k (.str [111, 100, 100]))) (C.bcons true (C.cmp .notin (C.var 2) (C.lst false (C.cons (C.lst false C.nil) (C.cons (C.lst false (C.cons (C.k (.str [97])) (C.cons (C.k (.str [97])) C.nil))) C.nil)))) (C.blast (C.ife (C.tv (C.var 5)) (C.cmp .eq (C.var 4) (C.k (.int 2))) (C.bop (C.bcons false (C.cmp .eq (C.var 4) (C.k (.int 1))) (C.blast (C.cmp .eq (C.var 1) (C.k (.str [115, 111, 109, 101]))))))))))))
def ru7 : C.XS := (C.sife (C.tcmp .isin (C.var 1) (C.lst false (C.cons (C.k (.str [108, 101, 97, 115, 116])) (C.cons (C.k (.str [109, 111, 115, 116])) C.nil)))) (C.scons (C.set (.nm 6) (C.bop (C.bcons true (C.var 6) (C.blast (C.cmp .notin (C.var 3) (C.lst false (C.cons (C.k (.str [120])) (C.cons (C.k (.str [])) C.nil)))))))) C.snil) (C.scons (C.sife (C.tcmp .isin (C.var 1) (C.lst false (C.cons (C.k (.str [115, 104, 111, 114, 116])) (C.cons (C.k (.str [108, 111, 110, 103])) C.nil)))) (C.scons (C.set (.nm 6) (C.bop (C.bcons true (C.var 6) (C.blast (C.cmp .notin (C.var 3) (C.lst false (C.cons (C.k (.str [49, 50, 51, 52, 53])) (C.cons (C.k (.str [120])) C.nil)))))))) C.snil) (C.scons (C.sife (C.tcmp .isin (C.var 1) (C.lst false (C.cons (C.k (.str [115, 105, 103, 110, 115])) (C.cons (C.k (.str [98, 101, 103, 105, 110, 115])) (C.cons (C.k (.str [104, 111, 108, 100, 115])) C.nil))))) (C.scons (C.set (.nm 6) (C.bop (C.bcons true (C.var 6) (C.blast (C.cmp .ne (C.var 3) (C.k (.str []))))))) C.snil) (C.scons (C.sife (C.tcmp .isin (C.var 1) (C.lst false (C.cons (C.k (.str [97, 104, 101, 97, 100])) (C.cons (C.k (.str [98, 101, 104, 105, 110, 100])) C.nil)))) (C.scons (C.set (.nm 6) (C.bop (C.bcons true (C.var 6) (C.blast (C.cmp .notin (C.var 3) (C.lst false (C.cons (C.k (.str [111, 100, 100])) (C.cons (C.k (.str [])) C.nil)))))))) C.snil) (C.scons (C.sife (C.tcmp .eq (C.var 1) (C.k (.str [115, 111, 109, 101]))) (C.scons (C.set (.nm 6) (C.bop (C.bcons true (C.var 6) (C.blast (C.cmp .le (C.bi .int (C.cons (C.var 3) C.nil)) (C.var 4)))))) C.snil) (C.scons (C.set (.nm 6) (C.bop (C.bcons true (C.var 6) (C.blast (C.cmp .eq (C.var 3) (C.k (.str []))))))) C.snil)) C.snil)) C.snil)) C.snil)) C.snil))
def ru8 : C.XS := (C.ret (C.tup (C.cons (C.tup (C.cons (C.var 1) (C.cons (C.bi .tuple (C.cons (C.var 2) C.nil)) (C.cons (C.var 3) C.nil)))) (C.cons (C.var 6) C.nil))))
def ruB : C.XS := (C.scons ru0 (C.scons ru1 (C.scons ru2 (C.scons ru3 (C.scons ru4 (C.scons ru5 (C.scons ru6 (C.scons ru7 (C.scons ru8 C.snil)))))))))
def ruT0 : C.XS := (C.scons ru0 (C.scons ru1 (C.scons ru2 (C.scons ru3 (C.scons ru4 (C.scons ru5 (C.scons ru6 (C.scons ru7 (C.scons ru8 C.snil)))))))))
def ruT1 : C.XS := (C.scons ru1 (C.scons ru2 (C.scons ru3 (C.scons ru4 (C.scons ru5 (C.scons ru6 (C.scons ru7 (C.scons ru8 C.snil))))))))
def ruT2 : C.XS := (C.scons ru2 (C.scons ru3 (C.scons ru4 (C.scons ru5 (C.scons ru6 (C.scons ru7 (C.scons ru8 C.snil)))))))
def ruT3 : C.XS := (C.scons ru3 (C.scons ru4 (C.scons ru5 (C.scons ru6 (C.scons ru7 (C.scons ru8 C.snil))))))
def ruT4 : C.XS := (C.scons ru4 (C.scons ru5 (C.scons ru6 (C.scons ru7 (C.scons ru8 C.snil)))))
def ruT5 : C.XS := (C.scons ru5 (C.scons ru6 (C.scons ru7 (C.scons ru8 C.snil))))
def ruT6 : C.XS := (C.scons ru6 (C.scons ru7 (C.scons ru8 C.snil)))
def ruT7 : C.XS := (C.scons ru7 (C.scons ru8 C.snil))
def ruT8 : C.XS := (C.scons ru8 C.snil)
theorem ru_eq : c__law_rule = ruB := rfl

theorem rollN (k : Nat) (a b c : Int) (m : Nat) (h0 : 0 < m) (h1 : m ≤ 100000000) : ∃ (r : Nat) (a' b' c' : Int), (∀ o q, callC ct (k + 1) (.fn 14) o [.ref 0, .int (m : Int)] (dh a b c q) = .ok (.int (r : Int)) (dh a' b' c' q)) ∧ r < m := by
  obtain ⟨r, a', b', c', e, q0, q1⟩ := roll k a b c m (by omega) (by omega)
  refine ⟨r.toNat, a', b', c', fun o q => ?_, by omega⟩
  rw [e o q]
  congr 2
  omega
theorem st_else {cf : CF} {o : List Fr} {fr fr1 : Fr} {h h1 h2 : MH} {a b r : C.XS} {c : C.XB} (e : c cf o fr h = .ok false h1) (e2 : b cf o fr h1 = .nx fr1 h2) : C.scons (C.sife c a b) r cf o fr h = r cf o fr1 h2 := by
  unfold C.scons C.sife
  rw [e]
  show (match b cf o fr h1 with | .nx fr1 h1 => r cf o fr1 h1 | x => x) = _
  rw [e2]
/-- a menu of any values -/
theorem menuD {k i : Nat} (M : List FS.D) (h0 : 0 < M.length) (hM : M.length ≤ 1000) {E : C.XE} {o : List Fr} {fr : Fr} {a b c : Int} {q : MH} (hE : E (callC ct (k + 1)) o fr (dh a b c q) = .ok (.lst M) (dh a b c q)) (hv : FS.get fr i = some (.ref 0)) :
    ∃ x ∈ M, ∃ a' b' c', C.ix E (C.call 14 (C.cons (C.var i) (C.cons (C.k (.int (M.length : Int))) C.nil))) (callC ct (k + 1)) o fr (dh a b c q) = .ok x (dh a' b' c' q) := by
  obtain ⟨r, a', b', c', e, hr⟩ := rollN k a b c M.length h0 (by omega)
  refine ⟨M[r], List.getElem_mem hr, a', b', c', ev_ix hE (ev_call (ev_cons (v_of hv) (ev_cons rfl rfl)) (e _ _)) ?_⟩
  show (match ixN M.length (r : Int) with
    | some j => M[j]?
    | none => none) = _
  unfold ixN
  rw [if_pos (by omega), if_pos (by omega)]
  show M[(r : Int).toNat]? = _
  rw [Int.toNat_natCast, List.getElem?_eq_getElem hr]
def NL (ns : List (List Nat)) : FS.D := .lst (ns.map .str)
def FR (w ns v : Option FS.D) : Fr := [some (.ref 0), w, ns, v, none, none, none]
theorem ruTail (k : Nat) (o : List Fr) (h : MH) : (CAND.map fun r => ruT4 (callC ct k) o (FR (some (.str r.1)) (some (NL r.2.1)) (some (.str r.2.2))) h) = CAND.map fun r => .ret (.tup [.tup [.str r.1, nsD r.2.1, .str r.2.2], .bl (goodB r)]) h := by
  kernel_rfl
section
variable {k : Nat} {o : List Fr} {a b c : Int} {q : MH}
theorem ru0_ok : ∃ w ∈ WAYS13, ∃ a' b' c', ru0 (callC ct (k + 1)) o (FR none none none) (dh a b c q) = .nx (FR (some (.str w)) none none) (dh a' b' c' q) := by
  obtain ⟨x, hx, a', b', c', e⟩ := menuD (k := k) (i := 0) (WAYS13.map .str) (by decide) (by decide) (o := o) (fr := FR none none none) (a := a) (b := b) (c := c) (q := q) (E := C.lst false (C.cons (C.k (.str wLeast)) (C.cons (C.k (.str wMost)) (C.cons (C.k (.str wShort)) (C.cons (C.k (.str wLong)) (C.cons (C.k (.str wSigns)) (C.cons (C.k (.str wAhead)) (C.cons (C.k (.str wBehind)) (C.cons (C.k (.str wSame)) (C.cons (C.k (.str wOther)) (C.cons (C.k (.str wSome)) (C.cons (C.k (.str wBegins)) (C.cons (C.k (.str wHolds)) (C.cons (C.k (.str wOdd)) C.nil)))))))))))))) rfl rfl
  obtain ⟨w, hw, rfl⟩ := List.mem_map.mp hx
  exact ⟨w, hw, a', b', c', st_set e rfl⟩
def n6E : C.XE := C.lst false (C.cons (C.lst false (C.cons (C.k (.str tA)) C.nil)) (C.cons (C.lst false (C.cons (C.k (.str tB)) C.nil)) (C.cons (C.lst false (C.cons (C.k (.str tA)) (C.cons (C.k (.str tB)) C.nil))) (C.cons (C.lst false (C.cons (C.k (.str tA)) (C.cons (C.k (.str tB)) (C.cons (C.k (.str tC)) C.nil)))) (C.cons (C.lst false C.nil) (C.cons (C.lst false (C.cons (C.k (.str tA)) (C.cons (C.k (.str tA)) C.nil))) C.nil))))))
theorem ru1_ok (w : List Nat) : ∃ ns ∈ N6, ∃ a' b' c', ru1 (callC ct (k + 1)) o (FR (some (.str w)) none none) (dh a b c q) = .nx (FR (some (.str w)) (some (NL ns)) none) (dh a' b' c' q) := by
  obtain ⟨r, a', b', c', e, hr⟩ := rollN k a b c 17 (by omega) (by omega)
  have hl : r / 3 < N6.length := by
    show r / 3 < 6
    omega
  refine ⟨N6[r / 3], List.getElem_mem hl, a', b', c', st_set (v := NL N6[r / 3]) ?_ rfl⟩
  refine ev_ix (x := .lst (N6.map NL)) (y := .int ((r / 3 : Nat) : Int)) (h1 := dh a b c q) (h2 := dh a' b' c' q) rfl (ev_bin (x := .int (r : Int)) (y := .int 3) (h1 := dh a' b' c' q) (h2 := dh a' b' c' q) (ev_call (xs := [.ref 0, .int ((17 : Nat) : Int)]) (h1 := dh a b c q) rfl (e _ _)) rfl ?_) ?_
  · show FS.R.ok (FS.D.int ((r : Int) / 3)) _ = _
    congr 2
  · show (match ixN 6 ((r / 3 : Nat) : Int) with
      | some j => (N6.map NL)[j]?
      | none => none) = _
    unfold ixN
    rw [if_pos (by omega), if_pos (by omega)]
    show (N6.map NL)[((r / 3 : Nat) : Int).toNat]? = _
    rw [Int.toNat_natCast, List.getElem?_map, List.getElem?_eq_getElem hl]
    rfl
/-- another menu for the names -/
theorem names3 {fr : Fr} {w : List Nat} {ns0 n1 n2 : List (List Nat)} {E : C.XE} (hfr : fr = FR (some (.str w)) (some (NL ns0)) none) (hE : E (callC ct (k + 1)) o fr (dh a b c q) = .ok (.lst [NL n1, NL n2, NL ns0]) (dh a b c q)) :
    ∃ ns ∈ [n1, n2, ns0], ∃ a' b' c', C.scons (C.set (.nm 2) (C.ix E (C.call 14 (C.cons (C.var 0) (C.cons (C.k (.int 3)) C.nil))))) C.snil (callC ct (k + 1)) o fr (dh a b c q) = .nx (FR (some (.str w)) (some (NL ns)) none) (dh a' b' c' q) := by
  subst hfr
  obtain ⟨x, hx, a', b', c', e⟩ := menuD (k := k) (i := 0) [NL n1, NL n2, NL ns0] (by show 0 < 3; decide) (by show 3 ≤ 1000; decide) hE rfl
  have : ∃ ns ∈ [n1, n2, ns0], x = NL ns := by
    simp only [List.mem_cons, List.not_mem_nil, or_false] at hx
    rcases hx with rfl | rfl | rfl
    · exact ⟨n1, List.mem_cons_self, rfl⟩
    · exact ⟨n2, List.mem_cons_of_mem _ List.mem_cons_self, rfl⟩
    · exact ⟨ns0, List.mem_cons_of_mem _ (List.mem_cons_of_mem _ List.mem_cons_self), rfl⟩
  obtain ⟨ns, hn, rfl⟩ := this
  exact ⟨ns, hn, a', b', c', st_nx (st_set e rfl)⟩
theorem ru2_ok {w : List Nat} (hw : w ∈ WAYS13) {ns0 : List (List Nat)} (hn : ns0 ∈ N6) : ∃ ns ∈ namesOf w, ∃ a' b' c', ∀ r, C.scons ru2 r (callC ct (k + 1)) o (FR (some (.str w)) (some (NL ns0)) none) (dh a b c q) = r (callC ct (k + 1)) o (FR (some (.str w)) (some (NL ns)) none) (dh a' b' c' q) := by
  obtain ⟨n1, m1, a1, b1, c1, e1⟩ := names3 (k := k) (o := o) (a := a) (b := b) (c := c) (q := q) (w := w) (ns0 := ns0) (n1 := [tA, tB]) (n2 := [tB, tA]) (E := C.lst false (C.cons (C.lst false (C.cons (C.k (.str tA)) (C.cons (C.k (.str tB)) C.nil))) (C.cons (C.lst false (C.cons (C.k (.str tB)) (C.cons (C.k (.str tA)) C.nil))) (C.cons (C.var 2) C.nil)))) rfl rfl
  obtain ⟨n2, m2, a2, b2, c2, e2⟩ := names3 (k := k) (o := o) (a := a) (b := b) (c := c) (q := q) (w := w) (ns0 := ns0) (n1 := [tA]) (n2 := [tB]) (E := C.lst false (C.cons (C.lst false (C.cons (C.k (.str tA)) C.nil)) (C.cons (C.lst false (C.cons (C.k (.str tB)) C.nil)) (C.cons (C.var 2) C.nil)))) rfl rfl
  have i1 : n1 ∈ [tB, tA] :: N6 := by
    simp only [List.mem_cons, List.not_mem_nil, or_false] at m1
    rcases m1 with rfl | rfl | rfl
    · decide
    · decide
    · exact List.mem_cons_of_mem _ hn
  have i2 : n2 ∈ N6 := by
    simp only [List.mem_cons, List.not_mem_nil, or_false] at m2
    rcases m2 with rfl | rfl | rfl
    · decide
    · decide
    · exact hn
  have one : (∀ h, C.tcmp .isin (C.var 1) (C.lst false (C.cons (C.k (.str wSame)) (C.cons (C.k (.str wOther)) C.nil))) (callC ct (k + 1)) o (FR (some (.str w)) (some (NL ns0)) none) h = .ok false h) → (∀ h, C.tcmp .ne (C.var 1) (C.k (.str wSome)) (callC ct (k + 1)) o (FR (some (.str w)) (some (NL ns0)) none) h = .ok true h) → namesOf w = N6 → ∃ ns ∈ namesOf w, ∃ a' b' c', ∀ r, C.scons ru2 r (callC ct (k + 1)) o (FR (some (.str w)) (some (NL ns0)) none) (dh a b c q) = r (callC ct (k + 1)) o (FR (some (.str w)) (some (NL ns)) none) (dh a' b' c' q) := fun h1 h2 h3 =>
    ⟨n2, by rw [h3]; exact i2, a2, b2, c2, fun r => st_else (h1 _) (st_in (r := C.snil) (h2 _) e2)⟩
  have two : (∀ h, C.tcmp .isin (C.var 1) (C.lst false (C.cons (C.k (.str wSame)) (C.cons (C.k (.str wOther)) C.nil))) (callC ct (k + 1)) o (FR (some (.str w)) (some (NL ns0)) none) h = .ok true h) → namesOf w = [tB, tA] :: N6 → ∃ ns ∈ namesOf w, ∃ a' b' c', ∀ r, C.scons ru2 r (callC ct (k + 1)) o (FR (some (.str w)) (some (NL ns0)) none) (dh a b c q) = r (callC ct (k + 1)) o (FR (some (.str w)) (some (NL ns)) none) (dh a' b' c' q) := fun h1 h3 =>
    ⟨n1, by rw [h3]; exact i1, a1, b1, c1, fun r => st_in (h1 _) e1⟩
  simp only [WAYS13, List.mem_cons, List.not_mem_nil, or_false] at hw
  rcases hw with rfl | rfl | rfl | rfl | rfl | rfl | rfl | rfl | rfl | rfl | rfl | rfl | rfl
  all_goals first
    | exact one (fun h => rfl) (fun h => rfl) (by decide)
    | exact two (fun h => rfl) (by decide)
    | exact ⟨ns0, hn, a, b, c, fun r => st_else (h1 := dh a b c q) rfl (st_no (h1 := dh a b c q) rfl rfl)⟩
theorem ru3_ok {w : List Nat} (hw : w ∈ WAYS13) (ns : List (List Nat)) : ∃ v ∈ valsOf w, ∃ a' b' c', ru3 (callC ct (k + 1)) o (FR (some (.str w)) (some (NL ns)) none) (dh a b c q) = .nx (FR (some (.str w)) (some (NL ns)) (some (.str v))) (dh a' b' c' q) := by
  have key : ∀ {E : C.XE} {v1 v2 v3 : List Nat}, ru3 = C.set (.nm 3) (C.ix E (C.call 14 (C.cons (C.var 0) (C.cons (C.k (.int 3)) C.nil)))) → valsOf w = [v1, v2, v3] → E (callC ct (k + 1)) o (FR (some (.str w)) (some (NL ns)) none) (dh a b c q) = .ok (.lst [.str v1, .str v2, .str v3]) (dh a b c q) →
      ∃ v ∈ valsOf w, ∃ a' b' c', ru3 (callC ct (k + 1)) o (FR (some (.str w)) (some (NL ns)) none) (dh a b c q) = .nx (FR (some (.str w)) (some (NL ns)) (some (.str v))) (dh a' b' c' q) := fun {E v1 v2 v3} e0 ev hE => by
    obtain ⟨x, hx, a', b', c', e⟩ := menuD (k := k) (i := 0) [.str v1, .str v2, .str v3] (by show 0 < 3; decide) (by show 3 ≤ 1000; decide) hE rfl
    simp only [List.mem_cons, List.not_mem_nil, or_false] at hx
    rw [ev, e0]
    rcases hx with rfl | rfl | rfl
    · exact ⟨v1, List.mem_cons_self, a', b', c', st_set e rfl⟩
    · exact ⟨v2, List.mem_cons_of_mem _ List.mem_cons_self, a', b', c', st_set e rfl⟩
    · exact ⟨v3, List.mem_cons_of_mem _ (List.mem_cons_of_mem _ List.mem_cons_self), a', b', c', st_set e rfl⟩
  simp only [WAYS13, List.mem_cons, List.not_mem_nil, or_false] at hw
  rcases hw with rfl | rfl | rfl | rfl | rfl | rfl | rfl | rfl | rfl | rfl | rfl | rfl | rfl
  all_goals exact key rfl (by decide) rfl
theorem map_at {α β : Type} {f g : α → β} : ∀ {l : List α}, l.map f = l.map g → ∀ x ∈ l, f x = g x
  | [], _, x, h => by cases h
  | y :: l, e, x, h => by
    rw [List.map_cons, List.map_cons] at e
    obtain ⟨e1, e2⟩ := List.cons.inj e
    rcases List.mem_cons.mp h with rfl | h
    · exact e1
    · exact map_at e2 x h
/-- a rule is drawn -/
theorem rule_draw (k : Nat) (o : List Fr) (a b c : Int) (q : MH) : ∃ r ∈ CAND, ∃ a' b' c', callC ct (k + 2) (.fn 17) o [.ref 0] (dh a b c q) = .ok (.tup [.tup [.str r.1, nsD r.2.1, .str r.2.2], .bl (goodB r)]) (dh a' b' c' q) := by
  obtain ⟨w, hw, a1, b1, c1, e1⟩ := ru0_ok (k := k) (o := o) (a := a) (b := b) (c := c) (q := q)
  obtain ⟨n0, hn0, a2, b2, c2, e2⟩ := ru1_ok (k := k) (o := o) (a := a1) (b := b1) (c := c1) (q := q) w
  obtain ⟨ns, hn, a3, b3, c3, e3⟩ := ru2_ok (k := k) (o := o) (a := a2) (b := b2) (c := c2) (q := q) hw hn0
  obtain ⟨v, hv, a4, b4, c4, e4⟩ := ru3_ok (k := k) (o := o) (a := a3) (b := b3) (c := c3) (q := q) hw ns
  have hr : ((w, ns, v) : Row) ∈ CAND := List.mem_flatMap.mpr ⟨w, hw, List.mem_flatMap.mpr ⟨ns, hn, List.mem_map.mpr ⟨v, hv, rfl⟩⟩⟩
  have e5 := map_at (ruTail (k + 1) o (dh a4 b4 c4 q)) _ hr
  refine ⟨(w, ns, v), hr, a4, b4, c4, ?_⟩
  have e : c__law_rule (callC ct (k + 1)) o (FR none none none) (dh a b c q) = .ret (.tup [.tup [.str w, nsD ns, .str v], .bl (goodB (w, ns, v))]) (dh a4 b4 c4 q) := by
    rw [ru_eq]
    exact (st_nx e1).trans ((st_nx e2).trans ((e3 _).trans ((st_nx e4).trans e5)))
  show (match c__law_rule (callC ct (k + 1)) o (FR none none none) (dh a b c q) with
      | .ret d h1 => if f__law_rule.lamf && !noClo d then R.stk else .ok d h1
      | .nx _ h1 => .ok .non h1
      | .exc c _ h1 => .exc c h1
      | _ => .stk) = _
  rw [e]
  rfl
end
end K03

-- text K03P
set_option Elab.async false
set_option linter.all false
set_option maxRecDepth 100000
set_option maxHeartbeats 0
namespace K03
open PySem FS
/-! rules are put, one by one -/
def lb0 : C.XS := (C.set (.tup [(.tup [(.nm 5), (.nm 6), (.nm 7)]), (.nm 8)]) (C.call 17 (C.cons (C.var 1) C.nil)))
def lb1 : C.XS := (C.set (.nm 9) (C.ix (C.lst false (C.cons (C.k (.str [])) (C.cons (C.k (.str [110, 111, 33])) C.nil))) (C.call 14 (C.cons (C.var 1) (C.cons (C.k (.int 2)) C.nil)))))
def lb2 : C.XS := (C.sife (C.tcmp .ne (C.cmp .isn (C.call 16 (C.cons (C.lam 11) C.nil)) (C.k .non)) (C.var 8)) (C.scons (C.ret (C.k (.bl false))) C.snil) C.snil)
def lb3 : C.XS := (C.set (.nm 3) (C.bin .add (C.var 3) (C.bin .mul (C.lst false (C.cons (C.tup (C.cons (C.var 5) (C.cons (C.var 6) (C.cons (C.var 7) (C.cons (C.var 9) C.nil))))) C.nil)) (C.bi .int (C.cons (C.var 8) C.nil)))))
def lbB : C.XS := (C.scons lb0 (C.scons lb1 (C.scons lb2 (C.scons lb3 C.snil))))
def lbT0 : C.XS := (C.scons lb0 (C.scons lb1 (C.scons lb2 (C.scons lb3 C.snil))))
def lbT1 : C.XS := (C.scons lb1 (C.scons lb2 (C.scons lb3 C.snil)))
def lbT2 : C.XS := (C.scons lb2 (C.scons lb3 C.snil))
def lbT3 : C.XS := (C.scons lb3 C.snil)

abbrev RT : Type := Row × List Nat
def rowT (x : RT) : FS.D := rowD x.1 (.str x.2)
/-- the law's frame -/
def FG (s0 : Option FS.D) (own : FS.D) (s4 s5 s6 s7 s8 s9 s10 s11 s12 s13 s14 s15 s16 s17 s18 s19 s20 : Option FS.D) : Fr :=
  [s0, some (.ref 0), some (.ref 1), some own, s4, s5, s6, s7, s8, s9, s10, s11, s12, s13, s14, s15, s16, s17, s18, s19, s20]
theorem spine_of (xs : List FS.D) : spine (fun i => xs.getD i .non) xs.length = xs := by
  unfold spine
  refine List.ext_getElem? fun i => ?_
  rw [List.getElem?_map]
  by_cases h : i < xs.length
  · rw [List.getElem?_range h, List.getElem?_eq_getElem h]
    show some (xs.getD i .non) = _
    rw [List.getD_eq_getElem?_getD, List.getElem?_eq_getElem h]
    rfl
  · rw [List.getElem?_eq_none (by rw [List.length_range]; omega), List.getElem?_eq_none (by omega)]
    rfl
theorem add_at {r : Row} (hr : r ∈ CAND) {xs : List FS.D} (hl : xs.length < 12) (d : MO) (q : MH) (t : List Nat) (s0 s3 s4 s8 s10 s11 s12 s13 s14 s15 s16 s17 s18 s19 s20 : Option FS.D) :
    callC ct 20 (.fn 16) [FA s0 s3 s4 s8 s10 s11 s12 s13 s14 s15 s16 s17 s18 s19 s20 r t] [.clo 11 0] (HH d xs q) = addR d xs q r t := by
  have e := map_at (map_at (addF d (fun i => xs.getD i .non) q t s0 s3 s4 s8 s10 s11 s12 s13 s14 s15 s16 s17 s18 s19 s20) xs.length (List.mem_range.mpr hl)) r hr
  rw [spine_of] at e
  exact e
def NO : List Nat := [110, 111, 33]
section
variable (s0 s4 s5 s6 s7 s8 s9 s10 s11 s12 s13 s14 s15 s16 s17 s18 s19 s20 : Option FS.D) (a b c : Int) (q : MH)
/-- one turn -/
theorem step_ok (L : List RT) (hl : L.length < 12) : ∃ r ∈ CAND, ∃ t ∈ [[], NO], ∃ y5 y6 y7 y8 y9 a' b' c', lbB (callC ct 20) [] (FG s0 (.lst (L.map rowT)) s4 s5 s6 s7 s8 s9 s10 s11 s12 s13 s14 s15 s16 s17 s18 s19 s20) (dh a b c (.ins 0 [(7, .ref 2)] :: .lst (L.map rowT) :: q)) =
    .nx (FG s0 (.lst ((if goodB r then L ++ [(r, t)] else L).map rowT)) s4 y5 y6 y7 y8 y9 s10 s11 s12 s13 s14 s15 s16 s17 s18 s19 s20) (dh a' b' c' (.ins 0 [(7, .ref 2)] :: .lst ((if goodB r then L ++ [(r, t)] else L).map rowT) :: q)) := by
  obtain ⟨r, hr, a1, b1, c1, e1⟩ := rule_draw 18 [FG s0 (.lst (L.map rowT)) s4 s5 s6 s7 s8 s9 s10 s11 s12 s13 s14 s15 s16 s17 s18 s19 s20] a b c (.ins 0 [(7, .ref 2)] :: .lst (L.map rowT) :: q)
  have f0 : lb0 (callC ct 20) [] (FG s0 (.lst (L.map rowT)) s4 s5 s6 s7 s8 s9 s10 s11 s12 s13 s14 s15 s16 s17 s18 s19 s20) (dh a b c (.ins 0 [(7, .ref 2)] :: .lst (L.map rowT) :: q)) =
      .nx (FG s0 (.lst (L.map rowT)) s4 (some (.str r.1)) (some (nsD r.2.1)) (some (.str r.2.2)) (some (.bl (goodB r))) s9 s10 s11 s12 s13 s14 s15 s16 s17 s18 s19 s20) (dh a1 b1 c1 (.ins 0 [(7, .ref 2)] :: .lst (L.map rowT) :: q)) :=
    st_set (ev_call (xs := [.ref 0]) (h1 := dh a b c (.ins 0 [(7, .ref 2)] :: .lst (L.map rowT) :: q)) rfl e1) rfl
  obtain ⟨x, hx, a2, b2, c2, e2⟩ := menuD (k := 19) (i := 1) [.str [], .str NO] (by decide) (by decide) (o := []) (fr := FG s0 (.lst (L.map rowT)) s4 (some (.str r.1)) (some (nsD r.2.1)) (some (.str r.2.2)) (some (.bl (goodB r))) s9 s10 s11 s12 s13 s14 s15 s16 s17 s18 s19 s20) (a := a1) (b := b1) (c := c1) (q := .ins 0 [(7, .ref 2)] :: .lst (L.map rowT) :: q)
    (E := C.lst false (C.cons (C.k (.str [])) (C.cons (C.k (.str NO)) C.nil))) rfl rfl
  have : ∃ t ∈ [[], NO], x = .str t := by
    simp only [List.mem_cons, List.not_mem_nil, or_false] at hx
    rcases hx with rfl | rfl
    · exact ⟨[], List.mem_cons_self, rfl⟩
    · exact ⟨NO, List.mem_cons_of_mem _ List.mem_cons_self, rfl⟩
  obtain ⟨t, ht, rfl⟩ := this
  have f1 : lb1 (callC ct 20) [] (FG s0 (.lst (L.map rowT)) s4 (some (.str r.1)) (some (nsD r.2.1)) (some (.str r.2.2)) (some (.bl (goodB r))) s9 s10 s11 s12 s13 s14 s15 s16 s17 s18 s19 s20) (dh a1 b1 c1 (.ins 0 [(7, .ref 2)] :: .lst (L.map rowT) :: q)) =
      .nx (FG s0 (.lst (L.map rowT)) s4 (some (.str r.1)) (some (nsD r.2.1)) (some (.str r.2.2)) (some (.bl (goodB r))) (some (.str t)) s10 s11 s12 s13 s14 s15 s16 s17 s18 s19 s20) (dh a2 b2 c2 (.ins 0 [(7, .ref 2)] :: .lst (L.map rowT) :: q)) := st_set e2 rfl
  refine ⟨r, hr, t, ht, some (.str r.1), some (nsD r.2.1), some (.str r.2.2), some (.bl (goodB r)), some (.str t), a2, b2, c2, ?_⟩
  have ad := add_at hr (xs := L.map rowT) (by rw [List.length_map]; exact hl) (.lst [.int a2, .int b2, .int c2]) q t s0 (some (.lst (L.map rowT))) s4 (some (.bl (goodB r))) s10 s11 s12 s13 s14 s15 s16 s17 s18 s19 s20
  refine (st_nx f0).trans ((st_nx f1).trans ?_)
  have mul : ∀ (g : Bool) (h : MH), binV .mul (.lst [rowT (r, t)]) (.int (b2i g)) h = .ok (.lst (if g then [rowT (r, t)] else [])) h := fun g h => by
    cases g <;> rfl
  have add : ∀ (g : Bool) (h : MH), binV .add (.lst (L.map rowT)) (.lst (if g then [rowT (r, t)] else [])) h = .ok (.lst ((if g then L ++ [(r, t)] else L).map rowT)) h := fun g h => by
    have q : ∀ ys : List FS.D, ys.length ≤ 1 → binV .add (.lst (L.map rowT)) (.lst ys) h = .ok (.lst (L.map rowT ++ ys)) h := fun ys hy => by
      show (if Nat.ble ((L.map rowT).length + ys.length) line = true then R.ok (FS.D.lst (L.map rowT ++ ys)) h else .stk) = _
      rw [if_pos (Nat.ble_eq_true_of_le (by rw [List.length_map]; exact Nat.le_trans (show L.length + ys.length ≤ 13 by omega) (by decide)))]
    cases g with
    | true =>
      have e := q [rowT (r, t)] (Nat.le_refl _)
      have e2 : (L ++ [(r, t)]).map rowT = L.map rowT ++ [rowT (r, t)] := List.map_append
      show binV .add (.lst (L.map rowT)) (.lst [rowT (r, t)]) h = .ok (.lst ((L ++ [(r, t)]).map rowT)) h
      rw [e2]
      exact e
    | false =>
      have e := q [] (Nat.zero_le _)
      rw [List.append_nil] at e
      exact e
  cases hg : goodB r with
  | true =>
    unfold addR at ad
    rw [if_pos hg] at ad
    rw [hg] at ad
    have e2 : (if true = true then L ++ [(r, t)] else L).map rowT = L.map rowT ++ [rowT (r, t)] := List.map_append
    have add1 : ∀ h, binV .add (.lst (L.map rowT)) (.lst (if true = true then [rowT (r, t)] else [])) h = .ok (.lst (L.map rowT ++ [rowT (r, t)])) h := fun h => by
      rw [← e2]
      exact add true h
    rw [e2]
    refine (st_no (c := _) (ev_cmpT (op := .ne) (x := .bl true) (y := .bl true) (r := false) (ev_cmp (op := .isn) (x := .non) (y := .non) (r := true) (ev_call (xs := [.clo 11 0]) rfl ad) rfl rfl) rfl rfl) rfl).trans ?_
    refine st_nx (st_set (ev_bin (x := .lst (L.map rowT)) rfl (ev_bin (x := .lst [rowT (r, t)]) (y := .int (b2i true)) rfl rfl (mul true _)) (add1 _)) rfl)
  | false =>
    unfold addR at ad
    rw [if_neg (by rw [hg]; exact Bool.false_ne_true)] at ad
    rw [hg] at ad
    refine (st_no (c := _) (ev_cmpT (op := .ne) (x := .bl false) (y := .bl false) (r := false) (ev_cmp (op := .isn) (x := .str tRule) (y := .non) (r := false) (ev_call (xs := [.clo 11 0]) rfl ad) rfl rfl) rfl rfl) rfl).trans ?_
    exact st_nx (st_set (ev_bin (x := .lst (L.map rowT)) rfl (ev_bin (x := .lst [rowT (r, t)]) (y := .int (b2i false)) rfl rfl (mul false _)) (add false _)) rfl)
end
end K03

-- text K03Q
set_option Elab.async false
set_option linter.all false
set_option maxRecDepth 100000
set_option maxHeartbeats 0
namespace K03
open PySem FS
/-! all rules are put -/
def la0 : C.XS := (C.set (.tup [(.nm 2), (.nm 3)]) (C.tup (C.cons (C.new pg 0 C.nil) (C.cons (C.lst false C.nil) C.nil))))
def la1 : C.XS := (C.for_ (.nm 4) (C.rng (C.cons (C.call 14 (C.cons (C.var 1) (C.cons (C.k (.int 12)) C.nil))) C.nil)) (C.scons (C.set (.tup [(.tup [(.nm 5), (.nm 6), (.nm 7)]), (.nm 8)]) (C.call 17 (C.cons (C.var 1) C.nil))) (C.scons (C.set (.nm 9) (C.ix (C.lst false (C.cons (C.k (.str [])) (C.cons (C.k (.str [110, 111, 33])) C.nil))) (C.call 14 (C.cons (C.var 1) (C.cons (C.k (.int 2)) C.nil))))) (C.scons (C.sife (C.tcmp .ne (C.cmp .isn (C.call 16 (C.cons (C.lam 11) C.nil)) (C.k .non)) (C.var 8)) (C.scons (C.ret (C.k (.bl false))) C.snil) C.snil) (C.scons (C.set (.nm 3) (C.bin .add (C.var 3) (C.bin .mul (C.lst false (C.cons (C.tup (C.cons (C.var 5) (C.cons (C.var 6) (C.cons (C.var 7) (C.cons (C.var 9) C.nil))))) C.nil)) (C.bi .int (C.cons (C.var 8) C.nil))))) C.snil)))))
def la2 : C.XS := (C.sife (C.tcmp .ne (C.at_ pg (C.var 2) 7) (C.var 3)) (C.scons (C.ret (C.k (.bl false))) C.snil) C.snil)
def la3 : C.XS := (C.for_ (.nm 10) (C.rng (C.cons (C.k (.int 4)) C.nil)) (C.scons (C.set (.nm 11) (C.bi .dict (C.cons (C.lc [12] (.nm 12) (C.ie (C.k (.str [97, 98, 99]))) (C.tcons true (C.tcmp .gt (C.call 14 (C.cons (C.var 1) (C.cons (C.k (.int 5)) C.nil))) (C.k (.int 0))) (C.tnil true)) (C.tup (C.cons (C.var 12) (C.cons (C.ix (C.lst false (C.cons (C.k (.str [])) (C.cons (C.k (.str [53])) (C.cons (C.k (.str [55, 46, 53])) (C.cons (C.k (.str [45, 50])) (C.cons (C.k (.str [97, 98, 99])) (C.cons (C.k (.str [97, 98, 49])) (C.cons (C.k (.str [65, 66, 67, 68])) (C.cons (C.k (.str [50, 48, 50, 54, 45, 48, 49, 45, 48, 49])) (C.cons (C.k (.str [50, 48, 50, 53, 45, 49, 50, 45, 51, 49])) (C.cons (C.k (.str [50, 48, 50, 54, 45, 48, 49, 45, 48, 50])) C.nil))))))))))) (C.call 14 (C.cons (C.var 1) (C.cons (C.k (.int 10)) C.nil)))) C.nil)))) C.nil))) (C.scons (C.set (.nm 13) (C.lc [10, 14] (.tup [(.nm 10), (.nm 14)]) (C.enum (C.cons (C.var 3) C.nil)) (C.tcons true (C.tnt (C.tv (C.call 20 (C.cons (C.var 14) (C.cons (C.var 11) C.nil))))) (C.tnil true)) (C.var 10))) (C.scons (C.set (.nm 15) (C.lc [10] (.nm 10) (C.ie (C.var 13)) (C.tnil true) (C.tup (C.cons (C.ix (C.ix (C.ix (C.var 3) (C.var 10)) (C.k (.int 1))) (C.k (.int 0))) (C.cons (C.ife (C.tcmp .ne (C.ix (C.ix (C.var 3) (C.var 10)) (C.k (.int 3))) (C.k (.str []))) (C.ix (C.ix (C.var 3) (C.var 10)) (C.k (.int 3))) (C.call 22 (C.cons (C.ix (C.ix (C.var 3) (C.var 10)) (C.k (.int 0))) (C.cons (C.ix (C.ix (C.var 3) (C.var 10)) (C.k (.int 1))) (C.cons (C.ix (C.ix (C.var 3) (C.var 10)) (C.k (.int 2))) C.nil))))) C.nil))))) (C.scons (C.sife (C.tcons false (C.tcmp .ne (C.bi .list (C.cons (C.mc pg 2 (C.var 2) (C.cons (C.var 11) C.nil)) C.nil)) (C.var 13)) (C.tcons false (C.tcmp .ne (C.bi .list (C.cons (C.mc pg 3 (C.var 2) (C.cons (C.var 11) C.nil)) C.nil)) (C.var 15)) (C.tnil false))) (C.scons (C.ret (C.k (.bl false))) C.snil) C.snil) (C.scons (C.sife (C.tcmp .ne (C.lc [14] (.nm 14) (C.ie (C.var 3)) (C.tnil true) (C.call 8 (C.cons (C.var 14) (C.cons (C.var 11) C.nil)))) (C.lc [10] (.nm 10) (C.rng (C.cons (C.bi .len (C.cons (C.var 3) C.nil)) C.nil)) (C.tnil true) (C.cmp .notin (C.var 10) (C.var 13)))) (C.scons (C.ret (C.k (.bl false))) C.snil) C.snil) C.snil))))))
def la4 : C.XS := (C.sife (C.tcmp .ne (C.lc [12] (.nm 12) (C.ie (C.k (.str [97, 98, 99]))) (C.tnil true) (C.bi .list (C.cons (C.mc pg 4 (C.var 2) (C.cons (C.var 12) C.nil)) C.nil))) (C.lc [12] (.nm 12) (C.ie (C.k (.str [97, 98, 99]))) (C.tnil true) (C.lc [10, 14] (.tup [(.nm 10), (.nm 14)]) (C.enum (C.cons (C.var 3) C.nil)) (C.tcons true (C.tcmp .isin (C.var 12) (C.ix (C.var 14) (C.k (.int 1)))) (C.tnil true)) (C.var 10)))) (C.scons (C.ret (C.k (.bl false))) C.snil) C.snil)
def la5 : C.XS := (C.set (.nm 16) (C.lst false C.nil))
def la6 : C.XS := (C.for_ (.tup [(.nm 10), (.nm 14)]) (C.enum (C.cons (C.var 3) C.nil)) (C.scons (C.set (.nm 16) (C.bin .add (C.var 16) (C.lc [17, 18] (.tup [(.nm 17), (.nm 18)]) (C.enum (C.cons (C.var 3) C.nil)) (C.tcons true (C.tcons true (C.tcmp .eq (C.ix (C.var 14) (C.k (.int 1))) (C.ix (C.var 18) (C.k (.int 1)))) (C.tcons true (C.tcmp .isin (C.tup (C.cons (C.ix (C.var 14) (C.k (.int 0))) (C.cons (C.ix (C.var 18) (C.k (.int 0))) C.nil))) (C.lst false (C.cons (C.tup (C.cons (C.k (.str [108, 101, 97, 115, 116])) (C.cons (C.k (.str [109, 111, 115, 116])) C.nil))) (C.cons (C.tup (C.cons (C.k (.str [115, 104, 111, 114, 116])) (C.cons (C.k (.str [108, 111, 110, 103])) C.nil))) C.nil)))) (C.tcons true (C.tcmp .gt (C.call 21 (C.cons (C.var 14) C.nil)) (C.call 21 (C.cons (C.var 18) C.nil))) (C.tnil true)))) (C.tnil true)) (C.tup (C.cons (C.var 10) (C.cons (C.var 17) C.nil)))))) C.snil))
def la7 : C.XS := (C.set (.nm 19) (C.lc [10, 14] (.tup [(.nm 10), (.nm 14)]) (C.enum (C.cons (C.var 3) C.nil)) (C.tcons true (C.tcmp .ne (C.lc [20] (.nm 20) (C.ie (C.sl (C.var 3) true C.nop false (C.var 10))) (C.tcons true (C.tcons true (C.tcmp .eq (C.sl (C.var 20) true C.nop false (C.k (.int 2))) (C.sl (C.var 14) true C.nop false (C.k (.int 2)))) (C.tcons true (C.tv (C.call 23 (C.cons (C.var 20) (C.cons (C.var 14) C.nil)))) (C.tnil true))) (C.tnil true)) (C.var 20)) (C.lst false C.nil)) (C.tnil true)) (C.var 10)))
def la8 : C.XS := (C.sife (C.tcons false (C.tcmp .ne (C.bi .list (C.cons (C.mc pg 6 (C.var 2) C.nil) C.nil)) (C.var 16)) (C.tcons false (C.tcmp .ne (C.bi .list (C.cons (C.mc pg 5 (C.var 2) C.nil) C.nil)) (C.var 19)) (C.tnil false))) (C.scons (C.ret (C.k (.bl false))) C.snil) C.snil)
def laB : C.XS := (C.scons la0 (C.scons la1 (C.scons la2 (C.scons la3 (C.scons la4 (C.scons la5 (C.scons la6 (C.scons la7 (C.scons la8 C.snil)))))))))
def laT0 : C.XS := (C.scons la0 (C.scons la1 (C.scons la2 (C.scons la3 (C.scons la4 (C.scons la5 (C.scons la6 (C.scons la7 (C.scons la8 C.snil)))))))))
def laT1 : C.XS := (C.scons la1 (C.scons la2 (C.scons la3 (C.scons la4 (C.scons la5 (C.scons la6 (C.scons la7 (C.scons la8 C.snil))))))))
def laT2 : C.XS := (C.scons la2 (C.scons la3 (C.scons la4 (C.scons la5 (C.scons la6 (C.scons la7 (C.scons la8 C.snil)))))))
def laT3 : C.XS := (C.scons la3 (C.scons la4 (C.scons la5 (C.scons la6 (C.scons la7 (C.scons la8 C.snil))))))
def laT4 : C.XS := (C.scons la4 (C.scons la5 (C.scons la6 (C.scons la7 (C.scons la8 C.snil)))))
def laT5 : C.XS := (C.scons la5 (C.scons la6 (C.scons la7 (C.scons la8 C.snil))))
def laT6 : C.XS := (C.scons la6 (C.scons la7 (C.scons la8 C.snil)))
def laT7 : C.XS := (C.scons la7 (C.scons la8 C.snil))
def laT8 : C.XS := (C.scons la8 C.snil)

/-- rules that stand in a list -/
def OkL (L : List RT) : Prop := ∀ x ∈ L, goodB x.1 = true ∧ x.2 ∈ [[], NO]
section
variable (s0 s10 s11 s12 s13 s14 s15 s16 s17 s18 s19 s20 : Option FS.D) (q : MH)
theorem steps_ok : ∀ (n : Nat) (lo : Int) (L : List RT), OkL L → L.length + n ≤ 12 → ∀ (s4 s5 s6 s7 s8 s9 : Option FS.D) (a b c : Int), ∃ L', OkL L' ∧ L'.length ≤ L.length + n ∧ ∃ y4 y5 y6 y7 y8 y9 a' b' c',
    FS.forM (fun x fr1 h2 => match asg (.nm 4) x fr1 with
      | some fr2 => lbB (callC ct 20) [] fr2 h2
      | none => .stk) (plW (intsFrom lo n)) (FG s0 (.lst (L.map rowT)) s4 s5 s6 s7 s8 s9 s10 s11 s12 s13 s14 s15 s16 s17 s18 s19 s20) (dh a b c (.ins 0 [(7, .ref 2)] :: .lst (L.map rowT) :: q)) =
    .nx (FG s0 (.lst (L'.map rowT)) y4 y5 y6 y7 y8 y9 s10 s11 s12 s13 s14 s15 s16 s17 s18 s19 s20) (dh a' b' c' (.ins 0 [(7, .ref 2)] :: .lst (L'.map rowT) :: q))
  | 0, lo, L, hL, hl, s4, s5, s6, s7, s8, s9, a, b, c => ⟨L, hL, Nat.le_refl _, s4, s5, s6, s7, s8, s9, a, b, c, rfl⟩
  | n + 1, lo, L, hL, hl, s4, s5, s6, s7, s8, s9, a, b, c => by
    obtain ⟨r, hr, t, ht, y5, y6, y7, y8, y9, a1, b1, c1, e⟩ := step_ok s0 (some (.int lo)) s5 s6 s7 s8 s9 s10 s11 s12 s13 s14 s15 s16 s17 s18 s19 s20 a b c q L (by omega)
    have h1 : OkL (if goodB r then L ++ [(r, t)] else L) ∧ (if goodB r then L ++ [(r, t)] else L).length ≤ L.length + 1 := by
      cases hg : goodB r with
      | true =>
        refine ⟨fun x hx => ?_, by rw [if_pos rfl, List.length_append]; exact Nat.le_refl _⟩
        rw [if_pos rfl] at hx
        rcases List.mem_append.mp hx with hx | hx
        · exact hL x hx
        · rw [List.mem_singleton.mp hx]
          exact ⟨hg, ht⟩
      | false =>
        refine ⟨fun x hx => ?_, by rw [if_neg Bool.false_ne_true]; exact Nat.le_succ _⟩
        rw [if_neg Bool.false_ne_true] at hx
        exact hL x hx
    generalize (if goodB r then L ++ [(r, t)] else L) = L1 at e h1
    obtain ⟨L', g1, g2, z4, z5, z6, z7, z8, z9, a2, b2, c2, e2⟩ := steps_ok n (lo + 1) L1 h1.1 (by have := h1.2; omega) (some (.int lo)) y5 y6 y7 y8 y9 a1 b1 c1
    refine ⟨L', g1, by have := h1.2; omega, z4, z5, z6, z7, z8, z9, a2, b2, c2, ?_⟩
    have f : FS.forM (fun x fr1 h2 => match asg (.nm 4) x fr1 with
        | some fr2 => lbB (callC ct 20) [] fr2 h2
        | none => .stk) (plW (intsFrom lo (n + 1))) (FG s0 (.lst (L.map rowT)) s4 s5 s6 s7 s8 s9 s10 s11 s12 s13 s14 s15 s16 s17 s18 s19 s20) (dh a b c (.ins 0 [(7, .ref 2)] :: .lst (L.map rowT) :: q)) =
        (match lbB (callC ct 20) [] (FG s0 (.lst (L.map rowT)) (some (.int lo)) s5 s6 s7 s8 s9 s10 s11 s12 s13 s14 s15 s16 s17 s18 s19 s20) (dh a b c (.ins 0 [(7, .ref 2)] :: .lst (L.map rowT) :: q)) with
        | .nx fr1 h1 => FS.forM (fun x fr1 h2 => match asg (.nm 4) x fr1 with
          | some fr2 => lbB (callC ct 20) [] fr2 h2
          | none => .stk) (plW (intsFrom (lo + 1) n)) fr1 h1
        | .cnt fr1 h1 => FS.forM (fun x fr1 h2 => match asg (.nm 4) x fr1 with
          | some fr2 => lbB (callC ct 20) [] fr2 h2
          | none => .stk) (plW (intsFrom (lo + 1) n)) fr1 h1
        | .brk fr1 h1 => .nx fr1 h1
        | r => r) := rfl
    rw [f, e]
    exact e2
/-- the loop over steps -/
theorem la1_ok (a b c : Int) (s4 s5 s6 s7 s8 s9 : Option FS.D) : ∃ L, OkL L ∧ L.length ≤ 11 ∧ ∃ y4 y5 y6 y7 y8 y9 a' b' c', la1 (callC ct 20) [] (FG s0 (.lst []) s4 s5 s6 s7 s8 s9 s10 s11 s12 s13 s14 s15 s16 s17 s18 s19 s20) (dh a b c (.ins 0 [(7, .ref 2)] :: .lst [] :: q)) =
    .nx (FG s0 (.lst (L.map rowT)) y4 y5 y6 y7 y8 y9 s10 s11 s12 s13 s14 s15 s16 s17 s18 s19 s20) (dh a' b' c' (.ins 0 [(7, .ref 2)] :: .lst (L.map rowT) :: q)) := by
  obtain ⟨n, a1, b1, c1, e1, hn⟩ := rollN 19 a b c 12 (by omega) (by omega)
  obtain ⟨L, h1, h2, y4, y5, y6, y7, y8, y9, a2, b2, c2, e2⟩ := steps_ok s0 s10 s11 s12 s13 s14 s15 s16 s17 s18 s19 s20 q n 0 [] (fun x hx => by cases hx) (by show 0 + n ≤ 12; omega) s4 s5 s6 s7 s8 s9 a1 b1 c1
  refine ⟨L, h1, by have : ([] : List RT).length = 0 := rfl; omega, y4, y5, y6, y7, y8, y9, a2, b2, c2, ?_⟩
  have er : C.rng (C.cons (C.call 14 (C.cons (C.var 1) (C.cons (C.k (.int 12)) C.nil))) C.nil) (callC ct 20) [] (FG s0 (.lst []) s4 s5 s6 s7 s8 s9 s10 s11 s12 s13 s14 s15 s16 s17 s18 s19 s20) (dh a b c (.ins 0 [(7, .ref 2)] :: .lst [] :: q)) = .ok (plW (intsFrom 0 n)) (dh a1 b1 c1 (.ins 0 [(7, .ref 2)] :: .lst [] :: q)) := by
    unfold C.rng
    rw [ev_cons (ev_call (xs := [.ref 0, .int ((12 : Nat) : Int)]) (h1 := dh a b c (.ins 0 [(7, .ref 2)] :: .lst [] :: q)) rfl (e1 _ _)) rfl]
    show R.opt (dh a1 b1 c1 (.ins 0 [(7, .ref 2)] :: .lst [] :: q)) ((if (rngOk (n : Int) && Nat.ble (n : Int).toNat line) = true then some (intsFrom 0 (n : Int).toNat) else none).map plW) = _
    have ok : rngOk (n : Int) = true := by
      unfold rngOk
      rw [decide_eq_true (by omega), decide_eq_true (by omega)]
      rfl
    rw [ok, Int.toNat_natCast, Nat.ble_eq_true_of_le (Nat.le_trans (show n ≤ 12 by omega) (by decide))]
    rfl
  have f : la1 = C.for_ (.nm 4) (C.rng (C.cons (C.call 14 (C.cons (C.var 1) (C.cons (C.k (.int 12)) C.nil))) C.nil)) lbB := rfl
  rw [f]
  unfold C.for_
  rw [er]
  exact e2
end
end K03

-- text K03S
set_option Elab.async false
set_option linter.all false
set_option maxRecDepth 100000
set_option maxHeartbeats 0
namespace K03
open PySem FS
/-! the rows are the law's own -/
theorem rowsP (h : MH) : (GOOD.map fun r => [[], NO].map fun t => (resD 59 h (rowT (r, t)), shp 59 (rowT (r, t)), deq (rowT (r, t)) (rowT (r, t)))) = GOOD.map fun r => [[], NO].map fun t => (rowT (r, t), true, true) := by
  kernel_rfl
theorem row_p {x : RT} (hx : goodB x.1 = true ∧ x.2 ∈ [[], NO]) (h : MH) : resD 59 h (rowT x) = rowT x ∧ shp 59 (rowT x) = true ∧ deq (rowT x) (rowT x) = true := by
  have hg : x.1 ∈ GOOD := by
    have := hx.1
    unfold goodB at this
    simpa using this
  have e := map_at (map_at (rowsP h) x.1 hg) x.2 hx.2
  obtain ⟨e1, e2⟩ := Prod.mk.inj e
  obtain ⟨e3, e4⟩ := Prod.mk.inj e2
  exact ⟨e1, e3, e4⟩
theorem list_p : ∀ {L : List RT}, OkL L → ∀ h : MH, (L.map rowT).map (resD 59 h) = L.map rowT ∧ shps 59 (L.map rowT) = true ∧ deqs (L.map rowT) (L.map rowT) = true
  | [], _, h => ⟨rfl, by unfold shps; rfl, by unfold deqs; rfl⟩
  | x :: L, hL, h => by
    obtain ⟨p1, p2, p3⟩ := row_p (hL x List.mem_cons_self) h
    obtain ⟨q1, q2, q3⟩ := list_p (L := L) (fun y hy => hL y (List.mem_cons_of_mem _ hy)) h
    refine ⟨?_, ?_, ?_⟩
    · rw [List.map_cons, List.map_cons, p1, q1]
    · rw [List.map_cons]
      unfold shps
      rw [p2, q2]
      rfl
    · rw [List.map_cons]
      unfold deqs
      rw [p3, q3]
      rfl
theorem eq_rows {L : List RT} (hL : OkL L) (a b c : Int) (q : MH) : eqOpt (dh a b c (.ins 0 [(7, .ref 2)] :: .lst (L.map rowT) :: q)) (.ref 2) (.lst (L.map rowT)) = some true := by
  obtain ⟨p1, p2, p3⟩ := list_p hL (dh a b c (.ins 0 [(7, .ref 2)] :: .lst (L.map rowT) :: q))
  have e1 : resD 60 (dh a b c (.ins 0 [(7, .ref 2)] :: .lst (L.map rowT) :: q)) (.ref 2) = .lst (L.map rowT) := by
    show FS.D.lst ((L.map rowT).map (resD 59 _)) = _
    rw [p1]
  have e2 : resD 60 (dh a b c (.ins 0 [(7, .ref 2)] :: .lst (L.map rowT) :: q)) (.lst (L.map rowT)) = .lst (L.map rowT) := by
    show FS.D.lst ((L.map rowT).map (resD 59 _)) = _
    rw [p1]
  unfold eqOpt
  rw [if_neg (by show ¬ (false && false) = true; decide), e1, e2]
  have e3 : shp 60 (.lst (L.map rowT)) = true := p2
  have e4 : deq (.lst (L.map rowT)) (.lst (L.map rowT)) = true := by
    unfold deq
    exact p3
  rw [e3, e4]
  rfl
section
variable (s0 s4 s5 s6 s7 s8 s9 s10 s11 s12 s13 s14 s15 s16 s17 s18 s19 s20 : Option FS.D) (a b c : Int) (q : MH)
theorem la2_ok {L : List RT} (hL : OkL L) (r : C.XS) : C.scons la2 r (callC ct 20) [] (FG s0 (.lst (L.map rowT)) s4 s5 s6 s7 s8 s9 s10 s11 s12 s13 s14 s15 s16 s17 s18 s19 s20) (dh a b c (.ins 0 [(7, .ref 2)] :: .lst (L.map rowT) :: q)) =
    r (callC ct 20) [] (FG s0 (.lst (L.map rowT)) s4 s5 s6 s7 s8 s9 s10 s11 s12 s13 s14 s15 s16 s17 s18 s19 s20) (dh a b c (.ins 0 [(7, .ref 2)] :: .lst (L.map rowT) :: q)) := by
  refine st_no (ev_cmpT (op := .ne) (x := .ref 2) (y := .lst (L.map rowT)) (r := false) rfl rfl ?_) rfl
  show (eqOpt _ _ _).map not = _
  rw [eq_rows hL]
  rfl
end
end K03

-- text K03W
set_option Elab.async false
set_option linter.all false
set_option maxRecDepth 100000
set_option maxHeartbeats 0
namespace K03
open PySem FS
/-! rules by pairs -/
/-- whether the first makes the other needless -/
def needB (r u : Row) : Bool := blR (callC ct 12 (.fn 11) [] [rowD r (.str []), rowD u (.str [])] [])
theorem needP (k : Nat) (o : List Fr) (h : MH) (t s : FS.D) : (GOOD.map fun r => GOOD.map fun u => callC ct (k + 12) (.fn 11) o [rowD r t, rowD u s] h) = GOOD.map fun r => GOOD.map fun u => FS.R.ok (.bl (needB r u)) h := by
  kernel_rfl
/-- of the same way and names -/
def sameB (r u : Row) : Bool := r.1 == u.1 && r.2.1 == u.2.1
theorem needS (k : Nat) (o : List Fr) (h : MH) (t s : FS.D) : (GOOD.map fun r => (GOOD.filter (sameB r)).map fun u => callC ct (k + 12) (.fn 23) o [rowD r t, rowD u s] h) = GOOD.map fun r => (GOOD.filter (sameB r)).map fun u => FS.R.ok (.bl (needB r u)) h := by
  kernel_rfl
theorem needN : (GOOD.all fun r => GOOD.all fun u => sameB r u || !needB r u) = true := by decide +kernel
end K03

-- text K03Y
set_option Elab.async false
set_option linter.all false
set_option maxRecDepth 100000
set_option maxHeartbeats 0
namespace K03
open PySem FS
section
variable {cf : CF} {o : List Fr} {fr fr1 : Fr} {h h1 : MH}
theorem fn_ret {k f : Nat} {F : Fn} {c : C.XS} {xs : List FS.D} {v : FS.D} (hF : pg.fns[f]? = some F) (hc : ct.fc[f]? = some c) (ha : xs.length = F.ar) (hl : F.lamf = false) (e : c (callC ct k) o (xs.map some ++ List.replicate (F.nl - F.ar) none) h = .ret v h1) (hd : F.dfl = [] := by rfl) : callC ct (k + 1) (.fn f) o xs h = .ok v h1 := by
  unfold callC
  have hF' : ct.g.fns[f]? = some F := hF
  rw [hF', hc]
  simp only [hd, ha, List.drop_nil, List.append_nil, hl, Bool.false_and, List.length_nil, Nat.add_zero, Nat.le_refl, and_self, if_true]
  rw [e]
  rfl
theorem tc_chn {op op2 : Cop} {a b c : C.XE} {x y z : FS.D} {p q : Bool} (ea : a cf o fr h = .ok x h) (eb : b cf o fr h = .ok y h) (ec : c cf o fr h = .ok z h) (e1 : cmpV op x y h = some p) (e2 : cmpV op2 y z h = some q) : C.tchn op op2 a b c cf o fr h = .ok (p && q) h := by
  unfold C.tchn
  rw [ea]
  simp only [R.bind, eb, e1]
  cases p with
  | false => rfl
  | true =>
    simp only [ec, e2]
    rfl
theorem ev_sl {a lo hi : C.XE} {n1 n2 : Bool} {x l u : FS.D} {l2 u2 : Option Int} {r : FS.D} (ea : a cf o fr h = .ok x h1) (el : lo cf o fr h1 = .ok l h1) (ol : opE n1 l = some l2) (eu : hi cf o fr h1 = .ok u h1) (ou : opE n2 u = some u2) (es : slV x l2 u2 h1 = some r) : C.sl a n1 lo n2 hi cf o fr h = .ok r h1 := by
  unfold C.sl
  rw [ea]
  simp only [R.bind, el, ol, eu, ou, es]
  rfl
end
/-- the dice of a cell -/
theorem law_dice (k : Nat) (n : Int) : ∃ a b c, ∀ o : List Fr, callC ct (k + 1) (.fn 13) o [.int n] [] = .ok (.ref 0) (dh a b c []) := by
  have t : ∀ o, C.tchn .lt .lt (C.bin .sub (C.k (.int 0)) (C.k (.int 10))) (C.var 0) (C.k (.int 10)) (callC ct k) o [some (.int n)] [] = .ok (decide ((-10 : Int) < n) && decide (n < 10)) [] := fun o => tc_chn (x := .int (-10)) rfl rfl rfl rfl rfl
  cases hb : (decide ((-10 : Int) < n) && decide (n < 10)) with
  | true =>
    simp only [hb] at t
    refine ⟨if n < 0 then -n else n, 0, 2, fun o => fn_ret (F := f__law_dice) rfl rfl rfl rfl ?_⟩
    show c__law_dice (callC ct k) o [some (.int n)] [] = _
    unfold c__law_dice
    exact st_yes (t o) rfl
  | false =>
    simp only [hb] at t
    refine ⟨n, 1 + n % 1009, b2i (decide ((10 : Int) ^ 18 ≤ n)), fun o => fn_ret (F := f__law_dice) rfl rfl rfl rfl ?_⟩
    show c__law_dice (callC ct k) o [some (.int n)] [] = _
    unfold c__law_dice
    rw [st_no (t o) rfl]
    rfl
theorem law_rounds (k : Nat) (ns : List Int) (d : FS.D) (hd : d = .lst (ns.map fun n => FS.D.int n) ∨ d = .frl (ns.map fun n => FS.D.int n)) (o : List Fr) : ∃ a b c, callC ct (k + 2) (.fn 15) o [d, .int 1] [] = .ok (.lst [.ref 0]) (dh a b c []) := by
  obtain ⟨n, en⟩ : ∃ n : Int, (ns = [] ∧ n = 0) ∨ ∃ r, ns = n :: r := by
    cases ns with
    | nil => exact ⟨0, .inl ⟨rfl, rfl⟩⟩
    | cons n r => exact ⟨n, .inr ⟨r, rfl⟩⟩
  obtain ⟨a, b, c, e⟩ := law_dice k n
  refine ⟨a, b, c, fn_ret (F := f__law_rounds) rfl rfl rfl rfl ?_⟩
  show c__law_rounds (callC ct (k + 1)) o [some d, some (.int 1), none, none] [] = _
  unfold c__law_rounds
  have last : (C.scons (C.ret (C.lc [3] (.nm 3) (C.ie (C.var 2)) (C.tnil true) (C.call 13 (C.cons (C.var 3) C.nil)))) C.snil) (callC ct (k + 1)) o [some d, some (.int 1), some (.lst [.int n]), none] [] = .ret (.lst [.ref 0]) (dh a b c []) := by
    refine st_ret (st_retE ?_)
    have e2 : C.call 13 (C.cons (C.var 3) C.nil) (callC ct (k + 1)) ([some d, some (.int 1), some (.lst [.int n]), none] :: o) [some d, some (.int 1), some (.lst [.int n]), some (.int n)] [] = .ok (.ref 0) (dh a b c []) := ev_call (ev_cons rfl rfl) (e _)
    have g : ∀ (f : FS.D → MH → FS.R (Option FS.D)), f (.int n) [] = .ok (some (.ref 0)) (dh a b c []) → mapW f (plW [.int n]) [] = .ok [.ref 0] (dh a b c []) := by
      intro f hf
      unfold plW mapW
      show (f (.int n) []).bind _ = _
      rw [hf]
      rfl
    unfold C.lc
    show (if Nat.ble 2 line = true then ((mapW _ (plW [FS.D.int n]) []).bind fun ys h5 => R.ok (FS.D.lst ys) h5) else .stk) = _
    rw [if_pos (by rfl), g]
    · rfl
    · show ((C.call 13 (C.cons (C.var 3) C.nil) (callC ct (k + 1)) ([some d, some (.int 1), some (.lst [.int n]), none] :: o) [some d, some (.int 1), some (.lst [.int n]), some (.int n)] []).noX.bind fun y h4 => R.ok (some y) h4) = _
      rw [e2]
      rfl
  rcases en with ⟨rfl, rfl⟩ | ⟨r, rfl⟩
  · have s1 : C.set (.nm 2) (C.sl (C.var 0) true C.nop false (C.var 1)) (callC ct (k + 1)) o [some d, some (.int 1), none, none] [] = .nx [some d, some (.int 1), some (.lst []), none] [] := by
      rcases hd with rfl | rfl <;> rfl
    rw [st_nx s1]
    rw [st_in (h1 := []) (fr1 := [some d, some (.int 1), some (.lst [.int 0]), none]) (h2 := []) rfl rfl]
    exact last
  · have ec : cut ((n :: r).map fun n => FS.D.int n) none (some 1) = [.int n] := by
      have q : sIx ((n :: r).map fun n => FS.D.int n).length ((n :: r).map fun n => FS.D.int n).length (some 1) = 1 := by
        show (if (1 : Int) < 0 then ((1 : Int) + (((n :: r).map fun n => FS.D.int n).length : Int)).toNat else min (1 : Int).toNat ((n :: r).map fun n => FS.D.int n).length) = 1
        rw [if_neg (by decide), List.length_map, List.length_cons]
        show min 1 (r.length + 1) = 1
        omega
      unfold cut
      rw [q]
      rfl
    have s1 : C.set (.nm 2) (C.sl (C.var 0) true C.nop false (C.var 1)) (callC ct (k + 1)) o [some d, some (.int 1), none, none] [] = .nx [some d, some (.int 1), some (.lst [.int n]), none] [] := by
      refine st_set (v := .lst [.int n]) ?_ rfl
      refine ev_sl (x := d) (l := .non) (u := .int 1) (h1 := []) rfl rfl rfl rfl rfl ?_
      rcases hd with rfl | rfl
      · show some (FS.D.lst (cut ((n :: r).map fun n => FS.D.int n) none (some 1))) = _
        rw [ec]
      · show some (FS.D.lst (cut ((n :: r).map fun n => FS.D.int n) none (some 1))) = _
        rw [ec]
    rw [st_nx s1]
    rw [st_no (h1 := []) rfl rfl]
    exact last
end K03

-- text K03L
set_option Elab.async false
set_option linter.all false
set_option maxRecDepth 100000
set_option maxHeartbeats 0
namespace K03
open PySem FS
/-! answers, and what a rule finds in them -/
def OPT (n : List Nat) (z : Kv) : Prop := z = [] ∨ ∃ v ∈ TXT, z = [(.str n, .str v)]
def Kvs (kvs : Kv) : Prop := ∃ za zb zc, OPT tA za ∧ OPT tB zb ∧ OPT tC zc ∧ kvs = za ++ (zb ++ zc)
theorem good_mem {r : Row} (h : goodB r = true) : r ∈ GOOD := by
  unfold goodB at h
  simpa using h
theorem OPT.tail {n : List Nat} {z : Kv} (h : OPT n z) : ∃ y : FS.D, z = [] ∨ z = [(.str n, y)] := by
  rcases h with rfl | ⟨v, _, rfl⟩
  · exact ⟨.non, .inl rfl⟩
  · exact ⟨_, .inr rfl⟩
theorem ev_all {r : Row} (hr : r ∈ GOOD) {kvs : Kv} (hk : Kvs kvs) (k : Nat) (o : List Fr) (F F2 : Fr) (h : MH) (t : FS.D) : evP k o F F2 h t r kvs = duP h r kvs := by
  obtain ⟨za, zb, zc, ha, hb, hc, rfl⟩ := hk
  unfold GOOD at hr
  rcases List.mem_append.mp hr with hr | hr
  · rcases ha with rfl | ⟨v, hv, rfl⟩
    · obtain ⟨y, hb⟩ := hb.tail
      obtain ⟨z, hc⟩ := hc.tail
      have e := map_at (noA k o F F2 h t y z) r hr
      rcases hb with rfl | rfl <;> rcases hc with rfl | rfl
      · exact map_at e [] (by simp)
      · exact map_at e [(.str tC, z)] (by simp)
      · exact map_at e [(.str tB, y)] (by simp)
      · exact map_at e [(.str tB, y), (.str tC, z)] (by simp)
    · exact map_at (map_at (oneA k o F F2 h t (zb ++ zc)) r hr) v hv
  rcases List.mem_append.mp hr with hr | hr
  · obtain ⟨x, ha⟩ := ha.tail
    rcases hb with rfl | ⟨v, hv, rfl⟩
    · obtain ⟨z, hc⟩ := hc.tail
      have e := map_at (noB k o F F2 h t x z) r hr
      rcases ha with rfl | rfl <;> rcases hc with rfl | rfl
      · exact map_at e [] (by simp)
      · exact map_at e [(.str tC, z)] (by simp)
      · exact map_at e [(.str tA, x)] (by simp)
      · exact map_at e [(.str tA, x), (.str tC, z)] (by simp)
    · have e := map_at (map_at (oneB k o F F2 h t x zc) r hr) v hv
      rcases ha with rfl | rfl
      · exact map_at e ((.str tB, .str v) :: zc) (by simp)
      · exact map_at e ((.str tA, x) :: (.str tB, .str v) :: zc) (by simp)
  rcases List.mem_append.mp hr with hr | hr
  · obtain ⟨z, hc⟩ := hc.tail
    have hz : zc ∈ RC z := by
      unfold RC
      rcases hc with rfl | rfl <;> simp
    rcases ha with rfl | ⟨v, hv, rfl⟩ <;> rcases hb with rfl | ⟨w, hw, rfl⟩
    · exact map_at (map_at (two0 k o F F2 h t z) r hr) _ hz
    · exact map_at (map_at (map_at (twoB k o F F2 h t z) r hr) w hw) _ hz
    · exact map_at (map_at (map_at (twoA k o F F2 h t z) r hr) v hv) _ hz
    · exact map_at (map_at (map_at (two k o F F2 h t zc) r hr) v hv) w hw
  · have op : ∀ {n : List Nat} {z : Kv}, OPT n z → ∃ x xs, z ∈ OP n x xs := by
      intro n z h
      rcases h with rfl | ⟨v, _, rfl⟩
      · exact ⟨0, [], by simp [OP]⟩
      · cases v with
        | nil => exact ⟨0, [], by simp [OP]⟩
        | cons x xs => exact ⟨x, xs, by simp [OP]⟩
    obtain ⟨x, xs, ha⟩ := op ha
    obtain ⟨y, ys, hb⟩ := op hb
    obtain ⟨z, zs, hc⟩ := op hc
    exact map_at (map_at (map_at (map_at (some_ k o F F2 h t x y z xs ys zs) r hr) _ ha) _ hb) _ hc
theorem holds8 {x : RT} (hx : goodB x.1 = true) {kvs : Kv} (hk : Kvs kvs) (k : Nat) (o : List Fr) (h : MH) : callC ct (k + 12) (.fn 8) o [rowT x, .dic kvs] h = .ok (.bl (hB x.1 kvs)) h :=
  (Prod.mk.inj (ev_all (good_mem hx) hk k o [] [] h (.str x.2))).1
theorem holds20 {x : RT} (hx : goodB x.1 = true) {kvs : Kv} (hk : Kvs kvs) (k : Nat) (F F2 : Fr) (h : MH) : callC ct (k + 12) (.fn 20) [F, F2] [rowT x, .dic kvs] h = .ok (.bl (hB x.1 kvs)) h :=
  (Prod.mk.inj (ev_all (good_mem hx) hk k [] F F2 h (.str x.2))).2
theorem words12 {r : Row} (hr : goodB r = true) (k : Nat) (o : List Fr) (h : MH) : callC ct (k + 12) (.fn 12) o [.str r.1, nsD r.2.1, .str r.2.2] h = .ok (.str (wordsB r)) h :=
  (Prod.mk.inj (map_at (words k o h) r (good_mem hr))).1
theorem words22 {r : Row} (hr : goodB r = true) (k : Nat) (o : List Fr) (h : MH) : callC ct (k + 12) (.fn 22) o [.str r.1, nsD r.2.1, .str r.2.2] h = .ok (.str (wordsB r)) h :=
  (Prod.mk.inj (map_at (words k o h) r (good_mem hr))).2
/-- a rule's first name -/
def hd (r : Row) : List Nat := r.2.1.headD []
theorem hdP (h : MH) : (GOOD.map fun r => ixV (nsD r.2.1) (.int 0) h) = GOOD.map fun r => some (.str (hd r)) := by
  kernel_rfl
theorem wordsS : (GOOD.all fun r => (wordsB r).all (fun c => Nat.blt c 1114112) && (hd r).all (fun c => Nat.blt c 1114112)) = true := by
  decide +kernel
/-! ### the frame, the heap -/
def FI (p : Nat → Option FS.D) (own : FS.D) (s10 s11 s12 s13 s14 s15 : Option FS.D) : Fr :=
  [p 0, some (.ref 0), some (.ref 1), some own, p 4, p 5, p 6, p 7, p 8, p 9, s10, s11, s12, s13, s14, s15, p 16, p 17, p 18, p 19, p 20]
/-- the heap: dice, rules, their rows, the rest -/
def hx (a b c : Int) (L : List RT) (q : MH) : MH := dh a b c (.ins 0 [(7, .ref 2)] :: .lst (L.map rowT) :: q)

/-! ### answers are drawn -/
def lc0 : C.XS := (C.set (.nm 11) (C.bi .dict (C.cons (C.lc [12] (.nm 12) (C.ie (C.k (.str [97, 98, 99]))) (C.tcons true (C.tcmp .gt (C.call 14 (C.cons (C.var 1) (C.cons (C.k (.int 5)) C.nil))) (C.k (.int 0))) (C.tnil true)) (C.tup (C.cons (C.var 12) (C.cons (C.ix (C.lst false (C.cons (C.k (.str [])) (C.cons (C.k (.str [53])) (C.cons (C.k (.str [55, 46, 53])) (C.cons (C.k (.str [45, 50])) (C.cons (C.k (.str [97, 98, 99])) (C.cons (C.k (.str [97, 98, 49])) (C.cons (C.k (.str [65, 66, 67, 68])) (C.cons (C.k (.str [50, 48, 50, 54, 45, 48, 49, 45, 48, 49])) (C.cons (C.k (.str [50, 48, 50, 53, 45, 49, 50, 45, 51, 49])) (C.cons (C.k (.str [50, 48, 50, 54, 45, 48, 49, 45, 48, 50])) C.nil))))))))))) (C.call 14 (C.cons (C.var 1) (C.cons (C.k (.int 10)) C.nil)))) C.nil)))) C.nil)))
def pkI : C.XB := C.tcons true (C.tcmp .gt (C.call 14 (C.cons (C.var 1) (C.cons (C.k (.int 5)) C.nil))) (C.k (.int 0))) (C.tnil true)
def pkM : C.XE := C.lst false (C.cons (C.k (.str [])) (C.cons (C.k (.str [53])) (C.cons (C.k (.str [55, 46, 53])) (C.cons (C.k (.str [45, 50])) (C.cons (C.k (.str [97, 98, 99])) (C.cons (C.k (.str [97, 98, 49])) (C.cons (C.k (.str [65, 66, 67, 68])) (C.cons (C.k (.str [50, 48, 50, 54, 45, 48, 49, 45, 48, 49])) (C.cons (C.k (.str [50, 48, 50, 53, 45, 49, 50, 45, 51, 49])) (C.cons (C.k (.str [50, 48, 50, 54, 45, 48, 49, 45, 48, 50])) C.nil))))))))))
def pkE : C.XE := C.tup (C.cons (C.var 12) (C.cons (C.ix pkM (C.call 14 (C.cons (C.var 1) (C.cons (C.k (.int 10)) C.nil)))) C.nil))
theorem lc0_eq : lc0 = C.set (.nm 11) (C.bi .dict (C.cons (C.lc [12] (.nm 12) (C.ie (C.k (.str [97, 98, 99]))) pkI pkE) C.nil)) := rfl
def optR : Kv → Option FS.D
  | [] => none
  | p :: _ => some (.tup [p.1, p.2])
section
variable (p : Nat → Option FS.D) (own : FS.D) (s10 s11 s12 s13 s14 s15 : Option FS.D)
theorem pick (nm : List Nat) (a b c : Int) (q : MH) : ∃ z, OPT nm z ∧ ∃ a' b' c', (pkI (callC ct 20) [FI p own s10 s11 s12 s13 s14 s15] (FI p own s10 s11 (some (.str nm)) s13 s14 s15) (dh a b c q)).noX.bind (fun b h3 => (match b with
    | true => (pkE (callC ct 20) [FI p own s10 s11 s12 s13 s14 s15] (FI p own s10 s11 (some (.str nm)) s13 s14 s15) h3).noX.bind fun y h4 => .ok (some y) h4
    | false => .ok none h3)) = .ok (optR z) (dh a' b' c' q) := by
  obtain ⟨r, a1, b1, c1, e1, hr⟩ := rollN 19 a b c 5 (by omega) (by omega)
  have e2 : pkI (callC ct 20) [FI p own s10 s11 s12 s13 s14 s15] (FI p own s10 s11 (some (.str nm)) s13 s14 s15) (dh a b c q) = .ok (decide ((0 : Int) < r)) (dh a1 b1 c1 q) := by
    unfold pkI C.tcons
    rw [ev_cmpT (x := .int r) (y := .int 0) (h1 := dh a1 b1 c1 q) (r := decide ((0 : Int) < r)) (ev_call (xs := [.ref 0, .int ((5 : Nat) : Int)]) (h1 := dh a b c q) rfl (e1 _ _)) rfl rfl]
    cases decide ((0 : Int) < r) <;> rfl
  rw [e2]
  cases decide ((0 : Int) < r) with
  | false => exact ⟨[], .inl rfl, a1, b1, c1, rfl⟩
  | true =>
    obtain ⟨x, hx, a2, b2, c2, e3⟩ := menuD (k := 19) (i := 1) (TXT.map .str) (by decide) (by decide) (E := pkM) (o := [FI p own s10 s11 s12 s13 s14 s15]) (fr := FI p own s10 s11 (some (.str nm)) s13 s14 s15) (a := a1) (b := b1) (c := c1) (q := q) rfl rfl
    obtain ⟨v, hv, rfl⟩ := List.mem_map.mp hx
    refine ⟨[(.str nm, .str v)], .inr ⟨v, hv, rfl⟩, a2, b2, c2, ?_⟩
    have e4 : pkE (callC ct 20) [FI p own s10 s11 s12 s13 s14 s15] (FI p own s10 s11 (some (.str nm)) s13 s14 s15) (dh a1 b1 c1 q) = .ok (.tup [.str nm, .str v]) (dh a2 b2 c2 q) :=
      ev_tup (ev_cons (h1 := dh a1 b1 c1 q) rfl (ev_cons e3 rfl))
    simp only [R.noX, R.bind]
    rw [e4]
    rfl
theorem lc0_ok (a b c : Int) (q : MH) : ∃ kvs, Kvs kvs ∧ ∃ a' b' c', lc0 (callC ct 20) [] (FI p own s10 s11 s12 s13 s14 s15) (dh a b c q) = .nx (FI p own s10 (some (.dic kvs)) s12 s13 s14 s15) (dh a' b' c' q) := by
  obtain ⟨za, ha, a1, b1, c1, e1⟩ := pick p own s10 s11 s12 s13 s14 s15 tA a b c q
  obtain ⟨zb, hb, a2, b2, c2, e2⟩ := pick p own s10 s11 s12 s13 s14 s15 tB a1 b1 c1 q
  obtain ⟨zc, hc, a3, b3, c3, e3⟩ := pick p own s10 s11 s12 s13 s14 s15 tC a2 b2 c2 q
  refine ⟨za ++ (zb ++ zc), ⟨za, zb, zc, ha, hb, hc, rfl⟩, a3, b3, c3, ?_⟩
  have key : C.lc [12] (.nm 12) (C.ie (C.k (.str [97, 98, 99]))) pkI pkE (callC ct 20) [] (FI p own s10 s11 s12 s13 s14 s15) (dh a b c q) = .ok (.lst ((optR za).toList ++ ((optR zb).toList ++ (optR zc).toList))) (dh a3 b3 c3 q) := by
    have g : ∀ (f : FS.D → MH → FS.R (Option FS.D)), f (.str tA) (dh a b c q) = .ok (optR za) (dh a1 b1 c1 q) → f (.str tB) (dh a1 b1 c1 q) = .ok (optR zb) (dh a2 b2 c2 q) → f (.str tC) (dh a2 b2 c2 q) = .ok (optR zc) (dh a3 b3 c3 q) →
        mapW f (plW [.str tA, .str tB, .str tC]) (dh a b c q) = .ok ((optR za).toList ++ ((optR zb).toList ++ (optR zc).toList)) (dh a3 b3 c3 q) := by
      intro f f1 f2 f3
      simp only [plW, mapW, rdW, f1, f2, f3, R.bind]
      cases optR za <;> cases optR zb <;> cases optR zc <;> rfl
    unfold C.lc
    show (if Nat.ble 4 line = true then ((mapW _ (plW [.str tA, .str tB, .str tC]) (dh a b c q)).bind fun ys h5 => R.ok (FS.D.lst ys) h5) else .stk) = _
    rw [if_pos (by rfl), g _ e1 e2 e3]
    rfl
  rw [lc0_eq]
  refine st_set (v := .dic (za ++ (zb ++ zc))) (h1 := dh a3 b3 c3 q) ?_ rfl
  have e4 : C.cons (C.lc [12] (.nm 12) (C.ie (C.k (.str [97, 98, 99]))) pkI pkE) C.nil (callC ct 20) [] (FI p own s10 s11 s12 s13 s14 s15) (dh a b c q) = .ok [.lst ((optR za).toList ++ ((optR zb).toList ++ (optR zc).toList))] (dh a3 b3 c3 q) := ev_cons key rfl
  unfold C.bi
  rw [e4]
  rcases ha with rfl | ⟨va, _, rfl⟩ <;> rcases hb with rfl | ⟨vb, _, rfl⟩ <;> rcases hc with rfl | ⟨vc, _, rfl⟩ <;> rfl
end
end K03

-- text K03L2
set_option Elab.async false
set_option linter.all false
set_option maxRecDepth 100000
set_option maxHeartbeats 0
namespace K03
open PySem FS
/-! what is broken, what is told -/
abbrev RP : Type := RT × Nat
def intP (p : RP) : FS.D := .int (p.2 : Nat)
def placeD (p : RP) : FS.D := .tup [.int (p.2 : Nat), rowT p.1]
def BR (L : List RT) (kvs : Kv) : List RP := (L.zipIdx 0).filter fun p => !hB p.1.1 kvs
def told (p : RP) : FS.D := .tup [.str (hd p.1.1), .str (if p.1.2 = [] then wordsB p.1.1 else p.1.2)]
theorem zip_at {L : List RT} {p : RP} (h : p ∈ L.zipIdx 0) : L[p.2]? = some p.1 := by
  obtain ⟨x, i⟩ := p
  exact List.mem_zipIdx_iff_getElem?.mp h
theorem zip_mem {L : List RT} {p : RP} (h : p ∈ L.zipIdx 0) : p.1 ∈ L := List.mem_of_getElem? (zip_at h)
theorem BR_zip {L : List RT} {kvs : Kv} {p : RP} (h : p ∈ BR L kvs) : p ∈ L.zipIdx 0 := (List.mem_filter.mp h).1
theorem ints_zip : ∀ (L : List RT) (i : Nat), intsFrom i L.length = (L.zipIdx i).map intP
  | [], _ => rfl
  | x :: L, i => by
    rw [List.zipIdx_cons, List.map_cons, ← ints_zip L (i + 1)]
    rfl
theorem ix_lst {xs : List FS.D} {i : Nat} {d : FS.D} (e : xs[i]? = some d) (h : MH) : ixV (.lst xs) (.int (i : Nat)) h = some d := by
  obtain ⟨hi, _⟩ := List.getElem?_eq_some_iff.mp e
  show (match ixN xs.length (i : Int) with
    | some j => xs[j]?
    | none => none) = _
  unfold ixN
  rw [if_pos (by omega), if_pos (by omega)]
  show xs[(i : Int).toNat]? = _
  rw [Int.toNat_natCast, e]
theorem ix_ref {xs : List FS.D} {i n : Nat} {d : FS.D} {h : MH} (eh : h[n]? = some (.lst xs)) (e : xs[i]? = some d) : ixV (.ref n) (.int (i : Nat)) h = some d := by
  obtain ⟨hi, _⟩ := List.getElem?_eq_some_iff.mp e
  have d1 : dicOf h (.ref n) = none := by
    show (match h[n]? with | some (.dic kvs) => some kvs | _ => none) = _
    rw [eh]
  have d2 : seqOf h (.ref n) = some xs := by
    show (match h[n]? with | some (.lst xs) => some xs | _ => none) = _
    rw [eh]
  unfold ixV
  rw [d1]
  show (match seqOf h (.ref n) with
    | some xs => (match ixN xs.length (i : Int) with
      | some j => xs[j]?
      | none => none)
    | none => none) = _
  rw [d2]
  show (match ixN xs.length (i : Int) with
    | some j => xs[j]?
    | none => none) = _
  unfold ixN
  rw [if_pos (by omega), if_pos (by omega)]
  show xs[(i : Int).toNat]? = _
  rw [Int.toNat_natCast, e]
section
variable {cf : CF} {o : List Fr} {fr : Fr} {h h1 h2 : MH}
theorem tc_not {e : C.XE} {b : Bool} (q : e cf o fr h = .ok (.bl b) h1) : C.tcons true (C.tnt (C.tv e)) (C.tnil true) cf o fr h = .ok (!b) h1 := by
  unfold C.tcons C.tnt C.tv
  rw [q]
  cases b <;> rfl
theorem tc_tv {e : C.XE} {b : Bool} (q : e cf o fr h = .ok (.bl b) h1) : C.tv e cf o fr h = .ok b h1 := by
  unfold C.tv
  rw [q]
  rfl
theorem tc_one {an : Bool} {t : C.XB} {b : Bool} (q : t cf o fr h = .ok b h1) : C.tcons an t (C.tnil an) cf o fr h = .ok b h1 := by
  unfold C.tcons
  rw [q]
  cases an <;> cases b <;> rfl
theorem ev_mc {g : Pg} {m i n c : Nat} {fs : List (Nat × FS.D)} {e : C.XE} {es : C.XEs} {xs : List FS.D} {r : FS.R FS.D} (ee : e cf o fr h = .ok (.ref n) h1) (hi : insOf h1 (.ref n) = some (n, c, fs)) (hm : lookNN c m g.mts = some i) (hf : lookN m fs = none) (hn : Nat.blt m g.nat = true)
    (ea : es cf o fr h1 = .ok xs h2) (ec : cf (.fn i) (fr :: o) (.ref n :: xs) h2 = r) : C.mc g m e es cf o fr h = r := by
  unfold C.mc
  rw [ee]
  simp only [R.bind, hi, hm, hf, hn, ea, ec, if_true]
theorem ev_bi {b : Bi} {es : C.XEs} {xs : List FS.D} {r : FS.R FS.D} (ea : es cf o fr h = .ok xs h1) (ec : biV b xs h1 = r) : C.bi b es cf o fr h = r := by
  unfold C.bi
  rw [ea]
  exact ec
theorem st_for {t : T} {it : C.XW} {b : C.XS} {ws : List W} {r : FS.RS} (ei : it cf o fr h = .ok ws h1) (e : FS.forM (fun x fr1 h2 => match asg t x fr1 with
  | some fr2 => b cf o fr2 h2
  | none => .stk) ws fr h1 = r) : C.for_ t it b cf o fr h = r := by
  unfold C.for_
  rw [ei]
  exact e
theorem st_apd {a e : C.XE} {n : Nat} {xs : List FS.D} {d : FS.D} (ea : a cf o fr h = .ok (.ref n) h1) (l1 : h1[n]? = some (.lst xs)) (ee : e cf o fr h1 = .ok d h2) {ys : List FS.D} (l2 : h2[n]? = some (.lst ys)) (nc : noClo d = true) (hz : ys.length < line) :
    C.apd a e cf o fr h = .nx fr (h2.set n (.lst (ys ++ [d]))) := by
  have q1 : isLstR h1 (.ref n) = true := by
    show (match h1[n]? with | some (.lst _) => true | _ => false) = _
    rw [l1]
  have q2 : apdAt h2 (.ref n) d = some (h2.set n (.lst (ys ++ [d]))) := by
    show (match h2[n]? with | some (.lst xs) => if noClo d && Nat.blt xs.length line then some (h2.set n (.lst (xs ++ [d]))) else none | _ => none) = _
    rw [l2]
    have : Nat.blt ys.length line = true := Nat.ble_eq_true_of_le hz
    rw [nc]
    show (if (true && Nat.blt ys.length line) = true then some (h2.set n (.lst (ys ++ [d]))) else none) = _
    rw [this]
    rfl
  unfold C.apd
  rw [ea]
  simp only [R.toS, q1, if_true, ee, q2]
end
theorem small_len {n : Nat} (h : n ≤ 200) : n < line := Nat.lt_of_le_of_lt h (by decide)
theorem filter_all {α : Type} (l : List α) : l.filter (fun _ => true) = l := by simp
section
variable (p : Nat → Option FS.D) (s10 s11 s12 s13 s14 s15 : Option FS.D)
def lc1 : C.XS := (C.set (.nm 13) (C.lc [10, 14] (.tup [(.nm 10), (.nm 14)]) (C.enum (C.cons (C.var 3) C.nil)) (C.tcons true (C.tnt (C.tv (C.call 20 (C.cons (C.var 14) (C.cons (C.var 11) C.nil))))) (C.tnil true)) (C.var 10)))
theorem rds_en (L : List RT) (h : MH) : Rds h (enumL 0 (L.map rowT)) ((L.zipIdx 0).map placeD) := by
  have e := enumD_map rowT L 0
  have e2 : (fun p : RT × Nat => FS.D.tup [.int (p.2 : Nat), rowT p.1]) = placeD := rfl
  rw [e2] at e
  rw [← e]
  exact rds_enum h 0 _
theorem lc1_ok {L : List RT} (hL : OkL L) (hl : L.length ≤ 12) {kvs : Kv} (hk : Kvs kvs) (h : MH) : lc1 (callC ct 20) [] (FI p (.lst (L.map rowT)) s10 (some (.dic kvs)) s12 s13 s14 s15) h = .nx (FI p (.lst (L.map rowT)) s10 (some (.dic kvs)) s12 (some (.lst ((BR L kvs).map intP))) s14 s15) h := by
  refine st_set (lc_emb (emb := placeD) (l := L.zipIdx 0) (ws := enumL 0 (L.map rowT)) (b := fun p => !hB p.1.1 kvs) (g := intP) rfl (rds_en L h) (by rw [List.length_zipIdx]; exact small_len (by omega)) fun x hx => ⟨_, rfl, ?_, fun _ => rfl⟩) rfl
  exact tc_not (ev_call (xs := [rowT x.1, .dic kvs]) (h1 := h) rfl (holds20 (hL _ (zip_mem hx)).1 hk 8 _ _ h))
/-- the row of a place, and what is told of it -/
theorem row_at {L : List RT} {x : RP} (hx : x ∈ L.zipIdx 0) (h : MH) : ixV (.lst (L.map rowT)) (.int (x.2 : Nat)) h = some (rowT x.1) := by
  refine ix_lst ?_ h
  rw [List.getElem?_map, zip_at hx]
  rfl
def rwE : C.XE := C.ix (C.var 3) (C.var 10)
def lc2 : C.XS := (C.set (.nm 15) (C.lc [10] (.nm 10) (C.ie (C.var 13)) (C.tnil true) (C.tup (C.cons (C.ix (C.ix (C.ix (C.var 3) (C.var 10)) (C.k (.int 1))) (C.k (.int 0))) (C.cons (C.ife (C.tcmp .ne (C.ix (C.ix (C.var 3) (C.var 10)) (C.k (.int 3))) (C.k (.str []))) (C.ix (C.ix (C.var 3) (C.var 10)) (C.k (.int 3))) (C.call 22 (C.cons (C.ix (C.ix (C.var 3) (C.var 10)) (C.k (.int 0))) (C.cons (C.ix (C.ix (C.var 3) (C.var 10)) (C.k (.int 1))) (C.cons (C.ix (C.ix (C.var 3) (C.var 10)) (C.k (.int 2))) C.nil))))) C.nil)))))
theorem lc2_ok {L : List RT} (hL : OkL L) (hl : L.length ≤ 12) (kvs : Kv) (h : MH) : lc2 (callC ct 20) [] (FI p (.lst (L.map rowT)) s10 s11 s12 (some (.lst ((BR L kvs).map intP))) s14 s15) h = .nx (FI p (.lst (L.map rowT)) s10 s11 s12 (some (.lst ((BR L kvs).map intP))) s14 (some (.lst ((BR L kvs).map told)))) h := by
  have hz : (BR L kvs).length ≤ 12 := Nat.le_trans (List.length_filter_le ..) (by rw [List.length_zipIdx]; exact hl)
  have e0 := lc_emb (cf := callC ct 20) (o := []) (fr := FI p (.lst (L.map rowT)) s10 s11 s12 (some (.lst ((BR L kvs).map intP))) s14 s15) (own := [10]) (t := .nm 10) (it := C.ie (C.var 13)) (ifs := C.tnil true) (e := C.tup (C.cons (C.ix (C.ix rwE (C.k (.int 1))) (C.k (.int 0))) (C.cons (C.ife (C.tcmp .ne (C.ix rwE (C.k (.int 3))) (C.k (.str []))) (C.ix rwE (C.k (.int 3))) (C.call 22 (C.cons (C.ix rwE (C.k (.int 0))) (C.cons (C.ix rwE (C.k (.int 1))) (C.cons (C.ix rwE (C.k (.int 2))) C.nil))))) C.nil)))
    (emb := intP) (h0 := h) (h := h) (l := BR L kvs) (b := fun _ => true) (g := told) rfl (rds_pl h _) (small_len (by omega)) fun x hx => ⟨FI p (.lst (L.map rowT)) (some (.int (x.2 : Nat))) s11 s12 (some (.lst ((BR L kvs).map intP))) s14 s15, rfl, rfl, fun _ => ?_⟩
  · rw [filter_all] at e0
    exact st_set e0 rfl
  · have hg := hL _ (zip_mem (BR_zip hx))
    have er : ∀ (o : List Fr), rwE (callC ct 20) o (FI p (.lst (L.map rowT)) (some (.int (x.2 : Nat))) s11 s12 (some (.lst ((BR L kvs).map intP))) s14 s15) h = .ok (rowT x.1) h := fun o => ev_ix rfl rfl (row_at (BR_zip hx) h)
    have e3 : ∀ (o : List Fr), C.ix rwE (C.k (.int 3)) (callC ct 20) o (FI p (.lst (L.map rowT)) (some (.int (x.2 : Nat))) s11 s12 (some (.lst ((BR L kvs).map intP))) s14 s15) h = .ok (.str x.1.2) h := fun o => ev_ix (er o) rfl rfl
    refine ev_tup (xs := [.str (hd x.1.1), .str (if x.1.2 = [] then wordsB x.1.1 else x.1.2)]) (ev_cons (ev_ix (ev_ix (er _) rfl rfl) rfl (map_at (hdP h) _ (good_mem hg.1))) (ev_cons ?_ rfl))
    have et : ∀ o : List Fr, C.tcmp .ne (C.ix rwE (C.k (.int 3))) (C.k (.str [])) (callC ct 20) o (FI p (.lst (L.map rowT)) (some (.int (x.2 : Nat))) s11 s12 (some (.lst ((BR L kvs).map intP))) s14 s15) h = .ok (!decide (x.1.2 = [])) h := fun o => by
      refine ev_cmpT (e3 o) rfl ?_
      show Option.map not (cmpV .eq (.str x.1.2) (.str []) h) = _
      rw [cmp_str]
      rfl
    unfold C.ife
    rw [et]
    by_cases q : x.1.2 = []
    · rw [decide_eq_true q, if_pos q]
      exact ev_call (xs := [.str x.1.1.1, nsD x.1.1.2.1, .str x.1.1.2.2]) (h1 := h) (ev_cons (ev_ix (er _) rfl rfl) (ev_cons (ev_ix (er _) rfl rfl) (ev_cons (ev_ix (er _) rfl rfl) rfl))) (words22 hg.1 8 _ h)
    · rw [decide_eq_false q, if_neg q]
      exact e3 _
end
end K03

-- text K03L3
set_option Elab.async false
set_option linter.all false
set_option maxRecDepth 100000
set_option maxHeartbeats 0
namespace K03
open PySem FS
/-! rules.broken, rules.told_rows; the rows hold -/
theorem fieldE {cf : CF} {o : List Fr} {fr : Fr} (a b c : Int) (L : List RT) (q : MH) (h0 : FS.get fr 0 = some (.ref 1)) : C.at_ pg (C.var 0) 7 cf o fr (hx a b c L q) = .ok (.ref 2) (hx a b c L q) := by
  unfold C.at_
  rw [v_of h0]
  rfl
theorem rds_rows (a b c : Int) (L : List RT) (q : MH) : Rds (hx a b c L q) (upW (.rp 2) (.fin 2 (L.map rowT).length) 0 (L.map rowT).length) ((L.zipIdx 0).map placeD) := by
  have e := enumD_map rowT L 0
  have e2 : (fun p : RT × Nat => FS.D.tup [.int (p.2 : Nat), rowT p.1]) = placeD := rfl
  rw [e2] at e
  rw [← e]
  exact rds_rp rfl
theorem enE {cf : CF} {o : List Fr} {fr : Fr} (a b c : Int) (L : List RT) (q : MH) (h0 : FS.get fr 0 = some (.ref 1)) : C.enum (C.cons (C.at_ pg (C.var 0) 7) C.nil) cf o fr (hx a b c L q) = .ok (upW (.rp 2) (.fin 2 (L.map rowT).length) 0 (L.map rowT).length) (hx a b c L q) := by
  unfold C.enum
  rw [ev_cons (fieldE a b c L q h0) rfl]
  rfl
theorem broken_ok {L : List RT} (hL : OkL L) (hl : L.length ≤ 12) {kvs : Kv} (hk : Kvs kvs) (k : Nat) (o : List Fr) (a b c : Int) (q : MH) : callC ct (k + 13) (.fn 28) o [.ref 1, .dic kvs] (hx a b c L q) = .ok (.tup ((BR L kvs).map intP)) (hx a b c L q) := by
  refine fn_ret (F := f_Rules_broken) rfl rfl rfl rfl ?_
  show c_Rules_broken (callC ct (k + 12)) o [some (.ref 1), some (.dic kvs), none, none] (hx a b c L q) = _
  unfold c_Rules_broken
  refine st_ret (st_retE (tgen_emb (emb := placeD) (l := L.zipIdx 0) (b := fun p => !hB p.1.1 kvs) (g := intP) (enE a b c L q rfl) (rds_rows a b c L q) (by rw [List.length_zipIdx]; exact small_len (by omega)) fun x hx' => ⟨[some (.ref 1), some (.dic kvs), some (.int (x.2 : Nat)), some (rowT x.1)], rfl, ?_, fun _ => rfl⟩))
  exact tc_not (ev_call (xs := [rowT x.1, .dic kvs]) (h1 := hx a b c L q) rfl (holds8 (hL _ (zip_mem hx')).1 hk k _ _))
theorem at_last {q : MH} {m : MO} (a b c : Int) (L : List RT) : (hx a b c L (q ++ [m]))[q.length + 3]? = some m := by
  show (q ++ [m])[q.length]? = some m
  rw [List.getElem?_append_right (Nat.le_refl _), Nat.sub_self]
  rfl
theorem set_last {q : MH} {m n : MO} (a b c : Int) (L : List RT) : (hx a b c L (q ++ [m])).set (q.length + 3) n = hx a b c L (q ++ [n]) := by
  show _ :: _ :: _ :: (q ++ [m]).set q.length n = _
  rw [List.set_append_right _ _ (Nat.le_refl _), Nat.sub_self]
  rfl
theorem told_clo (x : RP) : noClo (told x) = true := rfl
theorem told_ok {L : List RT} (hL : OkL L) (hl : L.length ≤ 12) {kvs : Kv} (hk : Kvs kvs) (k : Nat) (o : List Fr) (a b c : Int) (q : MH) : callC ct (k + 14) (.fn 29) o [.ref 1, .dic kvs] (hx a b c L q) = .ok (.tup ((BR L kvs).map told)) (hx a b c L (q ++ [.lst ((BR L kvs).map told)])) := by
  refine fn_ret (F := f_Rules_told_rows) rfl rfl rfl rfl ?_
  show c_Rules_told_rows (callC ct (k + 13)) o [some (.ref 1), some (.dic kvs), none, none, none, none, none, none] (hx a b c L q) = _
  unfold c_Rules_told_rows
  rw [st_nx (fr1 := [some (.ref 1), some (.dic kvs), some (.ref (q.length + 3)), none, none, none, none, none]) (h1 := hx a b c L (q ++ [.lst []])) rfl]
  have hz : (BR L kvs).length ≤ 12 := Nat.le_trans (List.length_filter_le ..) (by rw [List.length_zipIdx]; exact hl)
  have loop := forM_pl (emb := intP) (l := BR L kvs) (f := fun x fr1 h2 => match asg (.nm 3) x fr1 with
    | some fr2 => (C.scons (C.set (.tup [(.nm 4), (.nm 5), (.nm 6), (.nm 7)]) (C.ix (C.at_ pg (C.var 0) 7) (C.var 3))) (C.scons (C.apd (C.var 2) (C.tup (C.cons (C.ix (C.var 5) (C.k (.int 0))) (C.cons (C.ife (C.tcmp .ne (C.var 7) (C.k (.str []))) (C.var 7) (C.call 12 (C.cons (C.var 4) (C.cons (C.var 5) (C.cons (C.var 6) C.nil))))) C.nil)))) C.snil)) (callC ct (k + 13)) o fr2 h2
    | none => .stk) (fun dn fr h => (∃ s3 s4 s5 s6 s7, fr = [some (.ref 1), some (.dic kvs), some (.ref (q.length + 3)), s3, s4, s5, s6, s7]) ∧ h = hx a b c L (q ++ [.lst (dn.map told)]))
    (fr := [some (.ref 1), some (.dic kvs), some (.ref (q.length + 3)), none, none, none, none, none]) (h := hx a b c L (q ++ [.lst []])) ⟨⟨_, _, _, _, _, rfl⟩, rfl⟩ (by
      rintro l1 x l2 fr h el ⟨⟨s3, s4, s5, s6, s7, rfl⟩, rfl⟩
      have hx1 : x ∈ BR L kvs := by rw [el]; exact List.mem_append_right _ List.mem_cons_self
      have hg := hL _ (zip_mem (BR_zip hx1))
      have hlen : l1.length ≤ 12 := by
        have := congrArg List.length el
        rw [List.length_append] at this
        omega
      refine ⟨[some (.ref 1), some (.dic kvs), some (.ref (q.length + 3)), some (.int (x.2 : Nat)), some (.str x.1.1.1), some (nsD x.1.1.2.1), some (.str x.1.1.2.2), some (.str x.1.2)], hx a b c L (q ++ [.lst ((l1 ++ [x]).map told)]), ?_, ⟨⟨_, _, _, _, _, rfl⟩, rfl⟩⟩
      show (C.scons _ _) (callC ct (k + 13)) o [some (.ref 1), some (.dic kvs), some (.ref (q.length + 3)), some (.int (x.2 : Nat)), s4, s5, s6, s7] _ = _
      have er : (L.map rowT)[x.2]? = some (rowT x.1) := by
        rw [List.getElem?_map, zip_at (BR_zip hx1)]
        rfl
      have e1 : C.set (.tup [(.nm 4), (.nm 5), (.nm 6), (.nm 7)]) (C.ix (C.at_ pg (C.var 0) 7) (C.var 3)) (callC ct (k + 13)) o [some (.ref 1), some (.dic kvs), some (.ref (q.length + 3)), some (.int (x.2 : Nat)), s4, s5, s6, s7] (hx a b c L (q ++ [.lst (l1.map told)])) = .nx [some (.ref 1), some (.dic kvs), some (.ref (q.length + 3)), some (.int (x.2 : Nat)), some (.str x.1.1.1), some (nsD x.1.1.2.1), some (.str x.1.1.2.2), some (.str x.1.2)] (hx a b c L (q ++ [.lst (l1.map told)])) :=
        st_set (ev_ix (fieldE a b c L _ rfl) rfl (ix_ref rfl er)) rfl
      rw [st_nx e1]
      have e2 : C.tup (C.cons (C.ix (C.var 5) (C.k (.int 0))) (C.cons (C.ife (C.tcmp .ne (C.var 7) (C.k (.str []))) (C.var 7) (C.call 12 (C.cons (C.var 4) (C.cons (C.var 5) (C.cons (C.var 6) C.nil))))) C.nil)) (callC ct (k + 13)) o [some (.ref 1), some (.dic kvs), some (.ref (q.length + 3)), some (.int (x.2 : Nat)), some (.str x.1.1.1), some (nsD x.1.1.2.1), some (.str x.1.1.2.2), some (.str x.1.2)] (hx a b c L (q ++ [.lst (l1.map told)])) = .ok (told x) (hx a b c L (q ++ [.lst (l1.map told)])) := by
        refine ev_tup (xs := [.str (hd x.1.1), .str (if x.1.2 = [] then wordsB x.1.1 else x.1.2)]) (ev_cons (ev_ix (x := nsD x.1.1.2.1) (y := .int 0) (h1 := hx a b c L (q ++ [.lst (l1.map told)])) (h2 := hx a b c L (q ++ [.lst (l1.map told)])) rfl rfl (map_at (hdP (hx a b c L (q ++ [.lst (l1.map told)]))) _ (good_mem hg.1))) (ev_cons ?_ rfl))
        have et : C.tcmp .ne (C.var 7) (C.k (.str [])) (callC ct (k + 13)) o [some (.ref 1), some (.dic kvs), some (.ref (q.length + 3)), some (.int (x.2 : Nat)), some (.str x.1.1.1), some (nsD x.1.1.2.1), some (.str x.1.1.2.2), some (.str x.1.2)] (hx a b c L (q ++ [.lst (l1.map told)])) = .ok (!decide (x.1.2 = [])) (hx a b c L (q ++ [.lst (l1.map told)])) := by
          refine ev_cmpT (x := .str x.1.2) (y := .str []) rfl rfl ?_
          show Option.map not (cmpV .eq (.str x.1.2) (.str []) (hx a b c L (q ++ [.lst (l1.map told)]))) = _
          rw [cmp_str]
          rfl
        unfold C.ife
        rw [et]
        by_cases q0 : x.1.2 = []
        · rw [decide_eq_true q0, if_pos q0]
          exact ev_call (es := C.cons (C.var 4) (C.cons (C.var 5) (C.cons (C.var 6) C.nil))) (fr := [some (.ref 1), some (.dic kvs), some (.ref (q.length + 3)), some (.int (x.2 : Nat)), some (.str x.1.1.1), some (nsD x.1.1.2.1), some (.str x.1.1.2.2), some (.str x.1.2)]) (h := hx a b c L (q ++ [.lst (l1.map told)])) (xs := [.str x.1.1.1, nsD x.1.1.2.1, .str x.1.1.2.2]) (h1 := hx a b c L (q ++ [.lst (l1.map told)])) rfl (show callC ct (k + 13) (.fn 12) _ _ _ = _ from words12 hg.1 (k + 1) _ _)
        · rw [decide_eq_false q0, if_neg q0]
          rfl
      rw [st_nx (st_apd (n := q.length + 3) rfl (at_last a b c L) e2 (at_last a b c L) (told_clo x) (by rw [List.length_map]; exact small_len (by omega)))]
      rw [set_last, List.map_append]
      rfl)
  obtain ⟨fr', h', e1, ⟨s3, s4, s5, s6, s7, rfl⟩, rfl⟩ := loop
  have ew : C.ie (C.mc pg 2 (C.var 0) (C.cons (C.var 1) C.nil)) (callC ct (k + 13)) o [some (.ref 1), some (.dic kvs), some (.ref (q.length + 3)), none, none, none, none, none] (hx a b c L (q ++ [.lst []])) = .ok (plW ((BR L kvs).map intP)) (hx a b c L (q ++ [.lst []])) := by
    unfold C.ie
    rw [ev_mc (n := 1) (c := 0) (fs := [(7, .ref 2)]) (i := 28) (xs := [.dic kvs]) (h1 := hx a b c L (q ++ [.lst []])) (h2 := hx a b c L (q ++ [.lst []])) rfl rfl rfl rfl rfl rfl (broken_ok hL hl hk k _ a b c _)]
    rfl
  rw [st_nx (st_for ew e1)]
  refine st_ret (st_retE (ev_bi (xs := [.ref (q.length + 3)]) (h1 := hx a b c L (q ++ [.lst ((BR L kvs).map told)])) rfl ?_))
  show (match lstOf (hx a b c L (q ++ [.lst ((BR L kvs).map told)])) (.ref (q.length + 3)) with
    | some xs => FS.R.ok (FS.D.tup xs) _
    | none => .stk) = _
  have e3 : lstOf (hx a b c L (q ++ [.lst ((BR L kvs).map told)])) (.ref (q.length + 3)) = some ((BR L kvs).map told) := by
    show (match (hx a b c L (q ++ [.lst ((BR L kvs).map told)]))[q.length + 3]? with | some (.lst xs) => some xs | _ => none) = _
    rw [at_last]
  rw [e3]
theorem told_shp {L : List RT} (hL : OkL L) (kvs : Kv) : shps 59 ((BR L kvs).map told) = true := shps_map fun x hx => by
  have hg := hL _ (zip_mem (BR_zip hx))
  have w := List.all_eq_true.mp wordsS x.1.1 (good_mem hg.1)
  rw [Bool.and_eq_true] at w
  have e : (if x.1.2 = [] then wordsB x.1.1 else x.1.2).all (fun c => Nat.blt c 1114112) = true := by
    by_cases q : x.1.2 = []
    · rw [if_pos q]
      exact w.1
    · rw [if_neg q]
      have := hg.2
      simp only [List.mem_cons, List.not_mem_nil, or_false] at this
      rcases this with z | z
      · exact absurd z q
      · rw [z]
        decide
  show (shp 58 (.str (hd x.1.1)) && (shp 58 (.str (if x.1.2 = [] then wordsB x.1.1 else x.1.2)) && shps 58 [])) = true
  have e1 : shp 58 (.str (hd x.1.1)) = true := by unfold shp; exact w.2
  have e2 : shp 58 (.str (if x.1.2 = [] then wordsB x.1.1 else x.1.2)) = true := by unfold shp; exact e
  rw [e1, e2]
  unfold shps
  rfl
theorem ints_shp (l : List RP) : shps 59 (l.map intP) = true := shps_map fun x _ => by unfold intP shp; rfl
section
variable (p : Nat → Option FS.D) (s10 s11 s12 s13 s14 s15 : Option FS.D)
def lc3 : C.XS := (C.sife (C.tcons false (C.tcmp .ne (C.bi .list (C.cons (C.mc pg 2 (C.var 2) (C.cons (C.var 11) C.nil)) C.nil)) (C.var 13)) (C.tcons false (C.tcmp .ne (C.bi .list (C.cons (C.mc pg 3 (C.var 2) (C.cons (C.var 11) C.nil)) C.nil)) (C.var 15)) (C.tnil false))) (C.scons (C.ret (C.k (.bl false))) C.snil) C.snil)
theorem ne_same {h : MH} {xs : List FS.D} (q : shps 59 xs = true) : cmpV .ne (.lst xs) (.lst xs) h = some false := by
  show (eqOpt h _ _).map not = _
  rw [eq_lst q]
  rfl
theorem lc3_ok {L : List RT} (hL : OkL L) (hl : L.length ≤ 12) {kvs : Kv} (hk : Kvs kvs) (a b c : Int) (q : MH) (r : C.XS) : C.scons lc3 r (callC ct 20) [] (FI p (.lst (L.map rowT)) s10 (some (.dic kvs)) s12 (some (.lst ((BR L kvs).map intP))) s14 (some (.lst ((BR L kvs).map told)))) (hx a b c L q) =
    r (callC ct 20) [] (FI p (.lst (L.map rowT)) s10 (some (.dic kvs)) s12 (some (.lst ((BR L kvs).map intP))) s14 (some (.lst ((BR L kvs).map told)))) (hx a b c L (q ++ [.lst ((BR L kvs).map told)])) := by
  refine st_no ?_ rfl
  have t1 : C.tcmp .ne (C.bi .list (C.cons (C.mc pg 2 (C.var 2) (C.cons (C.var 11) C.nil)) C.nil)) (C.var 13) (callC ct 20) [] (FI p (.lst (L.map rowT)) s10 (some (.dic kvs)) s12 (some (.lst ((BR L kvs).map intP))) s14 (some (.lst ((BR L kvs).map told)))) (hx a b c L q) = .ok false (hx a b c L q) :=
    ev_cmpT (x := .lst ((BR L kvs).map intP)) (y := .lst ((BR L kvs).map intP)) (h1 := hx a b c L q) (ev_bi (xs := [.tup ((BR L kvs).map intP)]) (h1 := hx a b c L q) (ev_cons (ev_mc (n := 1) (c := 0) (fs := [(7, .ref 2)]) (i := 28) (xs := [.dic kvs]) (h1 := hx a b c L q) (h2 := hx a b c L q) rfl rfl rfl rfl rfl rfl (broken_ok hL hl hk 7 _ a b c _)) rfl) rfl) rfl (ne_same (ints_shp _))
  have t2 : C.tcmp .ne (C.bi .list (C.cons (C.mc pg 3 (C.var 2) (C.cons (C.var 11) C.nil)) C.nil)) (C.var 15) (callC ct 20) [] (FI p (.lst (L.map rowT)) s10 (some (.dic kvs)) s12 (some (.lst ((BR L kvs).map intP))) s14 (some (.lst ((BR L kvs).map told)))) (hx a b c L q) = .ok false (hx a b c L (q ++ [.lst ((BR L kvs).map told)])) :=
    ev_cmpT (x := .lst ((BR L kvs).map told)) (y := .lst ((BR L kvs).map told)) (h1 := hx a b c L (q ++ [.lst ((BR L kvs).map told)])) (ev_bi (xs := [.tup ((BR L kvs).map told)]) (h1 := hx a b c L (q ++ [.lst ((BR L kvs).map told)])) (ev_cons (ev_mc (n := 1) (c := 0) (fs := [(7, .ref 2)]) (i := 29) (xs := [.dic kvs]) (h1 := hx a b c L q) (h2 := hx a b c L q) rfl rfl rfl rfl rfl rfl (told_ok hL hl hk 6 _ a b c _)) rfl) rfl) rfl (ne_same (told_shp hL kvs))
  unfold C.tcons
  rw [t1]
  show (C.tcons false (C.tcmp .ne (C.bi .list (C.cons (C.mc pg 3 (C.var 2) (C.cons (C.var 11) C.nil)) C.nil)) (C.var 15)) (C.tnil false)) (callC ct 20) [] _ (hx a b c L q) = _
  exact tc_one t2
def lc4 : C.XS := (C.sife (C.tcmp .ne (C.lc [14] (.nm 14) (C.ie (C.var 3)) (C.tnil true) (C.call 8 (C.cons (C.var 14) (C.cons (C.var 11) C.nil)))) (C.lc [10] (.nm 10) (C.rng (C.cons (C.bi .len (C.cons (C.var 3) C.nil)) C.nil)) (C.tnil true) (C.cmp .notin (C.var 10) (C.var 13)))) (C.scons (C.ret (C.k (.bl false))) C.snil) C.snil)
theorem in_BR {L : List RT} {kvs : Kv} {x : RP} (hx : x ∈ L.zipIdx 0) : decide ((x.2 : Int) ∈ (BR L kvs).map fun y => (y.2 : Int)) = !hB x.1.1 kvs := by
  cases hb : hB x.1.1 kvs with
  | false =>
    rw [decide_eq_true]
    · rfl
    · exact List.mem_map.mpr ⟨x, List.mem_filter.mpr ⟨hx, by rw [hb]; rfl⟩, rfl⟩
  | true =>
    rw [decide_eq_false]
    · rfl
    · intro m
      obtain ⟨y, hy, e⟩ := List.mem_map.mp m
      have e : y.2 = x.2 := by omega
      have y1 := zip_at (BR_zip hy)
      rw [e, zip_at hx] at y1
      have y2 : y = x := Prod.ext (Option.some.inj y1).symm e
      have y3 := (List.mem_filter.mp hy).2
      rw [y2, hb] at y3
      cases y3
theorem lc4_ok {L : List RT} (hL : OkL L) (hl : L.length ≤ 12) {kvs : Kv} (hk : Kvs kvs) (h : MH) (r : C.XS) : C.scons lc4 r (callC ct 20) [] (FI p (.lst (L.map rowT)) s10 (some (.dic kvs)) s12 (some (.lst ((BR L kvs).map intP))) s14 s15) h =
    r (callC ct 20) [] (FI p (.lst (L.map rowT)) s10 (some (.dic kvs)) s12 (some (.lst ((BR L kvs).map intP))) s14 s15) h := by
  refine st_no ?_ rfl
  have t1 := lc_emb (cf := callC ct 20) (o := []) (fr := FI p (.lst (L.map rowT)) s10 (some (.dic kvs)) s12 (some (.lst ((BR L kvs).map intP))) s14 s15) (own := [14]) (t := .nm 14) (it := C.ie (C.var 3)) (ifs := C.tnil true) (e := C.call 8 (C.cons (C.var 14) (C.cons (C.var 11) C.nil)))
    (emb := rowT) (h0 := h) (h := h) (l := L) (b := fun _ => true) (g := fun x => .bl (hB x.1 kvs)) rfl (rds_pl h _) (small_len (by omega)) fun x hx => ⟨FI p (.lst (L.map rowT)) s10 (some (.dic kvs)) s12 (some (.lst ((BR L kvs).map intP))) (some (rowT x)) s15, rfl, rfl, fun _ => ev_call (xs := [rowT x, .dic kvs]) (h1 := h) rfl (holds8 (hL _ hx).1 hk 8 _ h)⟩
  have er : C.rng (C.cons (C.bi .len (C.cons (C.var 3) C.nil)) C.nil) (callC ct 20) [] (FI p (.lst (L.map rowT)) s10 (some (.dic kvs)) s12 (some (.lst ((BR L kvs).map intP))) s14 s15) h = .ok (plW ((L.zipIdx 0).map intP)) h := by
    unfold C.rng
    rw [ev_cons (x := .int ((L.map rowT).length : Nat)) (h1 := h) rfl rfl]
    show R.opt h ((if (rngOk ((L.map rowT).length : Nat) && Nat.ble (((L.map rowT).length : Nat) : Int).toNat line) = true then some (intsFrom 0 (((L.map rowT).length : Nat) : Int).toNat) else none).map plW) = _
    have ok : rngOk ((L.map rowT).length : Nat) = true := by
      unfold rngOk
      rw [List.length_map, decide_eq_true (by omega), decide_eq_true (by omega)]
      rfl
    rw [ok, Int.toNat_natCast, List.length_map, Nat.ble_eq_true_of_le (Nat.le_of_lt (small_len (by omega)))]
    have := ints_zip L 0
    rw [← this]
    rfl
  have t2 := lc_emb (cf := callC ct 20) (o := []) (fr := FI p (.lst (L.map rowT)) s10 (some (.dic kvs)) s12 (some (.lst ((BR L kvs).map intP))) s14 s15) (own := [10]) (t := .nm 10) (ifs := C.tnil true) (e := C.cmp .notin (C.var 10) (C.var 13))
    (emb := intP) (h0 := h) (h := h) (l := L.zipIdx 0) (b := fun _ => true) (g := fun x => .bl (hB x.1.1 kvs)) er (rds_pl h _) (by rw [List.length_zipIdx]; exact small_len (by omega)) fun x hx => ⟨FI p (.lst (L.map rowT)) (some (.int (x.2 : Nat))) (some (.dic kvs)) s12 (some (.lst ((BR L kvs).map intP))) s14 s15, rfl, rfl, fun _ => ev_cmp (x := .int (x.2 : Nat)) (y := .lst ((BR L kvs).map intP)) (h1 := h) rfl rfl (by
      show (inOpt h _ _).map not = _
      have e : (BR L kvs).map intP = ((BR L kvs).map fun y => (y.2 : Int)).map .int := by rw [List.map_map]; rfl
      rw [e, in_ints, in_BR hx]
      cases hB x.1.1 kvs <;> rfl)⟩
  rw [filter_all] at t1 t2
  have e : (L.zipIdx 0).map (fun x => FS.D.bl (hB x.1.1 kvs)) = L.map fun x => FS.D.bl (hB x.1 kvs) := by
    have z := congrArg (List.map fun x : RT => FS.D.bl (hB x.1 kvs)) (map_zipIdx_fst L 0)
    rw [List.map_map] at z
    exact z
  rw [e] at t2
  exact ev_cmpT t1 t2 (ne_same (shps_map fun x _ => by unfold shp; rfl))
def lcB : C.XS := (C.scons lc0 (C.scons lc1 (C.scons lc2 (C.scons lc3 (C.scons lc4 C.snil)))))
/-- one turn -/
theorem turn_ok {L : List RT} (hL : OkL L) (hl : L.length ≤ 12) (a b c : Int) (q : MH) : ∃ y11 y12 y13 y14 y15 a' b' c' m, lcB (callC ct 20) [] (FI p (.lst (L.map rowT)) s10 s11 s12 s13 s14 s15) (hx a b c L q) = .nx (FI p (.lst (L.map rowT)) s10 y11 y12 y13 y14 y15) (hx a' b' c' L (q ++ [m])) := by
  obtain ⟨kvs, hk, a1, b1, c1, e0⟩ := lc0_ok p (.lst (L.map rowT)) s10 s11 s12 s13 s14 s15 a b c (.ins 0 [(7, .ref 2)] :: .lst (L.map rowT) :: q)
  refine ⟨some (.dic kvs), s12, some (.lst ((BR L kvs).map intP)), s14, some (.lst ((BR L kvs).map told)), a1, b1, c1, .lst ((BR L kvs).map told), ?_⟩
  unfold lcB
  have e0 : lc0 (callC ct 20) [] (FI p (.lst (L.map rowT)) s10 s11 s12 s13 s14 s15) (hx a b c L q) = .nx (FI p (.lst (L.map rowT)) s10 (some (.dic kvs)) s12 s13 s14 s15) (hx a1 b1 c1 L q) := e0
  rw [st_nx e0, st_nx (lc1_ok p s10 s12 s13 s14 s15 hL hl hk _), st_nx (lc2_ok p s10 (some (.dic kvs)) s12 s14 s15 hL hl kvs _), lc3_ok p s10 s12 s14 hL hl hk, lc4_ok p s10 s12 s14 _ hL hl hk]
  rfl
theorem la3_eq : la3 = C.for_ (.nm 10) (C.rng (C.cons (C.k (.int 4)) C.nil)) lcB := rfl
end
theorem la3_ok (p : Nat → Option FS.D) (s10 s11 s12 s13 s14 s15 : Option FS.D) {L : List RT} (hL : OkL L) (hl : L.length ≤ 12) (a b c : Int) (q : MH) : ∃ y10 y11 y12 y13 y14 y15 a' b' c' m0 m1 m2 m3, la3 (callC ct 20) [] (FI p (.lst (L.map rowT)) s10 s11 s12 s13 s14 s15) (hx a b c L q) = .nx (FI p (.lst (L.map rowT)) y10 y11 y12 y13 y14 y15) (hx a' b' c' L (q ++ [m0, m1, m2, m3])) := by
  obtain ⟨fr, h, e, ⟨y10, y11, y12, y13, y14, y15, rfl⟩, a1, b1, c1, ms, em, rfl⟩ := forM_pl (emb := fun i : Nat => FS.D.int i) (l := [0, 1, 2, 3]) (f := fun x fr1 h2 => match asg (.nm 10) x fr1 with
    | some fr2 => lcB (callC ct 20) [] fr2 h2
    | none => .stk) (fun dn fr h => (∃ y10 y11 y12 y13 y14 y15, fr = FI p (.lst (L.map rowT)) y10 y11 y12 y13 y14 y15) ∧ ∃ a b c ms, ms.length = dn.length ∧ h = hx a b c L (q ++ ms)) (fr := FI p (.lst (L.map rowT)) s10 s11 s12 s13 s14 s15) (h := hx a b c L q) ⟨⟨_, _, _, _, _, _, rfl⟩, a, b, c, [], rfl, by rw [List.append_nil]⟩ (by
      rintro l1 x l2 fr h el ⟨⟨y10, y11, y12, y13, y14, y15, rfl⟩, a, b, c, ms, em, rfl⟩
      obtain ⟨z11, z12, z13, z14, z15, a1, b1, c1, m, e⟩ := turn_ok p (some (.int (x : Nat))) y11 y12 y13 y14 y15 hL hl a b c (q ++ ms)
      refine ⟨_, _, e, ⟨_, _, _, _, _, _, rfl⟩, a1, b1, c1, ms ++ [m], ?_, by rw [List.append_assoc]⟩
      rw [List.length_append, List.length_append, em]
      rfl)
  match ms, em with
  | [m0, m1, m2, m3], _ => exact ⟨y10, y11, y12, y13, y14, y15, a1, b1, c1, m0, m1, m2, m3, la3_eq ▸ st_for (h1 := hx a b c L q) rfl e⟩
end K03

-- text K03L4
set_option Elab.async false
set_option linter.all false
set_option maxRecDepth 100000
set_option maxHeartbeats 0
namespace K03
open PySem FS
/-! rules of a field; clashes -/
def memB (n : List Nat) (r : Row) : Bool := r.2.1.contains n
def FL (L : List RT) (n : List Nat) : List RP := (L.zipIdx 0).filter fun p => memB n p.1.1
theorem inP (h : MH) : ([tA, tB, tC].map fun n => GOOD.map fun r => cmpV .isin (.str n) (nsD r.2.1) h) = [tA, tB, tC].map fun n => GOOD.map fun r => some (memB n r) := by
  kernel_rfl
theorem in_at {n : List Nat} (hn : n ∈ [tA, tB, tC]) {r : Row} (hr : goodB r = true) (h : MH) : cmpV .isin (.str n) (nsD r.2.1) h = some (memB n r) := map_at (map_at (inP h) n hn) r (good_mem hr)
theorem field_ok {L : List RT} (hL : OkL L) (hl : L.length ≤ 12) {n : List Nat} (hn : n ∈ [tA, tB, tC]) (k : Nat) (o : List Fr) (a b c : Int) (q : MH) : callC ct (k + 1) (.fn 30) o [.ref 1, .str n] (hx a b c L q) = .ok (.tup ((FL L n).map intP)) (hx a b c L q) := by
  refine fn_ret (F := f_Rules_of_field) rfl rfl rfl rfl ?_
  show c_Rules_of_field (callC ct k) o [some (.ref 1), some (.str n), none, none] (hx a b c L q) = _
  unfold c_Rules_of_field
  refine st_ret (st_retE (tgen_emb (emb := placeD) (l := L.zipIdx 0) (b := fun p => memB n p.1.1) (g := intP) (enE a b c L q rfl) (rds_rows a b c L q) (by rw [List.length_zipIdx]; exact small_len (by omega)) fun x hx' => ⟨[some (.ref 1), some (.str n), some (.int (x.2 : Nat)), some (rowT x.1)], rfl, ?_, fun _ => rfl⟩))
  exact tc_one (ev_cmpT (x := .str n) (y := nsD x.1.1.2.1) (h1 := hx a b c L q) rfl (ev_ix (x := rowT x.1) (y := .int 1) (h1 := hx a b c L q) rfl rfl rfl) (in_at hn (hL _ (zip_mem hx')).1 _))
theorem la4_ok (p : Nat → Option FS.D) (s10 s11 s12 s13 s14 s15 : Option FS.D) {L : List RT} (hL : OkL L) (hl : L.length ≤ 12) (a b c : Int) (q : MH) (r : C.XS) : C.scons la4 r (callC ct 20) [] (FI p (.lst (L.map rowT)) s10 s11 s12 s13 s14 s15) (hx a b c L q) = r (callC ct 20) [] (FI p (.lst (L.map rowT)) s10 s11 s12 s13 s14 s15) (hx a b c L q) := by
  refine st_no ?_ rfl
  have t1 := lc_emb (cf := callC ct 20) (o := []) (fr := FI p (.lst (L.map rowT)) s10 s11 s12 s13 s14 s15) (own := [12]) (t := .nm 12) (it := C.ie (C.k (.str [97, 98, 99]))) (ifs := C.tnil true) (e := C.bi .list (C.cons (C.mc pg 4 (C.var 2) (C.cons (C.var 12) C.nil)) C.nil))
    (emb := FS.D.str) (h0 := hx a b c L q) (h := hx a b c L q) (l := [tA, tB, tC]) (b := fun _ => true) (g := fun n => .lst ((FL L n).map intP)) rfl (rds_pl _ _) (by decide) fun n hn => ⟨FI p (.lst (L.map rowT)) s10 s11 (some (.str n)) s13 s14 s15, rfl, rfl, fun _ => ev_bi (xs := [.tup ((FL L n).map intP)]) (h1 := hx a b c L q) (ev_cons (ev_mc (n := 1) (c := 0) (fs := [(7, .ref 2)]) (i := 30) (xs := [.str n]) (h1 := hx a b c L q) (h2 := hx a b c L q) rfl rfl rfl rfl rfl rfl (field_ok hL hl hn 19 _ a b c _)) rfl) rfl⟩
  have t2 := lc_emb (cf := callC ct 20) (o := []) (fr := FI p (.lst (L.map rowT)) s10 s11 s12 s13 s14 s15) (own := [12]) (t := .nm 12) (it := C.ie (C.k (.str [97, 98, 99]))) (ifs := C.tnil true) (e := C.lc [10, 14] (.tup [(.nm 10), (.nm 14)]) (C.enum (C.cons (C.var 3) C.nil)) (C.tcons true (C.tcmp .isin (C.var 12) (C.ix (C.var 14) (C.k (.int 1)))) (C.tnil true)) (C.var 10))
    (emb := FS.D.str) (h0 := hx a b c L q) (h := hx a b c L q) (l := [tA, tB, tC]) (b := fun _ => true) (g := fun n => .lst ((FL L n).map intP)) rfl (rds_pl _ _) (by decide) fun n hn => ⟨FI p (.lst (L.map rowT)) s10 s11 (some (.str n)) s13 s14 s15, rfl, rfl, fun _ =>
      lc_emb (emb := placeD) (l := L.zipIdx 0) (ws := enumL 0 (L.map rowT)) (b := fun p => memB n p.1.1) (g := intP) rfl (rds_en L _) (by rw [List.length_zipIdx]; exact small_len (by omega)) fun x hx' => ⟨FI p (.lst (L.map rowT)) (some (.int (x.2 : Nat))) s11 (some (.str n)) s13 (some (rowT x.1)) s15, rfl,
        tc_one (ev_cmpT (x := .str n) (y := nsD x.1.1.2.1) (h1 := hx a b c L q) rfl (ev_ix (x := rowT x.1) (y := .int 1) (h1 := hx a b c L q) rfl rfl rfl) (in_at hn (hL _ (zip_mem hx')).1 _)), fun _ => rfl⟩⟩
  rw [filter_all] at t1 t2
  exact ev_cmpT t1 t2 (ne_same (shps_map fun n _ => by
    show shps 58 ((FL L n).map intP) = true
    exact shps_map fun x _ => by unfold intP shp; rfl))
/-! clashes -/
def prB (r u : Row) : Bool := decide (r.2.1 = u.2.1) && ((decide (r.1 = wLeast) && decide (u.1 = wMost)) || (decide (r.1 = wShort) && decide (u.1 = wLong)))
def clB (r u : Row) : Bool := prB r u && decide (sizeB u < sizeB r)
def clT : C.XB := C.tcons true (C.tcons true (C.tcmp .eq (C.ix (C.var 14) (C.k (.int 1))) (C.ix (C.var 18) (C.k (.int 1)))) (C.tcons true (C.tcmp .isin (C.tup (C.cons (C.ix (C.var 14) (C.k (.int 0))) (C.cons (C.ix (C.var 18) (C.k (.int 0))) C.nil))) (C.lst false (C.cons (C.tup (C.cons (C.k (.str [108, 101, 97, 115, 116])) (C.cons (C.k (.str [109, 111, 115, 116])) C.nil))) (C.cons (C.tup (C.cons (C.k (.str [115, 104, 111, 114, 116])) (C.cons (C.k (.str [108, 111, 110, 103])) C.nil))) C.nil)))) (C.tcons true (C.tcmp .gt (C.call 21 (C.cons (C.var 14) C.nil)) (C.call 21 (C.cons (C.var 18) C.nil))) (C.tnil true)))) (C.tnil true)
def FK (p : Nat → Option FS.D) (own : FS.D) (s10 s14 s16 s17 s18 s19 s20 : Option FS.D) : Fr :=
  [p 0, some (.ref 0), some (.ref 1), some own, p 4, p 5, p 6, p 7, p 8, p 9, s10, p 11, p 12, p 13, s14, p 15, s16, s17, s18, s19, s20]
theorem clP (k : Nat) (F2 : Fr) (p : Nat → Option FS.D) (own t s : FS.D) (s10 s16 s17 s19 s20 : Option FS.D) (h : MH) : (GOOD.map fun r => GOOD.map fun u => clT (callC ct (k + 12)) [F2] (FK p own s10 (some (rowD r t)) s16 s17 (some (rowD u s)) s19 s20) h) = GOOD.map fun r => GOOD.map fun u => FS.R.ok (clB r u) h := by
  kernel_rfl
def CL1 (L : List RT) (x : RP) : List FS.D := ((L.zipIdx 0).filter fun y => clB x.1.1 y.1.1).map fun y => .tup [.int (x.2 : Nat), .int (y.2 : Nat)]
def CL (L : List RT) (l : List RP) : List FS.D := l.flatMap (CL1 L)
theorem CL_snoc (L : List RT) (l : List RP) (x : RP) : CL L (l ++ [x]) = CL L l ++ CL1 L x := by
  unfold CL
  rw [List.flatMap_append]
  congr 1
  simp
theorem CL1_len (L : List RT) (hl : L.length ≤ 12) (x : RP) : (CL1 L x).length ≤ 12 := by
  unfold CL1
  rw [List.length_map]
  exact Nat.le_trans (List.length_filter_le ..) (by rw [List.length_zipIdx]; exact hl)
theorem CL_len (L : List RT) (hl : L.length ≤ 12) : ∀ l : List RP, (CL L l).length ≤ 12 * l.length
  | [] => Nat.le_refl _
  | x :: l => by
    have := CL_len L hl l
    have h1 := CL1_len L hl x
    show (CL1 L x ++ CL L l).length ≤ _
    rw [List.length_append, List.length_cons]
    omega
theorem snoc_len {L : List RT} (hl : L.length ≤ 12) {l1 l2 : List RP} {x : RP} (el : L.zipIdx 0 = l1 ++ x :: l2) : l1.length < 12 := by
  have := congrArg List.length el
  rw [List.length_zipIdx, List.length_append, List.length_cons] at this
  omega
theorem la6_eq : la6 = C.for_ (.tup [(.nm 10), (.nm 14)]) (C.enum (C.cons (C.var 3) C.nil)) (C.scons (C.set (.nm 16) (C.bin .add (C.var 16) (C.lc [17, 18] (.tup [(.nm 17), (.nm 18)]) (C.enum (C.cons (C.var 3) C.nil)) clT (C.tup (C.cons (C.var 10) (C.cons (C.var 17) C.nil)))))) C.snil) := rfl
theorem add_lst {xs ys : List FS.D} (e : xs.length + ys.length ≤ 200) (h : MH) : binV .add (.lst xs) (.lst ys) h = .ok (.lst (xs ++ ys)) h := by
  show (if Nat.ble (xs.length + ys.length) line = true then FS.R.ok (FS.D.lst (xs ++ ys)) h else .stk) = _
  rw [if_pos (Nat.ble_eq_true_of_le (Nat.le_of_lt (small_len e)))]
theorem la6_ok (p : Nat → Option FS.D) (s10 s14 s17 s18 s19 s20 : Option FS.D) {L : List RT} (hL : OkL L) (hl : L.length ≤ 12) (h : MH) : ∃ y10 y14, la6 (callC ct 20) [] (FK p (.lst (L.map rowT)) s10 s14 (some (.lst [])) s17 s18 s19 s20) h = .nx (FK p (.lst (L.map rowT)) y10 y14 (some (.lst (CL L (L.zipIdx 0)))) s17 s18 s19 s20) h := by
  obtain ⟨fr, h', e, ⟨⟨y10, y14, rfl⟩, rfl⟩⟩ := forM_en (emb := rowT) (l := L) (f := fun x fr1 h2 => match asg (.tup [(.nm 10), (.nm 14)]) x fr1 with
    | some fr2 => (C.scons (C.set (.nm 16) (C.bin .add (C.var 16) (C.lc [17, 18] (.tup [(.nm 17), (.nm 18)]) (C.enum (C.cons (C.var 3) C.nil)) clT (C.tup (C.cons (C.var 10) (C.cons (C.var 17) C.nil)))))) C.snil) (callC ct 20) [] fr2 h2
    | none => .stk) (fun dn fr h2 => (∃ y10 y14, fr = FK p (.lst (L.map rowT)) y10 y14 (some (.lst (CL L dn))) s17 s18 s19 s20) ∧ h2 = h) (fr := FK p (.lst (L.map rowT)) s10 s14 (some (.lst [])) s17 s18 s19 s20) (h := h) ⟨⟨_, _, rfl⟩, rfl⟩ (by
      rintro l1 x l2 fr h2 el ⟨⟨y10, y14, rfl⟩, rfl⟩
      have hx1 : x ∈ L.zipIdx 0 := by rw [el]; exact List.mem_append_right _ List.mem_cons_self
      have hlen := snoc_len hl el
      refine ⟨FK p (.lst (L.map rowT)) (some (.int (x.2 : Nat))) (some (rowT x.1)) (some (.lst (CL L (l1 ++ [x])))) s17 s18 s19 s20, h2, ?_, ⟨⟨_, _, rfl⟩, rfl⟩⟩
      have e1 : C.lc [17, 18] (.tup [(.nm 17), (.nm 18)]) (C.enum (C.cons (C.var 3) C.nil)) clT (C.tup (C.cons (C.var 10) (C.cons (C.var 17) C.nil))) (callC ct 20) [] (FK p (.lst (L.map rowT)) (some (.int (x.2 : Nat))) (some (rowT x.1)) (some (.lst (CL L l1))) s17 s18 s19 s20) h2 = .ok (.lst (CL1 L x)) h2 :=
        lc_emb (emb := placeD) (l := L.zipIdx 0) (ws := enumL 0 (L.map rowT)) (b := fun y => clB x.1.1 y.1.1) (g := fun y => .tup [.int (x.2 : Nat), .int (y.2 : Nat)]) rfl (rds_en L _) (by rw [List.length_zipIdx]; exact small_len (by omega)) fun y hy => ⟨FK p (.lst (L.map rowT)) (some (.int (x.2 : Nat))) (some (rowT x.1)) (some (.lst (CL L l1))) (some (.int (y.2 : Nat))) (some (rowT y.1)) s19 s20, rfl,
          map_at (map_at (clP 8 (FK p (.lst (L.map rowT)) (some (.int (x.2 : Nat))) (some (rowT x.1)) (some (.lst (CL L l1))) s17 s18 s19 s20) p (.lst (L.map rowT)) (.str x.1.2) (.str y.1.2) (some (.int (x.2 : Nat))) (some (.lst (CL L l1))) (some (.int (y.2 : Nat))) s19 s20 h2) _ (good_mem (hL _ (zip_mem hx1)).1)) _ (good_mem (hL _ (zip_mem hy)).1), fun _ => rfl⟩
      have e2 : C.set (.nm 16) (C.bin .add (C.var 16) (C.lc [17, 18] (.tup [(.nm 17), (.nm 18)]) (C.enum (C.cons (C.var 3) C.nil)) clT (C.tup (C.cons (C.var 10) (C.cons (C.var 17) C.nil))))) (callC ct 20) [] (FK p (.lst (L.map rowT)) (some (.int (x.2 : Nat))) (some (rowT x.1)) (some (.lst (CL L l1))) s17 s18 s19 s20) h2 = .nx (FK p (.lst (L.map rowT)) (some (.int (x.2 : Nat))) (some (rowT x.1)) (some (.lst (CL L (l1 ++ [x])))) s17 s18 s19 s20) h2 := by
        rw [CL_snoc]
        refine st_set (v := .lst (CL L l1 ++ CL1 L x)) (ev_bin rfl e1 (add_lst ?_ _)) rfl
        have z1 := CL_len L hl l1
        have z2 := CL1_len L hl x
        omega
      show (C.scons _ C.snil) (callC ct 20) [] (FK p (.lst (L.map rowT)) (some (.int (x.2 : Nat))) (some (rowT x.1)) (some (.lst (CL L l1))) s17 s18 s19 s20) h2 = _
      rw [st_nx e2]
      rfl)
  refine ⟨y10, y14, ?_⟩
  rw [la6_eq]
  exact st_for (h1 := h') rfl e
end K03

-- text K03L5
set_option Elab.async false
set_option linter.all false
set_option maxRecDepth 100000
set_option maxHeartbeats 0
namespace K03
open PySem FS
/-! rules.clashing -/
def cdT : C.XB := C.tcons true (C.tcmp .eq (C.ix (C.var 3) (C.k (.int 1))) (C.ix (C.var 5) (C.k (.int 1)))) (C.tcons true (C.tcmp .isin (C.tup (C.cons (C.ix (C.var 3) (C.k (.int 0))) (C.cons (C.ix (C.var 5) (C.k (.int 0))) C.nil))) (C.tup (C.cons (C.tup (C.cons (C.k (.str [108, 101, 97, 115, 116])) (C.cons (C.k (.str [109, 111, 115, 116])) C.nil))) (C.cons (C.tup (C.cons (C.k (.str [115, 104, 111, 114, 116])) (C.cons (C.k (.str [108, 111, 110, 103])) C.nil))) C.nil)))) (C.tnil true))
def cdE : C.XE := C.ife (C.tcmp .gt (C.call 7 (C.cons (C.var 3) C.nil)) (C.call 7 (C.cons (C.var 5) C.nil))) (C.lst false (C.cons (C.tup (C.cons (C.var 2) (C.cons (C.var 4) C.nil))) C.nil)) (C.lst false C.nil)
def cdB : C.XS := C.scons (C.sife cdT (C.scons (C.ext 1 cdE) C.snil) C.snil) C.snil
theorem cl_eq : c_Rules_clashing = C.scons (C.set (.nm 1) (C.lst true C.nil)) (C.scons (C.for_ (.tup [(.nm 2), (.nm 3)]) (C.enum (C.cons (C.at_ pg (C.var 0) 7) C.nil)) (C.scons (C.for_ (.tup [(.nm 4), (.nm 5)]) (C.enum (C.cons (C.at_ pg (C.var 0) 7) C.nil)) cdB) C.snil)) (C.scons (C.ret (C.bi .tuple (C.cons (C.var 1) C.nil))) C.snil)) := rfl
theorem cdP (cf : CF) (o : List Fr) (s0 s1 s2 s4 : Option FS.D) (t s : FS.D) (h : MH) : (GOOD.map fun r => GOOD.map fun u => cdT cf o [s0, s1, s2, some (rowD r t), s4, some (rowD u s)] h) = GOOD.map fun r => GOOD.map fun u => FS.R.ok (prB r u) h := by
  kernel_rfl
theorem prS : (GOOD.all fun r => GOOD.all fun u => !prB r u || (SIZED.contains r && SIZED.contains u)) = true := by decide +kernel
theorem pr_sized {r u : Row} (hr : goodB r = true) (hu : goodB u = true) (h : prB r u = true) : r ∈ SIZED ∧ u ∈ SIZED := by
  have e := List.all_eq_true.mp (List.all_eq_true.mp prS r (good_mem hr)) u (good_mem hu)
  rw [h] at e
  simpa using e
theorem size7 {r : Row} (hr : r ∈ SIZED) (k : Nat) (o : List Fr) (h : MH) (t : FS.D) : callC ct (k + 12) (.fn 7) o [rowD r t] h = .ok (.int (sizeB r)) h := (Prod.mk.inj (map_at (sizes k o h t) r hr)).1
theorem ext_at {n : Nat} {xs ys : List FS.D} {h : MH} (e : h[n]? = some (.lst xs)) (nc : noClos ys = true) (hz : xs.length + ys.length ≤ 200) : extAt h (.ref n) (.lst ys) = some (h.set n (.lst (xs ++ ys))) := by
  show (match h[n]? with | some (.lst xs) => if noClos ys && Nat.ble (xs.length + ys.length) line then some (h.set n (.lst (xs ++ ys))) else none | _ => none) = _
  rw [e, nc]
  show (if (true && Nat.ble (xs.length + ys.length) line) = true then some (h.set n (.lst (xs ++ ys))) else none) = _
  rw [Nat.ble_eq_true_of_le (Nat.le_of_lt (small_len hz))]
  rfl
def CM (x : RP) (l : List RP) : List FS.D := (l.filter fun y => clB x.1.1 y.1.1).map fun y => .tup [.int (x.2 : Nat), .int (y.2 : Nat)]
theorem CM_len (x : RP) (l : List RP) : (CM x l).length ≤ l.length := by
  unfold CM
  rw [List.length_map]
  exact List.length_filter_le ..
theorem cdB_ok {L : List RT} (hL : OkL L) (hl : L.length ≤ 12) {x y : RP} {l0 l1 l2 : List RP} (hx1 : x ∈ L.zipIdx 0) (h0 : l0.length < 12) (el : L.zipIdx 0 = l1 ++ y :: l2) (k : Nat) (o : List Fr) (a b c : Int) (q : MH) : cdB (callC ct (k + 13)) o [some (.ref 1), some (.ref (q.length + 3)), some (.int (x.2 : Nat)), some (rowT x.1), some (.int (y.2 : Nat)), some (rowT y.1)] (hx a b c L (q ++ [.lst (CL L l0 ++ CM x l1)])) =
    .nx [some (.ref 1), some (.ref (q.length + 3)), some (.int (x.2 : Nat)), some (rowT x.1), some (.int (y.2 : Nat)), some (rowT y.1)] (hx a b c L (q ++ [.lst (CL L l0 ++ CM x (l1 ++ [y]))])) := by
  have hy1 : y ∈ L.zipIdx 0 := by rw [el]; exact List.mem_append_right _ List.mem_cons_self
  have gx := (hL _ (zip_mem hx1)).1
  have gy := (hL _ (zip_mem hy1)).1
  have hlen := snoc_len hl el
  have et : cdT (callC ct (k + 13)) o [some (.ref 1), some (.ref (q.length + 3)), some (.int (x.2 : Nat)), some (rowT x.1), some (.int (y.2 : Nat)), some (rowT y.1)] (hx a b c L (q ++ [.lst (CL L l0 ++ CM x l1)])) = .ok (prB x.1.1 y.1.1) (hx a b c L (q ++ [.lst (CL L l0 ++ CM x l1)])) := map_at (map_at (cdP (callC ct (k + 13)) o (some (.ref 1)) (some (.ref (q.length + 3))) (some (.int (x.2 : Nat))) (some (.int (y.2 : Nat))) (.str x.1.2) (.str y.1.2) (hx a b c L (q ++ [FS.MO.lst (CL L l0 ++ CM x l1)]))) _ (good_mem gx)) _ (good_mem gy)
  have cm : CM x (l1 ++ [y]) = CM x l1 ++ (if clB x.1.1 y.1.1 then [.tup [.int (x.2 : Nat), .int (y.2 : Nat)]] else []) := by
    unfold CM
    rw [List.filter_append, List.map_append]
    congr 1
    rw [List.filter_cons, List.filter_nil]
    cases clB x.1.1 y.1.1 <;> rfl
  unfold cdB
  cases hp : prB x.1.1 y.1.1 with
  | false =>
    rw [hp] at et
    have hcl : clB x.1.1 y.1.1 = false := by unfold clB; rw [hp]; rfl
    rw [st_no et rfl, cm, hcl, if_neg Bool.false_ne_true, List.append_nil]
    rfl
  | true =>
    rw [hp] at et
    obtain ⟨sx, sy⟩ := pr_sized gx gy hp
    have hcl : clB x.1.1 y.1.1 = decide (sizeB y.1.1 < sizeB x.1.1) := by unfold clB; rw [hp]; rfl
    have eg : C.tcmp .gt (C.call 7 (C.cons (C.var 3) C.nil)) (C.call 7 (C.cons (C.var 5) C.nil)) (callC ct (k + 13)) o [some (.ref 1), some (.ref (q.length + 3)), some (.int (x.2 : Nat)), some (rowT x.1), some (.int (y.2 : Nat)), some (rowT y.1)] (hx a b c L (q ++ [.lst (CL L l0 ++ CM x l1)])) = .ok (clB x.1.1 y.1.1) (hx a b c L (q ++ [.lst (CL L l0 ++ CM x l1)])) := by
      rw [hcl]
      exact ev_cmpT (x := .int (sizeB x.1.1)) (y := .int (sizeB y.1.1)) (h1 := hx a b c L (q ++ [.lst (CL L l0 ++ CM x l1)])) (ev_call (xs := [rowT x.1]) (h1 := hx a b c L (q ++ [.lst (CL L l0 ++ CM x l1)])) rfl (show callC ct (k + 13) (.fn 7) _ _ _ = _ from size7 sx (k + 1) _ _ _)) (ev_call (xs := [rowT y.1]) (h1 := hx a b c L (q ++ [.lst (CL L l0 ++ CM x l1)])) rfl (show callC ct (k + 13) (.fn 7) _ _ _ = _ from size7 sy (k + 1) _ _ _)) rfl
    have ee : cdE (callC ct (k + 13)) o [some (.ref 1), some (.ref (q.length + 3)), some (.int (x.2 : Nat)), some (rowT x.1), some (.int (y.2 : Nat)), some (rowT y.1)] (hx a b c L (q ++ [.lst (CL L l0 ++ CM x l1)])) = .ok (.lst (if clB x.1.1 y.1.1 then [.tup [.int (x.2 : Nat), .int (y.2 : Nat)]] else [])) (hx a b c L (q ++ [.lst (CL L l0 ++ CM x l1)])) := by
      unfold cdE C.ife
      rw [eg]
      cases clB x.1.1 y.1.1 <;> rfl
    have e3 : C.ext 1 cdE (callC ct (k + 13)) o [some (.ref 1), some (.ref (q.length + 3)), some (.int (x.2 : Nat)), some (rowT x.1), some (.int (y.2 : Nat)), some (rowT y.1)] (hx a b c L (q ++ [.lst (CL L l0 ++ CM x l1)])) = .nx [some (.ref 1), some (.ref (q.length + 3)), some (.int (x.2 : Nat)), some (rowT x.1), some (.int (y.2 : Nat)), some (rowT y.1)] (hx a b c L (q ++ [.lst (CL L l0 ++ CM x (l1 ++ [y]))])) := by
      have ex := ext_at (ys := if clB x.1.1 y.1.1 then [.tup [.int (x.2 : Nat), .int (y.2 : Nat)]] else []) (at_last (q := q) (m := .lst (CL L l0 ++ CM x l1)) a b c L) (by cases clB x.1.1 y.1.1 <;> rfl) (by
        have z1 := CL_len L hl l0
        have z2 := CM_len x l1
        rw [List.length_append]
        cases clB x.1.1 y.1.1
        · show _ + 0 ≤ 200
          omega
        · show _ + 1 ≤ 200
          omega)
      show (cdE (callC ct (k + 13)) o _ (hx a b c L (q ++ [.lst (CL L l0 ++ CM x l1)]))).toS _ _ = _
      rw [ee]
      simp only [R.toS]
      rw [ex, set_last, cm, List.append_assoc]
    rw [st_in et (st_nx e3)]
    rfl
theorem clash_ok {L : List RT} (hL : OkL L) (hl : L.length ≤ 12) (k : Nat) (o : List Fr) (a b c : Int) (q : MH) : callC ct (k + 14) (.fn 32) o [.ref 1] (hx a b c L q) = .ok (.tup (CL L (L.zipIdx 0))) (hx a b c L (q ++ [.lst (CL L (L.zipIdx 0))])) := by
  refine fn_ret (F := f_Rules_clashing) rfl rfl rfl rfl ?_
  show c_Rules_clashing (callC ct (k + 13)) o [some (.ref 1), none, none, none, none, none] (hx a b c L q) = _
  rw [cl_eq, st_nx (fr1 := [some (.ref 1), some (.ref (q.length + 3)), none, none, none, none]) (h1 := hx a b c L (q ++ [.lst []])) rfl]
  obtain ⟨fr', h', e1, ⟨s2, s3, s4, s5, rfl⟩, rfl⟩ := forM_rp (emb := rowT) (n := 2) (l := L) (f := fun x fr1 h2 => match asg (.tup [(.nm 2), (.nm 3)]) x fr1 with
    | some fr2 => (C.scons (C.for_ (.tup [(.nm 4), (.nm 5)]) (C.enum (C.cons (C.at_ pg (C.var 0) 7) C.nil)) cdB) C.snil) (callC ct (k + 13)) o fr2 h2
    | none => .stk) (fun dn fr h => (∃ s2 s3 s4 s5, fr = [some (.ref 1), some (.ref (q.length + 3)), s2, s3, s4, s5]) ∧ h = hx a b c L (q ++ [.lst (CL L dn)]))
    (fr := [some (.ref 1), some (.ref (q.length + 3)), none, none, none, none]) (h := hx a b c L (q ++ [.lst []])) ⟨⟨_, _, _, _, rfl⟩, rfl⟩ (by
      rintro l1 l2 fr h el ⟨_, rfl⟩
      rfl) (by
      rintro l1 x l2 fr h el ⟨⟨s2, s3, s4, s5, rfl⟩, rfl⟩
      have hx1 : x ∈ L.zipIdx 0 := by rw [el]; exact List.mem_append_right _ List.mem_cons_self
      have hlen := snoc_len hl el
      obtain ⟨fr', h', e2, ⟨t4, t5, rfl⟩, rfl⟩ := forM_rp (emb := rowT) (n := 2) (l := L) (f := fun x fr1 h2 => match asg (.tup [(.nm 4), (.nm 5)]) x fr1 with
        | some fr2 => cdB (callC ct (k + 13)) o fr2 h2
        | none => .stk) (fun dn fr h => (∃ t4 t5, fr = [some (.ref 1), some (.ref (q.length + 3)), some (.int (x.2 : Nat)), some (rowT x.1), t4, t5]) ∧ h = hx a b c L (q ++ [.lst (CL L l1 ++ CM x dn)]))
        (fr := [some (.ref 1), some (.ref (q.length + 3)), some (.int (x.2 : Nat)), some (rowT x.1), s4, s5]) (h := hx a b c L (q ++ [.lst (CL L l1)])) ⟨⟨_, _, rfl⟩, by show _ = hx a b c L (q ++ [.lst (CL L l1 ++ [])]); rw [List.append_nil]⟩ (by
          rintro l1 l2 fr h el ⟨_, rfl⟩
          rfl) (by
          rintro m1 y m2 fr h em ⟨⟨t4, t5, rfl⟩, rfl⟩
          exact ⟨_, _, cdB_ok hL hl hx1 hlen em k o a b c q, ⟨_, _, rfl⟩, rfl⟩)
      have e3 : CL L (l1 ++ [x]) = CL L l1 ++ CM x (L.zipIdx 0) := by
        rw [CL_snoc]
        rfl
      refine ⟨[some (.ref 1), some (.ref (q.length + 3)), some (.int (x.2 : Nat)), some (rowT x.1), t4, t5], hx a b c L (q ++ [.lst (CL L (l1 ++ [x]))]), ?_, ⟨⟨_, _, _, _, rfl⟩, rfl⟩⟩
      rw [e3]
      show (C.scons _ C.snil) (callC ct (k + 13)) o [some (.ref 1), some (.ref (q.length + 3)), some (.int (x.2 : Nat)), some (rowT x.1), s4, s5] _ = _
      rw [st_nx (st_for (enE a b c L _ rfl) e2)]
      rfl)
  rw [st_nx (st_for (enE a b c L _ rfl) e1)]
  refine st_ret (st_retE (ev_bi (xs := [.ref (q.length + 3)]) (h1 := hx a b c L (q ++ [.lst (CL L (L.zipIdx 0))])) rfl ?_))
  show (match lstOf (hx a b c L (q ++ [.lst (CL L (L.zipIdx 0))])) (.ref (q.length + 3)) with
    | some xs => FS.R.ok (FS.D.tup xs) _
    | none => .stk) = _
  have e3 : lstOf (hx a b c L (q ++ [.lst (CL L (L.zipIdx 0))])) (.ref (q.length + 3)) = some (CL L (L.zipIdx 0)) := by
    show (match (hx a b c L (q ++ [.lst (CL L (L.zipIdx 0))]))[q.length + 3]? with | some (.lst xs) => some xs | _ => none) = _
    rw [at_last]
  rw [e3]
end K03

-- text K03L6
set_option Elab.async false
set_option linter.all false
set_option maxRecDepth 100000
set_option maxHeartbeats 400000
namespace K03
open PySem FS
/-! needless rules -/
def ndB (L : List RT) (x : RP) : Bool := (L.take x.2).any fun u => needB u.1 x.1.1
def ND (L : List RT) (l : List RP) : List FS.D := (l.filter (ndB L)).map intP
theorem zip_lt {L : List RT} {x : RP} (h : x ∈ L.zipIdx 0) : x.2 ≤ L.length := Nat.le_of_lt (List.getElem?_eq_some_iff.mp (zip_at h)).1
def neE : C.XE := C.gen .any [4] (.nm 4) (C.ie (C.sl (C.at_ pg (C.var 0) 7) true C.nop false (C.var 2))) (C.tnil true) (C.call 11 (C.cons (C.var 4) (C.cons (C.var 3) C.nil)))
def neB : C.XS := C.scons (C.sife (C.tv neE) (C.scons (C.apd (C.var 1) (C.var 2)) C.snil) C.snil) C.snil
theorem ne_eq : c_Rules_needless = C.scons (C.set (.nm 1) (C.lst true C.nil)) (C.scons (C.for_ (.tup [(.nm 2), (.nm 3)]) (C.enum (C.cons (C.at_ pg (C.var 0) 7) C.nil)) neB) (C.scons (C.ret (C.bi .tuple (C.cons (C.var 1) C.nil))) C.snil)) := rfl
theorem need11 {r u : Row} (hr : goodB r = true) (hu : goodB u = true) (k : Nat) (o : List Fr) (h : MH) (t s : FS.D) : callC ct (k + 12) (.fn 11) o [rowD r t, rowD u s] h = .ok (.bl (needB r u)) h := map_at (map_at (needP k o h t s) r (good_mem hr)) u (good_mem hu)
theorem walk_lst (xs : List FS.D) (h : MH) : walkOf h (.lst xs) = some (plW xs) := rfl
theorem neE_ok {L : List RT} (hL : OkL L) (hl : L.length ≤ 12) {x : RP} (hx1 : x ∈ L.zipIdx 0) (s1 s4 : Option FS.D) (k : Nat) (o : List Fr) (a b c : Int) (q : MH) : neE (callC ct (k + 12)) o [some (.ref 1), s1, some (.int (x.2 : Nat)), some (rowT x.1), s4] (hx a b c L q) = .ok (.bl (ndB L x)) (hx a b c L q) := by
  have es : C.sl (C.at_ pg (C.var 0) 7) true C.nop false (C.var 2) (callC ct (k + 12)) o [some (.ref 1), s1, some (.int (x.2 : Nat)), some (rowT x.1), s4] (hx a b c L q) = .ok (.lst ((L.take x.2).map rowT)) (hx a b c L q) := by
    refine ev_sl (x := .ref 2) (l := .non) (u := .int (x.2 : Nat)) (h1 := hx a b c L q) (fieldE a b c L q rfl) rfl rfl rfl rfl ?_
    show some (FS.D.lst (cut (L.map rowT) none (some (x.2 : Int)))) = _
    rw [cut_take (by rw [List.length_map]; exact zip_lt hx1), List.map_take]
  refine gen_emb (q := .any) (emb := rowT) (l := L.take x.2) (ws := plW ((L.take x.2).map rowT)) (b := fun u => needB u.1 x.1.1) ?_ (rds_pl _ _) fun u hu => ⟨[some (.ref 1), s1, some (.int (x.2 : Nat)), some (rowT x.1), some (rowT u)], rfl, ?_⟩
  · unfold C.ie
    rw [es]
    rfl
  · exact ev_call (xs := [rowT u, rowT x.1]) (h1 := hx a b c L q) rfl (need11 (hL _ (List.mem_of_mem_take hu)).1 (hL _ (zip_mem hx1)).1 k _ _ _ _)
theorem needless_ok {L : List RT} (hL : OkL L) (hl : L.length ≤ 12) (k : Nat) (o : List Fr) (a b c : Int) (q : MH) : callC ct (k + 13) (.fn 31) o [.ref 1] (hx a b c L q) = .ok (.tup (ND L (L.zipIdx 0))) (hx a b c L (q ++ [.lst (ND L (L.zipIdx 0))])) := by
  refine fn_ret (F := f_Rules_needless) rfl rfl rfl rfl ?_
  show c_Rules_needless (callC ct (k + 12)) o [some (.ref 1), none, none, none, none] (hx a b c L q) = _
  rw [ne_eq, st_nx (fr1 := [some (.ref 1), some (.ref (q.length + 3)), none, none, none]) (h1 := hx a b c L (q ++ [.lst []])) rfl]
  obtain ⟨fr', h', e1, ⟨s2, s3, s4, rfl⟩, rfl⟩ := forM_rp (emb := rowT) (n := 2) (l := L) (f := fun x fr1 h2 => match asg (.tup [(.nm 2), (.nm 3)]) x fr1 with
    | some fr2 => neB (callC ct (k + 12)) o fr2 h2
    | none => .stk) (fun dn fr h => (∃ s2 s3 s4, fr = [some (.ref 1), some (.ref (q.length + 3)), s2, s3, s4]) ∧ h = hx a b c L (q ++ [.lst (ND L dn)]))
    (fr := [some (.ref 1), some (.ref (q.length + 3)), none, none, none]) (h := hx a b c L (q ++ [.lst []])) ⟨⟨_, _, _, rfl⟩, rfl⟩ (by
      rintro l1 l2 fr h el ⟨_, rfl⟩
      rfl) (by
      rintro l1 x l2 fr h el ⟨⟨s2, s3, s4, rfl⟩, rfl⟩
      have hx1 : x ∈ L.zipIdx 0 := by rw [el]; exact List.mem_append_right _ List.mem_cons_self
      have hlen := snoc_len hl el
      have nd : ND L (l1 ++ [x]) = ND L l1 ++ (if ndB L x then [intP x] else []) := by
        unfold ND
        rw [List.filter_append, List.map_append]
        congr 1
        rw [List.filter_cons, List.filter_nil]
        cases ndB L x <;> rfl
      refine ⟨[some (.ref 1), some (.ref (q.length + 3)), some (.int (x.2 : Nat)), some (rowT x.1), s4], hx a b c L (q ++ [.lst (ND L (l1 ++ [x]))]), ?_, ⟨⟨_, _, _, rfl⟩, rfl⟩⟩
      show neB (callC ct (k + 12)) o [some (.ref 1), some (.ref (q.length + 3)), some (.int (x.2 : Nat)), some (rowT x.1), s4] _ = _
      have et := tc_tv (neE_ok hL hl hx1 (some (.ref (q.length + 3))) s4 k o a b c (q ++ [.lst (ND L l1)]))
      unfold neB
      cases hb : ndB L x with
      | false =>
        rw [hb] at et
        rw [st_no et rfl, nd, hb, if_neg Bool.false_ne_true, List.append_nil]
        rfl
      | true =>
        rw [hb] at et
        have zl : (ND L l1).length < line := small_len (by
          unfold ND
          rw [List.length_map]
          have := List.length_filter_le (ndB L) l1
          omega)
        rw [st_in et (st_nx (st_apd (n := q.length + 3) rfl (at_last a b c L) rfl (at_last a b c L) rfl zl)), set_last, nd, hb, if_pos rfl]
        rfl)
  rw [st_nx (st_for (enE a b c L _ rfl) e1)]
  refine st_ret (st_retE (ev_bi (xs := [.ref (q.length + 3)]) (h1 := hx a b c L (q ++ [.lst (ND L (L.zipIdx 0))])) rfl ?_))
  show (match lstOf (hx a b c L (q ++ [.lst (ND L (L.zipIdx 0))])) (.ref (q.length + 3)) with
    | some xs => FS.R.ok (FS.D.tup xs) _
    | none => .stk) = _
  have e3 : lstOf (hx a b c L (q ++ [.lst (ND L (L.zipIdx 0))])) (.ref (q.length + 3)) = some (ND L (L.zipIdx 0)) := by
    show (match (hx a b c L (q ++ [.lst (ND L (L.zipIdx 0))]))[q.length + 3]? with | some (.lst xs) => some xs | _ => none) = _
    rw [at_last]
  rw [e3]
/-! the law's own -/
def ndT : C.XB := C.tcons true (C.tcons true (C.tcmp .eq (C.sl (C.var 20) true C.nop false (C.k (.int 2))) (C.sl (C.var 14) true C.nop false (C.k (.int 2)))) (C.tcons true (C.tv (C.call 23 (C.cons (C.var 20) (C.cons (C.var 14) C.nil)))) (C.tnil true))) (C.tnil true)
def ndC : C.XE := C.lc [20] (.nm 20) (C.ie (C.sl (C.var 3) true C.nop false (C.var 10))) ndT (C.var 20)
theorem la7_eq : la7 = C.set (.nm 19) (C.lc [10, 14] (.tup [(.nm 10), (.nm 14)]) (C.enum (C.cons (C.var 3) C.nil)) (C.tcons true (C.tcmp .ne ndC (C.lst false C.nil)) (C.tnil true)) (C.var 10)) := rfl
theorem sameP (h : MH) (t s : FS.D) : (GOOD.map fun r => GOOD.map fun u => (match slV (rowD r t) none (some 2) h, slV (rowD u s) none (some 2) h with | some x, some y => cmpV .eq x y h | _, _ => none)) = GOOD.map fun r => GOOD.map fun u => some (sameB r u) := by
  kernel_rfl
theorem ndT_ok {r u : Row} (hr : goodB r = true) (hu : goodB u = true) (k : Nat) (F2 F3 : Fr) (p : Nat → Option FS.D) (own t s : FS.D) (s10 s16 s17 s18 s19 : Option FS.D) (h : MH) : ndT (callC ct (k + 12)) [F2, F3] (FK p own s10 (some (rowD u s)) s16 s17 s18 s19 (some (rowD r t))) h = .ok (needB r u) h := by
  have e1 : C.tcmp .eq (C.sl (C.var 20) true C.nop false (C.k (.int 2))) (C.sl (C.var 14) true C.nop false (C.k (.int 2))) (callC ct (k + 12)) [F2, F3] (FK p own s10 (some (rowD u s)) s16 s17 s18 s19 (some (rowD r t))) h = .ok (sameB r u) h := by
    refine ev_cmpT (x := .tup [.str r.1, nsD r.2.1]) (y := .tup [.str u.1, nsD u.2.1]) (h1 := h) rfl rfl ?_
    exact map_at (map_at (sameP h t s) r (good_mem hr)) u (good_mem hu)
  have z := List.all_eq_true.mp (List.all_eq_true.mp needN r (good_mem hr)) u (good_mem hu)
  unfold ndT
  refine tc_one ?_
  show (C.tcmp .eq _ _ (callC ct (k + 12)) [F2, F3] _ h).bind _ = _
  rw [e1]
  cases hs : sameB r u with
  | false =>
    rw [hs] at z
    have : needB r u = false := by simpa using z
    rw [this]
    rfl
  | true =>
    show (C.tcons true (C.tv (C.call 23 (C.cons (C.var 20) (C.cons (C.var 14) C.nil)))) (C.tnil true)) (callC ct (k + 12)) [F2, F3] (FK p own s10 (some (rowD u s)) s16 s17 s18 s19 (some (rowD r t))) h = _
    exact tc_one (tc_tv (ev_call (xs := [rowD r t, rowD u s]) (h1 := h) rfl (map_at (map_at (needS k _ h t s) r (good_mem hr)) u (List.mem_filter.mpr ⟨good_mem hu, hs⟩))))
theorem la7_t (p : Nat → Option FS.D) (s10 s14 s16 s17 s18 s19 s20 : Option FS.D) {L : List RT} (hL : OkL L) (hl : L.length ≤ 12) (h : MH) {x : RP} (hx1 : x ∈ L.zipIdx 0) : C.tcons true (C.tcmp .ne ndC (C.lst false C.nil)) (C.tnil true) (callC ct 20) [FK p (.lst (L.map rowT)) s10 s14 s16 s17 s18 s19 s20] (FK p (.lst (L.map rowT)) (some (.int (x.2 : Nat))) (some (rowT x.1)) s16 s17 s18 s19 s20) h = .ok (ndB L x) h := by
  have e1 : C.sl (C.var 3) true C.nop false (C.var 10) (callC ct 20) [FK p (.lst (L.map rowT)) s10 s14 s16 s17 s18 s19 s20] (FK p (.lst (L.map rowT)) (some (.int (x.2 : Nat))) (some (rowT x.1)) s16 s17 s18 s19 s20) h = .ok (.lst ((L.take x.2).map rowT)) h := by
    refine ev_sl (x := .lst (L.map rowT)) (l := .non) (u := .int (x.2 : Nat)) (h1 := h) rfl rfl rfl rfl rfl ?_
    show some (FS.D.lst (cut (L.map rowT) none (some (x.2 : Int)))) = _
    rw [cut_take (by rw [List.length_map]; exact zip_lt hx1), List.map_take]
  have e2 : ndC (callC ct 20) [FK p (.lst (L.map rowT)) s10 s14 s16 s17 s18 s19 s20] (FK p (.lst (L.map rowT)) (some (.int (x.2 : Nat))) (some (rowT x.1)) s16 s17 s18 s19 s20) h = .ok (.lst (((L.take x.2).filter fun u => needB u.1 x.1.1).map rowT)) h := by
    unfold ndC
    refine lc_emb (emb := rowT) (l := L.take x.2) (ws := plW ((L.take x.2).map rowT)) (b := fun u => needB u.1 x.1.1) (g := rowT) (h := h) ?_ (rds_pl _ _) (small_len (by rw [List.length_take]; omega)) fun u hu => ⟨FK p (.lst (L.map rowT)) (some (.int (x.2 : Nat))) (some (rowT x.1)) s16 s17 s18 s19 (some (rowT u)), rfl, ?_, fun _ => rfl⟩
    · unfold C.ie
      rw [e1]
      rfl
    · have hg := hL _ (List.mem_of_mem_take hu)
      have hgx := hL _ (zip_mem hx1)
      -- two frames stand outside
      exact ndT_ok hg.1 hgx.1 8 _ _ p _ _ _ _ _ _ _ _ h
  have ok : OkL ((L.take x.2).filter fun u => needB u.1 x.1.1) := fun u hu => hL u (List.mem_of_mem_take (List.mem_filter.mp hu).1)
  have en : (!((L.take x.2).filter fun u => needB u.1 x.1.1).isEmpty) = ndB L x := by
    unfold ndB
    generalize L.take x.2 = l
    induction l with
    | nil => rfl
    | cons u l ih =>
      rw [List.filter_cons, List.any_cons]
      cases hb : needB u.1 x.1.1 with
      | true => rfl
      | false => exact ih
  rw [← en]
  generalize ((L.take x.2).filter fun u => needB u.1 x.1.1) = M at e2 ok
  refine tc_one (ev_cmpT e2 (ev_lst (xs := []) rfl) ?_)
  show (eqOpt h _ _).map not = _
  rw [eq_nil (list_p ok h).2.1]
  cases M <;> rfl
theorem la7_ok (p : Nat → Option FS.D) (s10 s14 s16 s17 s18 s19 s20 : Option FS.D) {L : List RT} (hL : OkL L) (hl : L.length ≤ 12) (h : MH) : la7 (callC ct 20) [] (FK p (.lst (L.map rowT)) s10 s14 s16 s17 s18 s19 s20) h = .nx (FK p (.lst (L.map rowT)) s10 s14 s16 s17 s18 (some (.lst (ND L (L.zipIdx 0)))) s20) h := by
  have e0 : C.lc [10, 14] (.tup [(.nm 10), (.nm 14)]) (C.enum (C.cons (C.var 3) C.nil)) (C.tcons true (C.tcmp .ne ndC (C.lst false C.nil)) (C.tnil true)) (C.var 10) (callC ct 20) [] (FK p (.lst (L.map rowT)) s10 s14 s16 s17 s18 s19 s20) h = .ok (.lst (ND L (L.zipIdx 0))) h := by
    refine lc_emb (emb := placeD) (l := L.zipIdx 0) (ws := enumL 0 (L.map rowT)) (b := ndB L) (g := intP) rfl (rds_en L _) (by rw [List.length_zipIdx]; exact small_len (by omega)) fun x hx1 => ⟨FK p (.lst (L.map rowT)) (some (.int (x.2 : Nat))) (some (rowT x.1)) s16 s17 s18 s19 s20, rfl, la7_t p s10 s14 s16 s17 s18 s19 s20 hL hl h hx1, fun _ => rfl⟩
  rw [la7_eq]
  exact st_set e0 rfl
end K03

-- text K03T
set_option Elab.async false
set_option linter.all false
set_option maxRecDepth 100000
set_option maxHeartbeats 0
namespace K03
open PySem FS
/-! the plain ones, wherever the heap has nine objects -/
def hpR {α : Type} : FS.R α → MH
  | .ok _ h => h
  | _ => []
theorem plain_ok (F : Fr) (m0 m1 m2 m3 m4 m5 m6 m7 m8 : MO) : callC ct 20 (.fn 24) [F] [] [m0, m1, m2, m3, m4, m5, m6, m7, m8] = .ok (.bl true) (hpR (callC ct 20 (.fn 24) [F] [] [m0, m1, m2, m3, m4, m5, m6, m7, m8])) := by
  kernel_rfl
end K03

-- text K03Z
set_option Elab.async false
set_option linter.all false
set_option maxRecDepth 100000
set_option maxHeartbeats 400000
namespace K03
open PySem FS
/-! the round, the law -/
theorem shps_all {n : Nat} {xs : List FS.D} (q : ∀ d ∈ xs, shp n d = true) : shps n xs = true := by
  have := shps_map (emb := fun d : FS.D => d) (n := n) q
  rw [List.map_id'] at this
  exact this
theorem CL_shp (L : List RT) (l : List RP) : shps 59 (CL L l) = true := shps_all fun d hd => by
  unfold CL at hd
  obtain ⟨x, _, hx⟩ := List.mem_flatMap.mp hd
  unfold CL1 at hx
  obtain ⟨y, _, rfl⟩ := List.mem_map.mp hx
  show (shp 58 (.int (x.2 : Nat)) && (shp 58 (.int (y.2 : Nat)) && shps 58 [])) = true
  unfold shp shps
  rfl
theorem la8_ok (p : Nat → Option FS.D) (s10 s14 s17 s18 s20 : Option FS.D) {L : List RT} (hL : OkL L) (hl : L.length ≤ 12) (a b c : Int) (q : MH) (r : C.XS) : C.scons la8 r (callC ct 20) [] (FK p (.lst (L.map rowT)) s10 s14 (some (.lst (CL L (L.zipIdx 0)))) s17 s18 (some (.lst (ND L (L.zipIdx 0)))) s20) (hx a b c L q) =
    r (callC ct 20) [] (FK p (.lst (L.map rowT)) s10 s14 (some (.lst (CL L (L.zipIdx 0)))) s17 s18 (some (.lst (ND L (L.zipIdx 0)))) s20) (hx a b c L (q ++ [.lst (CL L (L.zipIdx 0))] ++ [.lst (ND L (L.zipIdx 0))])) := by
  refine st_no ?_ rfl
  have t1 : C.tcmp .ne (C.bi .list (C.cons (C.mc pg 6 (C.var 2) C.nil) C.nil)) (C.var 16) (callC ct 20) [] (FK p (.lst (L.map rowT)) s10 s14 (some (.lst (CL L (L.zipIdx 0)))) s17 s18 (some (.lst (ND L (L.zipIdx 0)))) s20) (hx a b c L q) = .ok false (hx a b c L (q ++ [.lst (CL L (L.zipIdx 0))])) :=
    ev_cmpT (x := .lst (CL L (L.zipIdx 0))) (y := .lst (CL L (L.zipIdx 0))) (h1 := hx a b c L (q ++ [.lst (CL L (L.zipIdx 0))])) (ev_bi (xs := [.tup (CL L (L.zipIdx 0))]) (h1 := hx a b c L (q ++ [.lst (CL L (L.zipIdx 0))])) (ev_cons (ev_mc (n := 1) (c := 0) (fs := [(7, .ref 2)]) (i := 32) (xs := []) (h1 := hx a b c L q) (h2 := hx a b c L q) rfl rfl rfl rfl rfl rfl (clash_ok hL hl 6 _ a b c _)) rfl) rfl) rfl (ne_same (CL_shp _ _))
  have t2 : C.tcmp .ne (C.bi .list (C.cons (C.mc pg 5 (C.var 2) C.nil) C.nil)) (C.var 19) (callC ct 20) [] (FK p (.lst (L.map rowT)) s10 s14 (some (.lst (CL L (L.zipIdx 0)))) s17 s18 (some (.lst (ND L (L.zipIdx 0)))) s20) (hx a b c L (q ++ [.lst (CL L (L.zipIdx 0))])) = .ok false (hx a b c L (q ++ [.lst (CL L (L.zipIdx 0))] ++ [.lst (ND L (L.zipIdx 0))])) :=
    ev_cmpT (x := .lst (ND L (L.zipIdx 0))) (y := .lst (ND L (L.zipIdx 0))) (h1 := hx a b c L (q ++ [.lst (CL L (L.zipIdx 0))] ++ [.lst (ND L (L.zipIdx 0))])) (ev_bi (xs := [.tup (ND L (L.zipIdx 0))]) (h1 := hx a b c L (q ++ [.lst (CL L (L.zipIdx 0))] ++ [.lst (ND L (L.zipIdx 0))])) (ev_cons (ev_mc (n := 1) (c := 0) (fs := [(7, .ref 2)]) (i := 31) (xs := []) (h1 := hx a b c L (q ++ [.lst (CL L (L.zipIdx 0))])) (h2 := hx a b c L (q ++ [.lst (CL L (L.zipIdx 0))])) rfl rfl rfl rfl rfl rfl (needless_ok hL hl 7 _ a b c _)) rfl) rfl) rfl (ne_same (ints_shp _))
  show C.tcons false (C.tcmp .ne _ _) (C.tcons false (C.tcmp .ne _ _) (C.tnil false)) (callC ct 20) [] _ _ = _
  unfold C.tcons
  rw [t1]
  show (C.tcons false (C.tcmp .ne (C.bi .list (C.cons (C.mc pg 5 (C.var 2) C.nil) C.nil)) (C.var 19)) (C.tnil false)) (callC ct 20) [] _ (hx a b c L (q ++ [.lst (CL L (L.zipIdx 0))])) = _
  exact tc_one t2
def pF (s0 y4 y5 y6 y7 y8 y9 s16 s17 s18 s19 s20 : Option FS.D) : Nat → Option FS.D
  | 0 => s0
  | 4 => y4
  | 5 => y5
  | 6 => y6
  | 7 => y7
  | 8 => y8
  | 9 => y9
  | 16 => s16
  | 17 => s17
  | 18 => s18
  | 19 => s19
  | 20 => s20
  | _ => none
def pK (p : Nat → Option FS.D) (s11 s12 s13 s15 : Option FS.D) : Nat → Option FS.D
  | 11 => s11
  | 12 => s12
  | 13 => s13
  | 15 => s15
  | i => p i
/-- the law's frame before the round -/
def FZ (d : FS.D) : Fr := [some d, some (.ref 0), none, none, none, none, none, none, none, none, none, none, none, none, none, none, none, none, none, none, none]
theorem round_ok (d : FS.D) (a b c : Int) : ∃ fr m0 m1 m2 m3 m4 m5 m6 m7 m8, laB (callC ct 20) [] (FZ d) (dh a b c []) = .nx fr [m0, m1, m2, m3, m4, m5, m6, m7, m8] := by
  have e0 : la0 (callC ct 20) [] (FZ d) (dh a b c []) = .nx (FG (some d) (.lst []) none none none none none none none none none none none none none none none none none) (dh a b c (.ins 0 [(7, .ref 2)] :: .lst [] :: [])) := by
    rfl
  obtain ⟨L, hL, hl, y4, y5, y6, y7, y8, y9, a1, b1, c1, e1⟩ := la1_ok (some d) none none none none none none none none none none none [] a b c none none none none none none
  have hl : L.length ≤ 12 := by omega
  obtain ⟨z10, z11, z12, z13, z14, z15, a2, b2, c2, m0, m1, m2, m3, e3⟩ := la3_ok (pF (some d) y4 y5 y6 y7 y8 y9 none none none none none) none none none none none none hL hl a1 b1 c1 []
  have e5 : la5 (callC ct 20) [] (FI (pF (some d) y4 y5 y6 y7 y8 y9 none none none none none) (.lst (L.map rowT)) z10 z11 z12 z13 z14 z15) (hx a2 b2 c2 L [m0, m1, m2, m3]) = .nx (FK (pK (pF (some d) y4 y5 y6 y7 y8 y9 none none none none none) z11 z12 z13 z15) (.lst (L.map rowT)) z10 z14 (some (.lst [])) none none none none) (hx a2 b2 c2 L [m0, m1, m2, m3]) := st_set (ev_lst (xs := []) rfl) rfl
  obtain ⟨w10, w14, e6⟩ := la6_ok (pK (pF (some d) y4 y5 y6 y7 y8 y9 none none none none none) z11 z12 z13 z15) z10 z14 none none none none hL hl (hx a2 b2 c2 L [m0, m1, m2, m3])
  have e7 := la7_ok (pK (pF (some d) y4 y5 y6 y7 y8 y9 none none none none none) z11 z12 z13 z15) w10 w14 (some (.lst (CL L (L.zipIdx 0)))) none none none none hL hl (hx a2 b2 c2 L [m0, m1, m2, m3])
  refine ⟨FK (pK (pF (some d) y4 y5 y6 y7 y8 y9 none none none none none) z11 z12 z13 z15) (.lst (L.map rowT)) w10 w14 (some (.lst (CL L (L.zipIdx 0)))) none none (some (.lst (ND L (L.zipIdx 0)))) none,
    .lst [.int a2, .int b2, .int c2], .ins 0 [(7, .ref 2)], .lst (L.map rowT), m0, m1, m2, m3, .lst (CL L (L.zipIdx 0)), .lst (ND L (L.zipIdx 0)), ?_⟩
  unfold laB
  have e3 : la3 (callC ct 20) [] (FG (some d) (.lst (L.map rowT)) y4 y5 y6 y7 y8 y9 none none none none none none none none none none none) (dh a1 b1 c1 (.ins 0 [(7, .ref 2)] :: .lst (L.map rowT) :: [])) = .nx (FI (pF (some d) y4 y5 y6 y7 y8 y9 none none none none none) (.lst (L.map rowT)) z10 z11 z12 z13 z14 z15) (hx a2 b2 c2 L [m0, m1, m2, m3]) := e3
  rw [st_nx e0, st_nx e1, la2_ok (some d) y4 y5 y6 y7 y8 y9 none none none none none none none none none none none a1 b1 c1 [] hL, st_nx e3, la4_ok _ _ _ _ _ _ _ hL hl, st_nx e5, st_nx e6, st_nx e7, la8_ok _ _ _ _ _ _ hL hl]
  rfl
theorem law_eq : c_law = C.scons (C.for_ (.nm 1) (C.ie (C.call 15 (C.cons (C.var 0) (C.cons (C.k (.int 1)) C.nil)))) laB) (C.scons (C.ret (C.call 24 C.nil)) C.snil) := rfl
theorem law_run (ns : List Int) (d : FS.D) (hd : d = .lst (ns.map fun n => FS.D.int n) ∨ d = .frl (ns.map fun n => FS.D.int n)) : ∃ mh, callC ct (20 + 1) (.fn 25) [] [d] [] = .ok (.bl true) mh := by
  obtain ⟨a, b, c, e⟩ := law_rounds 18 ns d hd [[some d, none, none, none, none, none, none, none, none, none, none, none, none, none, none, none, none, none, none, none, none]]
  obtain ⟨fr, m0, m1, m2, m3, m4, m5, m6, m7, m8, eb⟩ := round_ok d a b c
  refine ⟨hpR (callC ct 20 (.fn 24) [fr] [] [m0, m1, m2, m3, m4, m5, m6, m7, m8]), ?_⟩
  have run : c_law (callC ct 20) [] [some d, none, none, none, none, none, none, none, none, none, none, none, none, none, none, none, none, none, none, none, none] [] = .ret (.bl true) (hpR (callC ct 20 (.fn 24) [fr] [] [m0, m1, m2, m3, m4, m5, m6, m7, m8])) := by
    rw [law_eq]
    have s1 : C.for_ (.nm 1) (C.ie (C.call 15 (C.cons (C.var 0) (C.cons (C.k (.int 1)) C.nil)))) laB (callC ct 20) [] [some d, none, none, none, none, none, none, none, none, none, none, none, none, none, none, none, none, none, none, none, none] [] = .nx fr [m0, m1, m2, m3, m4, m5, m6, m7, m8] := by
      unfold C.for_ C.ie
      rw [ev_call (ev_cons rfl (ev_cons rfl rfl)) e]
      show (match laB (callC ct 20) [] (FZ d) (dh a b c []) with
        | .nx fr1 h1 => RS.nx fr1 h1
        | .cnt fr1 h1 => RS.nx fr1 h1
        | .brk fr1 h1 => .nx fr1 h1
        | r => r) = _
      rw [eb]
    rw [st_nx s1]
    exact st_ret (st_retE (ev_call rfl (plain_ok fr m0 m1 m2 m3 m4 m5 m6 m7 m8)))
  unfold callC
  show (match c_law (callC ct 20) [] [some d, none, none, none, none, none, none, none, none, none, none, none, none, none, none, none, none, none, none, none, none] [] with
      | .ret d h1 => if f_law.lamf && !noClo d then R.stk else .ok d h1
      | .nx _ h1 => .ok .non h1
      | .exc c _ h1 => .exc c h1
      | _ => .stk) = _
  rw [run]
  rfl
end K03

-- text K03F
set_option Elab.async false
set_option linter.all false
set_option maxRecDepth 100000
set_option maxHeartbeats 0
namespace K03
open PySem PySem.Spec PyProof.Rows L2 FS
def Ok (ns : List Int) : Prop := ns.length ≤ 63
theorem law_true (ns : List Int) (h : Ok ns) (d : FS.D) (hd : d = .lst (ns.map fun n => FS.D.int n) ∨ d = .frl (ns.map fun n => FS.D.int n)) : ∃ mh, callK lawD.g (20 + 1) (.fn 25) [] [d] [] = .ok (.bl true) mh := by
  have := law_run ns d hd
  rw [← eqC] at this
  exact this
end K03
open PySem PySem.W PySem.Calls PyProof.Rows
theorem PySem.Challenge.cw_formstack_k03_rules_of_answers_holds : PySem.Challenge.rw_formstack_k03_rules_of_answers.Holds := by
  w_on; o_law
  refine HandSHeadRun.head_any (r := OpenLaw.row PySem.Challenge.rw_formstack_k03_rules_of_answers) (q := view (OpenLaw.row PySem.Challenge.rw_formstack_k03_rules_of_answers).prog [36]) (H := K03.hk) (ob := K03.ob) (M := 6000) (loose := K03.others) (d := HandSHeadRun.topDef (OpenLaw.row PySem.Challenge.rw_formstack_k03_rules_of_answers).prog 36) (kwd := []) K03.ob_eq
    (by kernel_rfl) (fun s => by kernel_rfl) K03.run (by kernel_rfl) (by kernel_rfl) (by kernel_rfl) (by rfl) (by first | assumption | decide +kernel) (by decide +kernel) ⟨rfl, rfl, rfl, rfl, rfl, by decide +kernel⟩ ?hw ?hc
  case hw => w_witness2
  case hc =>
    refine LamX.walk_ofTsE (l := PySem.Challenge.rw_formstack_k03_rules_of_answers) (n := 63) (k := 5 * 20 + 4) (x := "script") (CX := fun w => L2.CX PySem.Challenge.pw_formstack_k03_rules_of_answers w) rfl (by decide) (by kernel_rfl) ⟨rfl, by decide, by decide⟩ ?F (fun w H s e s' z => ?G)
    case G => 
      obtain ⟨_, _, _, _, _, _, _, _, _, _, _, _, hE⟩ := z
      exact hE
    case F =>
      intro w mg fa h Y G hmg0
      obtain ⟨K, KX, c⟩ := Y
      have hmg : mg (K03.lawD.nm 25) = some (.ref fa) := by
        have e : (HandSHeadRun.topDef (OpenLaw.row PySem.Challenge.rw_formstack_k03_rules_of_answers).prog 36).name = K03.lawD.nm 25 := by kernel_rfl
        rw [← e]
        exact hmg0
      exact ⟨K, KX, FS.LawD.law_at (l := PySem.Challenge.rw_formstack_k03_rules_of_answers) (i := 25) (k := 20) (Ok := K03.Ok) KX G c K03.chk (by decide) hmg (F := K03.f_law) (by kernel_rfl) rfl (fun t ht => by cases ht; rfl) (fun ns h1 h2 => h1) K03.law_true⟩

